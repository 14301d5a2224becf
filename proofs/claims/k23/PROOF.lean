import PyProof.Rows.All
import Wide.All
import OpenK.AllK
import Wide.FinOn
import HandS.ForMost
import KE.KDictKeyed
import HandS.Wide
import HandS.IsInst
import HandS.SortInts
import HandS.TupAny
import HandS.Conv
import HandS.ExcOwn
import HandS.WordsExc
import HandS.TryOnly
import KE.KSortedM
import KE.GoesEnum
import HandS.SortRule
import KE.SortData
import KE.KDictSum
import KE.KDictCopyH
import HandS.Property
import HandS.OwnIter
import HandS.IterVal
import HandS.Defaults
import HandS.Style
import HandS.Iter
import PySem.Challenge.RW_stilltofall_k23_agreeing_pairs
set_option Elab.async false
set_option linter.all false
set_option maxRecDepth 100000
/-! The data layer: values as trees, slots that own a list or hold frozen data. -/
namespace DL
open PySem PySem.Spec PyProof.Rows L2

/-- data as a tree -/
inductive D where
  | non | bl (b : Bool) | int (i : Int) | str (s : Str)
  | tup (ds : List D) | lst (ds : List D) | seq (ds : List D)
  | obj (C : Str) (fs : List Str) (ds : List D)
  | dic (ks vs : List D)

/-- a list of the written part -/
def KL (K : PySem.W.Frag) (a : Addr) (xs : List V) : Prop :=
  ∃ (o : Obj) (its : Array Value) (n : Nat), K.lookup a = some o ∧ o.cls = .type "list" ∧ o.dict = none ∧ o.data = .seq its n ∧ its.size ≤ sizeLine ∧ Vals xs its.toList
/-- a list that nobody writes: the script, a list of the written part -/
def FrzL (K : PySem.W.Frag) (H : Hp) (a : Addr) (xs : List V) : Prop := (∃ o, H a = some (.frz o (.lst xs))) ∨ KL K a xs
theorem FrzL.sq {K H a xs} (h : FrzL K H a xs) : SqL K H a xs := h.imp (fun ⟨o, e⟩ => .inr ⟨o, e⟩) id
theorem sqL_cases {K H a xs} (h : SqL K H a xs) : H a = some (.lst xs) ∨ FrzL K H a xs := by
  rcases h with (h | h) | h
  · exact .inl h
  · exact .inr (.inl h)
  · exact .inr (.inr h)
/-- the class of that name -/
def ClsA (K : PySem.W.Frag) (C : Str) (a : Addr) : Prop := PySem.W.nsIn K mainGlobals C = some (some (.ref a))
mutual
/-- the value v is the data, no list of it at an address of A -/
def Rep (K : PySem.W.Frag) (A : Addr → Prop) (H : Hp) : D → V → Prop
  | .non, v => v = .non
  | .bl b, v => v = .bl b
  | .int i, v => v = .int i
  | .str s, v => v = .str s
  | .tup ds, v => ∃ a vs, v = .ref a ∧ SqT K H a vs ∧ RepL K A H ds vs
  | .lst ds, v => ∃ a vs, v = .ref a ∧ (H a = some (.lst vs) ∧ ¬ A a) ∧ RepL K A H ds vs
  | .seq ds, v => ∃ a vs, v = .ref a ∧ FrzL K H a vs ∧ RepL K A H ds vs
  | .obj C fs ds, v => ∃ a c dx vs, v = .ref a ∧ ClsA K C c ∧ H a = some (.ins c dx (fs.zip vs)) ∧ ¬ A a ∧ vs.length = fs.length ∧ RepL K A H ds vs
  | .dic _ _, _ => False
def RepL (K : PySem.W.Frag) (A : Addr → Prop) (H : Hp) : List D → List V → Prop
  | [], vs => vs = []
  | d :: ds, vs => ∃ v vs', vs = v :: vs' ∧ Rep K A H d v ∧ RepL K A H ds vs'
end
section
variable {K : PySem.W.Frag} {A A' : Addr → Prop} {H H' : Hp}
mutual
theorem Rep.mono (ht : ∀ a vs, SqT K H a vs → SqT K H' a vs) (hl : ∀ a vs, H a = some (.lst vs) ∧ ¬ A a → H' a = some (.lst vs) ∧ ¬ A' a) (hf : ∀ a vs, FrzL K H a vs → FrzL K H' a vs) (ho : ∀ a C dx fs, H a = some (.ins C dx fs) → ¬ A a → H' a = some (.ins C dx fs) ∧ ¬ A' a) :
    ∀ {d : D} {v : V}, Rep K A H d v → Rep K A' H' d v
  | .non, _, h => h
  | .bl _, _, h => h
  | .int _, _, h => h
  | .str _, _, h => h
  | .tup ds, v, h => by
    simp only [Rep] at h ⊢
    obtain ⟨a, vs, e, q, r⟩ := h
    exact ⟨a, vs, e, ht _ _ q, RepL.mono ht hl hf ho r⟩
  | .lst ds, v, h => by
    simp only [Rep] at h ⊢
    obtain ⟨a, vs, e, q, r⟩ := h
    exact ⟨a, vs, e, hl _ _ q, RepL.mono ht hl hf ho r⟩
  | .seq ds, v, h => by
    simp only [Rep] at h ⊢
    obtain ⟨a, vs, e, q, r⟩ := h
    exact ⟨a, vs, e, hf _ _ q, RepL.mono ht hl hf ho r⟩
  | .obj C fs ds, v, h => by
    simp only [Rep] at h ⊢
    obtain ⟨a, c, dx, vs, e, hc, q, n, l, r⟩ := h
    obtain ⟨q', n'⟩ := ho _ _ _ _ q n
    exact ⟨a, c, dx, vs, e, hc, q', n', l, RepL.mono ht hl hf ho r⟩
  | .dic _ _, _, h => by simp only [Rep] at h
theorem RepL.mono (ht : ∀ a vs, SqT K H a vs → SqT K H' a vs) (hl : ∀ a vs, H a = some (.lst vs) ∧ ¬ A a → H' a = some (.lst vs) ∧ ¬ A' a) (hf : ∀ a vs, FrzL K H a vs → FrzL K H' a vs) (ho : ∀ a C dx fs, H a = some (.ins C dx fs) → ¬ A a → H' a = some (.ins C dx fs) ∧ ¬ A' a) :
    ∀ {ds : List D} {vs : List V}, RepL K A H ds vs → RepL K A' H' ds vs
  | [], _, h => h
  | d :: ds, vs, h => by
    simp only [RepL] at h ⊢
    obtain ⟨v, vs', e, r, rs⟩ := h
    exact ⟨v, vs', e, Rep.mono ht hl hf ho r, RepL.mono ht hl hf ho rs⟩
end
theorem RepL.length : ∀ {ds : List D} {vs : List V}, RepL K A H ds vs → vs.length = ds.length
  | [], vs, h => by simp only [RepL] at h; subst h; rfl
  | d :: ds, vs, h => by
    simp only [RepL] at h
    obtain ⟨v, vs', rfl, _, rs⟩ := h
    simp [RepL.length rs]
theorem RepL.get : ∀ {ds : List D} {vs : List V} {i : Nat} {d : D}, RepL K A H ds vs → ds[i]? = some d → ∃ v, vs[i]? = some v ∧ Rep K A H d v
  | [], vs, i, d, h, e => by simp at e
  | d :: ds, vs, 0, d', h, e => by
    simp only [RepL] at h
    obtain ⟨v, vs', rfl, r, rs⟩ := h
    simp at e; subst e
    exact ⟨v, rfl, r⟩
  | d :: ds, vs, i + 1, d', h, e => by
    simp only [RepL] at h
    obtain ⟨v, vs', rfl, r, rs⟩ := h
    obtain ⟨u, e1, e2⟩ := RepL.get rs (by simpa using e)
    exact ⟨u, by simpa using e1, e2⟩
theorem RepL.app : ∀ {ds es : List D} {vs us : List V}, RepL K A H ds vs → RepL K A H es us → RepL K A H (ds ++ es) (vs ++ us)
  | [], es, vs, us, h, h' => by simp only [RepL] at h; subst h; exact h'
  | d :: ds, es, vs, us, h, h' => by
    simp only [RepL] at h
    obtain ⟨v, vs', rfl, r, rs⟩ := h
    simp only [List.cons_append, RepL]
    exact ⟨v, _, rfl, r, RepL.app rs h'⟩
theorem RepL.set : ∀ {ds : List D} {vs : List V} {d : D} {v : V} (i : Nat), RepL K A H ds vs → Rep K A H d v → RepL K A H (ds.set i d) (vs.set i v)
  | [], vs, d, v, i, h, h' => by simp only [RepL] at h; subst h; simp [RepL]
  | e :: ds, vs, d, v, 0, h, h' => by
    simp only [RepL] at h
    obtain ⟨u, vs', rfl, r, rs⟩ := h
    simp only [List.set_cons_zero, RepL]
    exact ⟨_, _, rfl, h', rs⟩
  | e :: ds, vs, d, v, i + 1, h, h' => by
    simp only [RepL] at h
    obtain ⟨u, vs', rfl, r, rs⟩ := h
    simp only [List.set_cons_succ, RepL]
    exact ⟨_, _, rfl, r, RepL.set i rs h'⟩
theorem RepL.take : ∀ {ds : List D} {vs : List V} (n : Nat), RepL K A H ds vs → RepL K A H (ds.take n) (vs.take n)
  | ds, vs, 0, h => by simp [RepL]
  | [], vs, n + 1, h => by simp only [RepL] at h; subst h; simp [RepL]
  | d :: ds, vs, n + 1, h => by
    simp only [RepL] at h
    obtain ⟨u, vs', rfl, r, rs⟩ := h
    simp only [List.take_succ_cons, RepL]
    exact ⟨_, _, rfl, r, RepL.take n rs⟩
theorem RepL.drop : ∀ {ds : List D} {vs : List V} (n : Nat), RepL K A H ds vs → RepL K A H (ds.drop n) (vs.drop n)
  | ds, vs, 0, h => h
  | [], vs, n + 1, h => by simp only [RepL] at h; subst h; simp [RepL]
  | d :: ds, vs, n + 1, h => by
    simp only [RepL] at h
    obtain ⟨u, vs', rfl, r, rs⟩ := h
    exact RepL.drop n rs
theorem RepL.one {d : D} {v : V} (h : Rep K A H d v) : RepL K A H [d] [v] := by
  simp only [RepL]; exact ⟨v, [], rfl, h, rfl⟩
theorem RepL.nil : RepL K A H [] [] := by simp only [RepL]
theorem RepL.cons {d : D} {v : V} {ds : List D} {vs : List V} (h : Rep K A H d v) (h' : RepL K A H ds vs) : RepL K A H (d :: ds) (v :: vs) := by
  simp only [RepL]; exact ⟨v, vs, rfl, h, h'⟩
/-- what does not change, or only grows -/
theorem rd_ext {a : Addr} {u : HO} (h : Rd H a u) (hx : ∀ o, H a = some o → H' a = some o) : Rd H' a u := by
  rcases h with h | ⟨o, h⟩
  · exact .inl (hx _ h)
  · exact .inr ⟨o, hx _ h⟩
theorem rd_some {a : Addr} {u : HO} (h : Rd H a u) : H a ≠ none := by
  rcases h with h | ⟨o, h⟩ <;> (rw [h]; simp)
theorem Rep.ext {d : D} {v : V} (h : Rep K A H d v) (hx : ∀ a o, H a = some o → H' a = some o) : Rep K A H' d v :=
  Rep.mono (fun a vs q => Or.imp (fun z => rd_ext z (hx a)) id q) (fun a vs q => ⟨hx _ _ q.1, q.2⟩) (fun a vs q => Or.imp (fun ⟨o, z⟩ => ⟨o, hx _ _ z⟩) id q) (fun a C dx fs q n => ⟨hx _ _ q, n⟩) h
theorem RepL.ext {ds : List D} {vs : List V} (h : RepL K A H ds vs) (hx : ∀ a o, H a = some o → H' a = some o) : RepL K A H' ds vs :=
  RepL.mono (fun a vs q => Or.imp (fun z => rd_ext z (hx a)) id q) (fun a vs q => ⟨hx _ _ q.1, q.2⟩) (fun a vs q => Or.imp (fun ⟨o, z⟩ => ⟨o, hx _ _ z⟩) id q) (fun a C dx fs q n => ⟨hx _ _ q, n⟩) h
/-- a smaller set, or a greater one by addresses that hold nothing -/
theorem Rep.less {d : D} {v : V} (h : Rep K A H d v) (hx : ∀ a, A' a → A a ∨ H a = none) : Rep K A' H d v :=
  Rep.mono (fun a vs q => q) (fun a vs q => ⟨q.1, fun y => (hx a y).elim q.2 (fun w => by rw [q.1] at w; cases w)⟩) (fun a vs q => q) (fun a C dx fs q n => ⟨q, fun y => (hx a y).elim n (fun w => by rw [q] at w; cases w)⟩) h
theorem RepL.less {ds : List D} {vs : List V} (h : RepL K A H ds vs) (hx : ∀ a, A' a → A a ∨ H a = none) : RepL K A' H ds vs :=
  RepL.mono (fun a vs q => q) (fun a vs q => ⟨q.1, fun y => (hx a y).elim q.2 (fun w => by rw [q.1] at w; cases w)⟩) (fun a vs q => q) (fun a C dx fs q n => ⟨q, fun y => (hx a y).elim n (fun w => by rw [q] at w; cases w)⟩) h
/-- lists of A may be other ones: all else stands -/
theorem sqT_off {a : Addr} {vs : List V} (q : SqT K H a vs) (hx : ∀ a o, H a = some o → (∀ xs, o ≠ .lst xs) → H' a = some o) : SqT K H' a vs := by
  refine Or.imp (fun z => ?_) id q
  rcases z with z | ⟨o, z⟩
  · exact .inl (hx _ _ z (fun xs e => by cases e))
  · exact .inr ⟨o, hx _ _ z (fun xs e => by cases e)⟩
theorem frzL_off {a : Addr} {vs : List V} (q : FrzL K H a vs) (hx : ∀ a o, H a = some o → (∀ xs, o ≠ .lst xs) → H' a = some o) : FrzL K H' a vs := by
  refine Or.imp (fun ⟨o, z⟩ => ?_) id q
  exact ⟨o, hx _ _ z (fun xs e => by cases e)⟩
theorem Rep.off {d : D} {v : V} (h : Rep K A H d v) (h1 : ∀ a o, H a = some o → (∀ xs, o ≠ .lst xs) → H' a = some o) (h2 : ∀ a o, H a = some o → ¬ A a → H' a = some o) : Rep K A H' d v :=
  Rep.mono (fun a vs q => sqT_off q h1) (fun a vs q => ⟨h2 _ _ q.1 q.2, q.2⟩) (fun a vs q => frzL_off q h1) (fun a C dx fs q n => ⟨h2 _ _ q n, n⟩) h
theorem RepL.off {ds : List D} {vs : List V} (h : RepL K A H ds vs) (h1 : ∀ a o, H a = some o → (∀ xs, o ≠ .lst xs) → H' a = some o) (h2 : ∀ a o, H a = some o → ¬ A a → H' a = some o) : RepL K A H' ds vs :=
  RepL.mono (fun a vs q => sqT_off q h1) (fun a vs q => ⟨h2 _ _ q.1 q.2, q.2⟩) (fun a vs q => frzL_off q h1) (fun a C dx fs q n => ⟨h2 _ _ q n, n⟩) h
end

/-! ### dicts: keys are tuples of data -/
mutual
def nkOf : D → Option NestedKey
  | .non => some .none
  | .bl b => some (.num (if b = true then 1 else 0))
  | .int i => some (.num i)
  | .tup ds => (nksOf ds).map .tup
  | _ => none
def nksOf : List D → Option (List NestedKey)
  | [] => some []
  | d :: ds => match nkOf d, nksOf ds with
    | some k, some ks => some (k :: ks)
    | _, _ => none
end
/-- the key of a dict -/
def keyOf (d : D) : Option NestedKey := match d with
  | .tup _ => (nkOf d).bind fun k => if k.depth ≤ 8 then some k else none
  | _ => none
/-- at a: a dict with these entries, the hashes by w -/
def dN (a : Addr) (w : World) (xs : List (NestedKey × Addr × Value)) : HO := .ext fun h => (a == sysModules) = false ∧ ∃ o es ep, h.get? a = some o ∧ o.ExactDict ∧ o.data = .dict es ep ∧
  es.toList = xs.map (fun x => (⟨x.1.hash w, .ref x.2.1, x.2.2⟩ : DictEntry)) ∧ (xs.map (·.1)).Nodup
def NoA : Addr → Prop := fun _ => False
/-- the keys, each at its address -/
def KeysAt (K : PySem.W.Frag) (H : Hp) : List D → List (NestedKey × Addr × Value) → Prop
  | [], xs => xs = []
  | k :: ks, xs => ∃ x xs', xs = x :: xs' ∧ keyOf k = some x.1 ∧ Rep K NoA H k (.ref x.2.1) ∧ KeysAt K H ks xs'
def DicAt (K : PySem.W.Frag) (A : Addr → Prop) (H : Hp) (ks vs : List D) (p : Addr) : Prop :=
  ∃ w xs us, H p = some (dN p w xs) ∧ KeysAt K H ks xs ∧ RepL K A H vs us ∧ Vals us (xs.map (·.2.2)) ∧ xs.length ≤ sizeLine ∧ (xs.map (·.1)).Nodup
mutual
theorem nk_list : ∀ {d : D} {k : NestedKey} {K : PySem.W.Frag} {A A' : Addr → Prop} {H H' : Hp} {v : V}, (∀ a vs, SqT K H a vs → SqT K H' a vs) → nkOf d = some k → Rep K A H d v → Rep K A' H' d v
  | .non, _, _, _, _, _, _, _, _, _, h => h
  | .bl _, _, _, _, _, _, _, _, _, _, h => h
  | .int _, _, _, _, _, _, _, _, _, _, h => h
  | .str _, _, _, _, _, _, _, _, _, e, _ => by simp [nkOf] at e
  | .lst _, _, _, _, _, _, _, _, _, e, _ => by simp [nkOf] at e
  | .seq _, _, _, _, _, _, _, _, _, e, _ => by simp [nkOf] at e
  | .obj _ _ _, _, _, _, _, _, _, _, _, e, _ => by simp [nkOf] at e
  | .dic _ _, _, _, _, _, _, _, _, _, e, _ => by simp [nkOf] at e
  | .tup ds, k, K, A, A', H, H', v, ht, e, h => by
    simp only [nkOf, Option.map_eq_some_iff] at e
    obtain ⟨ks, e, _⟩ := e
    simp only [Rep] at h ⊢
    obtain ⟨a, vs, e2, q, r⟩ := h
    exact ⟨a, vs, e2, ht _ _ q, nk_lists ht e r⟩
theorem nk_lists : ∀ {ds : List D} {k : List NestedKey} {K : PySem.W.Frag} {A A' : Addr → Prop} {H H' : Hp} {vs : List V}, (∀ a vs, SqT K H a vs → SqT K H' a vs) → nksOf ds = some k → RepL K A H ds vs → RepL K A' H' ds vs
  | [], _, _, _, _, _, _, _, _, _, h => by simp only [RepL] at h ⊢; exact h
  | d :: ds, k, K, A, A', H, H', vs, ht, e, h => by
    simp only [nksOf] at e
    split at e
    · rename_i k1 k2 e1 e2
      simp only [RepL] at h ⊢
      obtain ⟨v, vs', e3, r, rs⟩ := h
      exact ⟨v, vs', e3, nk_list ht e1 r, nk_lists ht e2 rs⟩
    · cases e
end
theorem keyOf_nk {d : D} {k : NestedKey} (h : keyOf d = some k) : nkOf d = some k ∧ k.depth ≤ 8 ∧ ∃ ds, d = .tup ds := by
  unfold keyOf at h
  split at h
  · rename_i ds
    rw [Option.bind_eq_some_iff] at h
    obtain ⟨k', e, h⟩ := h
    split at h
    · rename_i hd
      cases h
      exact ⟨e, hd, ds, rfl⟩
    · cases h
  · cases h
theorem KeysAt.ext {K : PySem.W.Frag} {H H' : Hp} (ht : ∀ a vs, SqT K H a vs → SqT K H' a vs) : ∀ {ks : List D} {xs : List (NestedKey × Addr × Value)}, KeysAt K H ks xs → KeysAt K H' ks xs
  | [], xs, h => h
  | k :: ks, xs, h => by
    obtain ⟨x, xs', e, e2, r, rs⟩ := h
    exact ⟨x, xs', e, e2, nk_list ht (keyOf_nk e2).1 r, KeysAt.ext ht rs⟩
theorem dN_tup {a : Addr} {w : World} {xs : List (NestedKey × Addr × Value)} {vs : List V} : dN a w xs ≠ .tup vs := fun h => by cases h
theorem dN_frz {a : Addr} {w : World} {xs : List (NestedKey × Addr × Value)} {o : Obj} {u : HO} : dN a w xs ≠ .frz o u := fun h => by cases h
theorem dN_lst {a : Addr} {w : World} {xs : List (NestedKey × Addr × Value)} {vs : List V} : dN a w xs ≠ .lst vs := fun h => by cases h
/-- what stands at an owned address that is no list -/
def RepX (K : PySem.W.Frag) (A : Addr → Prop) (H : Hp) : D → Addr → Prop
  | .dic ks vs, p => DicAt K A H ks vs p
  | .obj C fs ds, p => ∃ c dx vs, ClsA K C c ∧ H p = some (.ins c dx (fs.zip vs)) ∧ vs.length = fs.length ∧ RepL K A H ds vs
  | _, _ => False
/-- such a thing: neither tuple nor locked nor list -/
def Boxy (o : HO) : Prop := (∀ vs, o ≠ .tup vs) ∧ (∀ u v, o ≠ .frz u v) ∧ ∀ vs, o ≠ .lst vs
theorem RepX.boxy {K : PySem.W.Frag} {A : Addr → Prop} {H : Hp} {d : D} {p : Addr} (h : RepX K A H d p) : ∃ o, H p = some o ∧ Boxy o := by
  cases d with
  | dic ks vs => obtain ⟨w, xs, us, e, _⟩ := h; exact ⟨_, e, fun _ => dN_tup, fun _ _ => dN_frz, fun _ => dN_lst⟩
  | obj C fs ds => obtain ⟨c, dx, vs, _, e, _⟩ := h; exact ⟨_, e, fun _ => (fun z => nomatch z), fun _ _ => (fun z => nomatch z), fun _ => (fun z => nomatch z)⟩
  | _ => exact h.elim
theorem RepX.mono {K : PySem.W.Frag} {A A' : Addr → Prop} {H H' : Hp} {d : D} {p : Addr} (h : RepX K A H d p) (hp : ∀ o, H p = some o → H' p = some o) (ht : ∀ a vs, SqT K H a vs → SqT K H' a vs) (hr : ∀ ds vs, RepL K A H ds vs → RepL K A' H' ds vs) : RepX K A' H' d p := by
  cases d with
  | dic ks vs =>
    obtain ⟨w, xs, us, e, k, r, q⟩ := h
    exact ⟨w, xs, us, hp _ e, k.ext ht, hr _ _ r, q⟩
  | obj C fs ds =>
    obtain ⟨c, dx, vs, hc, e, l, r⟩ := h
    exact ⟨c, dx, vs, hc, hp _ e, l, hr _ _ r⟩
  | _ => exact h.elim
theorem sqT_ext {K : PySem.W.Frag} {H H' : Hp} {a : Addr} {vs : List V} (q : SqT K H a vs) (hx : ∀ a o, H a = some o → H' a = some o) : SqT K H' a vs := Or.imp (fun z => rd_ext z (hx a)) id q

/-! ### slots -/
inductive SV where
  | un | fz (d : D) | own (d : D) | loc (i : Nat) | box (d : D)
/-- what a body knows of its surroundings -/
structure Fc where
  K : PySem.W.Frag
  T : Addr → Prop
  H0 : Hp
  W : Addr → Prop
  cv : Nat → Bool
  pin : Nat → Option V
def RepO (K : PySem.W.Frag) (A : Addr → Prop) (H : Hp) : D → Addr → Prop
  | .lst ds, p => ∃ vs, H p = some (.lst vs) ∧ RepL K A H ds vs
  | _, _ => False
abbrev Pl := List (SV × Option V)
def ownA : SV × Option V → Option Addr
  | (.own _, some (.ref p)) => some p
  | (.box _, some (.ref p)) => some p
  | _ => none
def Own (P : Pl) : List Addr := P.filterMap ownA
def Av (c : Fc) (P : Pl) (a : Addr) : Prop := c.T a ∨ a ∈ Own P
def RS (c : Fc) (A : Addr → Prop) (H : Hp) (σ : L2.St) : SV → Option V → Prop
  | .un, _ => True
  | .fz d, ov => ∃ v, ov = some v ∧ Rep c.K A H d v
  | .own d, ov => ∃ p, ov = some (.ref p) ∧ RepO c.K A H d p
  | .loc i, ov => c.cv i = false ∧ ∃ v, ov = some v ∧ σ[i]? = some (some v)
  | .box d, ov => ∃ p, ov = some (.ref p) ∧ RepX c.K A H d p
structure G (c : Fc) (σ : L2.St) (P : Pl) (H : Hp) : Prop where
  rs : ∀ x ∈ P, RS c (Av c P) H σ x.1 x.2
  nd : (Own P).Nodup
  fr : ∀ a o, c.H0 a = some o → ¬ c.W a → H a = some o
  new : ∀ a ∈ Own P, c.W a ∨ c.H0 a = none
  tt : ∀ a, c.T a → c.H0 a ≠ none ∧ ¬ c.W a
  pn : ∀ i v, c.pin i = some v → σ[i]? = some (some v)
section
variable {c : Fc} {σ : L2.St} {P P' : Pl} {H H' : Hp} {x : SV × Option V} {sv : SV} {d : D} {ds : List D} {v : V} {vs : List V} {p : Addr}
theorem own_perm (h : P.Perm P') : (Own P).Perm (Own P') := h.filterMap _
theorem G.perm (g : G c σ P H) (h : P.Perm P') : G c σ P' H := by
  have e := own_perm h
  have ea : Av c P = Av c P' := by funext a; exact propext (or_congr Iff.rfl e.mem_iff)
  exact ⟨fun x hx => ea ▸ g.rs x (h.mem_iff.mpr hx), e.nodup_iff.mp g.nd, g.fr, fun a ha => g.new a (e.mem_iff.mpr ha), g.tt, g.pn⟩
theorem G.hold (g : G c σ P H) {a : Addr} (h : Av c P a) : H a ≠ none := by
  rcases h with h | h
  · obtain ⟨h1, h2⟩ := g.tt a h
    cases e : c.H0 a with
    | none => exact absurd e h1
    | some o => rw [g.fr a o e h2]; simp
  · obtain ⟨⟨sv, ov⟩, hx, e⟩ := List.mem_filterMap.mp h
    have r := g.rs _ hx
    cases sv with
    | own d =>
      obtain ⟨p, e2, r⟩ := r
      simp only at e2
      subst e2
      simp only [ownA, Option.some.injEq] at e
      subst e
      cases d <;> simp only [RepO] at r
      obtain ⟨vs, e, _⟩ := r
      rw [e]; simp
    | box d =>
      obtain ⟨p, e2, r⟩ := r
      simp only at e2
      subst e2
      simp only [ownA, Option.some.injEq] at e
      subst e
      obtain ⟨o, e, _⟩ := r.boxy
      rw [e]; simp
    | _ => simp [ownA] at e
theorem own_cons_fz : Own ((.fz d, some v) :: P) = Own P := rfl
theorem own_cons_un {o : Option V} : Own ((.un, o) :: P) = Own P := rfl
theorem own_cons_loc {i : Nat} {o : Option V} : Own ((.loc i, o) :: P) = Own P := rfl
theorem own_cons_own : Own ((.own d, some (.ref p)) :: P) = p :: Own P := rfl
theorem own_cons_box : Own ((.box d, some (.ref p)) :: P) = p :: Own P := rfl
theorem G.ext (g : G c σ P H) (hx : ∀ a o, H a = some o → H' a = some o) : G c σ P H' := by
  refine ⟨fun x h => ?_, g.nd, fun a o e w => hx _ _ (g.fr a o e w), g.new, g.tt, g.pn⟩
  have r := g.rs x h
  obtain ⟨sv, ov⟩ := x
  cases sv with
  | un => trivial
  | fz d => obtain ⟨v, e, r⟩ := r; exact ⟨v, e, r.ext hx⟩
  | own d =>
    obtain ⟨p, e, r⟩ := r
    refine ⟨p, e, ?_⟩
    cases d <;> simp only [RepO] at r ⊢
    obtain ⟨vs, e, r⟩ := r
    exact ⟨vs, hx _ _ e, r.ext hx⟩
  | loc i => exact r
  | box d =>
    obtain ⟨p, e, r⟩ := r
    exact ⟨p, e, r.mono (hx p) (fun a vs q => sqT_ext q hx) fun ds vs q => q.ext hx⟩
/-- other entries, the same owned addresses or fewer -/
theorem G.sub (g : G c σ P H) (h1 : ∀ x ∈ P', x ∈ P ∨ RS c (Av c P') H σ x.1 x.2) (h2 : (Own P').Sublist (Own P)) : G c σ P' H := by
  have hle : ∀ a, Av c P' a → Av c P a := fun a h => h.imp id fun z => h2.subset z
  refine ⟨fun x h => ?_, g.nd.sublist h2, g.fr, fun a ha => g.new a (h2.subset ha), g.tt, g.pn⟩
  rcases h1 x h with h | h
  · have r := g.rs x h
    obtain ⟨sv, ov⟩ := x
    cases sv with
    | un => trivial
    | fz d => obtain ⟨v, e, r⟩ := r; exact ⟨v, e, r.less fun a y => .inl (hle a y)⟩
    | own d =>
      obtain ⟨p, e, r⟩ := r
      refine ⟨p, e, ?_⟩
      cases d <;> simp only [RepO] at r ⊢
      obtain ⟨vs, e, r⟩ := r
      exact ⟨vs, e, r.less fun a y => .inl (hle a y)⟩
    | loc i => exact r
    | box d =>
      obtain ⟨p, e, r⟩ := r
      exact ⟨p, e, r.mono (fun _ z => z) (fun _ _ z => z) fun ds vs q => q.less fun a y => .inl (hle a y)⟩
  · exact h
theorem G.drop (g : G c σ (x :: P) H) : G c σ P H := by
  refine g.sub (fun y h => .inl (List.mem_cons_of_mem _ h)) ?_
  unfold Own
  rw [List.filterMap_cons]
  split
  · exact List.Sublist.refl _
  · exact List.sublist_cons_self _ _
theorem G.push_fz (g : G c σ P H) (r : Rep c.K (Av c P) H d v) : G c σ ((.fz d, some v) :: P) H :=
  g.sub (fun y h => (List.mem_cons.mp h).elim (fun e => by subst e; exact .inr ⟨v, rfl, r⟩) .inl) (List.Sublist.refl _)
theorem G.push_un {o : Option V} (g : G c σ P H) : G c σ ((.un, o) :: P) H :=
  g.sub (fun y h => (List.mem_cons.mp h).elim (fun e => by subst e; exact .inr trivial) .inl) (List.Sublist.refl _)
theorem G.push_loc {i : Nat} (g : G c σ P H) (h1 : c.cv i = false) (h2 : σ[i]? = some (some v)) : G c σ ((.loc i, some v) :: P) H :=
  g.sub (fun y h => (List.mem_cons.mp h).elim (fun e => by subst e; exact .inr ⟨h1, v, rfl, h2⟩) .inl) (List.Sublist.refl _)
theorem G.own_at (g : G c σ ((.own d, some v) :: P) H) : ∃ p ds vs, v = .ref p ∧ d = .lst ds ∧ H p = some (.lst vs) ∧ RepL c.K (Av c ((.own d, some v) :: P)) H ds vs ∧ p ∉ Own P ∧ ¬ c.T p ∧ (c.W p ∨ c.H0 p = none) := by
  obtain ⟨p, e, r⟩ := g.rs _ List.mem_cons_self
  simp only at e
  cases e
  cases d <;> simp only [RepO] at r
  obtain ⟨vs, e, r⟩ := r
  have n := g.nd
  rw [own_cons_own] at n
  have w := g.new p (by rw [own_cons_own]; exact List.mem_cons_self)
  refine ⟨p, _, vs, rfl, rfl, e, r, (List.nodup_cons.mp n).1, fun t => ?_, w⟩
  obtain ⟨a, b⟩ := g.tt p t
  exact w.elim b a
theorem G.freeze (g : G c σ ((.own d, some v) :: P) H) : G c σ ((.fz d, some v) :: P) H := by
  obtain ⟨p, ds, vs, rfl, rfl, e, r, n1, n2, n3⟩ := g.own_at
  refine g.sub (fun y h => (List.mem_cons.mp h).elim (fun e => .inr ?_) fun z => .inl (List.mem_cons_of_mem _ z)) (List.sublist_cons_self _ _)
  subst e
  refine ⟨.ref p, rfl, ?_⟩
  simp only [Rep]
  refine ⟨p, vs, rfl, ⟨e, fun z => z.elim n2 n1⟩, r.less fun a y => .inl (y.imp id fun z => ?_)⟩
  exact List.mem_cons_of_mem _ z
theorem G.push_new (g : G c σ P H) (hp : H p = none) (hp' : H' p = some (.lst vs)) (hx : ∀ a o, H a = some o → H' a = some o) (r : RepL c.K (Av c P) H ds vs) : G c σ ((.own (.lst ds), some (.ref p)) :: P) H' := by
  have na : ¬ Av c P p := fun z => g.hold z hp
  have g' := g.ext hx
  have up : ∀ a, Av c ((.own (.lst ds), some (.ref p)) :: P) a → Av c P a ∨ H a = none := fun a z => by
    rcases z with z | z
    · exact .inl (.inl z)
    · rw [own_cons_own] at z
      rcases List.mem_cons.mp z with rfl | z
      · exact .inr hp
      · exact .inl (.inr z)
  refine ⟨fun x h => ?_, ?_, g'.fr, fun a h => ?_, g.tt, g.pn⟩
  · rcases List.mem_cons.mp h with rfl | h
    · exact ⟨p, rfl, vs, hp', (r.less up).ext hx⟩
    · have q := g.rs x h
      obtain ⟨sv, ov⟩ := x
      cases sv with
      | un => trivial
      | fz d => obtain ⟨v, e, q⟩ := q; exact ⟨v, e, (q.less up).ext hx⟩
      | own d =>
        obtain ⟨p, e, q⟩ := q
        refine ⟨p, e, ?_⟩
        cases d <;> simp only [RepO] at q ⊢
        obtain ⟨vs, e, q⟩ := q
        exact ⟨vs, hx _ _ e, (q.less up).ext hx⟩
      | loc i => exact q
      | box d =>
        obtain ⟨p, e, q⟩ := q
        exact ⟨p, e, q.mono (hx p) (fun a vs z => sqT_ext z hx) fun ds vs z => (z.less up).ext hx⟩
  · rw [own_cons_own]
    exact List.nodup_cons.mpr ⟨fun z => na (.inr z), g.nd⟩
  · rw [own_cons_own] at h
    rcases List.mem_cons.mp h with rfl | h
    · by_cases w : c.W a
      · exact .inl w
      · refine .inr ?_
        cases e : c.H0 a with
        | none => rfl
        | some o => rw [g.fr a o e w] at hp; cases hp
    · exact g.new a h

theorem G.push_any (g : G c σ P H) (hp : H p = none) (hp' : H' p = some (.lst vs)) (hx : ∀ a o, H a = some o → H' a = some o) (r : ∀ A, RepL c.K A H' ds vs) : G c σ ((.own (.lst ds), some (.ref p)) :: P) H' := by
  have na : ¬ Av c P p := fun z => g.hold z hp
  have g' := g.ext hx
  have up : ∀ a, Av c ((.own (.lst ds), some (.ref p)) :: P) a → Av c P a ∨ H a = none := fun a z => by
    rcases z with z | z
    · exact .inl (.inl z)
    · rw [own_cons_own] at z
      rcases List.mem_cons.mp z with rfl | z
      · exact .inr hp
      · exact .inl (.inr z)
  refine ⟨fun x h => ?_, ?_, g'.fr, fun a h => ?_, g.tt, g.pn⟩
  · rcases List.mem_cons.mp h with rfl | h
    · exact ⟨p, rfl, vs, hp', r _⟩
    · have q := g.rs x h
      obtain ⟨sv, ov⟩ := x
      cases sv with
      | un => trivial
      | fz d => obtain ⟨v, e, q⟩ := q; exact ⟨v, e, (q.less up).ext hx⟩
      | own d =>
        obtain ⟨p, e, q⟩ := q
        refine ⟨p, e, ?_⟩
        cases d <;> simp only [RepO] at q ⊢
        obtain ⟨vs, e, q⟩ := q
        exact ⟨vs, hx _ _ e, (q.less up).ext hx⟩
      | loc i => exact q
      | box d =>
        obtain ⟨p, e, q⟩ := q
        exact ⟨p, e, q.mono (hx p) (fun a vs z => sqT_ext z hx) fun ds vs z => (z.less up).ext hx⟩
  · rw [own_cons_own]
    exact List.nodup_cons.mpr ⟨fun z => na (.inr z), g.nd⟩
  · rw [own_cons_own] at h
    rcases List.mem_cons.mp h with rfl | h
    · by_cases w : c.W a
      · exact .inl w
      · refine .inr ?_
        cases e : c.H0 a with
        | none => rfl
        | some o => rw [g.fr a o e w] at hp; cases hp
    · exact g.new a h

theorem G.upd (g : G c σ ((.own (.lst ds), some (.ref p)) :: P) H) {ds' : List D} {vs' : List V} (r : RepL c.K (Av c ((.own (.lst ds), some (.ref p)) :: P)) H ds' vs') (hp : H' p = some (.lst vs')) (hx : ∀ a o, a ≠ p → H a = some o → H' a = some o) :
    G c σ ((.own (.lst ds'), some (.ref p)) :: P) H' := by
  obtain ⟨p0, ds0, vs0, e1, e2, e, r0, n1, n2, n3⟩ := g.own_at
  cases e1
  cases e2
  have ap : Av c ((.own (.lst ds), some (.ref p)) :: P) p := .inr (by rw [own_cons_own]; exact List.mem_cons_self)
  have o1 : ∀ a o, H a = some o → (∀ xs, o ≠ .lst xs) → H' a = some o := fun a o h z => hx a o (fun q => by subst q; rw [e] at h; cases h; exact z _ rfl) h
  have o2 : ∀ a o, H a = some o → ¬ Av c ((.own (.lst ds), some (.ref p)) :: P) a → H' a = some o := fun a o h z => hx a o (fun q => by subst q; exact z ap) h
  refine ⟨fun x h => ?_, g.nd, fun a o q w => ?_, g.new, g.tt, g.pn⟩
  · rcases List.mem_cons.mp h with rfl | hm
    · exact ⟨p, rfl, vs', hp, r.off o1 o2⟩
    · have q := g.rs x (List.mem_cons_of_mem _ hm)
      obtain ⟨sv, ov⟩ := x
      cases sv with
      | un => trivial
      | fz d => obtain ⟨v, e, q⟩ := q; exact ⟨v, e, q.off o1 o2⟩
      | own d =>
        obtain ⟨p2, e3, q⟩ := q
        simp only at e3
        subst e3
        refine ⟨p2, rfl, ?_⟩
        cases d <;> simp only [RepO] at q ⊢
        obtain ⟨vs2, e4, q⟩ := q
        refine ⟨vs2, hx _ _ (fun z => n1 ?_) e4, q.off o1 o2⟩
        subst z
        exact List.mem_filterMap.mpr ⟨_, hm, by rfl⟩
      | loc i => exact q
      | box d =>
        obtain ⟨p2, e3, q⟩ := q
        simp only at e3
        subst e3
        refine ⟨p2, rfl, q.mono (fun o z => hx _ _ (fun y => n1 ?_) z) (fun a vs z => sqT_off z o1) fun ds vs z => z.off o1 o2⟩
        subst y
        exact List.mem_filterMap.mpr ⟨_, hm, by rfl⟩
  · refine hx _ _ (fun z => ?_) (g.fr a o q w)
    subst z
    rcases n3 with n3 | n3
    · exact w n3
    · rw [n3] at q; cases q
theorem G.sig {σ' : L2.St} (g : G c σ P H) (h : ∀ i v, (SV.loc i, some v) ∈ P → σ[i]? = some (some v) → σ'[i]? = some (some v)) (hp : ∀ i v, c.pin i = some v → σ[i]? = some (some v) → σ'[i]? = some (some v)) : G c σ' P H := by
  refine ⟨fun x hx => ?_, g.nd, g.fr, g.new, g.tt, fun i v e => hp i v e (g.pn i v e)⟩
  have r := g.rs x hx
  obtain ⟨sv, ov⟩ := x
  cases sv with
  | loc i =>
    obtain ⟨r1, v, r2, r3⟩ := r
    simp only at r2
    subst r2
    exact ⟨r1, v, rfl, h i v hx r3⟩
  | _ => exact r
end

/-! ### slots and temporaries -/
abbrev Ts := List (SV × V)
def tsP (ts : Ts) : Pl := ts.map fun t => (t.1, some t.2)
structure R (c : Fc) (σ : L2.St) (ρ : List SV) (ts : Ts) (H : Hp) : Prop where
  len : ρ.length = σ.length
  nl : ∀ i, SV.loc i ∉ ρ
  g : G c σ (tsP ts ++ ρ.zip σ) H
section
variable {c : Fc} {σ : L2.St} {ρ : List SV} {ts : Ts} {H H' : Hp} {sv : SV} {d : D} {ds : List D} {v : V} {vs : List V} {p : Addr} {i : Nat}
theorem R.ext (r : R c σ ρ ts H) (hx : ∀ a o, H a = some o → H' a = some o) : R c σ ρ ts H' := ⟨r.len, r.nl, r.g.ext hx⟩
theorem R.pop {t : SV × V} (r : R c σ ρ (t :: ts) H) : R c σ ρ ts H := ⟨r.len, r.nl, r.g.drop⟩
abbrev Avr (c : Fc) (σ : L2.St) (ρ : List SV) (ts : Ts) := Av c (tsP ts ++ ρ.zip σ)
theorem R.push_fz (r : R c σ ρ ts H) (h : Rep c.K (Avr c σ ρ ts) H d v) : R c σ ρ ((.fz d, v) :: ts) H := ⟨r.len, r.nl, r.g.push_fz h⟩
theorem R.push_new (r : R c σ ρ ts H) (hp : H p = none) (hp' : H' p = some (.lst vs)) (hx : ∀ a o, H a = some o → H' a = some o) (h : RepL c.K (Avr c σ ρ ts) H ds vs) : R c σ ρ ((.own (.lst ds), .ref p) :: ts) H' := ⟨r.len, r.nl, r.g.push_new hp hp' hx h⟩
theorem R.push_any (r : R c σ ρ ts H) (hp : H p = none) (hp' : H' p = some (.lst vs)) (hx : ∀ a o, H a = some o → H' a = some o) (h : ∀ A, RepL c.K A H' ds vs) : R c σ ρ ((.own (.lst ds), .ref p) :: ts) H' := ⟨r.len, r.nl, r.g.push_any hp hp' hx h⟩
theorem R.freeze (r : R c σ ρ ((.own d, v) :: ts) H) : R c σ ρ ((.fz d, v) :: ts) H := ⟨r.len, r.nl, r.g.freeze⟩
theorem R.top_fz (r : R c σ ρ ((.fz d, v) :: ts) H) : Rep c.K (Avr c σ ρ ts) H d v := by
  obtain ⟨w, e, q⟩ := r.g.rs _ List.mem_cons_self
  cases e
  exact q
theorem R.top_own (r : R c σ ρ ((.own d, v) :: ts) H) : ∃ p ds vs, v = .ref p ∧ d = .lst ds ∧ H p = some (.lst vs) ∧ RepL c.K (Avr c σ ρ ts) H ds vs := by
  obtain ⟨p, ds, vs, e1, e2, e3, q, _⟩ := r.g.own_at
  refine ⟨p, ds, vs, e1, e2, e3, q.less fun a y => .inl (y.imp id fun z => ?_)⟩
  subst e1
  show a ∈ Own ((SV.own d, some (V.ref p)) :: (tsP ts ++ ρ.zip σ))
  rw [own_cons_own]
  exact List.mem_cons_of_mem _ z
theorem zip_get (hl : ρ.length = σ.length) (h : ρ[i]? = some sv) : ∃ ov, σ[i]? = some ov ∧ (ρ.zip σ)[i]? = some (sv, ov) := by
  obtain ⟨h1, h2⟩ := List.getElem?_eq_some_iff.mp h
  have h3 : i < σ.length := by omega
  refine ⟨σ[i], by simp [h3], ?_⟩
  rw [List.getElem?_zip_eq_some]
  exact ⟨h, by simp [h3]⟩
theorem perm_at {α : Type} {x : α} : ∀ {l : List α} {i : Nat}, l[i]? = some x → l.Perm (x :: l.eraseIdx i)
  | [], i, h => by simp at h
  | y :: l, 0, h => by simp at h; subst h; exact .refl _
  | y :: l, i + 1, h => by
    have ih := perm_at (l := l) (i := i) (by simpa using h)
    simp only [List.eraseIdx_cons_succ]
    exact (ih.cons y).trans (.swap _ _ _)
theorem perm_set {α : Type} {x : α} : ∀ {l : List α} {i : Nat}, i < l.length → (l.set i x).Perm (x :: l.eraseIdx i)
  | [], i, h => by simp at h
  | y :: l, 0, h => by simp
  | y :: l, i + 1, h => by
    have ih := perm_set (x := x) (l := l) (i := i) (by simpa using h)
    simp only [List.eraseIdx_cons_succ, List.set_cons_succ]
    exact (ih.cons y).trans (.swap _ _ _)
theorem zip_set (x : SV) (y : Option V) : (ρ.set i x).zip (σ.set i y) = (ρ.zip σ).set i (x, y) := by
  induction ρ generalizing σ i with
  | nil => simp
  | cons a ρ ih =>
    cases σ with
    | nil => simp
    | cons b σ => cases i <;> simp [ih]
theorem set_same {α : Type} {l : List α} {x : α} (h : l[i]? = some x) : l.set i x = l := by
  apply List.ext_getElem?
  intro j
  by_cases e : i = j
  · subst e
    obtain ⟨h1, h2⟩ := List.getElem?_eq_some_iff.mp h
    rw [List.getElem?_set_self h1, h]
  · rw [List.getElem?_set_ne e]
/-- slot i is taken out of the row -/
theorem R.at (r : R c σ ρ ts H) (h : ρ[i]? = some sv) : ∃ ov, σ[i]? = some ov ∧ G c σ ((sv, ov) :: (tsP ts ++ (ρ.zip σ).eraseIdx i)) H ∧
    ∀ sv' ov' σ' H', (∀ j, sv' ≠ .loc j) → G c σ' ((sv', ov') :: (tsP ts ++ (ρ.zip σ).eraseIdx i)) H' → σ' = σ.set i ov' → R c σ' (ρ.set i sv') ts H' := by
  obtain ⟨ov, e1, e2⟩ := zip_get r.len h
  refine ⟨ov, e1, ?_, fun sv' ov' σ' H' nl g e => ?_⟩
  · exact r.g.perm ((List.Perm.append_left _ (perm_at e2)).trans List.perm_middle)
  · subst e
    refine ⟨by simp [r.len], fun j hm => ?_, ?_⟩
    · rcases List.mem_or_eq_of_mem_set hm with z | z
      · exact r.nl j z
      · exact nl j z.symm
    rw [zip_set]
    have hl : i < (ρ.zip σ).length := (List.getElem?_eq_some_iff.mp e2).1
    exact g.perm ((List.Perm.append_left _ (perm_set hl)).trans List.perm_middle).symm
theorem R.slot_fz (r : R c σ ρ ts H) (h : ρ[i]? = some (.fz d)) : ∃ v, σ[i]? = some (some v) ∧ R c σ ρ ((.fz d, v) :: ts) H := by
  obtain ⟨ov, e1, g, _⟩ := r.at h
  obtain ⟨ov', e1', e2⟩ := zip_get r.len h
  rw [e1] at e1'; cases e1'
  have hm : (SV.fz d, ov) ∈ tsP ts ++ ρ.zip σ := List.mem_append_right _ (List.mem_of_getElem? e2)
  obtain ⟨v, e, q⟩ := r.g.rs _ hm
  simp only at e
  subst e
  exact ⟨v, e1, r.push_fz q⟩
theorem R.slot_own (r : R c σ ρ ts H) (h : ρ[i]? = some (.own d)) : ∃ p ds vs, σ[i]? = some (some (.ref p)) ∧ d = .lst ds ∧ H p = some (.lst vs) ∧ RepL c.K (Avr c σ ρ ts) H ds vs := by
  obtain ⟨ov, e1, e2⟩ := zip_get r.len h
  have hm : (SV.own d, ov) ∈ tsP ts ++ ρ.zip σ := List.mem_append_right _ (List.mem_of_getElem? e2)
  obtain ⟨p, e, q⟩ := r.g.rs _ hm
  simp only at e
  subst e
  cases d <;> simp only [RepO] at q
  obtain ⟨vs, e3, q⟩ := q
  exact ⟨p, _, vs, e1, rfl, e3, q⟩
theorem R.push_loc (r : R c σ ρ ts H) (h : σ[i]? = some (some v)) (hc : c.cv i = false) : R c σ ρ ((.loc i, v) :: ts) H := ⟨r.len, r.nl, r.g.push_loc hc h⟩
theorem R.demote (r : R c σ ρ ts H) (h : ρ[i]? = some (.own d)) : R c σ (ρ.set i (.fz d)) ts H := by
  obtain ⟨p, ds, vs, e1, _⟩ := r.slot_own h
  obtain ⟨ov, e2, g, k⟩ := r.at h
  rw [e1] at e2; cases e2
  exact k _ _ _ _ (fun j z => by cases z) g.freeze (set_same e1).symm
/-- a temporary that names slot i, the slot being frozen: a frozen one -/
theorem R.loc_fz (r : R c σ ρ ((.loc i, v) :: ts) H) (h : ρ[i]? = some (.fz d)) : R c σ ρ ((.fz d, v) :: ts) H := by
  obtain ⟨_, w, e, e2⟩ := r.g.rs _ List.mem_cons_self
  cases e
  obtain ⟨u, e3, q⟩ := r.pop.slot_fz h
  rw [e2] at e3; cases e3
  exact q
theorem R.loc_at (r : R c σ ρ ((.loc i, v) :: ts) H) : σ[i]? = some (some v) := by
  obtain ⟨_, w, e, e2⟩ := r.g.rs _ List.mem_cons_self
  cases e
  exact e2
def NoLoc (ts : Ts) : Prop := ∀ i v, (SV.loc i, v) ∉ ts
/-- the top is stored -/
theorem R.store (r : R c σ ρ ((sv, v) :: ts) H) (n : NoLoc ((sv, v) :: ts)) (hi : i < σ.length) (hp : c.pin i = none) : R c (σ.set i (some v)) (ρ.set i sv) ts H := by
  have hr : i < ρ.length := by rw [r.len]; exact hi
  obtain ⟨ov, e1, g, k⟩ := r.at (i := i) (sv := ρ[i]) (by simp [hr])
  have k' := (r.pop.at (i := i) (sv := ρ[i]) (by simp [hr]))
  obtain ⟨ov', e1', g', k'⟩ := k'
  refine k' sv (some v) _ H (fun j z => n j v (by rw [z]; exact List.mem_cons_self)) ?_ rfl
  have g2 : G c σ ((sv, some v) :: (tsP ts ++ (ρ.zip σ).eraseIdx i)) H := by
    have g3 : G c σ ((ρ[i], ov) :: (sv, some v) :: (tsP ts ++ (ρ.zip σ).eraseIdx i)) H := g
    exact g3.drop
  refine G.sig g2 (fun j w hm => ?_) fun j w e h => by
    rw [List.getElem?_set_ne (fun z => by subst z; rw [hp] at e; cases e)]; exact h
  exfalso
  rcases List.mem_cons.mp hm with z | z
  · cases z
    exact n j _ List.mem_cons_self
  · rcases List.mem_append.mp z with z | z
    · obtain ⟨t, ht, e⟩ := List.mem_map.mp z
      cases t
      cases e
      exact n j _ (List.mem_cons_of_mem _ ht)
    · have z := List.mem_of_mem_eraseIdx z
      exact r.nl j (List.of_mem_zip z).1
/-- slot i's list is another one -/
theorem R.write (r : R c σ ρ ts H) (h : ρ[i]? = some (.own (.lst ds))) (hs : σ[i]? = some (some (.ref p))) {ds' : List D} {vs' : List V} (q : RepL c.K (Avr c σ ρ ts) H ds' vs') (hp : H' p = some (.lst vs')) (hx : ∀ a o, a ≠ p → H a = some o → H' a = some o) :
    R c σ (ρ.set i (.own (.lst ds'))) ts H' := by
  obtain ⟨ov, e1, g, k⟩ := r.at h
  rw [hs] at e1; cases e1
  have ea : Avr c σ ρ ts = Av c ((SV.own (.lst ds), some (.ref p)) :: (tsP ts ++ (ρ.zip σ).eraseIdx i)) := by
    obtain ⟨ov', e1', e2⟩ := zip_get r.len h
    rw [hs] at e1'; cases e1'
    funext a
    exact propext (or_congr Iff.rfl (own_perm ((List.Perm.append_left _ (perm_at e2)).trans List.perm_middle)).mem_iff)
  refine k _ (some (.ref p)) _ _ (fun j z => by cases z) (g.upd (ea ▸ q) hp hx) (set_same hs).symm
/-- slot i is forgotten -/
theorem R.forget (r : R c σ ρ ts H) (h : ρ[i]? = some sv) : R c σ (ρ.set i .un) ts H := by
  obtain ⟨ov, e1, g, k⟩ := r.at h
  exact k .un ov _ _ (fun j z => by cases z) g.drop.push_un (set_same e1).symm
/-! ### boxes: an owned dict, an owned instance -/
theorem G.box_at {σ : L2.St} {P : Pl} {H : Hp} (g : G c σ ((.box d, some v) :: P) H) : ∃ p, v = .ref p ∧ RepX c.K (Av c ((.box d, some v) :: P)) H d p ∧ p ∉ Own P ∧ ¬ c.T p ∧ (c.W p ∨ c.H0 p = none) := by
  obtain ⟨p, e, r⟩ := g.rs _ List.mem_cons_self
  simp only at e
  cases e
  have n := g.nd
  rw [own_cons_box] at n
  have w := g.new p (by rw [own_cons_box]; exact List.mem_cons_self)
  refine ⟨p, rfl, r, (List.nodup_cons.mp n).1, fun t => ?_, w⟩
  obtain ⟨a, b⟩ := g.tt p t
  exact w.elim b a
/-- all but the object at p stands: p is neither tuple nor locked, and of A -/
theorem sqT_but {K : PySem.W.Frag} {H H' : Hp} {p : Addr} {o : HO} (hp : H p = some o) (hb : Boxy o) (hx : ∀ a o, a ≠ p → H a = some o → H' a = some o) {a : Addr} {vs : List V} (q : SqT K H a vs) : SqT K H' a vs := by
  refine Or.imp (fun z => ?_) id q
  rcases z with z | ⟨u, z⟩
  · exact .inl (hx _ _ (fun y => by subst y; rw [hp] at z; cases z; exact hb.1 _ rfl) z)
  · exact .inr ⟨u, hx _ _ (fun y => by subst y; rw [hp] at z; cases z; exact hb.2.1 _ _ rfl) z⟩
theorem repL_but {K : PySem.W.Frag} {A : Addr → Prop} {H H' : Hp} {p : Addr} {o : HO} (hp : H p = some o) (hb : Boxy o) (hA : A p) (hx : ∀ a o, a ≠ p → H a = some o → H' a = some o) {ds : List D} {vs : List V} (q : RepL K A H ds vs) : RepL K A H' ds vs :=
  RepL.mono (fun a vs z => sqT_but hp hb hx z) (fun a vs z => ⟨hx _ _ (fun y => by subst y; exact z.2 hA) z.1, z.2⟩)
    (fun a vs z => Or.imp (fun ⟨u, y⟩ => ⟨u, hx _ _ (fun w => by subst w; rw [hp] at y; cases y; exact hb.2.1 _ _ rfl) y⟩) id z) (fun a C dx fs z n => ⟨hx _ _ (fun y => by subst y; exact n hA) z, n⟩) q
theorem rep_but {K : PySem.W.Frag} {A : Addr → Prop} {H H' : Hp} {p : Addr} {o : HO} (hp : H p = some o) (hb : Boxy o) (hA : A p) (hx : ∀ a o, a ≠ p → H a = some o → H' a = some o) {d : D} {v : V} (q : Rep K A H d v) : Rep K A H' d v := by
  have := repL_but hp hb hA hx (RepL.one q)
  simp only [RepL] at this
  obtain ⟨_, _, e, r, _⟩ := this
  cases e
  exact r
theorem G.updX {σ : L2.St} {P : Pl} {H H' : Hp} (g : G c σ ((.box d, some (.ref p)) :: P) H) {d' : D} (q : RepX c.K (Av c ((.box d', some (.ref p)) :: P)) H' d' p) (hx : ∀ a o, a ≠ p → H a = some o → H' a = some o) :
    G c σ ((.box d', some (.ref p)) :: P) H' := by
  obtain ⟨p0, e1, r0, n1, n2, n3⟩ := g.box_at
  cases e1
  obtain ⟨o, hp, hb⟩ := r0.boxy
  have ap : Av c ((.box d, some (.ref p)) :: P) p := .inr (by rw [own_cons_box]; exact List.mem_cons_self)
  have ea : Av c ((.box d', some (.ref p)) :: P) = Av c ((.box d, some (.ref p)) :: P) := rfl
  refine ⟨fun x h => ?_, g.nd, fun a o z0 w => ?_, g.new, g.tt, g.pn⟩
  · rcases List.mem_cons.mp h with rfl | hm
    · exact ⟨p, rfl, q⟩
    · have z := g.rs x (List.mem_cons_of_mem _ hm)
      rw [ea]
      obtain ⟨sv, ov⟩ := x
      cases sv with
      | un => trivial
      | fz d => obtain ⟨v, e, z⟩ := z; exact ⟨v, e, rep_but hp hb ap hx z⟩
      | own d =>
        obtain ⟨p2, e3, z⟩ := z
        simp only at e3
        subst e3
        refine ⟨p2, rfl, ?_⟩
        cases d <;> simp only [RepO] at z ⊢
        obtain ⟨vs2, e4, z⟩ := z
        refine ⟨vs2, hx _ _ (fun y => n1 ?_) e4, repL_but hp hb ap hx z⟩
        subst y
        exact List.mem_filterMap.mpr ⟨_, hm, by rfl⟩
      | loc i => exact z
      | box d =>
        obtain ⟨p2, e3, z⟩ := z
        simp only at e3
        subst e3
        refine ⟨p2, rfl, z.mono (fun o y => hx _ _ (fun w => n1 ?_) y) (fun a vs y => sqT_but hp hb hx y) fun ds vs y => repL_but hp hb ap hx y⟩
        subst w
        exact List.mem_filterMap.mpr ⟨_, hm, by rfl⟩
  · refine hx _ _ (fun z => ?_) (g.fr a o z0 w)
    subst z
    rcases n3 with n3 | n3
    · exact w n3
    · rw [n3] at z0; cases z0
theorem G.push_box {σ : L2.St} {P : Pl} {H H' : Hp} (g : G c σ P H) (hp : H p = none) (hx : ∀ a o, H a = some o → H' a = some o) (r : ∀ A, RepX c.K A H' d p) : G c σ ((.box d, some (.ref p)) :: P) H' := by
  have na : ¬ Av c P p := fun z => g.hold z hp
  have g' := g.ext hx
  have up : ∀ a, Av c ((.box d, some (.ref p)) :: P) a → Av c P a ∨ H a = none := fun a z => by
    rcases z with z | z
    · exact .inl (.inl z)
    · rw [own_cons_box] at z
      rcases List.mem_cons.mp z with rfl | z
      · exact .inr hp
      · exact .inl (.inr z)
  refine ⟨fun x h => ?_, ?_, g'.fr, fun a h => ?_, g.tt, g.pn⟩
  · rcases List.mem_cons.mp h with rfl | h
    · exact ⟨p, rfl, r _⟩
    · have q := g.rs x h
      obtain ⟨sv, ov⟩ := x
      cases sv with
      | un => trivial
      | fz d => obtain ⟨v, e, q⟩ := q; exact ⟨v, e, (q.less up).ext hx⟩
      | own d =>
        obtain ⟨p, e, q⟩ := q
        refine ⟨p, e, ?_⟩
        cases d <;> simp only [RepO] at q ⊢
        obtain ⟨vs, e, q⟩ := q
        exact ⟨vs, hx _ _ e, (q.less up).ext hx⟩
      | loc i => exact q
      | box d =>
        obtain ⟨p, e, q⟩ := q
        exact ⟨p, e, q.mono (hx p) (fun a vs z => sqT_ext z hx) fun ds vs z => (z.less up).ext hx⟩
  · rw [own_cons_box]
    exact List.nodup_cons.mpr ⟨fun z => na (.inr z), g.nd⟩
  · rw [own_cons_box] at h
    rcases List.mem_cons.mp h with rfl | h
    · by_cases w : c.W a
      · exact .inl w
      · refine .inr ?_
        cases e : c.H0 a with
        | none => rfl
        | some o => rw [g.fr a o e w] at hp; cases hp
    · exact g.new a h
/-- an instance that nobody changes any more -/
theorem G.freezeX {σ : L2.St} {P : Pl} {H : Hp} {C : Str} {fs : List Str} (g : G c σ ((.box (.obj C fs ds), some v) :: P) H) : G c σ ((.fz (.obj C fs ds), some v) :: P) H := by
  obtain ⟨p, rfl, r, n1, n2, n3⟩ := g.box_at
  obtain ⟨k, dx, vs, hc, e, l, r⟩ := r
  refine g.sub (fun y h => (List.mem_cons.mp h).elim (fun e => .inr ?_) fun z => .inl (List.mem_cons_of_mem _ z)) (List.sublist_cons_self _ _)
  subst e
  refine ⟨.ref p, rfl, ?_⟩
  simp only [Rep]
  refine ⟨p, k, dx, vs, rfl, hc, e, fun z => z.elim n2 n1, l, r.less fun a y => .inl (y.imp id fun z => ?_)⟩
  exact List.mem_cons_of_mem _ z
theorem R.push_box (r : R c σ ρ ts H) (hp : H p = none) (hx : ∀ a o, H a = some o → H' a = some o) (h : ∀ A, RepX c.K A H' d p) : R c σ ρ ((.box d, .ref p) :: ts) H' := ⟨r.len, r.nl, r.g.push_box hp hx h⟩
theorem R.freezeX {C : Str} {fs : List Str} (r : R c σ ρ ((.box (.obj C fs ds), v) :: ts) H) : R c σ ρ ((.fz (.obj C fs ds), v) :: ts) H := ⟨r.len, r.nl, r.g.freezeX⟩
theorem R.slot_box (r : R c σ ρ ts H) (h : ρ[i]? = some (.box d)) : ∃ p, σ[i]? = some (some (.ref p)) ∧ RepX c.K (Avr c σ ρ ts) H d p ∧ Avr c σ ρ ts p := by
  obtain ⟨ov, e1, e2⟩ := zip_get r.len h
  have hm : (SV.box d, ov) ∈ tsP ts ++ ρ.zip σ := List.mem_append_right _ (List.mem_of_getElem? e2)
  obtain ⟨p, e, q⟩ := r.g.rs _ hm
  simp only at e
  subst e
  exact ⟨p, e1, q, .inr (List.mem_filterMap.mpr ⟨_, hm, rfl⟩)⟩
theorem R.writeX (r : R c σ ρ ts H) (h : ρ[i]? = some (.box d)) (hs : σ[i]? = some (some (.ref p))) {d' : D} (q : RepX c.K (Avr c σ ρ ts) H' d' p) (hx : ∀ a o, a ≠ p → H a = some o → H' a = some o) : R c σ (ρ.set i (.box d')) ts H' := by
  obtain ⟨ov, e1, g, k⟩ := r.at h
  rw [hs] at e1; cases e1
  have ea : Avr c σ ρ ts = Av c ((SV.box d, some (.ref p)) :: (tsP ts ++ (ρ.zip σ).eraseIdx i)) := by
    obtain ⟨ov', e1', e2⟩ := zip_get r.len h
    rw [hs] at e1'; cases e1'
    funext a
    exact propext (or_congr Iff.rfl (own_perm ((List.Perm.append_left _ (perm_at e2)).trans List.perm_middle)).mem_iff)
  refine k _ (some (.ref p)) _ _ (fun j z => by cases z) (g.updX (ea ▸ q) hx) (set_same hs).symm
theorem R.demoteX {C : Str} {fs : List Str} (r : R c σ ρ ts H) (h : ρ[i]? = some (.box (.obj C fs ds))) : R c σ (ρ.set i (.fz (.obj C fs ds))) ts H := by
  obtain ⟨p, e1, _⟩ := r.slot_box h
  obtain ⟨ov, e2, g, k⟩ := r.at h
  rw [e1] at e2; cases e2
  exact k _ _ _ _ (fun j z => by cases z) g.freezeX (set_same e1).symm
end
end DL

set_option Elab.async false
set_option linter.all false
set_option maxRecDepth 100000
/-! The data layer: what an expression means over slots of data. -/
namespace DL
open PySem PySem.Spec PyProof.Rows L2

structure Ex where
  cls : Value
  fs : List (Str × D)
inductive Res (α : Type) where
  | ok (a : α) (ρ : List SV)
  | er (e : Ex) (ρ : List SV)
abbrev M (α : Type) := List SV → Option (Res α)
def M.bnd {α β : Type} (m : M α) (f : α → M β) : M β := fun ρ => match m ρ with
  | some (.ok a ρ') => f a ρ'
  | some (.er e ρ') => some (.er e ρ')
  | none => none
def ret {α : Type} (a : α) : M α := fun ρ => some (.ok a ρ)
def ExRep (K : PySem.W.Frag) (A : Addr → Prop) (H : Hp) (e : Ex) (cls : Value) (od : Option Addr) : Prop :=
  cls = e.cls ∧ (match e.fs with
    | [] => True
    | fs => ∃ d vs, od = some d ∧ H d = some (.xd ((fs.map (·.1)).zip vs)) ∧ RepL K A H (fs.map (·.2)) vs)
abbrev WX := Value → Option Addr → L2.St → Hp → Prop
def W0 : WX := fun _ _ _ _ => False
def PostE (c : Fc) (W : WX) (σ : L2.St) (ts : Ts) (Q : VK) : Option (Res SV) → Prop
  | some (.ok sv ρ) => ∀ v H, R c σ ρ ((sv, v) :: ts) H → Q v H
  | some (.er e ρ) => ∀ cls od H, R c σ ρ ts H → ExRep c.K (Avr c σ ρ ts) H e cls od → W cls od σ H
  | none => False
def tDE (c : Fc) (W : WX) (m : M SV) : TE := fun σ H Q => ∃ ρ ts, R c σ ρ ts H ∧ PostE c W σ ts Q (m ρ)
def PostA (c : Fc) (W : WX) (σ : L2.St) (ts : Ts) (Q : List V → Hp → Prop) : Option (Res (List SV)) → Prop
  | some (.ok svs ρ) => ∀ vs H, svs.length = vs.length → R c σ ρ (svs.zip vs ++ ts) H → Q vs H
  | some (.er e ρ) => ∀ cls od H, R c σ ρ ts H → ExRep c.K (Avr c σ ρ ts) H e cls od → W cls od σ H
  | none => False
def tDA (c : Fc) (W : WX) (m : M (List SV)) : TA := fun σ H Q => ∃ ρ ts, R c σ ρ ts H ∧ PostA c W σ ts Q (m ρ)
def PostT (c : Fc) (W : WX) (σ : L2.St) (ts : Ts) (Q : Bool → Hp → Prop) : Option (Res Bool) → Prop
  | some (.ok b ρ) => ∀ H, R c σ ρ ts H → Q b H
  | some (.er e ρ) => ∀ cls od H, R c σ ρ ts H → ExRep c.K (Avr c σ ρ ts) H e cls od → W cls od σ H
  | none => False
def tDT (c : Fc) (W : WX) (m : M Bool) : TT := fun σ H Q => ∃ ρ ts, R c σ ρ ts H ∧ PostT c W σ ts Q (m ρ)

theorem pe_imp {X : Cx} {e : Expr} {t t' : TE} (h : PE X e t) (hi : ∀ σ H Q, t' σ H Q → t σ H Q) : PE X e t' := ⟨fun pins s σ H Q I q => h.run pins s σ H Q I (hi _ _ _ q)⟩
theorem pt_imp {X : Cx} {e : Expr} {t t' : TT} (h : PT X e t) (hi : ∀ σ H Q, t' σ H Q → t σ H Q) : PT X e t' := ⟨fun pins s σ H Q I q => h.run pins s σ H Q I (hi _ _ _ q)⟩
theorem pw_imp {X : Cx} {e : Expr} {t t' : TT} (h : PW X e t) (hi : ∀ σ H Q, t' σ H Q → t σ H Q) : PW X e t' := ⟨fun wh pins s σ H Q I q => h.run wh pins s σ H Q I (hi _ _ _ q)⟩
theorem pa_imp {X : Cx} {es : List Expr} {t t' : TA} (h : PA X es t) (hi : ∀ σ H Q, t' σ H Q → t σ H Q) : PA X es t' := ⟨fun pos pins s σ H Q I q => h.run pos pins s σ H Q I (hi _ _ _ q)⟩
section
variable {c : Fc} {W : WX} {σ : L2.St} {ρ : List SV} {ts ts' : Ts} {H H' : Hp} {sv : SV} {d : D} {ds : List D} {v : V} {vs : List V} {p : Addr} {i : Nat} {Q : VK}
theorem R.perm (r : R c σ ρ ts H) (h : ts.Perm ts') : R c σ ρ ts' H := ⟨r.len, r.nl, r.g.perm ((h.map _).append_right _)⟩
theorem avr_fz : Avr c σ ρ ((.fz d, v) :: ts) = Avr c σ ρ ts := rfl
theorem avr_loc : Avr c σ ρ ((.loc i, v) :: ts) = Avr c σ ρ ts := rfl
/-- an error seen with fewer temporaries -/
theorem ExRep.less {K : PySem.W.Frag} {A A' : Addr → Prop} {e : Ex} {cls : Value} {od : Option Addr} (h : ExRep K A H e cls od) (hx : ∀ a, A' a → A a) : ExRep K A' H e cls od := by
  refine ⟨h.1, ?_⟩
  have h2 := h.2
  cases e with
  | mk cl fs =>
  cases fs with
  | nil => trivial
  | cons f fs =>
    obtain ⟨d, vs, e1, e2, r⟩ := h2
    exact ⟨d, vs, e1, e2, r.less fun a y => .inl (hx a y)⟩
theorem avr_sub {t : SV × V} : ∀ a, Avr c σ ρ ts a → Avr c σ ρ (t :: ts) a := fun a h => h.imp id fun z => by
  show a ∈ List.filterMap ownA ((t.1, some t.2) :: (tsP ts ++ ρ.zip σ))
  rw [List.filterMap_cons]
  split
  · exact z
  · exact List.mem_cons_of_mem _ z
theorem avr_subs : ∀ (us : Ts) a, Avr c σ ρ ts a → Avr c σ ρ (us ++ ts) a
  | [], a, h => h
  | t :: us, a, h => avr_sub a (avr_subs us a h)
theorem R.pops : ∀ (us : Ts), R c σ ρ (us ++ ts) H → R c σ ρ ts H
  | [], r => r
  | t :: us, r => R.pops us r.pop
/-- the reading of a bind -/
theorem bnd_some {α β : Type} {m : M α} {f : α → M β} {a : α} {ρ' : List SV} (h : m ρ = some (.ok a ρ')) : (m.bnd f) ρ = f a ρ' := by unfold M.bnd; rw [h]
theorem bnd_er {α β : Type} {m : M α} {f : α → M β} {e : Ex} {ρ' : List SV} (h : m ρ = some (.er e ρ')) : (m.bnd f) ρ = some (.er e ρ') := by unfold M.bnd; rw [h]
theorem bnd_none {α β : Type} {m : M α} {f : α → M β} (h : m ρ = none) : (m.bnd f) ρ = none := by unfold M.bnd; rw [h]
/-- first m, then what follows, of any ending kind -/
theorem bindE {m : M SV} {f : SV → M SV} (r : R c σ ρ ts H) (h : PostE c W σ ts Q ((m.bnd f) ρ)) {Q' : VK} (k : ∀ sv v ρ' H', R c σ ρ' ((sv, v) :: ts) H' → PostE c W σ ts Q (f sv ρ') → Q' v H') : tDE c W m σ H Q' := by
  refine ⟨ρ, ts, r, ?_⟩
  cases e : m ρ with
  | none => rw [bnd_none e] at h; exact h
  | some x =>
    cases x with
    | er x ρ' => rw [bnd_er e] at h; exact h
    | ok sv ρ' => rw [bnd_some e] at h; exact fun v H' r' => k sv v ρ' H' r' h
/-- .. with a temporary held meanwhile -/
theorem bindE1 {m : M SV} {f : SV → M SV} {t : SV × V} (r : R c σ ρ (t :: ts) H) (h : PostE c W σ ts Q ((m.bnd f) ρ)) {Q' : VK} (k : ∀ sv v ρ' H', R c σ ρ' ((sv, v) :: t :: ts) H' → PostE c W σ ts Q (f sv ρ') → Q' v H') : tDE c W m σ H Q' := by
  refine ⟨ρ, t :: ts, r, ?_⟩
  cases e : m ρ with
  | none => rw [bnd_none e] at h; exact h
  | some x =>
    cases x with
    | er x ρ' =>
      rw [bnd_er e] at h
      exact fun cls od H' r' q => h cls od H' r'.pop (q.less avr_sub)
    | ok sv ρ' => rw [bnd_some e] at h; exact fun v H' r' => k sv v ρ' H' r' h
theorem fin_fz (r : R c σ ρ ts H) (q : Rep c.K (Avr c σ ρ ts) H d v) (h : PostE c W σ ts Q (some (.ok (.fz d) ρ))) : Q v H := h v H (r.push_fz q)
theorem fin_new (r : R c σ ρ ts H) (q : RepL c.K (Avr c σ ρ ts) H ds vs) (hp : H p = none) (h : PostE c W σ ts Q (some (.ok (.own (.lst ds)) ρ))) : Q (.ref p) (upd H p (.lst vs)) :=
  h _ _ (r.push_new hp upd_same (fun a o e => by rw [upd_ne (ne_of_none e hp)]; exact e) q)
theorem ext_new {o : HO} (hp : H p = none) : ∀ a u, H a = some u → upd H p o a = some u := fun a u e => by rw [upd_ne (ne_of_none e hp)]; exact e
theorem fin_tup (r : R c σ ρ ts H) (q : RepL c.K (Avr c σ ρ ts) H ds vs) (hp : H p = none) (h : PostE c W σ ts Q (some (.ok (.fz (.tup ds)) ρ))) : Q (.ref p) (upd H p (.tup vs)) := by
  refine h _ _ ((r.ext (ext_new hp)).push_fz ?_)
  simp only [Rep]
  exact ⟨p, vs, rfl, SqT.of upd_same, q.ext (ext_new hp)⟩

/-! ### contents -/
def con (ρ : List SV) : SV → Option D
  | .fz d => some d
  | .own d => some d
  | .loc i => match ρ[i]? with
    | some (.own d) => some d
    | some (.fz d) => some d
    | some (.box d) => some d
    | _ => none
  | .box d => some d
  | .un => none
/-- as Rep, the list at the root at any address -/
def RepR (K : PySem.W.Frag) (A : Addr → Prop) (H : Hp) : D → V → Prop
  | .lst ds, v => ∃ a vs, v = .ref a ∧ H a = some (.lst vs) ∧ RepL K A H ds vs
  | .dic ks vs, v => ∃ a, v = .ref a ∧ DicAt K A H ks vs a
  | .obj C fs ds, v => ∃ a c dx vs, v = .ref a ∧ ClsA K C c ∧ H a = some (.ins c dx (fs.zip vs)) ∧ vs.length = fs.length ∧ RepL K A H ds vs
  | d, v => Rep K A H d v
theorem Rep.root {K : PySem.W.Frag} {A : Addr → Prop} (h : Rep K A H d v) : RepR K A H d v := by
  cases d with
  | lst ds =>
    simp only [Rep] at h
    obtain ⟨a, vs, e, q, r⟩ := h
    exact ⟨a, vs, e, q.1, r⟩
  | dic ks vs => simp only [Rep] at h
  | obj C fs ds =>
    simp only [Rep] at h
    obtain ⟨a, c, dx, vs, e, hc, q, n, l, r⟩ := h
    exact ⟨a, c, dx, vs, e, hc, q, l, r⟩
  | _ => exact h
theorem RepX.root {K : PySem.W.Frag} {A : Addr → Prop} (h : RepX K A H d p) : RepR K A H d (.ref p) := by
  cases d with
  | dic ks vs => exact ⟨p, rfl, h⟩
  | obj C fs ds =>
    obtain ⟨c, dx, vs, hc, e, l, r⟩ := h
    exact ⟨p, c, dx, vs, rfl, hc, e, l, r⟩
  | _ => exact h.elim
theorem tsP_mem {t : SV × V} (h : t ∈ ts) : (t.1, some t.2) ∈ tsP ts := List.mem_map.mpr ⟨t, h, rfl⟩
theorem R.con (r : R c σ ρ ts H) (hm : (sv, v) ∈ ts) (h : con ρ sv = some d) : RepR c.K (Avr c σ ρ ts) H d v := by
  have q := r.g.rs _ (List.mem_append_left _ (tsP_mem hm))
  cases sv with
  | un => simp [DL.con] at h
  | fz d' =>
    simp only [DL.con, Option.some.injEq] at h
    subst h
    obtain ⟨w, e, q⟩ := q
    cases e
    exact q.root
  | own d' =>
    simp only [DL.con, Option.some.injEq] at h
    subst h
    obtain ⟨w, e, q⟩ := q
    cases e
    cases d' <;> simp only [RepO] at q
    obtain ⟨vs, e, q⟩ := q
    exact ⟨w, vs, rfl, e, q⟩
  | box d' =>
    simp only [DL.con, Option.some.injEq] at h
    subst h
    obtain ⟨w, e, q⟩ := q
    cases e
    exact q.root
  | loc i =>
    obtain ⟨_, w, e, e2⟩ := q
    cases e
    simp only [DL.con] at h
    cases e3 : ρ[i]? with
    | none => rw [e3] at h; cases h
    | some sv' =>
      rw [e3] at h
      cases sv' with
      | own d' =>
        cases h
        obtain ⟨p, ds, vs, e4, rfl, e5, q⟩ := r.slot_own e3
        rw [e2] at e4; cases e4
        exact ⟨p, vs, rfl, e5, q⟩
      | fz d' =>
        cases h
        obtain ⟨u, e4, q⟩ := r.slot_fz e3
        rw [e2] at e4; cases e4
        exact q.top_fz.root
      | box d' =>
        cases h
        obtain ⟨p, e4, q, _⟩ := r.slot_box e3
        rw [e2] at e4; cases e4
        exact q.root
      | _ => cases h
/-- a value leaves its place: it is frozen -/
def esc : SV → M D
  | .fz d => ret d
  | .own d => ret d
  | .loc i => fun ρ => match ρ[i]? with
    | some (.own d) => some (.ok d (ρ.set i (.fz d)))
    | some (.fz d) => some (.ok d ρ)
    | some (.box (.obj C fs ds)) => some (.ok (.obj C fs ds) (ρ.set i (.fz (.obj C fs ds))))
    | _ => none
  | .box (.obj C fs ds) => ret (.obj C fs ds)
  | .box _ => fun _ => none
  | .un => fun _ => none
theorem r_esc (r : R c σ ρ ((sv, v) :: ts) H) {ρ' : List SV} (h : esc sv ρ = some (.ok d ρ')) : R c σ ρ' ((.fz d, v) :: ts) H := by
  cases sv with
  | un => simp [DL.esc] at h
  | fz d' => simp only [DL.esc, ret, Option.some.injEq, Res.ok.injEq] at h; obtain ⟨rfl, rfl⟩ := h; exact r
  | own d' => simp only [DL.esc, ret, Option.some.injEq, Res.ok.injEq] at h; obtain ⟨rfl, rfl⟩ := h; exact r.freeze
  | loc i =>
    simp only [DL.esc] at h
    cases e3 : ρ[i]? with
    | none => rw [e3] at h; cases h
    | some sv' =>
      rw [e3] at h
      cases sv' with
      | own d' =>
        simp only [Option.some.injEq, Res.ok.injEq] at h; obtain ⟨rfl, rfl⟩ := h
        have hl : i < ρ.length := (List.getElem?_eq_some_iff.mp e3).1
        exact (r.demote e3).loc_fz (by simp [hl])
      | fz d' =>
        simp only [Option.some.injEq, Res.ok.injEq] at h; obtain ⟨rfl, rfl⟩ := h
        exact r.loc_fz e3
      | box d' =>
        cases d' with
        | obj C fs ds =>
          simp only [Option.some.injEq, Res.ok.injEq] at h; obtain ⟨rfl, rfl⟩ := h
          have hl : i < ρ.length := (List.getElem?_eq_some_iff.mp e3).1
          exact (r.demoteX e3).loc_fz (by simp [hl])
        | _ => cases h
      | _ => cases h
  | box d' =>
    cases d' with
    | obj C fs ds => simp only [DL.esc, ret, Option.some.injEq, Res.ok.injEq] at h; obtain ⟨rfl, rfl⟩ := h; exact r.freezeX
    | _ => simp [DL.esc] at h
theorem esc_er {e : Ex} {ρ' : List SV} : esc sv ρ ≠ some (.er e ρ') := by
  cases sv with
  | un => simp [DL.esc]
  | fz d' => simp [DL.esc, ret]
  | own d' => simp [DL.esc, ret]
  | box d' => cases d' <;> simp [DL.esc, ret]
  | loc i =>
    simp only [DL.esc]
    split <;> simp
def escs : List SV → M (List D)
  | [] => ret []
  | s :: ss => (esc s).bnd fun d => (escs ss).bnd fun ds => ret (d :: ds)
/-- all of a row of temporaries leave -/
theorem r_escs : ∀ {svs : List SV} {vs : List V} {ρ ρ' : List SV} {ts : Ts} {ds : List D}, R c σ ρ (svs.zip vs ++ ts) H → svs.length = vs.length → escs svs ρ = some (.ok ds ρ') → R c σ ρ' ts H ∧ RepL c.K (Avr c σ ρ' ts) H ds vs
  | [], vs, ρ, ρ', ts, ds, r, hl, h => by
    simp only [DL.escs, ret, Option.some.injEq, Res.ok.injEq] at h
    obtain ⟨rfl, rfl⟩ := h
    cases vs with
    | nil => exact ⟨r, RepL.nil⟩
    | cons _ _ => cases hl
  | s :: ss, vs, ρ, ρ', ts, ds, r, hl, h => by
    cases vs with
    | nil => cases hl
    | cons v vs =>
    simp only [DL.escs] at h
    cases e : esc s ρ with
    | none => rw [bnd_none e] at h; cases h
    | some x =>
      cases x with
      | er x _ => exact absurd e esc_er
      | ok d ρ1 =>
        rw [bnd_some e] at h
        cases e2 : escs ss ρ1 with
        | none => rw [bnd_none e2] at h; cases h
        | some x =>
          cases x with
          | er x _ => rw [bnd_er e2] at h; cases h
          | ok ds1 ρ2 =>
            rw [bnd_some e2] at h
            simp only [ret, Option.some.injEq, Res.ok.injEq] at h
            obtain ⟨rfl, rfl⟩ := h
            have r1 : R c σ ρ1 ((.fz d, v) :: (ss.zip vs ++ ts)) H := r_esc r e
            have r2 : R c σ ρ1 (ss.zip vs ++ ((.fz d, v) :: ts)) H := r1.perm List.perm_middle.symm
            obtain ⟨r3, q⟩ := r_escs r2 (by simpa using hl) e2
            exact ⟨r3.pop, RepL.cons r3.top_fz q⟩
theorem escs_er : ∀ {svs : List SV} {ρ ρ' : List SV} {e : Ex}, escs svs ρ ≠ some (.er e ρ')
  | [], ρ, ρ', e => by simp [DL.escs, ret]
  | s :: ss, ρ, ρ', e => by
    simp only [DL.escs]
    cases e1 : esc s ρ with
    | none => rw [bnd_none e1]; simp
    | some x =>
      cases x with
      | er x _ => exact absurd e1 esc_er
      | ok d ρ1 =>
        rw [bnd_some e1]
        cases e2 : escs ss ρ1 with
        | none => rw [bnd_none e2]; simp
        | some x =>
          cases x with
          | er x _ => exact absurd e2 escs_er
          | ok ds1 ρ2 => rw [bnd_some e2]; simp [ret]
end

/-! ### expressions -/
def mC (d : D) : M SV := ret (.fz d)
def mVar (cv : Nat → Bool) (i : Nat) : M SV := fun ρ => match ρ[i]? with
  | some (.fz d) => some (.ok (.fz d) ρ)
  | some (.own _) => if cv i = false then some (.ok (.loc i) ρ) else none
  | some (.box _) => if cv i = false then some (.ok (.loc i) ρ) else none
  | _ => none
section
variable {X : Cx} {c : Fc} {W : WX} {pos : Pos} {a b : Expr} {ma mb : M SV}
theorem pd_var {i : Nat} {x : Str} (h : PE X (.Name x pos) (tVar i)) : PE X (.Name x pos) (tDE c W (mVar c.cv i)) := by
  refine pe_imp h fun σ H Q ⟨ρ, ts, r, q⟩ => ?_
  unfold mVar at q
  cases e : ρ[i]? with
  | none => rw [e] at q; exact q.elim
  | some sv =>
    rw [e] at q
    cases sv with
    | fz d =>
      obtain ⟨v, e2, r2⟩ := r.slot_fz e
      exact ⟨v, e2, q v H r2⟩
    | own d =>
      obtain ⟨p, ds, vs, e2, _⟩ := r.slot_own e
      refine ⟨_, e2, ?_⟩
      simp only at q
      split at q
      · rename_i hc
        exact q _ H (r.push_loc e2 hc)
      · exact q.elim
    | box d =>
      obtain ⟨p, e2, _⟩ := r.slot_box e
      refine ⟨_, e2, ?_⟩
      simp only at q
      split at q
      · rename_i hc
        exact q _ H (r.push_loc e2 hc)
      · exact q.elim
    | _ => exact q.elim
theorem pd_c {e : Expr} {v : V} {d : D} (h : PE X e (tC v)) (hv : ∀ A H, Rep c.K A H d v) : PE X e (tDE c W (mC d)) := by
  refine pe_imp h fun σ H Q ⟨ρ, ts, r, q⟩ => ?_
  exact fin_fz r (hv _ _) q
theorem pd_int {i j} : PE X (.Constant (.int i) j pos) (tDE c W (mC (.int i))) := pd_c pe_int fun A H => by simp only [Rep]
theorem pd_bl {b j} : PE X (.Constant (.bool b) j pos) (tDE c W (mC (.bl b))) := pd_c pe_bl fun A H => by simp only [Rep]
theorem pd_non {j} : PE X (.Constant .none j pos) (tDE c W (mC .non)) := pd_c pe_non fun A H => by simp only [Rep]
theorem pd_str {x j} : PE X (.Constant (.str x) j pos) (tDE c W (mC (.str x))) := pd_c pe_str fun A H => by simp only [Rep]
def mBin (sem : SV → SV → M SV) (ma mb : M SV) : M SV := ma.bnd fun x => mb.bnd fun y => sem x y
/-- a two-place rule does what sem says -/
def OpS (K : PySem.W.Frag) (r : R2) (sem : SV → SV → M SV) : Prop := ∀ (c : Fc) (W : WX) (σ : L2.St) (ρ : List SV) (ts : Ts) (H : Hp) (s1 s2 : SV) (v1 v2 : V) (Q : VK), c.K = K →
  R c σ ρ ((s2, v2) :: (s1, v1) :: ts) H → PostE c W σ ts Q (sem s1 s2 ρ) → r v1 v2 H Q
theorem opS_or1 {K : PySem.W.Frag} {r r' : R2} {sem : SV → SV → M SV} (h : OpS K r sem) : OpS K (fun x y H Q => r x y H Q ∨ r' x y H Q) sem := fun c W σ ρ ts H s1 s2 v1 v2 Q e R q => .inl (h c W σ ρ ts H s1 s2 v1 v2 Q e R q)
theorem read2 {r : R2} {sem : SV → SV → M SV} (hs : OpS c.K r sem) {σ : L2.St} {H : Hp} {Q : VK} (h : tDE c W (mBin sem ma mb) σ H Q) : tOp r (tDE c W ma) (tDE c W mb) σ H Q := by
  obtain ⟨ρ, ts, R, q⟩ := h
  refine bindE R q fun s1 v1 ρ1 H1 R1 q1 => ?_
  refine bindE1 R1 q1 fun s2 v2 ρ2 H2 R2 q2 => ?_
  exact hs c W σ ρ2 ts H2 s1 s2 v1 v2 Q rfl R2 q2
theorem pd_bin {op : Operator} {r : R2} {sem : SV → SV → M SV} (ho : OpR X (binaryOp op) r) (hs : OpS c.K r sem) (ha : PE X a (tDE c W ma)) (hb : PE X b (tDE c W mb)) : PE X (.BinOp a op b pos) (tDE c W (mBin sem ma mb)) :=
  pe_imp (pe_op ho ha hb) fun σ H Q h => read2 hs h
theorem pd_cmp {op : CmpOp} {r : R2} {sem : SV → SV → M SV} (ho : OpR X (compareOp op) r) (hs : OpS c.K r sem) (hm : behindInMarks op b = false) (ha : PE X a (tDE c W ma)) (hb : PE X b (tDE c W mb)) : PE X (.Compare a [op] [b] pos) (tDE c W (mBin sem ma mb)) :=
  pe_imp (pe_cmpR ho ha hb hm) fun σ H Q h => read2 hs h
def mTest (m : M SV) : M Bool := m.bnd fun s => match s with
  | .fz (.bl b) => ret b
  | _ => fun _ => none
theorem pt_cmp {op : CmpOp} {r : R2} {sem : SV → SV → M SV} (ho : OpR X (compareOp op) r) (hs : OpS c.K r sem) (hm : behindInMarks op b = false) (ha : PE X a (tDE c W ma)) (hb : PE X b (tDE c W mb)) : PT X (.Compare a [op] [b] pos) (tDT c W (mTest (mBin sem ma mb))) := by
  refine pt_imp (pt_cmpR ho ha hb hm) fun σ H Q h => ?_
  obtain ⟨ρ, ts, R, q⟩ := h
  show tOp r (tDE c W ma) (tDE c W mb) σ H _
  refine read2 hs ⟨ρ, ts, R, ?_⟩
  cases e : mBin sem ma mb ρ with
  | none => unfold mTest at q; rw [bnd_none e] at q; exact q.elim
  | some x =>
    cases x with
    | er x ρ' => unfold mTest at q; rw [bnd_er e] at q; exact q
    | ok sv ρ' =>
      unfold mTest at q; rw [bnd_some e] at q
      intro v H' R'
      split at q
      · rename_i bb
        have z := R'.top_fz
        simp only [Rep] at z
        subst z
        exact ⟨bb, rfl, q H' R'.pop⟩
      · exact q.elim
end
end DL

set_option Elab.async false
set_option linter.all false
set_option maxRecDepth 100000
/-! The data layer: operators and built-ins on data. -/
namespace DL
open PySem PySem.Spec PyProof.Rows L2

/-- what a built-in hands back -/
inductive BR where
  | imm (d : D) | newL (ds : List D) | newT (ds : List D) | anyT (ds : List D)
def BR.res (ρ : List SV) : BR → Res SV
  | .imm d => .ok (.fz d) ρ
  | .newL ds => .ok (.own (.lst ds)) ρ
  | .newT ds => .ok (.fz (.tup ds)) ρ
  | .anyT ds => .ok (.fz (.tup ds)) ρ
def BRQ (K : PySem.W.Frag) (A : Addr → Prop) (H : Hp) : BR → VK → Prop
  | .imm d, Q => ∀ v, Rep K A H d v → Q v H
  | .newL ds, Q => ∀ vs p, RepL K A H ds vs → H p = none → Q (.ref p) (upd H p (.lst vs))
  | .newT ds, Q => ∀ vs p, RepL K A H ds vs → H p = none → Q (.ref p) (upd H p (.tup vs))
  | .anyT ds, Q => (∀ v, Rep K A H (.tup ds) v → Q v H) ∧ ∀ vs p, RepL K A H ds vs → H p = none → Q (.ref p) (upd H p (.tup vs))
def RepRL (K : PySem.W.Frag) (A : Addr → Prop) (H : Hp) : List D → List V → Prop
  | [], vs => vs = []
  | d :: ds, vs => ∃ v vs', vs = v :: vs' ∧ RepR K A H d v ∧ RepRL K A H ds vs'
section
variable {c : Fc} {W : WX} {σ : L2.St} {ρ : List SV} {ts us : Ts} {H : Hp} {sv : SV} {d : D} {ds : List D} {v : V} {vs : List V} {Q : VK} {b : BR}
theorem fin_br (r : R c σ ρ (us ++ ts) H) (h : PostE c W σ ts Q (some (b.res ρ))) : BRQ c.K (Avr c σ ρ (us ++ ts)) H b Q := by
  have r' := R.pops us r
  cases b with
  | imm d => exact fun v q => fin_fz r' (q.less fun a y => .inl (avr_subs us a y)) h
  | newL ds => exact fun vs p q hp => fin_new r' (q.less fun a y => .inl (avr_subs us a y)) hp h
  | newT ds => exact fun vs p q hp => fin_tup r' (q.less fun a y => .inl (avr_subs us a y)) hp h
  | anyT ds => exact ⟨fun v q => fin_fz r' (q.less fun a y => .inl (avr_subs us a y)) h, fun vs p q hp => fin_tup r' (q.less fun a y => .inl (avr_subs us a y)) hp h⟩
def cons (ρ : List SV) : List SV → Option (List D)
  | [] => some []
  | s :: ss => match con ρ s, cons ρ ss with
    | some d, some ds => some (d :: ds)
    | _, _ => none
theorem r_cons : ∀ {svs : List SV} {vs : List V} {ts : Ts} {ds : List D}, R c σ ρ ts H → (∀ t ∈ svs.zip vs, t ∈ ts) → svs.length = vs.length → cons ρ svs = some ds → RepRL c.K (Avr c σ ρ ts) H ds vs
  | [], vs, ts, ds, r, hm, hl, h => by
    simp only [cons, Option.some.injEq] at h
    subst h
    cases vs with
    | nil => rfl
    | cons _ _ => cases hl
  | s :: ss, vs, ts, ds, r, hm, hl, h => by
    cases vs with
    | nil => cases hl
    | cons v vs =>
    simp only [cons] at h
    split at h
    · rename_i d ds' e1 e2
      cases h
      exact ⟨v, vs, rfl, r.con (hm (s, v) List.mem_cons_self) e1, r_cons r (fun t ht => hm t (List.mem_cons_of_mem _ ht)) (by simpa using hl) e2⟩
    · cases h
end
def OpB (K : PySem.W.Frag) (r : R2) (f : D → D → Option BR) : Prop := ∀ (A : Addr → Prop) (H : Hp) (d1 d2 : D) (v1 v2 : V) (b : BR) (Q : VK), RepR K A H d1 v1 → RepR K A H d2 v2 → f d1 d2 = some b → BRQ K A H b Q → r v1 v2 H Q
def UnB (K : PySem.W.Frag) (r : V → Hp → VK → Prop) (f : D → Option BR) : Prop := ∀ (A : Addr → Prop) (H : Hp) (d1 : D) (v1 : V) (b : BR) (Q : VK), RepR K A H d1 v1 → f d1 = some b → BRQ K A H b Q → r v1 H Q
def CallB (K : PySem.W.Frag) (r : List V → Hp → VK → Prop) (f : List D → Option BR) : Prop := ∀ (A : Addr → Prop) (H : Hp) (ds : List D) (vs : List V) (b : BR) (Q : VK), RepRL K A H ds vs → f ds = some b → BRQ K A H b Q → r vs H Q
def bres (b : Option BR) (ρ : List SV) : Option (Res SV) := match b with
  | some b => some (b.res ρ)
  | none => none
def lift1 (f : D → Option BR) (s : SV) : M SV := fun ρ => match con ρ s with
  | some d => bres (f d) ρ
  | none => none
def lift2 (f : D → D → Option BR) (s1 s2 : SV) : M SV := fun ρ => match con ρ s1, con ρ s2 with
  | some d1, some d2 => bres (f d1 d2) ρ
  | _, _ => none
def liftN (f : List D → Option BR) (ss : List SV) : M SV := fun ρ => match cons ρ ss with
  | some ds => bres (f ds) ρ
  | none => none
section
variable {c : Fc} {W : WX} {X : Cx}
theorem opS_of {K : PySem.W.Frag} {r : R2} {f : D → D → Option BR} (h : OpB K r f) : OpS K r (lift2 f) := by
  intro c W σ ρ ts H s1 s2 v1 v2 Q e R q
  subst e
  unfold lift2 at q
  split at q
  · rename_i d1 d2 e1 e2
    have h1 := R.con (List.mem_cons_of_mem _ List.mem_cons_self) e1
    have h2 := R.con List.mem_cons_self e2
    cases e3 : f d1 d2 with
    | none => rw [e3] at q; exact q.elim
    | some b =>
      rw [e3] at q
      exact h _ H d1 d2 v1 v2 b Q h1 h2 e3 (fin_br (us := [(s2, v2), (s1, v1)]) R q)
  · exact q.elim
theorem OpB.or {K : PySem.W.Frag} {r r' : R2} {f : D → D → Option BR} (h : ∀ (A : Addr → Prop) (H : Hp) (d1 d2 : D) (v1 v2 : V) (b : BR) (Q : VK), RepR K A H d1 v1 → RepR K A H d2 v2 → f d1 d2 = some b → BRQ K A H b Q → r v1 v2 H Q ∨ r' v1 v2 H Q) : OpB K (fun x y H Q => r x y H Q ∨ r' x y H Q) f := h
def mUn (f : D → Option BR) (m : M SV) : M SV := m.bnd fun s => lift1 f s
theorem read1 {r : V → Hp → VK → Prop} {f : D → Option BR} (hs : UnB c.K r f) {m : M SV} {σ : L2.St} {H : Hp} {Q : VK} (h : tDE c W (mUn f m) σ H Q) : tUn r (tDE c W m) σ H Q := by
  obtain ⟨ρ, ts, R, q⟩ := h
  refine bindE R q fun s1 v1 ρ1 H1 R1 q1 => ?_
  unfold lift1 at q1
  cases e : con ρ1 s1 with
  | none => rw [e] at q1; exact q1.elim
  | some d =>
    rw [e] at q1
    simp only at q1
    cases e3 : f d with
    | none => rw [e3] at q1; exact q1.elim
    | some b =>
      rw [e3] at q1
      exact hs _ H1 d v1 b Q (R1.con List.mem_cons_self e) e3 (fin_br (us := [(s1, v1)]) R1 q1)
theorem pd_un {op : UnaryOp} {a : Expr} {m : M SV} {pos : Pos} {r : V → Hp → VK → Prop} {f : D → Option BR} (ho : UnR X (unaryOp op) r) (hs : UnB c.K r f) (ha : PE X a (tDE c W m)) : PE X (.UnaryOp op a pos) (tDE c W (mUn f m)) :=
  pe_imp (pe_un ho ha) fun σ H Q h => read1 hs h
end

/-! ### numbers -/
theorem repR_int {K A H} {i : Int} {v : V} (h : RepR K A H (.int i) v) : v = .int i := by simpa only [RepR, Rep] using h
theorem repR_bl {K A H} {i : Bool} {v : V} (h : RepR K A H (.bl i) v) : v = .bl i := by simpa only [RepR, Rep] using h
theorem repR_str {K A H} {i : Str} {v : V} (h : RepR K A H (.str i) v) : v = .str i := by simpa only [RepR, Rep] using h
theorem repR_non {K A H} {v : V} (h : RepR K A H .non v) : v = .non := by simpa only [RepR, Rep] using h
theorem repR_lst {K A H} {ds : List D} {v : V} (h : RepR K A H (.lst ds) v) : ∃ a vs, v = .ref a ∧ H a = some (.lst vs) ∧ RepL K A H ds vs := h
theorem repR_tup {K A H} {ds : List D} {v : V} (h : RepR K A H (.tup ds) v) : ∃ a vs, v = .ref a ∧ SqT K H a vs ∧ RepL K A H ds vs := by simpa only [RepR, Rep] using h
theorem repR_seq {K A H} {ds : List D} {v : V} (h : RepR K A H (.seq ds) v) : ∃ a vs, v = .ref a ∧ FrzL K H a vs ∧ RepL K A H ds vs := by simpa only [RepR, Rep] using h
theorem rep_int {K A H} (i : Int) : Rep K A H (.int i) (.int i) := by simp only [Rep]
theorem rep_bl {K A H} (i : Bool) : Rep K A H (.bl i) (.bl i) := by simp only [Rep]
theorem rep_str {K A H} (i : Str) : Rep K A H (.str i) (.str i) := by simp only [Rep]
theorem rep_non {K A H} : Rep K A H .non .non := by simp only [Rep]
theorem rep_tup {K A H} {a : Addr} {ds : List D} {vs : List V} (h : SqT K H a vs) (r : RepL K A H ds vs) : Rep K A H (.tup ds) (.ref a) := by simp only [Rep]; exact ⟨a, vs, rfl, h, r⟩
def iff2 (C : Int → Int → Bool) (g : Int → Int → Int) : D → D → Option BR
  | .int i, .int j => if C i j = true then some (.imm (.int (g i j))) else none
  | _, _ => none
theorem opB_I {K : PySem.W.Frag} {C : Int → Int → Bool} {P : Int → Int → Prop} {g : Int → Int → Int} (h : ∀ i j, C i j = true → P i j) : OpB K (rI P fun i j => .int (g i j)) (iff2 C g) := by
  intro A H d1 d2 v1 v2 b Q h1 h2 e q
  unfold iff2 at e
  split at e
  · split at e
    · rename_i i j hc
      cases e
      exact ⟨i, j, repR_int h1, repR_int h2, h i j hc, q _ (rep_int _)⟩
    · cases e
  · cases e
/-- a < b, so that the kernel counts nothing down -/
def nlt (a b : Nat) : Bool := Nat.ble (a + 1) b
theorem nlt_iff {a b : Nat} : nlt a b = true ↔ a < b := by unfold nlt; rw [Nat.ble_eq]; omega
def mulOk (i j : Int) : Bool := nlt i.natAbs (2 ^ 64) || nlt j.natAbs (2 ^ 64) || nlt (i.natAbs.log2 + j.natAbs.log2) 1000000
def divOk (i j : Int) : Bool := decide (0 < j) && (nlt j.natAbs 1073741824 || nlt j.natAbs.log2 9000)
def modOk (_ j : Int) : Bool := decide (0 < j)
def powOk (i j : Int) : Bool := decide (0 ≤ j) && nlt j.natAbs 1000001 && nlt i.natAbs (2 ^ 64)
def yes2 (_ _ : Int) : Bool := true
def fSub := iff2 yes2 fun i j => i - j
def fDiv := iff2 divOk fun i j => i / j
def fMod := iff2 modOk fun i j => i % j
def fPow := iff2 powOk fun i j => i ^ j.toNat
def repOk (k : Int) (n : Nat) : Bool := nlt k.natAbs (2 ^ 63) && nlt (n * k.toNat) (sizeLine + 1)
def repD (ds : List D) (k : Int) : List D := (List.replicate k.toNat ds).flatten
def fMul : D → D → Option BR
  | .int i, .int j => if mulOk i j = true then some (.imm (.int (i * j))) else none
  | .lst ds, .int k => if repOk k ds.length = true then some (.newL (repD ds k)) else none
  | _, _ => none
def fAdd : D → D → Option BR
  | .int i, .int j => some (.imm (.int (i + j)))
  | .str i, .str j => if i.length + j.length ≤ sizeLine then some (.imm (.str (i ++ j))) else none
  | .lst a, .lst b => if a.length + b.length ≤ sizeLine then some (.newL (a ++ b)) else none
  | .tup a, .tup b => if a.length + b.length ≤ sizeLine then some (.anyT (a ++ b)) else none
  | _, _ => none
section
variable {K : PySem.W.Frag} {X : Cx} {A : Addr → Prop} {H : Hp}
theorem RepL.flat : ∀ {dss : List (List D)} {vss : List (List V)}, Paired (RepL K A H) dss vss → RepL K A H dss.flatten vss.flatten
  | _, _, .nil => RepL.nil
  | _, _, .cons r t => RepL.app r (RepL.flat t)
theorem RepL.rep {ds : List D} {vs : List V} (h : RepL K A H ds vs) : ∀ n, RepL K A H (List.replicate n ds).flatten (List.replicate n vs).flatten
  | 0 => RepL.nil
  | n + 1 => by
    simp only [List.replicate_succ, List.flatten_cons]
    exact RepL.app h (RepL.rep h n)
theorem opB_sub : OpB K (rI0 fun i j => .int (i - j)) fSub := by
  intro A H d1 d2 v1 v2 b Q h1 h2 e q
  obtain ⟨i, j, a, b, _, z⟩ := opB_I (K := K) (P := fun _ _ => True) (C := yes2) (g := fun i j => i - j) (fun _ _ _ => trivial) A H d1 d2 v1 v2 b Q h1 h2 e q
  exact ⟨i, j, a, b, z⟩
theorem opR_div : OpR X (binaryOp .FloorDiv) (fun x y H Q => rI CDiv (fun i j => .int (i / j)) x y H Q ∨ rI CDivW (fun i j => .int (i / j)) x y H Q) := OpR.or op_fdiv op_fdivW
theorem opB_div : OpB K (fun x y H Q => rI CDiv (fun i j => .int (i / j)) x y H Q ∨ rI CDivW (fun i j => .int (i / j)) x y H Q) fDiv := by
  intro A H d1 d2 v1 v2 b Q h1 h2 e q
  obtain ⟨i, j, a, b, z, q'⟩ := opB_I (K := K) (P := fun i j => divOk i j = true) (C := divOk) (g := fun i j => i / j) (fun _ _ h => h) A H d1 d2 v1 v2 b Q h1 h2 e q
  simp only [divOk, nlt_iff, Bool.and_eq_true, Bool.or_eq_true, decide_eq_true_eq] at z
  rcases z with ⟨z1, z | z⟩
  · exact .inl ⟨i, j, a, b, ⟨z1, by omega⟩, q'⟩
  · exact .inr ⟨i, j, a, b, ⟨z1, z⟩, q'⟩
theorem opB_mod : OpB K (rI (fun _ j => 0 < j) fun i j => .int (i % j)) fMod := opB_I fun i j h => by simpa [modOk] using h
theorem opB_pow : OpB K (rI CPow fun i j => .int (i ^ j.toNat)) fPow := opB_I fun i j h => by
  simp only [powOk, nlt_iff, Bool.and_eq_true, decide_eq_true_eq] at h
  exact ⟨h.1.1, by have := h.1.1; have := h.1.2; omega, h.2⟩
def rMul' : R2 := fun x y H Q => (rI CMul (fun i j => .int (i * j)) x y H Q ∨ rI CMulW (fun i j => .int (i * j)) x y H Q) ∨ rRep x y H Q
theorem opR_mul : OpR X (binaryOp .Mult) rMul' := OpR.or (OpR.or op_mul op_mulW) op_rep
theorem opB_mul : OpB K rMul' fMul := by
  intro A H d1 d2 v1 v2 b Q h1 h2 e q
  unfold fMul at e
  split at e
  · split at e
    · rename_i i j hc
      cases e
      simp only [mulOk, nlt_iff, Bool.or_eq_true] at hc
      rcases hc with (z | z) | z
      · exact .inl (.inl ⟨i, j, repR_int h1, repR_int h2, .inl ⟨by omega, by omega⟩, q _ (rep_int _)⟩)
      · exact .inl (.inl ⟨i, j, repR_int h1, repR_int h2, .inr ⟨by omega, by omega⟩, q _ (rep_int _)⟩)
      · exact .inl (.inr ⟨i, j, repR_int h1, repR_int h2, z, q _ (rep_int _)⟩)
    · cases e
  · split at e
    · rename_i ds k hc
      cases e
      obtain ⟨a, vs, e1, e2, r⟩ := repR_lst h1
      simp only [repOk, nlt_iff, Bool.and_eq_true] at hc
      exact .inr ⟨a, k, vs, e1, repR_int h2, e2, by omega, by omega, by rw [r.length]; omega, fun p hp => q _ p (r.rep _) hp⟩
    · cases e
  · cases e
def rAdd' (K : PySem.W.Frag) : R2 := fun x y H Q => ((rI0 (fun i j => .int (i + j)) x y H Q ∨ (∃ i j, x = .str i ∧ y = .str j ∧ i.length + j.length ≤ sizeLine ∧ Q (.str (i ++ j)) H)) ∨ rCat x y H Q) ∨ rCatA K x y H Q
theorem opR_add : OpR X (binaryOp .Add) (rAdd' X.K) := OpR.or (OpR.or (OpR.or op_add op_add_str) op_cat) op_catA
theorem RepL.nil_iff {ds : List D} {vs : List V} (h : RepL K A H ds vs) : vs = [] ↔ ds = [] := by
  have z := h.length
  constructor
  · intro e; subst e
    exact List.length_eq_zero_iff.mp z.symm
  · intro e; subst e
    exact List.length_eq_zero_iff.mp z
theorem opB_add : OpB K (rAdd' K) fAdd := by
  intro A H d1 d2 v1 v2 b Q h1 h2 e q
  unfold fAdd at e
  split at e
  · rename_i i j
    cases e
    exact .inl (.inl (.inl ⟨i, j, repR_int h1, repR_int h2, q _ (rep_int _)⟩))
  · split at e
    · rename_i i j hc
      cases e
      exact .inl (.inl (.inr ⟨i, j, repR_str h1, repR_str h2, hc, q _ (rep_str _)⟩))
    · cases e
  · split at e
    · rename_i a b hc
      cases e
      obtain ⟨p1, vs1, e1, e2, r1⟩ := repR_lst h1
      obtain ⟨p2, vs2, e3, e4, r2⟩ := repR_lst h2
      exact .inl (.inr ⟨p1, p2, vs1, vs2, e1, e3, e2, e4, by rw [r1.length, r2.length]; exact hc, fun p hp => q _ p (RepL.app r1 r2) hp⟩)
    · cases e
  · split at e
    · rename_i a b hc
      cases e
      obtain ⟨p1, vs1, e1, e2, r1⟩ := repR_tup h1
      obtain ⟨p2, vs2, e3, e4, r2⟩ := repR_tup h2
      refine .inr ⟨p1, p2, vs1, vs2, e1, e3, e2, e4, by rw [r1.length, r2.length]; exact hc, fun z => ?_, fun _ z => ?_, fun _ _ p hp => q.2 _ p (RepL.app r1 r2) hp⟩
      · have := r1.nil_iff.mp z
        subst this
        exact q.1 _ (rep_tup e4 r2)
      · have := r2.nil_iff.mp z
        subst this
        rw [List.append_nil] at q
        exact q.1 _ (rep_tup e2 r1)
    · cases e
  · cases e
def fNeg : D → Option BR
  | .int i => some (.imm (.int (-i)))
  | _ => none
theorem unB_neg : UnB K (rU fun i => .int (-i)) fNeg := by
  intro A H d1 v1 b Q h1 e q
  unfold fNeg at e
  split at e
  · cases e
    exact ⟨_, repR_int h1, q _ (rep_int _)⟩
  · cases e

/-! ### comparisons -/
def lexD : List D → List D → Option (List Int × List Int)
  | .int i :: a, .int j :: b => (lexD a b).map fun p => (i :: p.1, j :: p.2)
  | [], [] => some ([], [])
  | _, _ => none
def intsOf : List D → Option (List Int)
  | [] => some []
  | .int i :: ds => (intsOf ds).map (i :: ·)
  | _ => none
theorem intsOf_map (ns : List Int) : intsOf (ns.map D.int) = some ns := by
  induction ns with
  | nil => rfl
  | cons n ns ih => simp [intsOf, ih]
theorem intsOf_vs : ∀ {ds : List D} {ns : List Int} {vs : List V}, intsOf ds = some ns → RepL K A H ds vs → vs = ns.map V.int
  | [], ns, vs, h, r => by simp only [intsOf, Option.some.injEq] at h; subst h; simp only [RepL] at r; subst r; rfl
  | .int i :: ds, ns, vs, h, r => by
    simp only [intsOf, Option.map_eq_some_iff] at h
    obtain ⟨ms, e, rfl⟩ := h
    simp only [RepL] at r
    obtain ⟨v, vs', rfl, r, rs⟩ := r
    simp only [Rep] at r
    rw [r, intsOf_vs e rs]; rfl
  | .non :: _, _, _, h, _ => by simp [intsOf] at h
  | .bl _ :: _, _, _, h, _ => by simp [intsOf] at h
  | .str _ :: _, _, _, h, _ => by simp [intsOf] at h
  | .tup _ :: _, _, _, h, _ => by simp [intsOf] at h
  | .lst _ :: _, _, _, h, _ => by simp [intsOf] at h
  | .seq _ :: _, _, _, h, _ => by simp [intsOf] at h
  | .obj _ _ _ :: _, _, _, h, _ => by simp [intsOf] at h
  | .dic _ _ :: _, _, _, h, _ => by simp [intsOf] at h
theorem intsOf_rep : ∀ {ns : List Int}, RepL K A H (ns.map D.int) (ns.map V.int)
  | [] => RepL.nil
  | n :: ns => RepL.cons (rep_int n) intsOf_rep
def fCmpI (g : Int → Int → Bool) : D → D → Option BR
  | .int i, .int j => some (.imm (.bl (g i j)))
  | _, _ => none
theorem opB_cmpI {g : Int → Int → Bool} : OpB K (rI0 fun i j => .bl (g i j)) (fCmpI g) := by
  intro A H d1 d2 v1 v2 b Q h1 h2 e q
  unfold fCmpI at e
  split at e
  · cases e
    exact ⟨_, _, repR_int h1, repR_int h2, q _ (rep_bl _)⟩
  · cases e
def fLt : D → D → Option BR
  | .int i, .int j => some (.imm (.bl (decide (i < j))))
  | .str i, .str j => some (.imm (.bl (decide (i.cps.toList < j.cps.toList))))
  | .tup a, .tup b => match intsOf a, intsOf b with
    | some ns, some ms => some (.imm (.bl (HT.lexLt ns ms)))
    | _, _ => none
  | _, _ => none
def rLt' (K : PySem.W.Frag) : R2 := fun x y H Q => (rI0 (fun i j => .bl (decide (i < j))) x y H Q ∨ (∃ i j, x = .str i ∧ y = .str j ∧ Q (.bl (decide (i.cps.toList < j.cps.toList))) H)) ∨ rLtT K x y H Q
theorem opR_lt (hu : X.A.units < cLine) : OpR X (compareOp .Lt) (rLt' X.K) := OpR.or (OpR.or op_lt op_lt_str) (op_ltT hu)
theorem opB_lt : OpB K (rLt' K) fLt := by
  intro A H d1 d2 v1 v2 b Q h1 h2 e q
  unfold fLt at e
  split at e
  · cases e
    exact .inl (.inl ⟨_, _, repR_int h1, repR_int h2, q _ (rep_bl _)⟩)
  · cases e
    exact .inl (.inr ⟨_, _, repR_str h1, repR_str h2, q _ (rep_bl _)⟩)
  · split at e
    · rename_i a b ns ms e1 e2
      cases e
      obtain ⟨p1, vs1, e3, e4, r1⟩ := repR_tup h1
      obtain ⟨p2, vs2, e5, e6, r2⟩ := repR_tup h2
      rw [intsOf_vs e1 r1] at e4
      rw [intsOf_vs e2 r2] at e6
      exact .inr ⟨p1, p2, ns, ms, e3, e5, e4, e6, q _ (rep_bl _)⟩
    · cases e
  · cases e
abbrev fLe := fCmpI fun i j => decide (i ≤ j)
abbrev fGt := fCmpI fun i j => decide (j < i)
abbrev fGe := fCmpI fun i j => decide (j ≤ i)

/-! equality of data -/
mutual
def py : D → PyData
  | .non => .none
  | .bl b => .bool b
  | .int i => .int i
  | .str s => .str s
  | .tup ds => .tuple (pys ds)
  | .lst ds => .list (pys ds)
  | .seq ds => .list (pys ds)
  | .obj _ _ _ => .none
  | .dic _ _ => .none
def pys : List D → List PyData
  | [] => []
  | d :: ds => py d :: pys ds
end
mutual
def plain : D → Bool
  | .obj _ _ _ => false
  | .dic _ _ => false
  | .tup ds => plains ds
  | .lst ds => plains ds
  | .seq ds => plains ds
  | _ => true
def plains : List D → Bool
  | [] => true
  | d :: ds => plain d && plains ds
end
mutual
theorem dp_of : ∀ {d : D} {v : V}, plain d = true → Rep K A H d v → Dp K H v (py d)
  | .non, v, _, h => by simp only [Rep] at h; subst h; exact .non
  | .bl b, v, _, h => by simp only [Rep] at h; subst h; exact .bl b
  | .int i, v, _, h => by simp only [Rep] at h; subst h; exact .int i
  | .str s, v, _, h => by simp only [Rep] at h; subst h; exact .str s
  | .tup ds, v, p, h => by
    simp only [Rep] at h
    obtain ⟨a, vs, rfl, q, r⟩ := h
    simp only [py]
    exact .tup q (dps_of (by simpa only [plain] using p) r)
  | .lst ds, v, p, h => by
    simp only [Rep] at h
    obtain ⟨a, vs, rfl, q, r⟩ := h
    simp only [py]
    exact .lst (SqL.of q.1) (dps_of (by simpa only [plain] using p) r)
  | .seq ds, v, p, h => by
    simp only [Rep] at h
    obtain ⟨a, vs, rfl, q, r⟩ := h
    simp only [py]
    exact .lst q.sq (dps_of (by simpa only [plain] using p) r)
  | .obj _ _ _, v, p, h => by simp [plain] at p
  | .dic _ _, v, p, h => by simp [plain] at p
theorem dps_of : ∀ {ds : List D} {vs : List V}, plains ds = true → RepL K A H ds vs → DpAll K H vs (pys ds)
  | [], vs, _, h => by simp only [RepL] at h; subst h; exact .nil
  | d :: ds, vs, p, h => by
    simp only [RepL] at h
    obtain ⟨v, vs', rfl, r, rs⟩ := h
    simp only [plains, Bool.and_eq_true] at p
    simp only [pys]
    exact .cons (dp_of p.1 r) (dps_of p.2 rs)
end
theorem dp_ofR {d : D} {v : V} (p : plain d = true) (h : RepR K A H d v) : Dp K H v (py d) := by
  cases d with
  | lst ds =>
    obtain ⟨a, vs, rfl, q, r⟩ := h
    simp only [py]
    exact .lst (SqL.of q) (dps_of (by simpa only [plain] using p) r)
  | obj C fs ds => simp [plain] at p
  | dic ks vs => simp [plain] at p
  | _ => exact dp_of (A := A) p h
def eqD : D → D → Option Bool
  | .int i, .int j => some (decide (i = j))
  | .str i, .str j => some (decide (i = j))
  | .bl i, .bl j => some (decide (i = j))
  | d, e => if (plain d && plain e && SeqAt.shaped (py d) && SeqAt.shaped (py e)) = true then some (PyData.eqv (py d) (py e)) else none
def fEq (d e : D) : Option BR := (eqD d e).map fun b => .imm (.bl b)
def fNe (d e : D) : Option BR := (eqD d e).map fun b => .imm (.bl (!b))
theorem eqD_ok {d e : D} {b : Bool} (h : eqD d e = some b) {v u : V} (h1 : RepR K A H d v) (h2 : RepR K A H e u) : (scal v u = true ∧ b = decide (v = u)) ∨ (plain d = true ∧ plain e = true ∧ SeqAt.shaped (py d) = true ∧ SeqAt.shaped (py e) = true ∧ PyData.eqv (py d) (py e) = b) := by
  unfold eqD at h
  split at h
  · cases h
    rw [repR_int h1, repR_int h2]
    exact .inl ⟨rfl, by simp⟩
  · cases h
    rw [repR_str h1, repR_str h2]
    exact .inl ⟨rfl, by simp⟩
  · cases h
    rw [repR_bl h1, repR_bl h2]
    exact .inl ⟨rfl, by simp⟩
  · split at h
    · rename_i hc
      simp only [Bool.and_eq_true] at hc
      cases h
      exact .inr ⟨hc.1.1.1, hc.1.1.2, hc.1.2, hc.2, rfl⟩
    · cases h
theorem opB_eq : OpB K (fun x y H Q => rEqD K x y H Q ∨ rEq x y H Q) fEq := by
  intro A H d1 d2 v1 v2 b Q h1 h2 e q
  unfold fEq at e
  rw [Option.map_eq_some_iff] at e
  obtain ⟨bb, e, rfl⟩ := e
  rcases eqD_ok e h1 h2 with ⟨s, e⟩ | ⟨p1, p2, s1, s2, e⟩
  · exact .inr ⟨s, by rw [← e]; exact q _ (rep_bl _)⟩
  · exact .inl ⟨_, _, dp_ofR p1 h1, dp_ofR p2 h2, s1, s2, by rw [e]; exact q _ (rep_bl _)⟩
theorem opB_ne : OpB K (fun x y H Q => rNeD K x y H Q ∨ rNe x y H Q) fNe := by
  intro A H d1 d2 v1 v2 b Q h1 h2 e q
  unfold fNe at e
  rw [Option.map_eq_some_iff] at e
  obtain ⟨bb, e, rfl⟩ := e
  rcases eqD_ok e h1 h2 with ⟨s, e⟩ | ⟨p1, p2, s1, s2, e⟩
  · exact .inr ⟨s, by rw [← e]; exact q _ (rep_bl _)⟩
  · exact .inl ⟨_, _, dp_ofR p1 h1, dp_ofR p2 h2, s1, s2, by rw [e]; exact q _ (rep_bl _)⟩
theorem opR_eq (hu : X.A.units + 64 < cLine) : OpR X (compareOp .Eq) (fun x y H Q => rEqD X.K x y H Q ∨ rEq x y H Q) := OpR.or (op_eqD hu) op_eq
theorem opR_ne (hu : X.A.units + 64 < cLine) : OpR X (compareOp .NotEq) (fun x y H Q => rNeD X.K x y H Q ∨ rNe x y H Q) := OpR.or (op_neD hu) op_ne
def isNon : D → Bool
  | .non => true
  | _ => false
theorem isNon_v {d : D} {v : V} (h : RepR K A H d v) : decide (v = .non) = isNon d := by
  cases d with
  | non => rw [repR_non h]; rfl
  | bl b => rw [repR_bl h]; rfl
  | int b => rw [repR_int h]; rfl
  | str b => rw [repR_str h]; rfl
  | tup ds => obtain ⟨a, vs, rfl, _⟩ := repR_tup h; rfl
  | lst ds => obtain ⟨a, vs, rfl, _⟩ := repR_lst h; rfl
  | seq ds => obtain ⟨a, vs, rfl, _⟩ := repR_seq h; rfl
  | obj C fs ds =>
    obtain ⟨a, _, dx, vs, rfl, _⟩ := h
    rfl
  | dic ks vs =>
    obtain ⟨a, rfl, _⟩ := h
    rfl
def fIs (neg : Bool) : D → D → Option BR
  | d, .non => some (.imm (.bl (if neg then !isNon d else isNon d)))
  | _, _ => none
theorem opB_is : OpB K (fun x y H Q => y = .non ∧ Q (.bl (decide (x = .non))) H) (fIs false) := by
  intro A H d1 d2 v1 v2 b Q h1 h2 e q
  unfold fIs at e
  split at e
  · cases e
    exact ⟨repR_non h2, by rw [isNon_v h1]; exact q _ (rep_bl _)⟩
  · cases e
theorem opB_isnot : OpB K (fun x y H Q => y = .non ∧ Q (.bl (!decide (x = .non))) H) (fIs true) := by
  intro A H d1 d2 v1 v2 b Q h1 h2 e q
  unfold fIs at e
  split at e
  · cases e
    exact ⟨repR_non h2, by rw [isNon_v h1]; exact q _ (rep_bl _)⟩
  · cases e
/-! in -/
def flatD : D → Bool
  | .non => true
  | .bl _ => true
  | .int _ => true
  | .str _ => true
  | _ => false
def eqF : D → D → Bool
  | .non, .non => true
  | .bl a, .bl b => a == b
  | .bl a, .int b => (if a then 1 else 0) == b
  | .int a, .bl b => a == (if b then 1 else 0)
  | .int a, .int b => a == b
  | .str a, .str b => a == b
  | _, _ => false
theorem flat_v {d : D} {v : V} (f : flatD d = true) (h : RepR K A H d v) : flatV v = true ∧ ∀ e u, flatD e = true → RepR K A H e u → eqV u v = eqF e d := by
  cases d with
  | non => rw [repR_non h]; exact ⟨rfl, fun e u f' h' => by cases e with
    | non => rw [repR_non h']; rfl
    | bl b => rw [repR_bl h']; rfl
    | int b => rw [repR_int h']; rfl
    | str b => rw [repR_str h']; rfl
    | _ => simp [flatD] at f'⟩
  | bl b => rw [repR_bl h]; exact ⟨rfl, fun e u f' h' => by cases e with
    | non => rw [repR_non h']; rfl
    | bl b => rw [repR_bl h']; rfl
    | int b => rw [repR_int h']; rfl
    | str b => rw [repR_str h']; rfl
    | _ => simp [flatD] at f'⟩
  | int b => rw [repR_int h]; exact ⟨rfl, fun e u f' h' => by cases e with
    | non => rw [repR_non h']; rfl
    | bl b => rw [repR_bl h']; rfl
    | int b => rw [repR_int h']; rfl
    | str b => rw [repR_str h']; rfl
    | _ => simp [flatD] at f'⟩
  | str b => rw [repR_str h]; exact ⟨rfl, fun e u f' h' => by cases e with
    | non => rw [repR_non h']; rfl
    | bl b => rw [repR_bl h']; rfl
    | int b => rw [repR_int h']; rfl
    | str b => rw [repR_str h']; rfl
    | _ => simp [flatD] at f'⟩
  | _ => simp [flatD] at f
theorem inV_of {d : D} {v : V} (f : flatD d = true) (h : RepR K A H d v) : ∀ {ds : List D} {vs : List V}, ds.all flatD = true → RepL K A H ds vs → vs.all flatV = true ∧ inV v vs = ds.any fun e => eqF e d
  | [], vs, _, r => by simp only [RepL] at r; subst r; exact ⟨rfl, rfl⟩
  | e :: ds, vs, fs, r => by
    simp only [RepL] at r
    obtain ⟨u, vs', rfl, r, rs⟩ := r
    rw [List.all_cons, Bool.and_eq_true] at fs
    obtain ⟨i1, i2⟩ := inV_of f h fs.2 rs
    have z := (flat_v f h).2 e u fs.1 r.root
    have z2 := (flat_v fs.1 r.root).1
    refine ⟨by rw [List.all_cons, z2, i1]; rfl, ?_⟩
    unfold inV at i2 ⊢
    rw [List.any_cons, List.any_cons, z, i2]
def inD (d : D) : D → Option Bool
  | .lst ds => if flatD d = true ∧ ds.all flatD = true then some (ds.any fun e => eqF e d) else none
  | .tup ds => if flatD d = true ∧ ds.all flatD = true then some (ds.any fun e => eqF e d) else none
  | .seq ds => if flatD d = true ∧ ds.all flatD = true then some (ds.any fun e => eqF e d) else none
  | _ => none
def fIn (neg : Bool) (d e : D) : Option BR := (inD d e).map fun b => .imm (.bl (if neg then !b else b))
theorem opB_in {neg : Bool} : OpB K (rIn K neg) (fIn neg) := by
  intro A H d1 d2 v1 v2 b Q h1 h2 e q
  unfold fIn at e
  rw [Option.map_eq_some_iff] at e
  obtain ⟨bb, e, rfl⟩ := e
  unfold inD at e
  split at e
  · split at e
    · rename_i ds hc
      cases e
      obtain ⟨p, vs, e1, e2, r⟩ := repR_lst h2
      obtain ⟨i1, i2⟩ := inV_of hc.1 h1 hc.2 r
      exact ⟨p, vs, e1, .inl (SqL.of e2), (flat_v hc.1 h1).1, i1, by rw [i2]; exact q _ (rep_bl _)⟩
    · cases e
  · split at e
    · rename_i ds hc
      cases e
      obtain ⟨p, vs, e1, e2, r⟩ := repR_tup h2
      obtain ⟨i1, i2⟩ := inV_of hc.1 h1 hc.2 r
      exact ⟨p, vs, e1, .inr e2, (flat_v hc.1 h1).1, i1, by rw [i2]; exact q _ (rep_bl _)⟩
    · cases e
  · split at e
    · rename_i ds hc
      cases e
      obtain ⟨p, vs, e1, e2, r⟩ := repR_seq h2
      obtain ⟨i1, i2⟩ := inV_of hc.1 h1 hc.2 r
      exact ⟨p, vs, e1, .inl e2.sq, (flat_v hc.1 h1).1, i1, by rw [i2]; exact q _ (rep_bl _)⟩
    · cases e
  · cases e
end
end DL

set_option Elab.async false
set_option linter.all false
set_option maxRecDepth 100000
/-! The data layer: calls. -/
namespace DL
open PySem PySem.Spec PyProof.Rows L2

/-! ### argument lists -/
def mNil : M (List SV) := ret []
def mCons (m : M SV) (ms : M (List SV)) : M (List SV) := m.bnd fun s => ms.bnd fun ss => ret (s :: ss)
section
variable {c : Fc} {W : WX} {X : Cx} {σ : L2.St} {ρ : List SV} {ts : Ts} {H H' : Hp} {sv : SV} {d : D} {ds : List D} {v : V} {vs : List V} {p : Addr} {i : Nat}
theorem pd_nil : PA X [] (tDA c W mNil) := pa_imp pa_nil fun σ H Q ⟨ρ, ts, r, q⟩ => q [] H rfl r
theorem pd_cons {e : Expr} {es : List Expr} {m : M SV} {ms : M (List SV)} (ha : PE X e (tDE c W m)) (hr : PA X es (tDA c W ms)) (hs : starEach (e :: es) X.env = (false, eval e X.env) :: starEach es X.env := by rfl) : PA X (e :: es) (tDA c W (mCons m ms)) := by
  refine pa_imp (pa_cons ha hr hs) fun σ H Q ⟨ρ, ts, r, q⟩ => ?_
  refine ⟨ρ, ts, r, ?_⟩
  unfold mCons at q
  cases e1 : m ρ with
  | none => rw [bnd_none e1] at q; exact q.elim
  | some x =>
    cases x with
    | er x ρ' => rw [bnd_er e1] at q; exact q
    | ok s ρ1 =>
      rw [bnd_some e1] at q
      intro v H1 r1
      refine ⟨ρ1, (s, v) :: ts, r1, ?_⟩
      cases e2 : ms ρ1 with
      | none => rw [bnd_none e2] at q; exact q.elim
      | some x =>
        cases x with
        | er x ρ' => rw [bnd_er e2] at q; exact fun cls od H' r' z => q cls od H' r'.pop (z.less avr_sub)
        | ok ss ρ2 =>
          rw [bnd_some e2] at q
          intro vs H2 hl r2
          exact q (v :: vs) H2 (by simp [hl]) (r2.perm List.perm_middle)
/-- what an argument list's reading hands on -/
theorem bindA {α : Type} {m : M (List SV)} {f : List SV → M SV} {Q : VK} (r : R c σ ρ ts H) (h : PostE c W σ ts Q ((m.bnd f) ρ)) {Q' : List V → Hp → Prop} (k : ∀ svs vs ρ' H', svs.length = vs.length → R c σ ρ' (svs.zip vs ++ ts) H' → PostE c W σ ts Q (f svs ρ') → Q' vs H') : tDA c W m σ H Q' := by
  refine ⟨ρ, ts, r, ?_⟩
  cases e : m ρ with
  | none => rw [bnd_none e] at h; exact h
  | some x =>
    cases x with
    | er x ρ' => rw [bnd_er e] at h; exact h
    | ok svs ρ' => rw [bnd_some e] at h; exact fun vs H' hl r' => k svs vs ρ' H' hl r' h
/-! ### built-ins by name -/
def mCallB (f : List D → Option BR) (ma : M (List SV)) : M SV := ma.bnd fun svs => liftN f svs
theorem readB {r : List V → Hp → VK → Prop} {f : List D → Option BR} (hs : CallB c.K r f) {ma : M (List SV)} {Q : VK} (h : tDE c W (mCallB f ma) σ H Q) : tCB r (tDA c W ma) σ H Q := by
  obtain ⟨ρ, ts, R1, q⟩ := h
  refine bindA (α := Unit) R1 q fun svs vs ρ1 H1 hl R2 q1 => ?_
  unfold liftN at q1
  cases e : cons ρ1 svs with
  | none => rw [e] at q1; exact q1.elim
  | some ds =>
    rw [e] at q1
    simp only at q1
    cases e3 : f ds with
    | none => rw [e3] at q1; exact q1.elim
    | some b =>
      rw [e3] at q1
      exact hs _ H1 ds vs b Q (r_cons R2 (fun t ht => List.mem_append_left _ ht) hl e) e3 (fin_br R2 q1)
variable {e : Expr} {es : List Expr} {ma : M (List SV)} {x : Str} {p' pos : Pos} {id : String} {r : List V → Hp → VK → Prop} {f : List D → Option BR}
theorem pd_bi (hc : CallR X (.builtin id) r) (hs : CallB c.K r f) (hg : Gl X x) (hm : X.mg x = none) (hv : bootBuiltins x = some (.builtin id)) (ha : PA X (e :: es) (tDA c W ma))
    (h : PE X (.Call (.Name x p') (e :: es) [] pos) (tCB r (tDA c W ma))) : PE X (.Call (.Name x p') (e :: es) [] pos) (tDE c W (mCallB f ma)) :=
  pe_imp h fun σ H Q z => readB hs z

/-! ### a row of places handed to a callee -/
theorem own_append {P P' : Pl} : Own (P ++ P') = Own P ++ Own P' := List.filterMap_append
def c0 (c : Fc) (Pa rest : Pl) (H : Hp) : Fc := { K := c.K, T := fun a => c.T a ∨ a ∈ Own rest, H0 := H, W := fun a => a ∈ Own Pa, cv := fun _ => false, pin := fun _ => none }
def NoLocP (P : Pl) : Prop := ∀ i o, (SV.loc i, o) ∉ P
theorem G.enter {Pa rest : Pl} (g : G c σ (Pa ++ rest) H) (n : NoLocP Pa) : G (c0 c Pa rest H) [] Pa H := by
  have ea : ∀ a, Av (c0 c Pa rest H) Pa a → Av c (Pa ++ rest) a := fun a h => by
    unfold Av
    rw [own_append, List.mem_append]
    rcases h with (h | h) | h
    · exact .inl h
    · exact .inr (.inr h)
    · exact .inr (.inl h)
  have nd := g.nd
  rw [own_append, List.nodup_append] at nd
  refine ⟨fun x hx => ?_, nd.1, fun a o h _ => h, fun a h => .inl h, fun a h => ⟨g.hold (ea a (.inl h)), fun w => ?_⟩, fun i v e => by cases e⟩
  · have q := g.rs x (List.mem_append_left _ hx)
    obtain ⟨sv, ov⟩ := x
    cases sv with
    | un => trivial
    | fz d => obtain ⟨v, e, q⟩ := q; exact ⟨v, e, q.less fun a y => .inl (ea a y)⟩
    | own d =>
      obtain ⟨p, e, q⟩ := q
      refine ⟨p, e, ?_⟩
      cases d <;> simp only [RepO] at q ⊢
      obtain ⟨vs, e, q⟩ := q
      exact ⟨vs, e, q.less fun a y => .inl (ea a y)⟩
    | box d =>
      obtain ⟨p, e, q⟩ := q
      exact ⟨p, e, q.mono (fun _ z => z) (fun _ _ z => z) fun ds vs z => z.less fun a y => .inl (ea a y)⟩
    | loc i => exact absurd hx (n i ov)
  · rcases h with h | h
    · obtain ⟨h1, h2⟩ := g.tt a h
      rcases g.new a (by rw [own_append]; exact List.mem_append_left _ w) with z | z
      · exact h2 z
      · exact h1 z
    · exact nd.2.2 a w a h rfl
theorem G.leave {Pa Po rest : Pl} (g : G c σ (Pa ++ rest) H) (g' : G (c0 c Pa rest H) [] Po H') : G c σ (Po ++ rest) H' := by
  have nd := g.nd
  rw [own_append, List.nodup_append] at nd
  have hw : ∀ a o, H a = some o → a ∉ Own Pa → H' a = some o := fun a o h w => g'.fr a o h w
  have ea : ∀ a, Av c (Po ++ rest) a → Av (c0 c Pa rest H) Po a := fun a h => by
    unfold Av at h
    rw [own_append, List.mem_append] at h
    rcases h with h | h | h
    · exact .inl (.inl h)
    · exact .inr h
    · exact .inl (.inr h)
  have up : ∀ a, Av c (Po ++ rest) a → Av c (Pa ++ rest) a ∨ H a = none := fun a h => by
    unfold Av
    rw [own_append, List.mem_append]
    unfold Av at h
    rw [own_append, List.mem_append] at h
    rcases h with h | h | h
    · exact .inl (.inl h)
    · rcases g'.new a h with z | z
      · exact .inl (.inr (.inl z))
      · exact .inr z
    · exact .inl (.inr (.inr h))
  have inPa : ∀ a, a ∈ Own Pa → Av c (Pa ++ rest) a := fun a h => .inr (by rw [own_append]; exact List.mem_append_left _ h)
  have isL : ∀ a, a ∈ Own Pa → ∃ o, H a = some o ∧ (∀ vs, o ≠ .tup vs) ∧ ∀ u v, o ≠ .frz u v := fun a h => by
    obtain ⟨⟨sv, ov⟩, hx, e⟩ := List.mem_filterMap.mp h
    have r := g.rs _ (List.mem_append_left _ hx)
    cases sv with
    | own d =>
      obtain ⟨p, e2, r⟩ := r
      simp only at e2
      subst e2
      simp only [ownA, Option.some.injEq] at e
      subst e
      cases d <;> simp only [RepO] at r
      obtain ⟨vs, e, _⟩ := r
      exact ⟨_, e, (fun _ z => nomatch z), (fun _ _ z => nomatch z)⟩
    | box d =>
      obtain ⟨p, e2, r⟩ := r
      simp only at e2
      subst e2
      simp only [ownA, Option.some.injEq] at e
      subst e
      obtain ⟨o, e, hb⟩ := r.boxy
      exact ⟨o, e, hb.1, hb.2.1⟩
    | _ => simp [ownA] at e
  have sT : ∀ a vs, SqT c.K H a vs → SqT c.K H' a vs := fun a vs q => by
    refine Or.imp (fun z => ?_) id q
    rcases z with z | ⟨u, z⟩
    · exact .inl (hw _ _ z fun w => by obtain ⟨o, e, h1, _⟩ := isL a w; rw [z] at e; cases e; exact h1 _ rfl)
    · exact .inr ⟨u, hw _ _ z fun w => by obtain ⟨o, e, _, h1⟩ := isL a w; rw [z] at e; cases e; exact h1 _ _ rfl⟩
  have sF : ∀ a vs, FrzL c.K H a vs → FrzL c.K H' a vs := fun a vs q => by
    refine Or.imp (fun ⟨u, z⟩ => ?_) id q
    exact ⟨u, hw _ _ z fun w => by obtain ⟨o, e, _, h1⟩ := isL a w; rw [z] at e; cases e; exact h1 _ _ rfl⟩
  have na : ∀ a o, H a = some o → ¬ Av c (Pa ++ rest) a → ¬ Av c (Po ++ rest) a := fun a o h n y => (up a y).elim n fun z => by rw [h] at z; cases z
  have mR : ∀ {d : D} {v : V}, Rep c.K (Av c (Pa ++ rest)) H d v → Rep c.K (Av c (Po ++ rest)) H' d v := fun q =>
    Rep.mono sT (fun a vs q => ⟨hw _ _ q.1 fun w => q.2 (inPa a w), na a _ q.1 q.2⟩) sF (fun a C dx fs q n => ⟨hw _ _ q fun w => n (inPa a w), na a _ q n⟩) q
  have mL : ∀ {ds : List D} {vs : List V}, RepL c.K (Av c (Pa ++ rest)) H ds vs → RepL c.K (Av c (Po ++ rest)) H' ds vs := fun q =>
    RepL.mono sT (fun a vs q => ⟨hw _ _ q.1 fun w => q.2 (inPa a w), na a _ q.1 q.2⟩) sF (fun a C dx fs q n => ⟨hw _ _ q fun w => n (inPa a w), na a _ q n⟩) q
  refine ⟨fun x hx => ?_, ?_, fun a o h w => hw a o (g.fr a o h w) fun z => ?_, fun a h => ?_, g.tt, g.pn⟩
  · rcases List.mem_append.mp hx with hx | hx
    · have q := g'.rs x hx
      obtain ⟨sv, ov⟩ := x
      cases sv with
      | un => trivial
      | fz d => obtain ⟨v, e, q⟩ := q; exact ⟨v, e, q.less fun a y => .inl (ea a y)⟩
      | own d =>
        obtain ⟨p, e, q⟩ := q
        refine ⟨p, e, ?_⟩
        cases d <;> simp only [RepO] at q ⊢
        obtain ⟨vs, e, q⟩ := q
        exact ⟨vs, e, q.less fun a y => .inl (ea a y)⟩
      | box d =>
        obtain ⟨p, e, q⟩ := q
        exact ⟨p, e, q.mono (fun _ z => z) (fun _ _ z => z) fun ds vs z => z.less fun a y => .inl (ea a y)⟩
      | loc i =>
        obtain ⟨_, v, _, e⟩ := q
        simp at e
    · have q := g.rs x (List.mem_append_right _ hx)
      obtain ⟨sv, ov⟩ := x
      cases sv with
      | un => trivial
      | fz d => obtain ⟨v, e, q⟩ := q; exact ⟨v, e, mR q⟩
      | own d =>
        obtain ⟨p, e, q⟩ := q
        refine ⟨p, e, ?_⟩
        have hp : p ∈ Own rest := List.mem_filterMap.mpr ⟨_, hx, by simp only at e; subst e; rfl⟩
        cases d <;> simp only [RepO] at q ⊢
        obtain ⟨vs, e, q⟩ := q
        exact ⟨vs, hw _ _ e fun w => nd.2.2 p w p hp rfl, mL q⟩
      | box d =>
        obtain ⟨p, e, q⟩ := q
        have hp : p ∈ Own rest := List.mem_filterMap.mpr ⟨_, hx, by simp only at e; subst e; rfl⟩
        exact ⟨p, e, q.mono (fun o z => hw _ _ z fun w => nd.2.2 p w p hp rfl) sT fun ds vs z => mL z⟩
      | loc i => exact q
  · rw [own_append, List.nodup_append]
    refine ⟨g'.nd, nd.2.1, fun a ha b hb e => ?_⟩
    subst e
    rcases g'.new a ha with z | z
    · exact nd.2.2 a z a hb rfl
    · exact g.hold (a := a) (.inr (by rw [own_append]; exact List.mem_append_right _ hb)) z
  · rcases g.new a (by rw [own_append]; exact List.mem_append_left _ z) with y | y
    · exact w y
    · rw [y] at h; cases h
  · rw [own_append, List.mem_append] at h
    rcases h with h | h
    · rcases g'.new a h with z | z
      · exact g.new a (by rw [own_append]; exact List.mem_append_left _ z)
      · by_cases w : c.W a
        · exact .inl w
        · refine .inr ?_
          cases e : c.H0 a with
          | none => rfl
          | some o =>
            have z' : H a = none := z
            rw [g.fr a o e w] at z'; cases z'
    · exact g.new a (by rw [own_append]; exact List.mem_append_right _ h)

/-! ### what a def promises over data -/
inductive FRes where
  | ok (rv : SV) (outs : List SV)
  | er (e : Ex) (outs : List SV)
abbrev Fn := List SV → Option FRes
def asP (as : List SV) (vs : List V) : Pl := tsP (as.zip vs)
/-- T: what others own; W: the arguments that are handed over to be changed -/
def spD (K : PySem.W.Frag) (n : Nat) (g : Fn) : Sp := fun vs H Q E => ∃ (T : Addr → Prop) (as : List SV), as.length = n ∧ vs.length = n ∧
  let c : Fc := { K := K, T := T, H0 := H, W := fun a => a ∈ Own (asP as vs), cv := fun _ => false, pin := fun _ => none }
  G c [] (asP as vs) H ∧ match g as with
    | some (.ok rv outs) => ∀ v H', G c [] ((rv, some v) :: asP outs vs) H' → Q v H'
    | some (.er e outs) => ∀ cls od H', G c [] (asP outs vs) H' → ExRep K (Av c (asP outs vs)) H' e cls od → E cls od H'
    | none => False
structure CalD (P : Program) (w : World) (K : PySem.W.Frag) (mg : Str → Option Value) (base : Heap) (CX : CXT) (k : Nat) (x : Str) (n : Nat) (g : Fn) : Prop where
  ex : ∃ (f : Addr) (fd : FuncData) (ps : List Str), FnOk P w K mg base CX k f fd ps (spD K n g) ∧ mg x = some (.ref f) ∧ PySem.W.keepIn K (.ref f) = true ∧ Binds K fd ps []
theorem CalD.mono {P : Program} {w : World} {K : PySem.W.Frag} {mg : Str → Option Value} {base : Heap} {CX : CXT} {j k : Nat} {x : Str} {n : Nat} {g : Fn} (h : CalD P w K mg base CX j x n g) (hj : j ≤ k) : CalD P w K mg base CX k x n g := by
  obtain ⟨f, fd, ps, F, a, b, d⟩ := h.ex
  exact ⟨f, fd, ps, F.mono hj, a, b, d⟩
/-- arguments made ready -/
def prep1 (b : Bool) : SV → M SV
  | .fz d => ret (.fz d)
  | .own d => if b then ret (.own d) else ret (.fz d)
  | .loc i => fun ρ => match ρ[i]? with
    | some (.own d) => if b then some (.ok (.own d) (ρ.set i .un)) else some (.ok (.fz d) (ρ.set i (.fz d)))
    | some (.fz d) => if b then none else some (.ok (.fz d) ρ)
    | some (.box d) => if b then some (.ok (.box d) (ρ.set i .un)) else none
    | _ => none
  | .box d => if b then ret (.box d) else fun _ => none
  | .un => fun _ => none
def prep : List Bool → List SV → M (List SV)
  | b :: bs, s :: ss => (prep1 b s).bnd fun a => (prep bs ss).bnd fun as => ret (a :: as)
  | [], [] => ret []
  | _, _ => fun _ => none
/-- .. and given back -/
def give : List Bool → List SV → List SV → List SV → Option (List SV)
  | b :: bs, s :: ss, o :: os, ρ => match b, s, o with
    | true, .loc i, .own d => match ρ[i]? with
      | some .un => (give bs ss os (ρ.set i (.own d)))
      | _ => none
    | true, .loc i, .box d => match ρ[i]? with
      | some .un => (give bs ss os (ρ.set i (.box d)))
      | _ => none
    | true, .loc _, _ => none
    | _, _, _ => give bs ss os ρ
  | [], [], [], ρ => some ρ
  | _, _, _, _ => none
def mCallT (io : List Bool) (g : Fn) (svs : List SV) : M SV := (prep io svs).bnd fun as => fun ρ => match g as with
  | some (.ok rv outs) => match rv with
    | .fz d => (give io svs outs ρ).map (.ok (.fz d))
    | .own d => (give io svs outs ρ).map (.ok (.own d))
    | .box d => (give io svs outs ρ).map (.ok (.box d))
    | _ => none
  | some (.er e outs) => (give io svs outs ρ).map (.er e)
  | none => none
def mCall (io : List Bool) (g : Fn) (ma : M (List SV)) : M SV := ma.bnd fun svs => mCallT io g svs
theorem R.take (r : R c σ ρ ((.loc i, v) :: ts) H) (h : ρ[i]? = some (.own d)) : R c σ (ρ.set i .un) ((.own d, v) :: ts) H := by
  have hv := r.loc_at
  obtain ⟨ov, e1, g, k⟩ := r.pop.at h
  rw [hv] at e1; cases e1
  have := k .un (some v) σ H (fun j z => by cases z) g.drop.push_un (set_same hv).symm
  refine ⟨this.len, this.nl, ?_⟩
  show G c σ ((SV.own d, some v) :: (tsP ts ++ (ρ.set i .un).zip σ)) H
  have e3 : (ρ.set i .un).zip σ = (ρ.zip σ).set i (.un, some v) := by
    conv => lhs; rw [← set_same (l := σ) hv]
    exact zip_set _ _
  obtain ⟨ov', e4, e5⟩ := zip_get r.len h
  rw [hv] at e4; cases e4
  have hl : i < (ρ.zip σ).length := (List.getElem?_eq_some_iff.mp e5).1
  rw [e3]
  refine G.perm (P := (SV.un, some v) :: (SV.own d, some v) :: (tsP ts ++ (ρ.zip σ).eraseIdx i)) g.push_un ?_
  refine (List.Perm.swap _ _ _).trans (List.Perm.cons _ ?_)
  exact (List.perm_middle.symm).trans (List.Perm.append_left _ (perm_set hl).symm)
theorem R.takeX (r : R c σ ρ ((.loc i, v) :: ts) H) (h : ρ[i]? = some (.box d)) : R c σ (ρ.set i .un) ((.box d, v) :: ts) H := by
  have hv := r.loc_at
  obtain ⟨ov, e1, g, k⟩ := r.pop.at h
  rw [hv] at e1; cases e1
  have := k .un (some v) σ H (fun j z => by cases z) g.drop.push_un (set_same hv).symm
  refine ⟨this.len, this.nl, ?_⟩
  show G c σ ((SV.box d, some v) :: (tsP ts ++ (ρ.set i .un).zip σ)) H
  have e3 : (ρ.set i .un).zip σ = (ρ.zip σ).set i (.un, some v) := by
    conv => lhs; rw [← set_same (l := σ) hv]
    exact zip_set _ _
  obtain ⟨ov', e4, e5⟩ := zip_get r.len h
  rw [hv] at e4; cases e4
  have hl : i < (ρ.zip σ).length := (List.getElem?_eq_some_iff.mp e5).1
  rw [e3]
  refine G.perm (P := (SV.un, some v) :: (SV.box d, some v) :: (tsP ts ++ (ρ.zip σ).eraseIdx i)) g.push_un ?_
  refine (List.Perm.swap _ _ _).trans (List.Perm.cons _ ?_)
  exact (List.perm_middle.symm).trans (List.Perm.append_left _ (perm_set hl).symm)
theorem R.giveBack (r : R c σ ρ ((sv, v) :: ts) H) (n : ∀ j, sv ≠ .loc j) (hv : σ[i]? = some (some v)) {s0 : SV} (h : ρ[i]? = some s0) : R c σ (ρ.set i sv) ts H := by
  obtain ⟨ov, e1, g, k⟩ := r.pop.at h
  rw [hv] at e1; cases e1
  refine k sv (some v) σ H n ?_ (set_same hv).symm
  obtain ⟨ov', e4, g2, _⟩ := r.at h
  exact G.drop (g2)
theorem r_prep1 {b : Bool} {a : SV} {ρ' : List SV} (r : R c σ ρ ((sv, v) :: ts) H) (h : prep1 b sv ρ = some (.ok a ρ')) : R c σ ρ' ((a, v) :: ts) H ∧ (∀ j, a ≠ .loc j) := by
  cases sv with
  | un => simp [prep1] at h
  | fz d => simp only [prep1, ret, Option.some.injEq, Res.ok.injEq] at h; obtain ⟨rfl, rfl⟩ := h; exact ⟨r, fun j z => by cases z⟩
  | own d =>
    simp only [prep1] at h
    split at h
    · simp only [ret, Option.some.injEq, Res.ok.injEq] at h; obtain ⟨rfl, rfl⟩ := h; exact ⟨r, fun j z => by cases z⟩
    · simp only [ret, Option.some.injEq, Res.ok.injEq] at h; obtain ⟨rfl, rfl⟩ := h; exact ⟨r.freeze, fun j z => by cases z⟩
  | box d =>
    simp only [prep1] at h
    split at h
    · simp only [ret, Option.some.injEq, Res.ok.injEq] at h; obtain ⟨rfl, rfl⟩ := h; exact ⟨r, fun j z => by cases z⟩
    · cases h
  | loc i =>
    simp only [prep1] at h
    split at h
    · rename_i d e
      split at h
      · simp only [Option.some.injEq, Res.ok.injEq] at h; obtain ⟨rfl, rfl⟩ := h
        exact ⟨r.take e, fun j z => by cases z⟩
      · simp only [Option.some.injEq, Res.ok.injEq] at h; obtain ⟨rfl, rfl⟩ := h
        have hl : i < ρ.length := (List.getElem?_eq_some_iff.mp e).1
        exact ⟨(r.demote e).loc_fz (by simp [hl]), fun j z => by cases z⟩
    · rename_i d e
      split at h
      · cases h
      · simp only [Option.some.injEq, Res.ok.injEq] at h; obtain ⟨rfl, rfl⟩ := h
        exact ⟨r.loc_fz e, fun j z => by cases z⟩
    · rename_i d e
      split at h
      · simp only [Option.some.injEq, Res.ok.injEq] at h; obtain ⟨rfl, rfl⟩ := h
        exact ⟨r.takeX e, fun j z => by cases z⟩
      · cases h
    · cases h
theorem prep1_er {b : Bool} {x : Ex} {ρ' : List SV} : prep1 b sv ρ ≠ some (.er x ρ') := by
  cases sv with
  | un => simp [prep1]
  | fz d => simp [prep1, ret]
  | own d => simp only [prep1]; split <;> simp [ret]
  | box d => simp only [prep1]; split <;> simp [ret]
  | loc i => simp only [prep1]; split <;> (try split) <;> simp
theorem r_prep : ∀ {bs : List Bool} {svs as : List SV} {vs : List V} {ρ ρ' : List SV} {ts : Ts}, R c σ ρ (svs.zip vs ++ ts) H → svs.length = vs.length → prep bs svs ρ = some (.ok as ρ') → R c σ ρ' (as.zip vs ++ ts) H ∧ as.length = vs.length ∧ NoLocP (asP as vs)
  | [], [], as, vs, ρ, ρ', ts, r, hl, h => by
    simp only [prep, ret, Option.some.injEq, Res.ok.injEq] at h
    obtain ⟨rfl, rfl⟩ := h
    exact ⟨r, hl, fun i o z => by simp [asP, tsP] at z⟩
  | b :: bs, s :: ss, as, vs, ρ, ρ', ts, r, hl, h => by
    cases vs with
    | nil => cases hl
    | cons v vs =>
    simp only [prep] at h
    cases e1 : prep1 b s ρ with
    | none => rw [bnd_none e1] at h; cases h
    | some x =>
      cases x with
      | er x _ => exact absurd e1 prep1_er
      | ok a ρ1 =>
        rw [bnd_some e1] at h
        cases e2 : prep bs ss ρ1 with
        | none => rw [bnd_none e2] at h; cases h
        | some x =>
          cases x with
          | er x _ => rw [bnd_er e2] at h; cases h
          | ok as1 ρ2 =>
            rw [bnd_some e2] at h
            simp only [ret, Option.some.injEq, Res.ok.injEq] at h
            obtain ⟨rfl, rfl⟩ := h
            obtain ⟨r1, n1⟩ := r_prep1 (ts := ss.zip vs ++ ts) r e1
            obtain ⟨r3, l3, n3⟩ := r_prep (r1.perm List.perm_middle.symm) (by simpa using hl) e2
            refine ⟨r3.perm List.perm_middle, by simp [l3], fun i o z => ?_⟩
            rcases List.mem_cons.mp z with z | z
            · cases z
              exact n1 i rfl
            · exact n3 i o z
  | [], _ :: _, as, vs, ρ, ρ', ts, r, hl, h => by simp [prep] at h
  | _ :: _, [], as, vs, ρ, ρ', ts, r, hl, h => by simp [prep] at h
theorem prep_er : ∀ {bs : List Bool} {svs : List SV} {ρ ρ' : List SV} {x : Ex}, prep bs svs ρ ≠ some (.er x ρ')
  | [], [], ρ, ρ', x => by simp [prep, ret]
  | b :: bs, s :: ss, ρ, ρ', x => by
    simp only [prep]
    cases e1 : prep1 b s ρ with
    | none => rw [bnd_none e1]; simp
    | some y =>
      cases y with
      | er y _ => exact absurd e1 prep1_er
      | ok a ρ1 =>
        rw [bnd_some e1]
        cases e2 : prep bs ss ρ1 with
        | none => rw [bnd_none e2]; simp
        | some y =>
          cases y with
          | er y _ => exact absurd e2 prep_er
          | ok as1 ρ2 => rw [bnd_some e2]; simp [ret]
  | [], _ :: _, ρ, ρ', x => by simp [prep]
  | _ :: _, [], ρ, ρ', x => by simp [prep]
theorem give_len : ∀ {bs : List Bool} {svs os : List SV} {ρ ρ' : List SV}, give bs svs os ρ = some ρ' → os.length = bs.length
  | [], [], [], ρ, ρ', h => rfl
  | b :: bs, s :: ss, o :: os, ρ, ρ', h => by
    simp only [give] at h
    split at h
    · split at h
      · simpa using give_len h
      · cases h
    · split at h
      · simpa using give_len h
      · cases h
    · cases h
    · simpa using give_len h
  | [], _ :: _, _, ρ, ρ', h => by simp [give] at h
  | [], [], _ :: _, ρ, ρ', h => by simp [give] at h
  | _ :: _, [], _, ρ, ρ', h => by simp [give] at h
  | _ :: _, _ :: _, [], ρ, ρ', h => by simp [give] at h
theorem avr_give (hl : ρ.length = σ.length) (hv : σ[i]? = some (some v)) {s0 : SV} (h : ρ[i]? = some s0) : ∀ a, Avr c σ (ρ.set i sv) ts a → Avr c σ ρ ((sv, v) :: ts) a := fun a z => by
  have e3 : (ρ.set i sv).zip σ = (ρ.zip σ).set i (sv, some v) := by
    conv => lhs; rw [← set_same (l := σ) hv]
    exact zip_set _ _
  obtain ⟨ov', e4, e5⟩ := zip_get hl h
  have hlz : i < (ρ.zip σ).length := (List.getElem?_eq_some_iff.mp e5).1
  refine z.imp id fun m => ?_
  rw [e3] at m
  have pm : (tsP ts ++ (ρ.zip σ).set i (sv, some v)).Perm ((sv, some v) :: (tsP ts ++ (ρ.zip σ).eraseIdx i)) := (List.Perm.append_left _ (perm_set hlz)).trans List.perm_middle
  have m2 := (own_perm pm).mem_iff.mp m
  have sl : ((sv, some v) :: (tsP ts ++ (ρ.zip σ).eraseIdx i)).Sublist ((sv, some v) :: (tsP ts ++ ρ.zip σ)) := List.Sublist.cons_cons _ (List.Sublist.append_left (List.eraseIdx_sublist _ _) _)
  exact (sl.filterMap ownA).subset m2
/-- slots that the callee had come back; hv: the values are the slots' -/
theorem r_give : ∀ {bs : List Bool} {svs os : List SV} {vs : List V} {ρ ρ' : List SV} {ts : Ts}, R c σ ρ (os.zip vs ++ ts) H → svs.length = vs.length → os.length = vs.length → (∀ i v, (SV.loc i, v) ∈ svs.zip vs → σ[i]? = some (some v)) → give bs svs os ρ = some ρ' → R c σ ρ' ts H ∧ ∀ a, Avr c σ ρ' ts a → Avr c σ ρ (os.zip vs ++ ts) a
  | [], [], [], vs, ρ, ρ', ts, r, hl, ho, hv, h => by
    simp only [give, Option.some.injEq] at h
    subst h
    cases vs with
    | nil => exact ⟨r, fun a z => z⟩
    | cons _ _ => cases hl
  | b :: bs, s :: ss, o :: os, vs, ρ, ρ', ts, r, hl, ho, hv, h => by
    cases vs with
    | nil => cases hl
    | cons v vs =>
    have hv' : ∀ i u, (SV.loc i, u) ∈ ss.zip vs → σ[i]? = some (some u) := fun i u z => hv i u (List.mem_cons_of_mem _ z)
    have l1 : ss.length = vs.length := by simpa using hl
    have l2 : os.length = vs.length := by simpa using ho
    simp only [give] at h
    split at h
    · rename_i i d
      split at h
      · rename_i e
        have r1 : R c σ (ρ.set i (.own d)) (os.zip vs ++ ts) H := R.giveBack (sv := .own d) (v := v) r (fun j z => by cases z) (hv i v List.mem_cons_self) e
        obtain ⟨r2, y⟩ := r_give r1 l1 l2 hv' h
        exact ⟨r2, fun a z => avr_give (ts := os.zip vs ++ ts) r.len (hv i v List.mem_cons_self) e a (y a z)⟩
      · cases h
    · rename_i i d
      split at h
      · rename_i e
        have r1 : R c σ (ρ.set i (.box d)) (os.zip vs ++ ts) H := R.giveBack (sv := .box d) (v := v) r (fun j z => by cases z) (hv i v List.mem_cons_self) e
        obtain ⟨r2, y⟩ := r_give r1 l1 l2 hv' h
        exact ⟨r2, fun a z => avr_give (ts := os.zip vs ++ ts) r.len (hv i v List.mem_cons_self) e a (y a z)⟩
      · cases h
    · cases h
    · obtain ⟨r2, y⟩ := r_give (R.pop (t := (o, v)) r) l1 l2 hv' h
      exact ⟨r2, fun a z => avr_sub (t := (o, v)) a (y a z)⟩
  | [], _ :: _, _, vs, ρ, ρ', ts, r, hl, ho, hv, h => by simp [give] at h
  | [], [], _ :: _, vs, ρ, ρ', ts, r, hl, ho, hv, h => by simp [give] at h
  | _ :: _, [], _, vs, ρ, ρ', ts, r, hl, ho, hv, h => by simp [give] at h
  | _ :: _, _ :: _, [], vs, ρ, ρ', ts, r, hl, ho, hv, h => by simp [give] at h
theorem tsP_append {a b : Ts} : tsP (a ++ b) = tsP a ++ tsP b := List.map_append
theorem prep_len : ∀ {bs : List Bool} {svs as : List SV} {ρ ρ' : List SV}, prep bs svs ρ = some (.ok as ρ') → as.length = svs.length ∧ bs.length = svs.length
  | [], [], as, ρ, ρ', h => by simp only [prep, ret, Option.some.injEq, Res.ok.injEq] at h; obtain ⟨rfl, _⟩ := h; exact ⟨rfl, rfl⟩
  | b :: bs, s :: ss, as, ρ, ρ', h => by
    simp only [prep] at h
    cases e1 : prep1 b s ρ with
    | none => rw [bnd_none e1] at h; cases h
    | some x =>
      cases x with
      | er x _ => exact absurd e1 prep1_er
      | ok a ρ1 =>
        rw [bnd_some e1] at h
        cases e2 : prep bs ss ρ1 with
        | none => rw [bnd_none e2] at h; cases h
        | some x =>
          cases x with
          | er x _ => rw [bnd_er e2] at h; cases h
          | ok as1 ρ2 =>
            rw [bnd_some e2] at h
            simp only [ret, Option.some.injEq, Res.ok.injEq] at h
            obtain ⟨rfl, rfl⟩ := h
            obtain ⟨a, b⟩ := prep_len e2
            exact ⟨by simp [a], by simp [b]⟩
  | [], _ :: _, as, ρ, ρ', h => by simp [prep] at h
  | _ :: _, [], as, ρ, ρ', h => by simp [prep] at h
/-- the reading of a call of one's own def -/
theorem readCallT {io : List Bool} {g : Fn} {svs : List SV} {n : Nat} {ρ1 : List SV} {H1 : Hp} (hn : io.length = n) {Q : VK} (hl : svs.length = vs.length) (R2 : R c σ ρ1 (svs.zip vs ++ ts) H1) (q1 : PostE c W σ ts Q (mCallT io g svs ρ1)) : spD c.K n g vs H1 Q (fun cls od H' => W cls od σ H') := by
  unfold mCallT at q1
  cases e : prep io svs ρ1 with
  | none => rw [bnd_none e] at q1; exact q1.elim
  | some x =>
    cases x with
    | er x _ => exact absurd e prep_er
    | ok as ρ2 =>
      rw [bnd_some e] at q1
      obtain ⟨R3, l3, n3⟩ := r_prep R2 hl e
      obtain ⟨l4, l5⟩ := prep_len e
      have g3 : G c σ (asP as vs ++ (tsP ts ++ ρ2.zip σ)) H1 := by
        have := R3.g
        rw [tsP_append, List.append_assoc] at this
        exact this
      have hv : ∀ i v, (SV.loc i, v) ∈ svs.zip vs → σ[i]? = some (some v) := fun i v z => by
        obtain ⟨_, w, e, e2⟩ := R2.g.rs _ (List.mem_append_left _ (tsP_mem (List.mem_append_left _ z)))
        cases e
        exact e2
      refine ⟨fun a => c.T a ∨ a ∈ Own (tsP ts ++ ρ2.zip σ), as, by omega, by omega, g3.enter n3, ?_⟩
      cases eg : g as with
      | none => rw [eg] at q1; exact q1.elim
      | some y =>
        rw [eg] at q1
        cases y with
        | ok rv outs =>
          simp only at q1 ⊢
          have key : ∀ (d : SV), (∀ j, d ≠ .loc j) → PostE c W σ ts Q ((give io svs outs ρ2).map (.ok d)) → ∀ v H', G (c0 c (asP as vs) (tsP ts ++ ρ2.zip σ) H1) [] ((d, some v) :: asP outs vs) H' → Q v H' := fun d hd q2 => by
            cases eo : give io svs outs ρ2 with
            | none => rw [eo] at q2; exact q2.elim
            | some ρ3 =>
              rw [eo] at q2
              have lo : outs.length = n := give_len eo |>.trans (by omega)
              refine fun v H' g' => q2 v H' ?_
              have g4 := g3.leave g'
              have R4 : R c σ ρ2 (outs.zip vs ++ ((d, v) :: ts)) H' := by
                refine ⟨R3.len, R3.nl, ?_⟩
                rw [tsP_append, List.append_assoc]
                exact g4.perm List.perm_middle.symm
              exact (r_give R4 hl (by omega) hv eo).1
          split at q1
          · exact key _ (fun j z => by cases z) q1
          · exact key _ (fun j z => by cases z) q1
          · exact key _ (fun j z => by cases z) q1
          · exact q1.elim
        | er x outs =>
          simp only at q1 ⊢
          cases eo : give io svs outs ρ2 with
          | none => rw [eo] at q1; exact q1.elim
          | some ρ3 =>
            rw [eo] at q1
            have lo : outs.length = n := give_len eo |>.trans (by omega)
            refine fun cls od H' g' z => ?_
            have g4 := g3.leave g'
            have R4 : R c σ ρ2 (outs.zip vs ++ ts) H' := by
              refine ⟨R3.len, R3.nl, ?_⟩
              rw [tsP_append, List.append_assoc]
              exact g4
            obtain ⟨R5, y⟩ := r_give R4 hl (by omega) hv eo
            refine q1 cls od H' R5 (z.less fun a w => ?_)
            rcases y a w with w | w
            · exact .inl (.inl w)
            · rw [tsP_append, List.append_assoc, own_append, List.mem_append] at w
              rcases w with w | w
              · exact .inr w
              · exact .inl (.inr w)
theorem readCall {io : List Bool} {g : Fn} {ma : M (List SV)} {n : Nat} {K : PySem.W.Frag} (hK : c.K = K) (hn : io.length = n) {Q : VK} (h : tDE c W (mCall io g ma) σ H Q) : tDA c W ma σ H fun vs H1 => spD K n g vs H1 Q (fun cls od H' => W cls od σ H') := by
  subst hK
  obtain ⟨ρ, ts, R1, q⟩ := h
  exact bindA (α := Unit) R1 q fun svs vs ρ1 H1 hl R2 q1 => readCallT hn hl R2 q1
end
end DL

set_option Elab.async false
set_option linter.all false
set_option maxRecDepth 100000
/-! The data layer: calls by name, subscripts, tests. -/
namespace DL
open PySem PySem.Spec PyProof.Rows L2
section
variable {c : Fc} {W : WX} {X : Cx} {σ : L2.St} {ρ : List SV} {ts : Ts} {H H' : Hp} {sv : SV} {d : D} {ds : List D} {v : V} {vs : List V} {p : Addr} {i : Nat}
/-- a call of a def that hands over or freezes what it is given -/
theorem pd_call {CX : CXT} {k j : Nat} {n : Nat} {g : Fn} {x : Str} {p' pos : Pos} {e : Expr} {es : List Expr} {ma : M (List SV)} (io : List Bool) (F : CalD X.prog X.w X.K X.mg X.base CX k x n g) (hr : Room j X.A) (hk : k ≤ j) (hx : ∀ σ, PassesAt CX X σ (WE W σ))
    (hg : Gl X x) (ha : PA X (e :: es) (tDA c W ma)) (hn : io.length = n := by rfl) (hK : c.K = X.K := by rfl)
    (hdb : (x == ("__debug__" : Str)) = false := by decide) (he : starEach (e :: es) X.env = (false, eval e X.env) :: starEach es X.env := by rfl) (hpl : (backTo pos (starEach es X.env)).any (·.1) = false := by rfl) :
    PE X (.Call (.Name x p') (e :: es) [] pos) (tDE c W (mCall io g ma)) := by
  obtain ⟨f, fd, ps, F1, hm, kp, b⟩ := F.ex
  exact pe_imp (pe_callS (E := WE W) F1 (hr.mono hk) hg hm kp b hx ha hdb he hpl) fun σ H Q h => readCall hK hn h
theorem passAt0 {X : Cx} {E : L2.St → XK} : ∀ σ, PassesAt CX0 X σ (E σ) := fun _ _ _ _ _ _ _ h => h.elim

/-! ### a call that lends: nothing of the arguments may come back -/
mutual
def nolist : D → Bool
  | .lst _ => false
  | .obj _ _ _ => false
  | .tup ds => nolists ds
  | .seq ds => nolists ds
  | _ => true
def nolists : List D → Bool
  | [] => true
  | d :: ds => nolist d && nolists ds
end
mutual
theorem Rep.any {K : PySem.W.Frag} {A A' : Addr → Prop} : ∀ {d : D} {v : V}, nolist d = true → Rep K A H d v → Rep K A' H d v
  | .non, _, _, h => h
  | .bl _, _, _, h => h
  | .int _, _, _, h => h
  | .str _, _, _, h => h
  | .seq ds, v, n, h => by
    simp only [Rep] at h ⊢
    obtain ⟨a, vs, e, q, r⟩ := h
    exact ⟨a, vs, e, q, RepL.any (by simpa only [nolist] using n) r⟩
  | .tup ds, v, n, h => by
    simp only [Rep] at h ⊢
    obtain ⟨a, vs, e, q, r⟩ := h
    exact ⟨a, vs, e, q, RepL.any (by simpa only [nolist] using n) r⟩
  | .lst ds, v, n, h => by simp [nolist] at n
  | .obj _ _ _, v, n, h => by simp [nolist] at n
  | .dic _ _, v, n, h => by simp only [Rep] at h
theorem RepL.any {K : PySem.W.Frag} {A A' : Addr → Prop} : ∀ {ds : List D} {vs : List V}, nolists ds = true → RepL K A H ds vs → RepL K A' H ds vs
  | [], vs, _, h => h
  | d :: ds, vs, n, h => by
    simp only [RepL] at h ⊢
    simp only [nolists, Bool.and_eq_true] at n
    obtain ⟨v, vs', e, r, rs⟩ := h
    exact ⟨v, vs', e, Rep.any n.1 r, RepL.any n.2 rs⟩
end
def noDic : D → Bool
  | .dic _ _ => false
  | _ => true
theorem repR_lend {K : PySem.W.Frag} {A A' : Addr → Prop} (hd : noDic d = true) (h : RepR K A H d v) (h1 : ∀ a, A' a → A a) (h2 : ∀ a, v = .ref a → ¬ A' a) : Rep K A' H d v := by
  cases d with
  | lst ds =>
    obtain ⟨a, vs, e, q, r⟩ := h
    simp only [Rep]
    exact ⟨a, vs, e, ⟨q, h2 a e⟩, r.less fun a y => .inl (h1 a y)⟩
  | non => exact Rep.less (A := A) h fun a y => .inl (h1 a y)
  | bl _ => exact Rep.less (A := A) h fun a y => .inl (h1 a y)
  | int _ => exact Rep.less (A := A) h fun a y => .inl (h1 a y)
  | str _ => exact Rep.less (A := A) h fun a y => .inl (h1 a y)
  | tup _ => exact Rep.less (A := A) h fun a y => .inl (h1 a y)
  | seq _ => exact Rep.less (A := A) h fun a y => .inl (h1 a y)
  | obj _ _ _ =>
    obtain ⟨a, c, dx, vs, e, hc, q, l, r⟩ := h
    simp only [Rep]
    exact ⟨a, c, dx, vs, e, hc, q, h2 a e, l, r.less fun a y => .inl (h1 a y)⟩
  | dic _ _ => cases hd
/-- what may be lent -/
def lendL : Option SV → Bool
  | some (.box (.dic _ _)) => false
  | _ => true
def lendOk (ρ : List SV) : SV → Bool
  | .box (.dic _ _) => false
  | .loc i => lendL ρ[i]?
  | _ => true
theorem con_noDic {sv : SV} {ts : Ts} (r : R c σ ρ ts H) (hm : (sv, v) ∈ ts) (h : con ρ sv = some d) (hl : lendOk ρ sv = true) : noDic d = true := by
  cases d with
  | dic ks vs =>
    exfalso
    have q := r.g.rs _ (List.mem_append_left _ (tsP_mem hm))
    cases sv with
    | un => simp [DL.con] at h
    | fz d' =>
      simp only [DL.con, Option.some.injEq] at h
      subst h
      obtain ⟨w, e, q⟩ := q
      simp only [Rep] at q
    | own d' =>
      simp only [DL.con, Option.some.injEq] at h
      subst h
      obtain ⟨w, e, q⟩ := q
      exact q
    | box d' =>
      simp only [DL.con, Option.some.injEq] at h
      subst h
      simp [lendOk] at hl
    | loc i =>
      simp only [DL.con] at h
      simp only [lendOk] at hl
      cases e3 : ρ[i]? with
      | none => rw [e3] at h; cases h
      | some sv' =>
        rw [e3] at h hl
        cases sv' with
        | own d' =>
          cases h
          obtain ⟨p, ds, vs, e4, e5, _⟩ := r.slot_own e3
          cases e5
        | fz d' =>
          cases h
          obtain ⟨u, e4, q⟩ := r.slot_fz e3
          have := q.top_fz
          simp only [Rep] at this
        | box d' =>
          cases h
          simp [lendL] at hl
        | _ => cases h
  | _ => rfl
theorem cons_noDic : ∀ {svs : List SV} {vs : List V} {ts : Ts} {ds : List D}, R c σ ρ ts H → (∀ t ∈ svs.zip vs, t ∈ ts) → svs.length = vs.length → cons ρ svs = some ds → svs.all (lendOk ρ) = true → ∀ d ∈ ds, noDic d = true
  | [], vs, ts, ds, r, hm, hl, h, ha => by
    simp only [cons, Option.some.injEq] at h
    subst h
    exact fun d hd => by cases hd
  | s :: ss, vs, ts, ds, r, hm, hl, h, ha => by
    cases vs with
    | nil => cases hl
    | cons v vs =>
    simp only [cons] at h
    rw [List.all_cons, Bool.and_eq_true] at ha
    split at h
    · rename_i d ds' e1 e2
      cases h
      intro x hx
      rcases List.mem_cons.mp hx with rfl | hx
      · exact con_noDic r (hm (s, v) List.mem_cons_self) e1 ha.1
      · exact cons_noDic r (fun t ht => hm t (List.mem_cons_of_mem _ ht)) (by simpa using hl) e2 ha.2 x hx
    · cases h
def mCallP (n : Nat) (g : Fn) (ma : M (List SV)) : M SV := ma.bnd fun svs => fun ρ => if svs.length = n ∧ svs.all (lendOk ρ) = true then (match cons ρ svs with
  | some ds => match g (ds.map .fz) with
    | some (.ok (.fz d) _) => if nolist d = true then some (.ok (.fz d) ρ) else mCallT (List.replicate svs.length false) g svs ρ
    | some (.ok (.own (.lst es)) _) => if nolists es = true then some (.ok (.own (.lst es)) ρ) else mCallT (List.replicate svs.length false) g svs ρ
    | some (.er e _) => if nolists (e.fs.map (·.2)) = true then some (.er e ρ) else mCallT (List.replicate svs.length false) g svs ρ
    | _ => none
  | none => none) else none
theorem own_fz : ∀ (ds : List D) (vs : List V), Own (asP (ds.map .fz) vs) = []
  | [], vs => by cases vs <;> rfl
  | d :: ds, [] => rfl
  | d :: ds, v :: vs => own_fz ds vs
theorem rs_fz {K : PySem.W.Frag} {A A' : Addr → Prop} (h1 : ∀ a, A' a → A a) : ∀ {ds : List D} {vs us : List V}, (∀ d ∈ ds, noDic d = true) → RepRL K A H ds vs → (∀ v ∈ vs, v ∈ us) → (∀ a, A' a → V.ref a ∉ us) → ∀ x ∈ asP (ds.map .fz) vs, ∃ d v, x = (SV.fz d, some v) ∧ Rep K A' H d v
  | [], vs, us, hd, h, hm, n, x, hx => by simp [asP, tsP] at hx
  | d :: ds, vs, us, hd, h, hm, n, x, hx => by
    obtain ⟨v, vs', rfl, r, rs⟩ := h
    rcases List.mem_cons.mp hx with e | hx
    · exact ⟨d, v, e, repR_lend (hd d List.mem_cons_self) r h1 fun a e w => n a w (by rw [← e]; exact hm v List.mem_cons_self)⟩
    · exact rs_fz h1 (fun d z => hd d (List.mem_cons_of_mem _ z)) rs (fun v z => hm v (List.mem_cons_of_mem _ z)) n x hx
theorem repRL_len {K : PySem.W.Frag} {A : Addr → Prop} : ∀ {ds : List D} {vs : List V}, RepRL K A H ds vs → vs.length = ds.length
  | [], vs, h => by rw [show vs = [] from h]; rfl
  | d :: ds, vs, h => by
    obtain ⟨v, vs', rfl, r, rs⟩ := h
    simp [repRL_len rs]
theorem callP_at {g : Fn} {n : Nat} {K : PySem.W.Frag} {svs : List SV} {ρ1 : List SV} {H1 : Hp} (hK : c.K = K) {Q : VK} (hl : svs.length = vs.length) (R2 : R c σ ρ1 (svs.zip vs ++ ts) H1) (q : PostE c W σ ts Q (mCallP n g (ret svs) ρ1)) : spD K n g vs H1 Q (fun cls od H' => W cls od σ H') := by
  subst hK
  unfold mCallP at q
  rw [bnd_some (show ret svs ρ1 = some (.ok svs ρ1) from rfl)] at q
  split at q
  case isFalse => exact q.elim
  rename_i hn2
  obtain ⟨hn', hal⟩ := hn2
  cases e : cons ρ1 svs with
  | none => rw [e] at q; exact q.elim
  | some ds =>
    rw [e] at q
    simp only at q
    have rr := r_cons R2 (fun t ht => List.mem_append_left _ ht) hl e
    have fall : PostE c W σ ts Q (mCallT (List.replicate svs.length false) g svs ρ1) → spD c.K n g vs H1 Q (fun cls od H' => W cls od σ H') := fun qz => readCallT (by simp [hn']) hl R2 qz
    have T0 : ∀ a, (Avr c σ ρ1 (svs.zip vs ++ ts) a ∧ V.ref a ∉ vs) → Avr c σ ρ1 (svs.zip vs ++ ts) a := fun a z => z.1
    have g0 : G { K := c.K, T := fun a => Avr c σ ρ1 (svs.zip vs ++ ts) a ∧ V.ref a ∉ vs, H0 := H1, W := fun a => a ∈ Own (asP (ds.map .fz) vs), cv := fun _ => false, pin := fun _ => none } [] (asP (ds.map .fz) vs) H1 := by
      refine ⟨fun x hx => ?_, by rw [own_fz]; exact List.nodup_nil, fun a o h _ => h, fun a h => .inl h, fun a h => ⟨R2.g.hold h.1, fun w => ?_⟩, fun i v e => by cases e⟩
      · obtain ⟨d, v, rfl, r⟩ := rs_fz (A' := fun a => Avr c σ ρ1 (svs.zip vs ++ ts) a ∧ V.ref a ∉ vs) (us := vs) T0 (cons_noDic R2 (fun t ht => List.mem_append_left _ ht) hl e hal) rr (fun v z => z) (fun a z => z.2) x hx
        refine ⟨v, rfl, r.less fun a y => .inl ?_⟩
        rcases y with y | y
        · exact y
        · rw [own_fz] at y; cases y
      · have w' : a ∈ Own (asP (ds.map .fz) vs) := w
        rw [own_fz] at w'; cases w'
    have lv : vs.length = n := by omega
    have ld := repRL_len rr
    have R5 := R.pops _ R2
    cases eg : g (ds.map .fz) with
    | none => rw [eg] at q; exact q.elim
    | some y =>
      rw [eg] at q
      have ext : ∀ {P : Pl} {H' : Hp}, G { K := c.K, T := fun a => Avr c σ ρ1 (svs.zip vs ++ ts) a ∧ V.ref a ∉ vs, H0 := H1, W := fun a => a ∈ Own (asP (ds.map .fz) vs), cv := fun _ => false, pin := fun _ => none } [] P H' → ∀ a o, H1 a = some o → H' a = some o := fun g' a o z => g'.fr a o z fun w => by
        have w' : a ∈ Own (asP (ds.map .fz) vs) := w
        rw [own_fz] at w'; cases w'
      cases y with
      | er x outs =>
        simp only at q
        split at q
        · rename_i hc
          refine ⟨_, ds.map .fz, by simp; omega, lv, g0, ?_⟩
          rw [eg]
          intro cls od H' g' z
          refine q cls od H' (R5.ext (ext g')) ⟨z.1, ?_⟩
          have z2 := z.2
          cases x with
          | mk cl fs =>
          cases fs with
          | nil => trivial
          | cons f fs =>
            obtain ⟨d, vs, e1, e2, r⟩ := z2
            exact ⟨d, vs, e1, e2, RepL.any hc r⟩
        · exact fall q
      | ok rv outs =>
        cases rv with
        | fz d =>
          simp only at q
          split at q
          · rename_i hc
            refine ⟨_, ds.map .fz, by simp; omega, lv, g0, ?_⟩
            rw [eg]
            intro v H' g'
            obtain ⟨w, e2, r⟩ := g'.rs _ List.mem_cons_self
            cases e2
            exact q v H' ((R5.ext (ext g')).push_fz (Rep.any hc r))
          · exact fall q
        | own d =>
          cases d with
          | lst es =>
            simp only at q
            split at q
            · rename_i hc
              refine ⟨_, ds.map .fz, by simp; omega, lv, g0, ?_⟩
              rw [eg]
              intro v H' g'
              obtain ⟨p, ds', vs', rfl, e2, e3, r, n1, n2, n3⟩ := g'.own_at
              cases e2
              have hp : H1 p = none := by
                rcases n3 with z | z
                · have w' : p ∈ Own (asP (ds.map .fz) vs) := z
                  rw [own_fz] at w'; cases w'
                · exact z
              exact q _ H' (R5.push_any hp e3 (ext g') fun A => RepL.any hc r)
            · exact fall q
          | _ => exact q.elim
        | _ => exact q.elim
theorem readCallP {g : Fn} {ma : M (List SV)} {n : Nat} {K : PySem.W.Frag} (hK : c.K = K) {Q : VK} (h : tDE c W (mCallP n g ma) σ H Q) : tDA c W ma σ H fun vs H1 => spD K n g vs H1 Q (fun cls od H' => W cls od σ H') := by
  subst hK
  obtain ⟨ρ, ts, R1, q⟩ := h
  refine ⟨ρ, ts, R1, ?_⟩
  unfold mCallP at q
  cases em : ma ρ with
  | none => rw [bnd_none em] at q; exact q
  | some x =>
  cases x with
  | er x ρ' => rw [bnd_er em] at q; exact q
  | ok svs ρ1 =>
  rw [bnd_some em] at q
  intro vs H1 hl R2
  refine callP_at rfl hl R2 ?_
  unfold mCallP
  rw [bnd_some (show ret svs ρ1 = some (.ok svs ρ1) from rfl)]
  exact q
theorem pd_callP {CX : CXT} {k j : Nat} {n : Nat} {g : Fn} {x : Str} {p' pos : Pos} {e : Expr} {es : List Expr} {ma : M (List SV)} (F : CalD X.prog X.w X.K X.mg X.base CX k x n g) (hr : Room j X.A) (hk : k ≤ j) (hx : ∀ σ, PassesAt CX X σ (WE W σ))
    (hg : Gl X x) (ha : PA X (e :: es) (tDA c W ma)) (hK : c.K = X.K := by rfl)
    (hdb : (x == ("__debug__" : Str)) = false := by decide) (he : starEach (e :: es) X.env = (false, eval e X.env) :: starEach es X.env := by rfl) (hpl : (backTo pos (starEach es X.env)).any (·.1) = false := by rfl) :
    PE X (.Call (.Name x p') (e :: es) [] pos) (tDE c W (mCallP n g ma)) := by
  obtain ⟨f, fd, ps, F1, hm, kp, b⟩ := F.ex
  exact pe_imp (pe_callS (E := WE W) F1 (hr.mono hk) hg hm kp b hx ha hdb he hpl) fun σ H Q h => readCallP hK h

/-! ### places and parts -/
theorem atI_rep {K : PySem.W.Frag} {A : Addr → Prop} {k : Int} (r : RepL K A H ds vs) (h : atI ds k = some d) : ∃ v, atI vs k = some v ∧ Rep K A H d v := by
  unfold atI at h ⊢
  rw [r.length]
  cases e : ixN ds.length k with
  | none => rw [e] at h; cases h
  | some j =>
    rw [e] at h
    exact r.get h
def fIx : D → D → Option BR
  | .lst ds, .int k => (atI ds k).map .imm
  | .tup ds, .int k => (atI ds k).map .imm
  | .seq ds, .int k => (atI ds k).map .imm
  | .str z, .int k => if z.length ≤ sizeLine then (atI z.cps.toList k).map fun c => .imm (.str ⟨#[c]⟩) else none
  | _, _ => none
theorem opB_ix {K : PySem.W.Frag} : OpB K (rIx K) fIx := by
  intro A H d1 d2 v1 v2 b Q h1 h2 e q
  unfold fIx at e
  split at e
  · rw [Option.map_eq_some_iff] at e
    obtain ⟨d, e, rfl⟩ := e
    obtain ⟨a, vs, e1, e2, r⟩ := repR_lst h1
    obtain ⟨v, e3, r3⟩ := atI_rep r e
    exact .inl ⟨a, vs, _, v, e1, repR_int h2, SqL.of e2, e3, q v r3⟩
  · rw [Option.map_eq_some_iff] at e
    obtain ⟨d, e, rfl⟩ := e
    obtain ⟨a, vs, e1, e2, r⟩ := repR_tup h1
    obtain ⟨v, e3, r3⟩ := atI_rep r e
    exact .inr (.inl ⟨a, vs, _, v, e1, repR_int h2, e2, e3, q v r3⟩)
  · rw [Option.map_eq_some_iff] at e
    obtain ⟨d, e, rfl⟩ := e
    obtain ⟨a, vs, e1, e2, r⟩ := repR_seq h1
    obtain ⟨v, e3, r3⟩ := atI_rep r e
    exact .inl ⟨a, vs, _, v, e1, repR_int h2, e2.sq, e3, q v r3⟩
  · split at e
    · rename_i hc
      rw [Option.map_eq_some_iff] at e
      obtain ⟨d, e, rfl⟩ := e
      exact .inr (.inr ⟨_, _, d, repR_str h1, repR_int h2, hc, e, q _ (rep_str _)⟩)
    · cases e
  · cases e
theorem pd_ix {a b : Expr} {ma mb : M SV} {pos : Pos} (ha : PE X a (tDE c W ma)) (hb : PE X b (tDE c W mb)) (hs : PlainIx b := by exact fun _ _ => rfl) (hK : c.K = X.K := by rfl) : PE X (.Subscript a b pos) (tDE c W (mBin (lift2 fIx) ma mb)) :=
  pe_imp (pe_ix ix_seq ha hb hs) fun σ H Q h => read2 (r := rIx X.K) (opS_of (hK ▸ opB_ix)) h
/-! slices -/
def mPart (m : M SV) : M (Option Int) := m.bnd fun s => match s with
  | .fz (.int i) => ret (some i)
  | _ => fun _ => none
def mNoPart : M (Option Int) := ret none
def PostO (c : Fc) (W : WX) (σ : L2.St) (ts : Ts) (Q : Option Int → Hp → Prop) : Option (Res (Option Int)) → Prop
  | some (.ok b ρ) => ∀ H, R c σ ρ ts H → Q b H
  | some (.er e ρ) => ∀ cls od H, R c σ ρ ts H → ExRep c.K (Avr c σ ρ ts) H e cls od → W cls od σ H
  | none => False
def tDO (c : Fc) (W : WX) (m : M (Option Int)) : TO := fun σ H Q => ∃ ρ ts, R c σ ρ ts H ∧ PostO c W σ ts Q (m ρ)
theorem po_imp {e : Option Expr} {t t' : TO} (h : PO X e t) (hi : ∀ σ H Q, t' σ H Q → t σ H Q) : PO X e t' := ⟨fun pins s σ H Q I q => h.run pins s σ H Q I (hi _ _ _ q)⟩
theorem pd_po {e : Expr} {m : M SV} (h : PE X e (tDE c W m)) : PO X (some e) (tDO c W (mPart m)) := by
  refine po_imp (po_some h) fun σ H Q ⟨ρ, ts, r, q⟩ => ?_
  refine ⟨ρ, ts, r, ?_⟩
  unfold mPart at q
  cases e1 : m ρ with
  | none => rw [bnd_none e1] at q; exact q.elim
  | some x =>
    cases x with
    | er x ρ' => rw [bnd_er e1] at q; exact q
    | ok s ρ1 =>
      rw [bnd_some e1] at q
      intro v H' r'
      split at q
      · rename_i i
        have z := r'.top_fz
        simp only [Rep] at z
        exact ⟨i, z, q H' r'.pop⟩
      · exact q.elim
theorem pd_po0 : PO X none (tDO c W mNoPart) := po_imp po_none fun σ H Q ⟨ρ, ts, r, q⟩ => q H r
def cutD (ds : List D) (lo hi : Option Int) : List D := (ds.drop (HT.sIx ds.length 0 lo)).take (HT.sIx ds.length ds.length hi - HT.sIx ds.length 0 lo)
theorem cut_rep {K : PySem.W.Frag} {A : Addr → Prop} (r : RepL K A H ds vs) (lo hi : Option Int) : RepL K A H (cutD ds lo hi) (cutV vs lo hi) := by
  unfold cutD cutV
  rw [r.length]
  exact (r.drop _).take _
def fSl (lo hi : Option Int) : D → Option BR
  | .lst ds => some (.newL (cutD ds lo hi))
  | .seq ds => some (.newL (cutD ds lo hi))
  | .tup ds => some (.anyT (cutD ds lo hi))
  | _ => none
def rSl' (K : PySem.W.Frag) : V → Option Int → Option Int → Hp → VK → Prop := fun x lo hi H Q => rSlL K x lo hi H Q ∨ rSlA K x lo hi H Q
theorem slR' : SlR X (rSl' X.K) := SlR.or sl_list sl_tupA
theorem cut_all {α : Type} {xs : List α} {lo hi : Option Int} (h : HT.sIx xs.length 0 lo = 0 ∧ HT.sIx xs.length xs.length hi = xs.length) : (xs.drop (HT.sIx xs.length 0 lo)).take (HT.sIx xs.length xs.length hi - HT.sIx xs.length 0 lo) = xs := by
  rw [h.1, h.2]; simp
theorem unB_sl {K : PySem.W.Frag} {lo hi : Option Int} : UnB K (fun x H Q => rSl' K x lo hi H Q) (fSl lo hi) := by
  intro A H d1 v1 b Q h1 e q
  unfold fSl at e
  split at e
  · cases e
    obtain ⟨a, vs, e1, e2, r⟩ := repR_lst h1
    exact .inl ⟨a, vs, e1, SqL.of e2, fun p hp => q _ p (cut_rep r lo hi) hp⟩
  · cases e
    obtain ⟨a, vs, e1, e2, r⟩ := repR_seq h1
    exact .inl ⟨a, vs, e1, e2.sq, fun p hp => q _ p (cut_rep r lo hi) hp⟩
  · cases e
    rename_i ds
    obtain ⟨a, vs, e1, e2, r⟩ := repR_tup h1
    refine .inr ⟨a, vs, e1, e2, fun z => ?_, fun z p hp => q.2 _ p (cut_rep r lo hi) hp⟩
    have : cutD ds lo hi = ds := by
      unfold cutD
      rw [r.length] at z
      exact cut_all z
    rw [this] at q
    exact q.1 _ (rep_tup e2 r)
  · cases e
def mSl (m : M SV) (ml mh : M (Option Int)) : M SV := m.bnd fun s => ml.bnd fun lo => mh.bnd fun hi => lift1 (fSl lo hi) s
theorem pd_slice {e : Expr} {lo hi : Option Expr} {m : M SV} {ml mh : M (Option Int)} {pos p2 : Pos} (he : PE X e (tDE c W m)) (hl : PO X lo (tDO c W ml)) (hh : PO X hi (tDO c W mh)) (hK : c.K = X.K := by rfl) :
    PE X (.Subscript e (.Slice lo hi none p2) pos) (tDE c W (mSl m ml mh)) := by
  refine pe_imp (pe_slice slR' he hl hh) fun σ H Q ⟨ρ, ts, R1, q⟩ => ?_
  refine bindE R1 q fun s v ρ1 H1 R2 q1 => ?_
  refine ⟨ρ1, (s, v) :: ts, R2, ?_⟩
  cases e1 : ml ρ1 with
  | none => rw [bnd_none e1] at q1; exact q1.elim
  | some x =>
    cases x with
    | er x ρ' => rw [bnd_er e1] at q1; exact fun cls od H' r' z => q1 cls od H' r'.pop (z.less avr_sub)
    | ok lo ρ2 =>
      rw [bnd_some e1] at q1
      intro H2 R3
      refine ⟨ρ2, (s, v) :: ts, R3, ?_⟩
      cases e2 : mh ρ2 with
      | none => rw [bnd_none e2] at q1; exact q1.elim
      | some x =>
        cases x with
        | er x ρ' => rw [bnd_er e2] at q1; exact fun cls od H' r' z => q1 cls od H' r'.pop (z.less avr_sub)
        | ok hi ρ3 =>
          rw [bnd_some e2] at q1
          intro H3 R4
          unfold lift1 at q1
          cases e3 : con ρ3 s with
          | none => rw [e3] at q1; exact q1.elim
          | some d =>
            rw [e3] at q1
            simp only at q1
            cases e4 : fSl lo hi d with
            | none => rw [e4] at q1; exact q1.elim
            | some b =>
              rw [e4] at q1
              exact unB_sl (K := X.K) _ H3 d v b Q (hK ▸ R4.con List.mem_cons_self e3) e4 (hK ▸ fin_br (us := [(s, v)]) R4 q1)

/-! ### tests -/
def truD : D → Option Bool
  | .non => some false
  | .bl b => some b
  | .int i => some (i != 0)
  | .lst ds => some (!ds.isEmpty)
  | .tup ds => some (!ds.isEmpty)
  | .seq ds => some (!ds.isEmpty)
  | _ => none
def mTru (m : M SV) : M Bool := m.bnd fun s => fun ρ => match con ρ s with
  | some d => match truD d with
    | some b => some (.ok b ρ)
    | none => none
  | none => none
theorem isEmpty_rep {K : PySem.W.Frag} {A : Addr → Prop} (r : RepL K A H ds vs) : vs.isEmpty = ds.isEmpty := by
  have := r.length
  cases vs <;> cases ds <;> simp_all
theorem tru_of {K : PySem.W.Frag} {A : Addr → Prop} {b : Bool} (h : RepR K A H d v) (e : truD d = some b) : TruV K v H b := by
  cases d with
  | non => rw [repR_non h]; cases e; rfl
  | bl x => rw [repR_bl h]; cases e; rfl
  | int x => rw [repR_int h]; cases e; rfl
  | str x => cases e
  | lst ds =>
    obtain ⟨a, vs, rfl, e2, r⟩ := repR_lst h
    cases e
    exact .inl ⟨vs, SqL.of e2, by rw [isEmpty_rep r]⟩
  | tup ds =>
    obtain ⟨a, vs, rfl, e2, r⟩ := repR_tup h
    cases e
    exact .inr (.inl ⟨vs, e2, by rw [isEmpty_rep r]⟩)
  | seq ds =>
    obtain ⟨a, vs, rfl, e2, r⟩ := repR_seq h
    cases e
    exact .inl ⟨vs, e2.sq, by rw [isEmpty_rep r]⟩
  | obj _ _ _ => cases e
  | dic _ _ => cases e
theorem pt_tru {a : Expr} {m : M SV} (ha : PE X a (tDE c W m)) (he : ∀ whole, isTrue a X.env whole = (do let v ← whole; standAt a.pos; holding [v] (truthy v)) := by intro _; rfl) (hK : c.K = X.K := by rfl) : PT X a (tDT c W (mTru m)) := by
  refine pt_imp (pt_truth ha he) fun σ H Q ⟨ρ, ts, R1, q⟩ => ?_
  refine ⟨ρ, ts, R1, ?_⟩
  unfold mTru at q
  cases e1 : m ρ with
  | none => rw [bnd_none e1] at q; exact q.elim
  | some x =>
    cases x with
    | er x ρ' => rw [bnd_er e1] at q; exact q
    | ok s ρ1 =>
      rw [bnd_some e1] at q
      intro v H' r'
      cases e2 : con ρ1 s with
      | none => rw [e2] at q; exact q.elim
      | some d =>
        rw [e2] at q
        simp only at q
        cases e3 : truD d with
        | none => rw [e3] at q; exact q.elim
        | some b =>
          rw [e3] at q
          exact ⟨b, tru_of (hK ▸ r'.con List.mem_cons_self e2) e3, q H' r'.pop⟩
def mNot (m : M Bool) : M Bool := m.bnd fun b => ret (!b)
def mAnd (m n : M Bool) : M Bool := m.bnd fun b => if b = true then n else ret false
def mOr (m n : M Bool) : M Bool := m.bnd fun b => if b = true then ret true else n
theorem bindT {m : M Bool} {f : Bool → M Bool} {Q : Bool → Hp → Prop} (r : R c σ ρ ts H) (h : PostT c W σ ts Q ((m.bnd f) ρ)) {Q' : Bool → Hp → Prop} (k : ∀ b ρ' H', R c σ ρ' ts H' → PostT c W σ ts Q (f b ρ') → Q' b H') : tDT c W m σ H Q' := by
  refine ⟨ρ, ts, r, ?_⟩
  cases e : m ρ with
  | none => rw [bnd_none e] at h; exact h
  | some x =>
    cases x with
    | er x ρ' => rw [bnd_er e] at h; exact h
    | ok b ρ' => rw [bnd_some e] at h; exact fun H' r' => k b ρ' H' r' h
theorem pt_dnot {a : Expr} {m : M Bool} {pos : Pos} (ha : PT X a (tDT c W m)) : PT X (.UnaryOp .Not a pos) (tDT c W (mNot m)) :=
  pt_imp (pt_not ha) fun σ H Q ⟨ρ, ts, R1, q⟩ => bindT R1 q fun b ρ' H' R2 q2 => q2 H' R2
theorem pw_dand1 {a : Expr} {m : M Bool} {pos : Pos} (ha : PT X a (tDT c W m)) : PW X (.BoolOp .And [a] pos) (tDT c W m) := pw_and1 ha
theorem pw_dor1 {a : Expr} {m : M Bool} {pos : Pos} (ha : PT X a (tDT c W m)) : PW X (.BoolOp .Or [a] pos) (tDT c W m) := pw_or1 ha
theorem pw_dand {a b : Expr} {rest : List Expr} {m n : M Bool} {pos : Pos} (ha : PT X a (tDT c W m)) (hb : PW X (.BoolOp .And (b :: rest) pos) (tDT c W n)) : PW X (.BoolOp .And (a :: b :: rest) pos) (tDT c W (mAnd m n)) := by
  refine pw_imp (pw_and ha hb) fun σ H Q ⟨ρ, ts, R1, q⟩ => bindT R1 q fun b ρ' H' R2 q2 => ?_
  cases b with
  | true => exact ⟨ρ', ts, R2, q2⟩
  | false => exact q2 H' R2
theorem pw_dor {a b : Expr} {rest : List Expr} {m n : M Bool} {pos : Pos} (ha : PT X a (tDT c W m)) (hb : PW X (.BoolOp .Or (b :: rest) pos) (tDT c W n)) : PW X (.BoolOp .Or (a :: b :: rest) pos) (tDT c W (mOr m n)) := by
  refine pw_imp (pw_or ha hb) fun σ H Q ⟨ρ, ts, R1, q⟩ => bindT R1 q fun b ρ' H' R2 q2 => ?_
  cases b with
  | true => exact q2 H' R2
  | false => exact ⟨ρ', ts, R2, q2⟩
/-! .. as values -/
def mAndV (m n : M SV) : M SV := m.bnd fun s => match s with
  | .fz (.bl true) => n
  | .fz (.bl false) => ret (.fz (.bl false))
  | _ => fun _ => none
def mOrV (m n : M SV) : M SV := m.bnd fun s => match s with
  | .fz (.bl false) => n
  | .fz (.bl true) => ret (.fz (.bl true))
  | _ => fun _ => none
def mNotV (m : M SV) : M SV := m.bnd fun s => match s with
  | .fz (.bl b) => ret (.fz (.bl (!b)))
  | _ => fun _ => none
theorem top_bl {b : Bool} (r : R c σ ρ ((.fz (.bl b), v) :: ts) H) : v = .bl b := by
  have z := r.top_fz
  simpa only [Rep] using z
theorem pd_not {a : Expr} {m : M SV} {pos : Pos} (ha : PE X a (tDE c W m)) : PE X (.UnaryOp .Not a pos) (tDE c W (mNotV m)) := by
  refine pe_imp (pe_not ha) fun σ H Q ⟨ρ, ts, R1, q⟩ => bindE R1 q fun s v ρ' H' R2 q2 => ?_
  split at q2
  · have e := top_bl R2
    exact ⟨_, e, fin_fz R2.pop (rep_bl _) q2⟩
  · exact q2.elim
theorem pd_and1 {op : BoolOp} {a : Expr} {m : M SV} {pos : Pos} (ha : PE X a (tDE c W m)) : PE X (.BoolOp op [a] pos) (tDE c W m) := pe_one ha
theorem pd_and {a b : Expr} {rest : List Expr} {m n : M SV} {pos : Pos} (ha : PE X a (tDE c W m)) (hb : PE X (.BoolOp .And (b :: rest) pos) (tDE c W n)) : PE X (.BoolOp .And (a :: b :: rest) pos) (tDE c W (mAndV m n)) := by
  refine pe_imp (pe_and ha hb) fun σ H Q ⟨ρ, ts, R1, q⟩ => bindE R1 q fun s v ρ' H' R2 q2 => ?_
  split at q2
  · exact ⟨true, top_bl R2, ρ', ts, R2.pop, q2⟩
  · exact ⟨false, top_bl R2, fin_fz R2.pop (rep_bl _) q2⟩
  · exact q2.elim
theorem pd_or {a b : Expr} {rest : List Expr} {m n : M SV} {pos : Pos} (ha : PE X a (tDE c W m)) (hb : PE X (.BoolOp .Or (b :: rest) pos) (tDE c W n)) : PE X (.BoolOp .Or (a :: b :: rest) pos) (tDE c W (mOrV m n)) := by
  refine pe_imp (pe_or ha hb) fun σ H Q ⟨ρ, ts, R1, q⟩ => bindE R1 q fun s v ρ' H' R2 q2 => ?_
  split at q2
  · exact ⟨false, top_bl R2, ρ', ts, R2.pop, q2⟩
  · exact ⟨true, top_bl R2, fin_fz R2.pop (rep_bl _) q2⟩
  · exact q2.elim
def mIfE (t : M Bool) (m n : M SV) : M SV := t.bnd fun b => if b = true then m else n
theorem bindTE {m : M Bool} {f : Bool → M SV} {Q : VK} (r : R c σ ρ ts H) (h : PostE c W σ ts Q ((m.bnd f) ρ)) {Q' : Bool → Hp → Prop} (k : ∀ b ρ' H', R c σ ρ' ts H' → PostE c W σ ts Q (f b ρ') → Q' b H') : tDT c W m σ H Q' := by
  refine ⟨ρ, ts, r, ?_⟩
  cases e : m ρ with
  | none => rw [bnd_none e] at h; exact h
  | some x =>
    cases x with
    | er x ρ' => rw [bnd_er e] at h; exact h
    | ok b ρ' => rw [bnd_some e] at h; exact fun H' r' => k b ρ' H' r' h
theorem pd_ifE {t a b : Expr} {mt : M Bool} {m n : M SV} {pos : Pos} (ht : PT X t (tDT c W mt)) (ha : PE X a (tDE c W m)) (hb : PE X b (tDE c W n)) : PE X (.IfExp t a b pos) (tDE c W (mIfE mt m n)) := by
  refine pe_imp (pe_ifExp ht ha hb) fun σ H Q ⟨ρ, ts, R1, q⟩ => bindTE R1 q fun b ρ' H' R2 q2 => ?_
  cases b with
  | true => exact ⟨ρ', ts, R2, q2⟩
  | false => exact ⟨ρ', ts, R2, q2⟩

/-! ### displays -/
def mTup (ma : M (List SV)) : M SV := ma.bnd fun ss => (escs ss).bnd fun ds => fun ρ => if ds.length ≤ sizeLine then some (.ok (.fz (.tup ds)) ρ) else none
def mLst (ma : M (List SV)) : M SV := ma.bnd fun ss => (escs ss).bnd fun ds => fun ρ => if ds.length ≤ sizeLine then some (.ok (.own (.lst ds)) ρ) else none
theorem pd_tup {es : List Expr} {ma : M (List SV)} {x1} {pos : Pos} (ha : PA X es (tDA c W ma)) : PE X (.Tuple es x1 pos) (tDE c W (mTup ma)) := by
  refine pe_imp (pe_tup ha) fun σ H Q ⟨ρ, ts, R1, q⟩ => bindA (α := Unit) R1 q fun svs vs ρ1 H1 hl R2 q1 => ?_
  cases e : escs svs ρ1 with
  | none => rw [bnd_none e] at q1; exact q1.elim
  | some x =>
    cases x with
    | er x _ => exact absurd e escs_er
    | ok ds ρ2 =>
      rw [bnd_some e] at q1
      obtain ⟨R3, r⟩ := r_escs R2 hl e
      split at q1
      · rename_i hz
        exact ⟨by rw [r.length]; exact hz, fun p hp => fin_tup R3 r hp q1⟩
      · exact q1.elim
theorem pd_lst {es : List Expr} {ma : M (List SV)} {pos : Pos} (ha : PA X es (tDA c W ma)) : PE X (.List es pos) (tDE c W (mLst ma)) := by
  refine pe_imp (pe_lst ha) fun σ H Q ⟨ρ, ts, R1, q⟩ => bindA (α := Unit) R1 q fun svs vs ρ1 H1 hl R2 q1 => ?_
  cases e : escs svs ρ1 with
  | none => rw [bnd_none e] at q1; exact q1.elim
  | some x =>
    cases x with
    | er x _ => exact absurd e escs_er
    | ok ds ρ2 =>
      rw [bnd_some e] at q1
      obtain ⟨R3, r⟩ := r_escs R2 hl e
      split at q1
      · rename_i hz
        exact ⟨by rw [r.length]; exact hz, fun p hp => fin_new R3 r hp q1⟩
      · exact q1.elim
end
end DL

set_option Elab.async false
set_option linter.all false
set_option maxRecDepth 100000
/-! The data layer: built-ins, statements, a def's body. -/
namespace DL
open PySem PySem.Spec PyProof.Rows L2
section
variable {K : PySem.W.Frag} {X : Cx} {A : Addr → Prop} {H : Hp} {ds : List D} {d e : D} {vs : List V} {v : V}
theorem repRL1 (h : RepRL K A H [d] vs) : ∃ v, vs = [v] ∧ RepR K A H d v := by
  obtain ⟨v, vs', rfl, r, rs⟩ := h
  cases (show vs' = [] from rs)
  exact ⟨v, rfl, r⟩
theorem repRL2 (h : RepRL K A H [d, e] vs) : ∃ v u, vs = [v, u] ∧ RepR K A H d v ∧ RepR K A H e u := by
  obtain ⟨v, vs', rfl, r, rs⟩ := h
  obtain ⟨u, rfl, q⟩ := repRL1 rs
  exact ⟨v, u, rfl, r, q⟩
def fLen : List D → Option BR
  | [.lst ds] => some (.imm (.int ds.length))
  | [.tup ds] => some (.imm (.int ds.length))
  | [.seq ds] => some (.imm (.int ds.length))
  | [.str z] => if z.length ≤ sizeLine then some (.imm (.int z.length)) else none
  | _ => none
theorem callB_len : CallB K (fun xs H Q => ∃ x n, xs = [x] ∧ LenV K x H n ∧ Q (.int n) H) fLen := by
  intro A H ds vs b Q h e q
  unfold fLen at e
  split at e
  · cases e
    obtain ⟨v, rfl, r⟩ := repRL1 h
    obtain ⟨a, us, rfl, e2, r⟩ := repR_lst r
    exact ⟨_, us.length, rfl, .inl ⟨us, SqL.of e2, rfl⟩, by rw [r.length]; exact q _ (rep_int _)⟩
  · cases e
    obtain ⟨v, rfl, r⟩ := repRL1 h
    obtain ⟨a, us, rfl, e2, r⟩ := repR_tup r
    exact ⟨_, us.length, rfl, .inr ⟨us, e2, rfl⟩, by rw [r.length]; exact q _ (rep_int _)⟩
  · cases e
    obtain ⟨v, rfl, r⟩ := repRL1 h
    obtain ⟨a, us, rfl, e2, r⟩ := repR_seq r
    exact ⟨_, us.length, rfl, .inl ⟨us, e2.sq, rfl⟩, by rw [r.length]; exact q _ (rep_int _)⟩
  · split at e
    · rename_i z hz
      cases e
      obtain ⟨v, rfl, r⟩ := repRL1 h
      rw [repR_str r]
      exact ⟨_, z.length, rfl, ⟨hz, rfl⟩, q _ (rep_int _)⟩
    · cases e
  · cases e
def fInt : List D → Option BR
  | [.int i] => some (.imm (.int i))
  | [.bl b] => some (.imm (.int (if b then 1 else 0)))
  | _ => none
theorem callB_int : CallB K (fun xs H Q => (∃ i, xs = [.int i] ∧ Q (.int i) H) ∨ ∃ k, xs = [.bl k] ∧ Q (.int (if k then 1 else 0)) H) fInt := by
  intro A H ds vs b Q h e q
  unfold fInt at e
  split at e
  · cases e
    obtain ⟨v, rfl, r⟩ := repRL1 h
    rw [repR_int r]
    exact .inl ⟨_, rfl, q _ (rep_int _)⟩
  · cases e
    obtain ⟨v, rfl, r⟩ := repRL1 h
    rw [repR_bl r]
    exact .inr ⟨_, rfl, q _ (rep_int _)⟩
  · cases e
def fAbs : List D → Option BR
  | [.int i] => some (.imm (.int (if i < 0 then -i else i)))
  | _ => none
theorem callB_abs : CallB K (fun xs H Q => ∃ i, xs = [.int i] ∧ Q (.int (if i < 0 then -i else i)) H) fAbs := by
  intro A H ds vs b Q h e q
  unfold fAbs at e
  split at e
  · cases e
    obtain ⟨v, rfl, r⟩ := repRL1 h
    rw [repR_int r]
    exact ⟨_, rfl, q _ (rep_int _)⟩
  · cases e
def fMax : List D → Option BR
  | [.int i, .int j] => some (.imm (.int (if j > i then j else i)))
  | [.lst ds] => match intsOf ds with
    | some ns => ns.max?.map fun m => .imm (.int m)
    | none => none
  | _ => none
def fMin : List D → Option BR
  | [.int i, .int j] => some (.imm (.int (if j < i then j else i)))
  | [.lst ds] => match intsOf ds with
    | some ns => ns.min?.map fun m => .imm (.int m)
    | none => none
  | _ => none
def rMax' (K : PySem.W.Frag) : List V → Hp → VK → Prop := fun xs H Q => (∃ i j, xs = [.int i, .int j] ∧ Q (.int (if j > i then j else i)) H) ∨ rMax K xs H Q
def rMin' (K : PySem.W.Frag) : List V → Hp → VK → Prop := fun xs H Q => (∃ i j, xs = [.int i, .int j] ∧ Q (.int (if j < i then j else i)) H) ∨ rMin K xs H Q
theorem call_max' (hc : X.calm = true) : CallR X (.builtin "max") (rMax' X.K) := CallR.or (call_max2 hc) (cr_max hc)
theorem call_min' (hc : X.calm = true) : CallR X (.builtin "min") (rMin' X.K) := CallR.or (call_min2 hc) (cr_min hc)
theorem callB_max : CallB K (rMax' K) fMax := by
  intro A H ds vs b Q h e q
  unfold fMax at e
  split at e
  · cases e
    obtain ⟨v, u, rfl, r1, r2⟩ := repRL2 h
    rw [repR_int r1, repR_int r2]
    exact .inl ⟨_, _, rfl, q _ (rep_int _)⟩
  · split at e
    · rename_i ns en
      rw [Option.map_eq_some_iff] at e
      obtain ⟨m, em, rfl⟩ := e
      obtain ⟨v, rfl, r⟩ := repRL1 h
      obtain ⟨a, us, rfl, e2, r⟩ := repR_lst r
      have := intsOf_vs en r
      subst this
      have hm := List.max?_eq_some_iff.mp em
      refine .inr ⟨a, ns, rfl, SqL.of e2, List.length_pos_of_mem hm.1, fun m' h1 h2 => ?_⟩
      have : m' = m := Int.le_antisymm (hm.2 m' h1) (h2 m hm.1)
      rw [this]
      exact q _ (rep_int _)
    · cases e
  · cases e
theorem callB_min : CallB K (rMin' K) fMin := by
  intro A H ds vs b Q h e q
  unfold fMin at e
  split at e
  · cases e
    obtain ⟨v, u, rfl, r1, r2⟩ := repRL2 h
    rw [repR_int r1, repR_int r2]
    exact .inl ⟨_, _, rfl, q _ (rep_int _)⟩
  · split at e
    · rename_i ns en
      rw [Option.map_eq_some_iff] at e
      obtain ⟨m, em, rfl⟩ := e
      obtain ⟨v, rfl, r⟩ := repRL1 h
      obtain ⟨a, us, rfl, e2, r⟩ := repR_lst r
      have := intsOf_vs en r
      subst this
      have hm := List.min?_eq_some_iff.mp em
      refine .inr ⟨a, ns, rfl, SqL.of e2, List.length_pos_of_mem hm.1, fun m' h1 h2 => ?_⟩
      have : m' = m := Int.le_antisymm (h2 m hm.1) (hm.2 m' h1)
      rw [this]
      exact q _ (rep_int _)
    · cases e
  · cases e
def fList : List D → Option BR
  | [.lst ds] => some (.newL ds)
  | [.tup ds] => some (.newL ds)
  | [.seq ds] => some (.newL ds)
  | _ => none
theorem callB_list : CallB K (fun xs H Q => ∃ p ys, xs = [.ref p] ∧ (SqL K H p ys ∨ SqT K H p ys) ∧ ∀ l, H l = none → Q (.ref l) (upd H l (.lst ys))) fList := by
  intro A H ds vs b Q h e q
  unfold fList at e
  split at e
  · cases e
    obtain ⟨v, rfl, r⟩ := repRL1 h
    obtain ⟨a, us, rfl, e2, r⟩ := repR_lst r
    exact ⟨a, us, rfl, .inl (SqL.of e2), fun p hp => q _ p r hp⟩
  · cases e
    obtain ⟨v, rfl, r⟩ := repRL1 h
    obtain ⟨a, us, rfl, e2, r⟩ := repR_tup r
    exact ⟨a, us, rfl, .inr e2, fun p hp => q _ p r hp⟩
  · cases e
    obtain ⟨v, rfl, r⟩ := repRL1 h
    obtain ⟨a, us, rfl, e2, r⟩ := repR_seq r
    exact ⟨a, us, rfl, .inl e2.sq, fun p hp => q _ p r hp⟩
  · cases e
def fTuple : List D → Option BR
  | [.lst ds] => some (.newT ds)
  | [.tup ds] => some (.imm (.tup ds))
  | [.seq ds] => some (.newT ds)
  | _ => none
theorem callB_tuple : CallB K (fun xs H Q => ∃ p ys, xs = [.ref p] ∧ ((SqL K H p ys ∧ ∀ l, H l = none → Q (.ref l) (upd H l (.tup ys))) ∨ (SqT K H p ys ∧ Q (.ref p) H))) fTuple := by
  intro A H ds vs b Q h e q
  unfold fTuple at e
  split at e
  · cases e
    obtain ⟨v, rfl, r⟩ := repRL1 h
    obtain ⟨a, us, rfl, e2, r⟩ := repR_lst r
    exact ⟨a, us, rfl, .inl ⟨SqL.of e2, fun p hp => q _ p r hp⟩⟩
  · cases e
    obtain ⟨v, rfl, r⟩ := repRL1 h
    obtain ⟨a, us, rfl, e2, r⟩ := repR_tup r
    exact ⟨a, us, rfl, .inr ⟨e2, q _ (rep_tup e2 r)⟩⟩
  · cases e
    obtain ⟨v, rfl, r⟩ := repRL1 h
    obtain ⟨a, us, rfl, e2, r⟩ := repR_seq r
    exact ⟨a, us, rfl, .inl ⟨e2.sq, fun p hp => q _ p r hp⟩⟩
  · cases e
def sortI (ns : List Int) : List Int := ns.mergeSort fun a b => decide (a ≤ b)
theorem sortI_perm (ns : List Int) : (sortI ns).Perm ns := List.mergeSort_perm _ _
theorem sortI_le (ns : List Int) : (sortI ns).Pairwise (· ≤ ·) := by
  have := List.pairwise_mergeSort (le := fun (a b : Int) => decide (a ≤ b)) (fun a b c h1 h2 => by simp at h1 h2 ⊢; omega) (fun a b => by simp; omega) ns
  exact this.imp fun h => by simpa using h
def fSorted : List D → Option BR
  | [.lst ds] => (intsOf ds).map fun ns => .newL ((sortI ns).map .int)
  | _ => none
theorem callB_sorted : CallB K (rSortedI K) fSorted := by
  intro A H ds vs b Q h e q
  unfold fSorted at e
  split at e
  · rw [Option.map_eq_some_iff] at e
    obtain ⟨ns, en, rfl⟩ := e
    obtain ⟨v, rfl, r⟩ := repRL1 h
    obtain ⟨a, us, rfl, e2, r⟩ := repR_lst r
    have := intsOf_vs en r
    subst this
    refine ⟨a, ns, rfl, SqL.of e2, fun ns' p hp hs hn => ?_⟩
    have : ns' = sortI ns := PySem.W.ksm_same (hp.trans (sortI_perm ns).symm) hs (sortI_le ns)
    rw [this]
    exact q _ p intsOf_rep hn
  · cases e
def fSum : List D → Option BR
  | [.lst ds] => (intsOf ds).map fun ns => .imm (.int ns.sum)
  | _ => none
theorem callB_sum : CallB K (rSum K) fSum := by
  intro A H ds vs b Q h e q
  unfold fSum at e
  split at e
  · rw [Option.map_eq_some_iff] at e
    obtain ⟨ns, en, rfl⟩ := e
    obtain ⟨v, rfl, r⟩ := repRL1 h
    obtain ⟨a, us, rfl, e2, r⟩ := repR_lst r
    have := intsOf_vs en r
    subst this
    exact ⟨a, ns, rfl, SqL.of e2, q _ (rep_int _)⟩
  · cases e
def blsOf : List D → Option (List Bool)
  | [] => some []
  | .bl b :: ds => (blsOf ds).map (b :: ·)
  | _ => none
theorem blsOf_map (bs : List Bool) : blsOf (bs.map D.bl) = some bs := by
  induction bs with
  | nil => rfl
  | cons n ns ih => simp [blsOf, ih]
theorem blsOf_vs : ∀ {ds : List D} {ns : List Bool} {vs : List V}, blsOf ds = some ns → RepL K A H ds vs → vs = ns.map V.bl
  | [], ns, vs, h, r => by simp only [blsOf, Option.some.injEq] at h; subst h; simp only [RepL] at r; subst r; rfl
  | .bl i :: ds, ns, vs, h, r => by
    simp only [blsOf, Option.map_eq_some_iff] at h
    obtain ⟨ms, e, rfl⟩ := h
    simp only [RepL] at r
    obtain ⟨v, vs', rfl, r, rs⟩ := r
    simp only [Rep] at r
    rw [r, blsOf_vs e rs]; rfl
  | .non :: _, _, _, h, _ => by simp [blsOf] at h
  | .int _ :: _, _, _, h, _ => by simp [blsOf] at h
  | .str _ :: _, _, _, h, _ => by simp [blsOf] at h
  | .tup _ :: _, _, _, h, _ => by simp [blsOf] at h
  | .lst _ :: _, _, _, h, _ => by simp [blsOf] at h
  | .seq _ :: _, _, _, h, _ => by simp [blsOf] at h
  | .obj _ _ _ :: _, _, _, h, _ => by simp [blsOf] at h
  | .dic _ _ :: _, _, _, h, _ => by simp [blsOf] at h
def fAll : List D → Option BR
  | [.lst ds] => (blsOf ds).map fun bs => .imm (.bl (bs.all id))
  | _ => none
def fAny : List D → Option BR
  | [.lst ds] => (blsOf ds).map fun bs => .imm (.bl (bs.any id))
  | _ => none
theorem callB_all : CallB K (rAll K) fAll := by
  intro A H ds vs b Q h e q
  unfold fAll at e
  split at e
  · rw [Option.map_eq_some_iff] at e
    obtain ⟨ns, en, rfl⟩ := e
    obtain ⟨v, rfl, r⟩ := repRL1 h
    obtain ⟨a, us, rfl, e2, r⟩ := repR_lst r
    have := blsOf_vs en r
    subst this
    exact ⟨a, ns, rfl, SqL.of e2, q _ (rep_bl _)⟩
  · cases e
theorem callB_any : CallB K (rAny K) fAny := by
  intro A H ds vs b Q h e q
  unfold fAny at e
  split at e
  · rw [Option.map_eq_some_iff] at e
    obtain ⟨ns, en, rfl⟩ := e
    obtain ⟨v, rfl, r⟩ := repRL1 h
    obtain ⟨a, us, rfl, e2, r⟩ := repR_lst r
    have := blsOf_vs en r
    subst this
    exact ⟨a, ns, rfl, SqL.of e2, q _ (rep_bl _)⟩
  · cases e

/-! isinstance -/
inductive Ty where | non | bl | int | str | lst | tup | dic | set
  deriving DecidableEq
def Ty.name : Ty → String
  | .non => "NoneType" | .bl => "bool" | .int => "int" | .str => "str" | .lst => "list" | .tup => "tuple" | .dic => "dict" | .set => "set"
def tyD : D → Option Ty
  | .non => some .non | .bl _ => some .bl | .int _ => some .int | .str _ => some .str | .lst _ => some .lst | .seq _ => some .lst | .tup _ => some .tup | .obj _ _ _ => none | .dic _ _ => none
def isT : Ty → Ty → Bool
  | .bl, .int => true
  | .non, .non => true | .bl, .bl => true | .int, .int => true | .str, .str => true | .lst, .lst => true | .tup, .tup => true | .dic, .dic => true | .set, .set => true
  | _, _ => false
theorem kitB_isT : ∀ a b : Ty, kitB a.name b.name = some (isT a b) := by
  intro a b
  cases a <;> cases b <;> decide +kernel
theorem tyX_of {t : Ty} (h : RepR K A H d v) (e : tyD d = some t) : TyX K H v (.type t.name) := by
  cases d with
  | non => rw [repR_non h]; cases e; exact .base .non
  | bl b => rw [repR_bl h]; cases e; exact .base (.bl b)
  | int b => rw [repR_int h]; cases e; exact .base (.int b)
  | str b => rw [repR_str h]; cases e; exact .base (.str b)
  | tup ds =>
    obtain ⟨a, vs, rfl, q, r⟩ := repR_tup h
    cases e
    rcases q with (q | ⟨o, q⟩) | ⟨o, its, n, k1, k2, _⟩
    · exact .base (.tup q)
    · exact .fTuple q
    · exact .kTuple k1 k2
  | lst ds =>
    obtain ⟨a, vs, rfl, q, r⟩ := repR_lst h
    cases e
    exact .base (.lst q)
  | seq ds =>
    obtain ⟨a, vs, rfl, q, r⟩ := repR_seq h
    cases e
    rcases q with ⟨o, q⟩ | ⟨o, its, n, k1, k2, _⟩
    · exact .base (.frz q)
    · exact .kList k1 k2
  | obj _ _ _ => cases e
  | dic _ _ => cases e
variable {c : Fc} {W : WX} {σ : L2.St} {ρ : List SV} {ts : Ts} {H' : Hp} {sv : SV} {p : Addr} {i : Nat}
def mIsi (Ts : List Ty) (m : M SV) : M SV := m.bnd fun s => fun ρ => match con ρ s with
  | some d => match tyD d with
    | some t => some (.ok (.fz (.bl (Ts.any (isT t)))) ρ)
    | none => none
  | none => none
theorem pd_isi1 {e e2 : Expr} {m : M SV} {T : Ty} {x : Str} {p' pos : Pos} (he : PE X e (tDE c W m)) (h2 : PE X e2 (tC (.ty T.name))) (hg : Gl X x) (hm : X.mg x = none) (hv : bootBuiltins x = some (.builtin "isinstance")) (hK : c.K = X.K := by rfl)
    (hdb : (x == ("__debug__" : Str)) = false := by decide) (hs : starEach [e, e2] X.env = (false, eval e X.env) :: starEach [e2] X.env := by rfl) (hs2 : starEach [e2] X.env = (false, eval e2 X.env) :: starEach [] X.env := by rfl)
    (h : ∀ t, PA X [e, e2] t → PE X (.Call (.Name x p') [e, e2] [] pos) (tCB (rIsi X.K) t)) : PE X (.Call (.Name x p') [e, e2] [] pos) (tDE c W (mIsi [T] m)) := by
  refine pe_imp (h _ (pa_cons he (pa_cons h2 pa_nil hs2) hs)) fun σ H Q ⟨ρ, ts, R1, q⟩ => ?_
  refine bindE R1 q fun s v ρ1 H1 R2 q1 => ?_
  cases e1 : con ρ1 s with
  | none => rw [e1] at q1; exact q1.elim
  | some d =>
    rw [e1] at q1
    simp only at q1
    cases e2 : tyD d with
    | none => rw [e2] at q1; exact q1.elim
    | some t =>
      rw [e2] at q1
      refine ⟨v, .ty T.name, _, _, isT t T, rfl, .ty _, tyX_of (hK ▸ R2.con List.mem_cons_self e1) e2, kit_ty (kitB_isT t T), ?_⟩
      have q2 : PostE c W σ ts Q (some (.ok (.fz (.bl (isT t T))) ρ1)) := by simpa using q1
      exact fin_fz R2.pop (rep_bl _) q2
theorem kitAny_isT (t : Ty) : ∀ Ts : List Ty, PySem.W.kitAny K (.type t.name) (Ts.map fun T => Value.type T.name) = some (Ts.any (isT t))
  | [] => kitAny_nil
  | T :: Ts => by
    refine kitAny_cons (kit_ty (kitB_isT t T)) (fun e => ?_) fun e => by rw [List.any_cons, e]; rfl
    rw [List.any_cons, e, Bool.false_or]
    exact kitAny_isT t Ts
theorem clsV_tys : ∀ Ts : List Ty, Paired ClsV (Ts.map fun T => V.ty T.name) (Ts.map fun T => Value.type T.name)
  | [] => .nil
  | T :: Ts => .cons (.ty _) (clsV_tys Ts)
theorem pd_isiT {e : Expr} {es : List Expr} {m : M SV} {T1 T2 : Ty} {x : Str} {p' pos tpos : Pos} {x1} (he : PE X e (tDE c W m)) (h2 : PA X es (tCons (tC (.ty T1.name)) (tCons (tC (.ty T2.name)) tNil))) (hK : c.K = X.K := by rfl)
    (hs : starEach [e, .Tuple es x1 tpos] X.env = (false, eval e X.env) :: starEach [.Tuple es x1 tpos] X.env := by rfl) (hs2 : starEach [.Tuple es x1 tpos] X.env = (false, eval (.Tuple es x1 tpos) X.env) :: starEach [] X.env := by rfl)
    (h : ∀ t, PA X [e, .Tuple es x1 tpos] t → PE X (.Call (.Name x p') [e, .Tuple es x1 tpos] [] pos) (tCB (rIsiT X.K) t)) : PE X (.Call (.Name x p') [e, .Tuple es x1 tpos] [] pos) (tDE c W (mIsi [T1, T2] m)) := by
  refine pe_imp (h _ (pa_cons he (pa_cons (pe_tup h2) pa_nil hs2) hs)) fun σ H Q ⟨ρ, ts, R1, q⟩ => ?_
  refine bindE R1 q fun s v ρ1 H1 R2 q1 => ?_
  cases e1 : con ρ1 s with
  | none => rw [e1] at q1; exact q1.elim
  | some d =>
    rw [e1] at q1
    simp only at q1
    cases e2 : tyD d with
    | none => rw [e2] at q1; exact q1.elim
    | some t =>
      rw [e2] at q1
      refine ⟨by rw [sizeLine_eq]; show 2 ≤ 16777216; decide, fun tp htp => ?_⟩
      have R3 := R2.ext (ext_new (o := .tup [.ty T1.name, .ty T2.name]) htp)
      refine ⟨v, tp, [.ty T1.name, .ty T2.name], _, _, _, rfl, upd_same, clsV_tys [T1, T2], tyX_of (hK ▸ R3.con List.mem_cons_self e1) e2, kitAny_isT t [T1, T2], ?_⟩
      exact fin_fz R3.pop (rep_bl _) q1
end
end DL

set_option Elab.async false
set_option linter.all false
set_option maxRecDepth 100000
/-! The data layer: statements, loops. -/
namespace DL
open PySem PySem.Spec PyProof.Rows L2

inductive SR where
  | nx (ρ : List SV) | rt (sv : SV) (ρ : List SV) | bk (ρ : List SV) | ct (ρ : List SV) | er (e : Ex) (ρ : List SV)
abbrev MS := List SV → Option SR
def PostS (c : Fc) (W : WX) (ts : Ts) (D : Ends) : Option SR → Prop
  | some (.nx ρ) => ∀ σ H, R c σ ρ ts H → D.nx σ H
  | some (.rt sv ρ) => ∀ σ v H, R c σ ρ ((sv, v) :: ts) H → D.rt v H
  | some (.bk ρ) => ∀ σ H, R c σ ρ ts H → D.bk σ H
  | some (.ct ρ) => ∀ σ H, R c σ ρ ts H → D.ct σ H
  | some (.er e ρ) => ∀ σ cls od H, R c σ ρ ts H → ExRep c.K (Avr c σ ρ ts) H e cls od → W cls od σ H
  | none => False
def tDS (c : Fc) (W : WX) (m : MS) : TS := fun D σ H => ∃ ρ ts, R c σ ρ ts H ∧ NoLoc ts ∧ PostS c W ts D (m ρ)
theorem ps_imp {X : Cx} {s : Stmt} {t t' : TS} (h : PS X s t) (hi : ∀ D σ H, t' D σ H → t D σ H) : PS X s t' := ⟨fun pins s σ H D I q => h.run pins s σ H D I (hi _ _ _ q)⟩
theorem pss_imp {X : Cx} {s : List Stmt} {t t' : TS} (h : PSs X s t) (hi : ∀ D σ H, t' D σ H → t D σ H) : PSs X s t' := ⟨fun pins s σ H D I q => h.run pins s σ H D I (hi _ _ _ q)⟩
def mSeq (a b : MS) : MS := fun ρ => match a ρ with
  | some (.nx ρ') => b ρ'
  | r => r
def mNext : MS := fun ρ => some (.nx ρ)
section
variable {c : Fc} {W : WX} {X : Cx} {σ : L2.St} {ρ : List SV} {ts : Ts} {H H' : Hp} {sv : SV} {d : D} {ds : List D} {v : V} {vs : List V} {p : Addr} {i : Nat} {Dn : Ends} {pos : Pos}
theorem pd_snil : PSs X [] (tDS c W mNext) := pss_imp pss_nil fun D σ H ⟨ρ, ts, r, n, q⟩ => q σ H r
theorem pd_scons {s : Stmt} {ss : List Stmt} {a b : MS} (h1 : PS X s (tDS c W a)) (h2 : PSs X ss (tDS c W b)) : PSs X (s :: ss) (tDS c W (mSeq a b)) := by
  refine pss_imp (pss_cons h1 h2) fun D σ H ⟨ρ, ts, r, n, q⟩ => ⟨ρ, ts, r, n, ?_⟩
  unfold mSeq at q
  cases e : a ρ with
  | none => rw [e] at q; exact q
  | some x =>
    rw [e] at q
    cases x with
    | nx ρ' => exact fun σ' H' r' => ⟨ρ', ts, r', n, q⟩
    | rt sv ρ' => exact q
    | bk ρ' => exact q
    | ct ρ' => exact q
    | er e ρ' => exact q
theorem pd_sone {s : Stmt} {a : MS} (h1 : PS X s (tDS c W a)) : PSs X [s] (tDS c W a) := pss_one h1
def mPass : MS := fun ρ => some (.nx ρ)
def mBrk : MS := fun ρ => some (.bk ρ)
def mCnt : MS := fun ρ => some (.ct ρ)
theorem pd_pass : PS X (.Pass pos) (tDS c W mPass) := ps_imp ps_pass fun D σ H ⟨ρ, ts, r, n, q⟩ => q σ H r
theorem pd_brk : PS X (.Break pos) (tDS c W mBrk) := ps_imp ps_break fun D σ H ⟨ρ, ts, r, n, q⟩ => q σ H r
theorem pd_cnt : PS X (.Continue pos) (tDS c W mCnt) := ps_imp ps_continue fun D σ H ⟨ρ, ts, r, n, q⟩ => q σ H r
theorem pd_doc {x j pos'} : PS X (.Expr (.Constant (.str x) j pos) pos') (tDS c W mPass) := ps_imp ps_doc fun D σ H ⟨ρ, ts, r, n, q⟩ => q σ H r
/-- an expression within a statement -/
def mE (m : M SV) (f : SV → MS) : MS := fun ρ => match m ρ with
  | some (.ok sv ρ') => f sv ρ'
  | some (.er e ρ') => some (.er e ρ')
  | none => none
theorem bindS {m : M SV} {f : SV → MS} (r : R c σ ρ ts H) (h : PostS c W ts Dn (mE m f ρ)) {Q' : VK} (k : ∀ sv v ρ' H', R c σ ρ' ((sv, v) :: ts) H' → PostS c W ts Dn (f sv ρ') → Q' v H') : tDE c W m σ H Q' := by
  refine ⟨ρ, ts, r, ?_⟩
  unfold mE at h
  cases e : m ρ with
  | none => rw [e] at h; exact h
  | some x =>
    rw [e] at h
    cases x with
    | er x ρ' => exact fun cls od H' r' z => h σ cls od H' r' z
    | ok sv ρ' => exact fun v H' r' => k sv v ρ' H' r' h
def mExpr (m : M SV) : MS := mE m fun _ ρ => some (.nx ρ)
theorem pd_expr {e : Expr} {m : M SV} (he : PE X e (tDE c W m)) (hs : swapsWith e none pos.line X.env = pure false := by rfl) : PS X (.Expr e pos) (tDS c W (mExpr m)) :=
  ps_imp (ps_expr he hs) fun D σ H ⟨ρ, ts, r, n, q⟩ => bindS r q fun sv v ρ' H' r' q' => q' σ H' r'.pop
def mRet (m : M SV) : MS := mE m fun sv ρ => some (.rt sv ρ)
def mRetN : MS := fun ρ => some (.rt (.fz .non) ρ)
theorem pd_ret {e : Expr} {m : M SV} (he : PE X e (tDE c W m)) : PS X (.Return (some e) pos) (tDS c W (mRet m)) :=
  ps_imp (ps_ret he) fun D σ H ⟨ρ, ts, r, n, q⟩ => bindS r q fun sv v ρ' H' r' q' => q' σ v H' r'
theorem pd_retN : PS X (.Return none pos) (tDS c W mRetN) := ps_imp ps_retN fun D σ H ⟨ρ, ts, r, n, q⟩ => q σ .non H (r.push_fz rep_non)
def mIf (t : M Bool) (a b : MS) : MS := fun ρ => match t ρ with
  | some (.ok bb ρ') => if bb = true then a ρ' else b ρ'
  | some (.er e ρ') => some (.er e ρ')
  | none => none
theorem pd_if {t : Expr} {a b : List Stmt} {mt : M Bool} {ma mb : MS} (ht : PT X t (tDT c W mt)) (ha : PSs X a (tDS c W ma)) (hb : PSs X b (tDS c W mb)) : PS X (.If t a b pos) (tDS c W (mIf mt ma mb)) := by
  refine ps_imp (ps_if ht ha hb) fun D σ H ⟨ρ, ts, r, n, q⟩ => ⟨ρ, ts, r, ?_⟩
  unfold mIf at q
  cases e : mt ρ with
  | none => rw [e] at q; exact q
  | some x =>
    rw [e] at q
    cases x with
    | er x ρ' => exact fun cls od H' r' z => q σ cls od H' r' z
    | ok bb ρ' =>
      intro H' r'
      cases bb with
      | true => exact ⟨ρ', ts, r', n, q⟩
      | false => exact ⟨ρ', ts, r', n, q⟩
/-! ### targets -/
/-- a value is stored at slot i -/
def sto (i : Nat) (sv : SV) : List SV → Option (List SV) := fun ρ => if i < ρ.length then (match sv with
    | .fz d => some (ρ.set i (.fz d))
    | .own d => some (ρ.set i (.own d))
    | .box d => some (ρ.set i (.box d))
    | .loc j => match ρ[j]? with
      | some (.own d) => some ((ρ.set j (.fz d)).set i (.fz d))
      | some (.fz d) => some (ρ.set i (.fz d))
      | _ => none
    | .un => none) else none
theorem r_sto {ρ' : List SV} (r : R c σ ρ ((sv, v) :: ts) H) (n : NoLoc ts) (hp : c.pin i = none) (h : sto i sv ρ = some ρ') : R c (σ.set i (some v)) ρ' ts H := by
  unfold sto at h
  split at h
  · rename_i hi
    have hi' : i < σ.length := by rw [← r.len]; exact hi
    have nl : ∀ {s : SV}, (∀ j, s ≠ .loc j) → NoLoc ((s, v) :: ts) := fun hs j u hm => by
      rcases List.mem_cons.mp hm with z | z
      · cases z; exact hs j rfl
      · exact n j u z
    cases sv with
    | un => cases h
    | fz d => cases h; exact r.store (nl fun j z => by cases z) hi' hp
    | own d => cases h; exact r.store (nl fun j z => by cases z) hi' hp
    | box d => cases h; exact r.store (nl fun j z => by cases z) hi' hp
    | loc j =>
      simp only at h
      split at h
      · rename_i d e
        cases h
        have hl : j < ρ.length := (List.getElem?_eq_some_iff.mp e).1
        exact ((r.demote e).loc_fz (d := d) (by simp [hl])).store (nl fun j z => by cases z) hi' hp
      · rename_i d e
        cases h
        exact (r.loc_fz e).store (nl fun j z => by cases z) hi' hp
      · cases h
  · cases h
def mTo (g : SV → List SV → Option (List SV)) (m : M SV) : MS := mE m fun sv ρ => (g sv ρ).map .nx
abbrev mSet (i : Nat) (m : M SV) : MS := mTo (sto i) m
theorem pd_set {i : Nat} {x : Str} {e : Expr} {m : M SV} {pos' : Pos} (he : PE X e (tDE c W m)) (h : ∀ t, PE X e t → PS X (.Assign [.Name x pos'] e pos) (tAsg t (gName i))) (hp : c.pin i = none := by rfl) : PS X (.Assign [.Name x pos'] e pos) (tDS c W (mSet i m)) := by
  refine ps_imp (h _ he) fun D σ H ⟨ρ, ts, r, n, q⟩ => bindS r q fun sv v ρ' H' r' q' => ?_
  cases e : sto i sv ρ' with
  | none => rw [e] at q'; exact q'.elim
  | some ρ2 =>
    rw [e] at q'
    exact q' _ _ (r_sto r' n hp e)
/-- targets in general -/
def tDG (c : Fc) (g : SV → List SV → Option (List SV)) : TG := fun v σ H Q => ∃ ρ ts sv, R c σ ρ ((sv, v) :: ts) H ∧ NoLoc ts ∧ match g sv ρ with
  | some ρ' => ∀ σ' H', R c σ' ρ' ts H' → Q σ' H'
  | none => False
def tDGs (c : Fc) (g : List D → List SV → Option (List SV)) : TGs := fun vs σ H Q => ∃ ρ ts ds, R c σ ρ ts H ∧ NoLoc ts ∧ RepL c.K (Avr c σ ρ ts) H ds vs ∧ match g ds ρ with
  | some ρ' => ∀ σ' H', R c σ' ρ' ts H' → Q σ' H'
  | none => False
theorem pg_imp {e : Expr} {t t' : TG} (h : PG X e t) (hi : ∀ v σ H Q, t' v σ H Q → t v σ H Q) : PG X e t' := ⟨fun pins s σ H v u Q I r q => h.run pins s σ H v u Q I r (hi _ _ _ _ q)⟩
theorem pgs_imp {es : List Expr} {t t' : TGs} (h : PGs X es t) (hi : ∀ v σ H Q, t' v σ H Q → t v σ H Q) : PGs X es t' := ⟨fun pins s σ H v u Q I r q => h.run pins s σ H v u Q I r (hi _ _ _ _ q)⟩
theorem pg_or {e : Expr} {t t' : TG} (h : PG X e t) (h' : PG X e t') : PG X e (fun v σ H Q => t v σ H Q ∨ t' v σ H Q) := ⟨fun pins s σ H v u Q I r q => q.elim (h.run pins s σ H v u Q I r) (h'.run pins s σ H v u Q I r)⟩
theorem pd_gname {i : Nat} {x : Str} (h : PG X (.Name x pos) (gName i)) (hp : c.pin i = none := by rfl) : PG X (.Name x pos) (tDG c (sto i)) := by
  refine pg_imp h fun v σ H Q ⟨ρ, ts, sv, r, n, q⟩ => ?_
  cases e : sto i sv ρ with
  | none => rw [e] at q; exact q.elim
  | some ρ' =>
    rw [e] at q
    exact q _ _ (r_sto r n hp e)
def gsNil (ds : List D) (ρ : List SV) : Option (List SV) := match ds with
  | [] => some ρ
  | _ => none
def gsCons (g : SV → List SV → Option (List SV)) (gs : List D → List SV → Option (List SV)) (ds : List D) (ρ : List SV) : Option (List SV) := match ds with
  | d :: ds => match g (.fz d) ρ with
    | some ρ' => gs ds ρ'
    | none => none
  | [] => none
theorem pd_gsnil : PGs X [] (tDGs c gsNil) := by
  refine pgs_imp pgs_nil fun v σ H Q ⟨ρ, ts, ds, r, n, rl, q⟩ => ?_
  cases ds with
  | nil => simp only [RepL] at rl; exact ⟨rl, q σ H r⟩
  | cons _ _ => exact q.elim
theorem tsP_fz {ds : List D} {vs : List V} : Own (tsP ((ds.map SV.fz).zip vs)) = [] := own_fz ds vs
theorem r_pushs : ∀ {ds : List D} {vs : List V}, R c σ ρ ts H → RepL c.K (Avr c σ ρ ts) H ds vs → R c σ ρ ((ds.map SV.fz).zip vs ++ ts) H
  | [], vs, r, h => by simp only [RepL] at h; subst h; exact r
  | d :: ds, vs, r, h => by
    simp only [RepL] at h
    obtain ⟨v, vs', rfl, q, qs⟩ := h
    have r2 := r_pushs r qs
    refine R.push_fz r2 ?_
    have : Avr c σ ρ ((ds.map SV.fz).zip vs' ++ ts) = Avr c σ ρ ts := by
      funext a
      unfold Avr Av
      rw [tsP_append, List.append_assoc, own_append, tsP_fz]
      rfl
    show Rep c.K (Avr c σ ρ ((ds.map SV.fz).zip vs' ++ ts)) H d v
    rw [this]; exact q
theorem r_pulls : ∀ {ds : List D} {vs : List V}, ds.length = vs.length → R c σ ρ ((ds.map SV.fz).zip vs ++ ts) H → R c σ ρ ts H ∧ RepL c.K (Avr c σ ρ ts) H ds vs
  | [], vs, hl, r => by
    cases vs with
    | nil => exact ⟨r, RepL.nil⟩
    | cons _ _ => cases hl
  | d :: ds, vs, hl, r => by
    cases vs with
    | nil => cases hl
    | cons v vs =>
    have q := R.top_fz (ts := (ds.map SV.fz).zip vs ++ ts) r
    obtain ⟨r2, qs⟩ := r_pulls (by simpa using hl) r.pop
    refine ⟨r2, RepL.cons ?_ qs⟩
    refine q.less fun a y => .inl (y.imp id fun z => ?_)
    rw [tsP_append, List.append_assoc, own_append]
    exact List.mem_append_right _ z
theorem noLoc_fz {ds : List D} {vs : List V} (n : NoLoc ts) : NoLoc ((ds.map SV.fz).zip vs ++ ts) := fun i v h => by
  rcases List.mem_append.mp h with z | z
  · have := (List.of_mem_zip z).1
    simp at this
  · exact n i v z
theorem pd_gscons {e : Expr} {es : List Expr} {g : SV → List SV → Option (List SV)} {gs : List D → List SV → Option (List SV)} (h1 : PG X e (tDG c g)) (h2 : PGs X es (tDGs c gs))
    (hs : (assignEach (e :: es) X.env).map (·.2) = assign e X.env :: (assignEach es X.env).map (·.2) := by rfl) : PGs X (e :: es) (tDGs c (gsCons g gs)) := by
  refine pgs_imp (pgs_cons h1 h2 hs) fun vs σ H Q ⟨ρ, ts, ds, r, n, rl, q⟩ => ?_
  cases ds with
  | nil => exact q.elim
  | cons d ds =>
    have r2 := r_pushs r rl
    have hl := rl.length
    simp only [RepL] at rl
    obtain ⟨v, vs', rfl, q1, qs⟩ := rl
    refine ⟨v, vs', rfl, ρ, (ds.map SV.fz).zip vs' ++ ts, .fz d, r2, noLoc_fz n, ?_⟩
    simp only [gsCons] at q
    cases e : g (.fz d) ρ with
    | none => rw [e] at q; exact q.elim
    | some ρ' =>
      rw [e] at q
      intro σ' H' r'
      obtain ⟨r3, q3⟩ := r_pulls (by simp at hl; exact hl.symm) r'
      exact ⟨ρ', ts, ds, r3, n, q3, q⟩
def gTupD (k : Nat) (gs : List D → List SV → Option (List SV)) (sv : SV) (ρ : List SV) : Option (List SV) := match esc sv ρ with
  | some (.ok d ρ') => match d with
    | .tup ds => if ds.length = k then gs ds ρ' else none
    | .lst ds => if ds.length = k then gs ds ρ' else none
    | .seq ds => if ds.length = k then gs ds ρ' else none
    | _ => none
  | _ => none
theorem pd_gtup {es : List Expr} {k : Nat} {gs : List D → List SV → Option (List SV)} {n : Nat} (hc : X.calm = true) (h : PGs X es (tDGs c gs)) (hK : c.K = X.K := by rfl)
    (hn : (assignEach es X.env).length = n := by rfl) (hst : (assignEach es X.env).findIdx? (·.1) = none := by rfl) : PG X (.Tuple es k pos) (tDG c (gTupD n gs)) := by
  refine pg_imp (pg_or (pg_tup hc h hn hst) (pg_lst hc h hn hst)) fun v σ H Q ⟨ρ, ts, sv, r, nl, q⟩ => ?_
  unfold gTupD at q
  cases e : esc sv ρ with
  | none => rw [e] at q; exact q.elim
  | some x =>
    cases x with
    | er x _ => exact absurd e esc_er
    | ok d ρ' =>
      rw [e] at q
      have r' := r_esc r e
      have t := r'.top_fz
      have fin : ∀ {ds : List D}, (match (if ds.length = n then gs ds ρ' else none) with
          | some ρ' => ∀ σ' H', R c σ' ρ' ts H' → Q σ' H'
          | none => False) → ds.length = n ∧ match gs ds ρ' with
          | some ρ' => ∀ σ' H', R c σ' ρ' ts H' → Q σ' H'
          | none => False := fun {ds} z => by
        by_cases hl : ds.length = n
        · rw [if_pos hl] at z; exact ⟨hl, z⟩
        · rw [if_neg hl] at z; exact z.elim
      cases d with
      | tup ds =>
        obtain ⟨hl, q⟩ := fin q
        simp only [Rep] at t
        obtain ⟨a, vs, rfl, e2, rl⟩ := t
        exact .inl ⟨a, vs, rfl, hK ▸ e2, by rw [rl.length]; exact hl, ρ', ts, ds, r'.pop, nl, rl, q⟩
      | lst ds =>
        obtain ⟨hl, q⟩ := fin q
        simp only [Rep] at t
        obtain ⟨a, vs, rfl, e2, rl⟩ := t
        exact .inr ⟨a, vs, rfl, SqL.of e2.1, by rw [rl.length]; exact hl, ρ', ts, ds, r'.pop, nl, rl, q⟩
      | seq ds =>
        obtain ⟨hl, q⟩ := fin q
        simp only [Rep] at t
        obtain ⟨a, vs, rfl, e2, rl⟩ := t
        exact .inr ⟨a, vs, rfl, hK ▸ e2.sq, by rw [rl.length]; exact hl, ρ', ts, ds, r'.pop, nl, rl, q⟩
      | _ => exact q.elim
theorem pd_asg {tg e : Expr} {m : M SV} {g : SV → List SV → Option (List SV)} (he : PE X e (tDE c W m)) (hg : PG X tg (tDG c g)) (hs : swapsWithSole [tg] e pos.line X.env = pure false := by rfl) (hw : swappedStores [tg] e X.env = pure none := by rfl)
    (h1 : (assignEach [tg] X.env).map (·.2) = [assign tg X.env] := by rfl) : PS X (.Assign [tg] e pos) (tDS c W (mTo g m)) := by
  refine ps_imp (ps_asg he hg hs hw h1) fun D σ H ⟨ρ, ts, r, n, q⟩ => bindS r q fun sv v ρ' H' r' q' => ?_
  refine ⟨ρ', ts, sv, r', n, ?_⟩
  cases e : g sv ρ' with
  | none => rw [e] at q'; exact q'.elim
  | some ρ2 =>
    rw [e] at q'
    exact fun σ' H' r2 => q' _ _ r2
theorem bindS1 {m : M SV} {f : SV → MS} {t : SV × V} (r : R c σ ρ (t :: ts) H) (h : PostS c W ts Dn (mE m f ρ)) {Q' : VK} (k : ∀ sv v ρ' H', R c σ ρ' ((sv, v) :: t :: ts) H' → PostS c W ts Dn (f sv ρ') → Q' v H') : tDE c W m σ H Q' := by
  refine ⟨ρ, t :: ts, r, ?_⟩
  unfold mE at h
  cases e : m ρ with
  | none => rw [e] at h; exact h
  | some x =>
    rw [e] at h
    cases x with
    | er x ρ' => exact fun cls od H' r' z => h σ cls od H' r'.pop (z.less avr_sub)
    | ok sv ρ' => exact fun v H' r' => k sv v ρ' H' r' h
/-- xs[k] = value, xs slot j's own list -/
def putAt (j : Nat) (si sv : SV) : MS := fun ρ => match si with
  | .fz (.int k) => match esc sv ρ with
    | some (.ok d ρ') => match ρ'[j]? with
      | some (.own (.lst ds)) => match ixN ds.length k with
        | some n => some (.nx (ρ'.set j (.own (.lst (ds.set n d)))))
        | none => none
      | _ => none
    | _ => none
  | _ => none
def atOwn (j : Nat) (m : MS) : MS := fun ρ => match ρ[j]? with
  | some (.own _) => m ρ
  | _ => none
def mSetAt (j : Nat) (m mi : M SV) : MS := mE m fun sv => atOwn j (mE mi fun si => putAt j si sv)
theorem r_putAt {si : SV} {u w : V} (r : R c σ ρ ((si, u) :: (sv, v) :: ts) H) (hw : σ[i]? = some (some w)) (q : PostS c W ts Dn (putAt i si sv ρ)) : rSetL w u v H fun H3 => Dn.nx σ H3 := by
  unfold putAt at q
  split at q
  case h_2 => exact q.elim
  rename_i k
  have hu : u = .int k := by have z := r.top_fz; simpa only [Rep] using z
  cases e : esc sv ρ with
  | none => rw [e] at q; exact q.elim
  | some x =>
    cases x with
    | er x _ => exact absurd e esc_er
    | ok d ρ' =>
      rw [e] at q
      have r2 := r_esc r.pop e
      simp only at q
      cases e2 : ρ'[i]? with
      | none => rw [e2] at q; exact q.elim
      | some s =>
        rw [e2] at q
        cases s with
        | own d' =>
          cases d' with
          | lst ds =>
            simp only at q
            cases e3 : ixN ds.length k with
            | none => rw [e3] at q; exact q.elim
            | some n =>
              rw [e3] at q
              obtain ⟨p, ds', vs', e4, e5, e6, rl⟩ := r2.pop.slot_own e2
              cases e5
              rw [hw] at e4; cases e4
              refine ⟨p, vs', k, n, rfl, hu, e6, by rw [rl.length]; exact e3, ?_⟩
              exact q σ _ (r2.pop.write e2 hw (rl.set n r2.top_fz) upd_same fun a o ha h => by rw [upd_ne ha]; exact h)
          | _ => exact q.elim
        | _ => exact q.elim
theorem pd_setAt {ie e : Expr} {x : Str} {j : Nat} {po pt : Pos} {m mi : M SV} (ho : PE X (.Name x po) (tVar j)) (hi : PE X ie (tDE c W mi)) (he : PE X e (tDE c W m))
    (ha : ∀ v, assign (.Subscript (.Name x po) ie pt) X.env v = (do
      let ov ← holding [v] (eval (.Name x po) X.env)
      let iv ← holding [v, ov] (eval ie X.env)
      standAt pt
      holding [v, ov, iv] (setItem ov iv v)
      release [v, ov, iv] []) := by intro _; rfl)
    (hs : swapsWithSole [.Subscript (.Name x po) ie pt] e pos.line X.env = pure false := by rfl) (hw : swappedStores [.Subscript (.Name x po) ie pt] e X.env = pure none := by rfl)
    (h1 : (assignEach [.Subscript (.Name x po) ie pt] X.env).map (·.2) = [assign (.Subscript (.Name x po) ie pt) X.env] := by rfl) : PS X (.Assign [.Subscript (.Name x po) ie pt] e pos) (tDS c W (mSetAt j m mi)) := by
  refine ps_imp (ps_asg he (pg_sub ho hi set_list ha) hs hw h1) fun D σ H ⟨ρ, ts, r, n, q⟩ => bindS r q fun sv v ρ1 H1 r1 q1 => ?_
  unfold atOwn at q1
  cases ej : ρ1[j]? with
  | none => rw [ej] at q1; exact q1.elim
  | some s =>
    rw [ej] at q1
    cases s with
    | own d =>
      simp only at q1
      obtain ⟨p, ds, vs, e4, _⟩ := r1.slot_own ej
      exact ⟨_, e4, bindS1 r1 q1 fun si u ρ2 H2 r2 q2 => r_putAt r2 e4 q2⟩
    | _ => exact q1.elim
/-- name op= value -/
def mAug (f : D → D → Option BR) (i : Nat) (m : M SV) : MS := fun ρ => match ρ[i]? with
  | some (.fz d) => mE m (fun sv ρ1 => match con ρ1 sv with
    | some d2 => match f d d2 with
      | some (.imm d3) => some (.nx (ρ1.set i (.fz d3)))
      | _ => none
    | none => none) ρ
  | _ => none
def IpB (K : PySem.W.Frag) (t : TIp) (f : D → D → Option BR) : Prop := ∀ (A : Addr → Prop) (H : Hp) (d1 d2 d3 : D) (v1 v2 : V) (Q : VK), RepR K A H d1 v1 → RepR K A H d2 v2 → f d1 d2 = some (.imm d3) → (∀ v, Rep K A H d3 v → Q v H) → t v1 v2 H Q
theorem pd_aug {x : Str} {e : Expr} {op : Operator} {pos' : Pos} {m : M SV} {ti : TIp} {f : D → D → Option BR} (hi : IpB c.K ti f) (he : PE X e (tDE c W m)) (h : PS X (.AugAssign (.Name x pos') op e pos) (tAug i (tDE c W m) ti)) (hp : c.pin i = none := by rfl) : PS X (.AugAssign (.Name x pos') op e pos) (tDS c W (mAug f i m)) := by
  refine ps_imp h fun D σ H ⟨ρ, ts, r, n, q⟩ => ?_
  unfold mAug at q
  cases e1 : ρ[i]? with
  | none => rw [e1] at q; exact q.elim
  | some s =>
    rw [e1] at q
    cases s with
    | fz d =>
      obtain ⟨v, e2, r2⟩ := r.slot_fz e1
      refine ⟨v, e2, bindS1 (t := (.fz d, v)) r2 q fun sv u ρ1 H1 r3 q1 => ?_⟩
      cases e3 : con ρ1 sv with
      | none => rw [e3] at q1; exact q1.elim
      | some d2 =>
        rw [e3] at q1
        simp only at q1
        cases e4 : f d d2 with
        | none => rw [e4] at q1; exact q1.elim
        | some b =>
          rw [e4] at q1
          cases b with
          | imm d3 =>
            refine hi _ H1 d d2 d3 v u _ (r3.con (sv := .fz d) (List.mem_cons_of_mem _ List.mem_cons_self) rfl) (r3.con List.mem_cons_self e3) e4 fun w hw => ?_
            have r4 : R c σ ρ1 ((.fz d3, w) :: ts) H1 := r3.pop.pop.push_fz (hw.less fun a y => .inl (avr_sub a (avr_sub a y)))
            refine q1 _ H1 (r4.store (fun j z hm => ?_) ?_ hp)
            · rcases List.mem_cons.mp hm with y | y
              · cases y
              · exact n j z y
            · have := (List.getElem?_eq_some_iff.mp e2).1
              exact this
          | _ => exact q1.elim
    | _ => exact q.elim
def fAddI := iff2 yes2 fun i j => i + j
def fSubI := iff2 yes2 fun i j => i - j
theorem ipB_I {K : PySem.W.Frag} {g : Int → Int → Int} : IpB K (ipI g) (iff2 yes2 g) := by
  intro A H d1 d2 d3 v1 v2 Q h1 h2 e q
  unfold iff2 at e
  split at e
  · simp only [yes2, if_true] at e
    cases e
    exact ⟨_, _, repR_int h1, repR_int h2, q _ (rep_int _)⟩
  · cases e
theorem pGet_list {X : Cx} : PGet X (rIxL X.K) := by
  intro pins s σ H o i ov iv Q I ro ri h
  obtain ⟨p, xs, k, z, rfl, rfl, hq, he, q⟩ := h
  cases ro
  obtain ⟨t, rfl⟩ := ri
  obtain ⟨its, r, pl, hz⟩ := I.list hq
  obtain ⟨j, h1, h2, h3, h4, h5⟩ := atI_get he
  obtain ⟨w, ew, rw'⟩ := r.get h2
  have hl := r.length
  have hn := line63
  have fin : EP X pins σ Q w s := ⟨z, H, I, rw', q⟩
  by_cases h0 : 0 ≤ k
  · have hj : k.toNat = j := by
      rw [seqIndex_of h0 h5] at h1
      exact Option.some.inj h1
    exact wpAny_getItem_list pl.isList h0 (by omega) (by rw [hj]; simpa using ew) fin
  · have hj : (k + (its.toArray.size : Int)).toNat = j := by
      rw [seqIndex_neg (by omega) h4] at h1
      rw [List.size_toArray, ← hl]
      exact Option.some.inj h1
    exact wpAny_getItem_list_neg pl.isList (by omega) (by rw [List.size_toArray] <;> omega) (by omega) (by rw [hj]; simpa using ew) fin
def augAt2 (f : D → D → Option BR) (j : Nat) (k : Int) (d : D) (sv : SV) : MS := fun ρ1 => match ρ1[j]? with
  | some (.own (.lst ds1)) => match con ρ1 sv, ixN ds1.length k with
    | some d2, some n => match f d d2 with
      | some (.imm d3) => if nolist d3 = true then some (.nx (ρ1.set j (.own (.lst (ds1.set n d3))))) else none
      | _ => none
    | _, _ => none
  | _ => none
def augAt1 (f : D → D → Option BR) (j : Nat) (m : M SV) (si : SV) : MS := fun ρ => match si with
  | .fz (.int k) => match ρ[j]? with
    | some (.own (.lst ds)) => match atI ds k with
      | some d => mE m (fun sv => augAt2 f j k d sv) ρ
      | none => none
    | _ => none
  | _ => none
def mAugAt (f : D → D → Option BR) (j : Nat) (mi m : M SV) : MS := atOwn j (mE mi fun si => augAt1 f j m si)
theorem pd_augAt {x : Str} {ie e : Expr} {op : Operator} {po tpos : Pos} {j : Nat} {m mi : M SV} {ti : TIp} {f : D → D → Option BR} (hi : IpB c.K ti f) (hp : PIp X op ti) (ho : PE X (.Name x po) (tVar j)) (hie : PE X ie (tDE c W mi)) (he : PE X e (tDE c W m)) (hK : c.K = X.K := by rfl)
    (ha : ∀ ov iv new, augStore ie ov iv new = (do holding [new, ov, iv] (setItem ov iv new); release [new, ov, iv] []; pure .next) := by intros; rfl) : PS X (.AugAssign (.Subscript (.Name x po) ie tpos) op e pos) (tDS c W (mAugAt f j mi m)) := by
  refine ps_imp (ps_augS ho hie pGet_list he hp set_list ha) fun D σ H ⟨ρ, ts, r, n, q⟩ => ?_
  unfold mAugAt atOwn at q
  cases ej : ρ[j]? with
  | none => rw [ej] at q; exact q.elim
  | some s =>
    rw [ej] at q
    cases s with
    | own d0 =>
      simp only at q
      obtain ⟨p, _, _, e4, _⟩ := r.slot_own ej
      refine ⟨_, e4, bindS r q fun si u ρ1 H1 r1 q1 => ?_⟩
      unfold augAt1 at q1
      split at q1
      case h_2 => exact q1.elim
      rename_i k
      have hu : u = .int k := by have z := r1.top_fz; simpa only [Rep] using z
      cases e1 : ρ1[j]? with
      | none => rw [e1] at q1; exact q1.elim
      | some s =>
        rw [e1] at q1
        cases s with
        | own d1 =>
          cases d1 with
          | lst ds =>
            simp only at q1
            cases e2 : atI ds k with
            | none => rw [e2] at q1; exact q1.elim
            | some d =>
              rw [e2] at q1
              simp only at q1
              obtain ⟨p1, ds', vs', f1, f2, f3, rl⟩ := r1.slot_own e1
              cases f2
              rw [e4] at f1; cases f1
              obtain ⟨x3, g1, g2⟩ := atI_rep rl e2
              have r2 : R c σ ρ1 ((.fz d, x3) :: ts) H1 := r1.pop.push_fz (g2.less fun a y => .inl (avr_sub a y))
              refine ⟨p, vs', k, x3, rfl, hu, SqL.of f3, g1, bindS1 (t := (.fz d, x3)) r2 q1 fun sv y ρ2 H2 r3 q2 => ?_⟩
              unfold augAt2 at q2
              cases e5 : ρ2[j]? with
              | none => rw [e5] at q2; exact q2.elim
              | some s =>
                rw [e5] at q2
                cases s with
                | own d2 =>
                  cases d2 with
                  | lst ds1 =>
                    simp only at q2
                    cases e6 : con ρ2 sv with
                    | none => rw [e6] at q2; exact q2.elim
                    | some d2 =>
                    cases e7 : ixN ds1.length k with
                    | none => rw [e6, e7] at q2; exact q2.elim
                    | some nn =>
                    rw [e6, e7] at q2
                    simp only at q2
                    cases e8 : f d d2 with
                    | none => rw [e8] at q2; exact q2.elim
                    | some b =>
                    rw [e8] at q2
                    cases b with
                    | imm d3 =>
                      simp only at q2
                      by_cases hc : nolist d3 = true
                      · rw [if_pos hc] at q2
                        refine hi _ H2 d d2 d3 x3 y _ (r3.con (sv := .fz d) (List.mem_cons_of_mem _ List.mem_cons_self) rfl) (r3.con List.mem_cons_self e6) e8 fun w hw => ?_
                        obtain ⟨p2, ds2, vs2, k1, k2, k3, rl2⟩ := r3.slot_own e5
                        cases k2
                        rw [e4] at k1; cases k1
                        refine ⟨p, vs2, k, nn, rfl, hu, k3, by rw [rl2.length]; exact e7, ?_⟩
                        exact q2 σ _ ((r3.write e5 e4 (rl2.set nn (Rep.any hc hw)) upd_same fun a o ha h => by rw [upd_ne ha]; exact h).pop.pop)
                      · rw [if_neg hc] at q2; exact q2.elim
                    | _ => exact q2.elim
                  | _ => exact q2.elim
                | _ => exact q2.elim
          | _ => exact q1.elim
        | _ => exact q1.elim
    | _ => exact q.elim

/-! ### what a loop walks -/
/-- the walk J yields the data ds, whatever happens meanwhile, as long as the temporaries tt stand -/
def JD (c : Fc) (J : It) (ds : List D) (tt : Ts) : Prop := ∀ (σ : L2.St) (ρ : List SV) (ts : Ts) (H : Hp) (i : Nat), R c σ ρ ts H → (∀ t ∈ tt, t ∈ ts) →
  (ds.length ≤ i → J.stop i H) ∧ (∀ d, ds[i]? = some d → J.go i H ∧ ∀ x H', J.yld i H x H' → R c σ ρ ((.fz d, x) :: ts) H')
def PostI (c : Fc) (W : WX) (σ : L2.St) (ts : Ts) (Q : It → Hp → Prop) : Option (Res (List D)) → Prop
  | some (.ok ds ρ) => ∀ J H tt, R c σ ρ (tt ++ ts) H → NoLoc tt → JD c J ds tt → Q J H
  | some (.er e ρ) => ∀ cls od H, R c σ ρ ts H → ExRep c.K (Avr c σ ρ ts) H e cls od → W cls od σ H
  | none => False
def tDI (c : Fc) (W : WX) (m : M (List D)) : TI := fun σ H Q => ∃ ρ ts, R c σ ρ ts H ∧ PostI c W σ ts Q (m ρ)
theorem pi_imp {X : Cx} {tg e : Expr} {t t' : TI} (h : PI X tg e t) (hi : ∀ σ H Q, t' σ H Q → t σ H Q) : PI X tg e t' := ⟨fun pins s σ H Q I q => h.run pins s σ H Q I (hi _ _ _ q)⟩
theorem bindI {m : M SV} {f : SV → M (List D)} {Q : It → Hp → Prop} (r : R c σ ρ ts H) (h : PostI c W σ ts Q ((m.bnd f) ρ)) {Q' : VK} (k : ∀ sv v ρ' H', R c σ ρ' ((sv, v) :: ts) H' → PostI c W σ ts Q (f sv ρ') → Q' v H') : tDE c W m σ H Q' := by
  refine ⟨ρ, ts, r, ?_⟩
  cases e : m ρ with
  | none => rw [bnd_none e] at h; exact h
  | some x =>
    cases x with
    | er x ρ' => rw [bnd_er e] at h; exact h
    | ok sv ρ' => rw [bnd_some e] at h; exact fun v H' r' => k sv v ρ' H' r' h
theorem bindAI {m : M (List SV)} {f : List SV → M (List D)} {Q : It → Hp → Prop} (r : R c σ ρ ts H) (h : PostI c W σ ts Q ((m.bnd f) ρ)) {Q' : List V → Hp → Prop} (k : ∀ svs vs ρ' H', svs.length = vs.length → R c σ ρ' (svs.zip vs ++ ts) H' → PostI c W σ ts Q (f svs ρ') → Q' vs H') : tDA c W m σ H Q' := by
  refine ⟨ρ, ts, r, ?_⟩
  cases e : m ρ with
  | none => rw [bnd_none e] at h; exact h
  | some x =>
    cases x with
    | er x ρ' => rw [bnd_er e] at h; exact h
    | ok svs ρ' => rw [bnd_some e] at h; exact fun vs H' hl r' => k svs vs ρ' H' hl r' h
/-- list or tuple -/
def iSeq (K : PySem.W.Frag) (tl : TE) : TI := fun σ H R => tl σ H fun x H1 => ∃ a, x = .ref a ∧ (((∃ xs, SqL K H1 a xs) ∧ R (Itl K a) H1) ∨ ((∃ xs, SqT K H1 a xs) ∧ R (Itt K a) H1))
theorem pi_seq {X : Cx} {tg l : Expr} {tl : TE} (hl : PE X l tl) : PI X tg l (iSeq X.K tl) := by
  refine ⟨fun pins s σ H R I h => ?_⟩
  refine thn (hl.run pins s σ H _ I h) fun v s1 ⟨x, H1, I1, r1, q1⟩ => ?_
  obtain ⟨a, e, q⟩ := q1
  subst e
  cases r1
  rcases q with ⟨⟨xs, hq⟩, q⟩ | ⟨⟨xs, hq⟩, q⟩
  · obtain ⟨its, rv, p, hz⟩ := I1.list hq
    refine wpAny_pyIter_list p.isList ?_
    refine ⟨s1.heap.objs.size, [s1.heap.objs.size], _, _, H1, rfl, I1.kept (t' := s1.toks) fun b o e => Heap.get?_push_of_some _ e, turn_list a _, ⟨_, Heap.get?_push_size _ rfl, rfl, rfl⟩, fun b hb => ?_, q⟩
    have e : b = s1.heap.objs.size := by simpa using hb
    subst e
    exact I1.fpOk (Nat.le_refl _) (I1.hok.fresh (Nat.le_refl _))
  · obtain ⟨its, rv, p, hz⟩ := I1.tuple hq
    refine wpAny_pyIter_tuple (show s1.heap.IsTuple a its.toArray from p) ?_
    refine ⟨s1.heap.objs.size, [s1.heap.objs.size], _, _, H1, rfl, I1.kept (t' := s1.toks) fun b o e => Heap.get?_push_of_some _ e, turn_tuple a _, ⟨_, Heap.get?_push_size _ rfl, rfl, rfl⟩, fun b hb => ?_, q⟩
    have e : b = s1.heap.objs.size := by simpa using hb
    subst e
    exact I1.fpOk (Nat.le_refl _) (I1.hok.fresh (Nat.le_refl _))
def itD : D → Option (List D)
  | .lst ds => some ds
  | .tup ds => some ds
  | .seq ds => some ds
  | _ => none
def mItems (m : M SV) : M (List D) := m.bnd fun s => (esc s).bnd fun d => fun ρ => match itD d with
  | some ds => some (.ok ds ρ)
  | none => none
theorem rep_get? {K : PySem.W.Frag} {A : Addr → Prop} {x : V} (rl : RepL K A H ds vs) (e : ds[i]? = some d) (h : vs[i]? = some x) : Rep K A H d x := by
  obtain ⟨v, e1, e2⟩ := rl.get e
  rw [h] at e1; cases e1
  exact e2
theorem jd_list {a : Addr} : JD c (Itl c.K a) ds [(.fz (.lst ds), .ref a)] := by
  intro σ ρ ts H i r ht
  obtain ⟨w, e, q⟩ := r.g.rs _ (List.mem_append_left _ (tsP_mem (ht _ List.mem_cons_self)))
  cases e
  simp only [Rep] at q
  obtain ⟨a', vs, e1, e2, rl⟩ := q
  cases e1
  refine ⟨fun h => ⟨vs, SqL.of e2.1, by rw [rl.length]; exact h⟩, fun d hd => ?_⟩
  obtain ⟨x, hx, rx⟩ := rl.get hd
  refine ⟨⟨vs, x, SqL.of e2.1, hx⟩, fun y H' ⟨eH, hy⟩ => ?_⟩
  subst eH
  have := hy vs (SqL.of e2.1)
  rw [hx] at this; cases this
  exact r.push_fz rx
theorem jd_seq {a : Addr} : JD c (Itl c.K a) ds [(.fz (.seq ds), .ref a)] := by
  intro σ ρ ts H i r ht
  obtain ⟨w, e, q⟩ := r.g.rs _ (List.mem_append_left _ (tsP_mem (ht _ List.mem_cons_self)))
  cases e
  simp only [Rep] at q
  obtain ⟨a', vs, e1, e2, rl⟩ := q
  cases e1
  refine ⟨fun h => ⟨vs, e2.sq, by rw [rl.length]; exact h⟩, fun d hd => ?_⟩
  obtain ⟨x, hx, rx⟩ := rl.get hd
  refine ⟨⟨vs, x, e2.sq, hx⟩, fun y H' ⟨eH, hy⟩ => ?_⟩
  subst eH
  have := hy vs e2.sq
  rw [hx] at this; cases this
  exact r.push_fz rx
theorem jd_tup {a : Addr} : JD c (Itt c.K a) ds [(.fz (.tup ds), .ref a)] := by
  intro σ ρ ts H i r ht
  obtain ⟨w, e, q⟩ := r.g.rs _ (List.mem_append_left _ (tsP_mem (ht _ List.mem_cons_self)))
  cases e
  simp only [Rep] at q
  obtain ⟨a', vs, e1, e2, rl⟩ := q
  cases e1
  refine ⟨fun h => ⟨vs, e2, by rw [rl.length]; exact h⟩, fun d hd => ?_⟩
  obtain ⟨x, hx, rx⟩ := rl.get hd
  refine ⟨⟨vs, x, e2, hx⟩, fun y H' ⟨eH, hy⟩ => ?_⟩
  subst eH
  have := hy vs e2
  rw [hx] at this; cases this
  exact r.push_fz rx
theorem noLoc1 {d : D} : NoLoc [(.fz d, v)] := fun i u h => by simp at h
theorem pd_seq {tg l : Expr} {m : M SV} (hl : PE X l (tDE c W m)) (hK : c.K = X.K := by rfl) : PI X tg l (tDI c W (mItems m)) := by
  refine pi_imp (pi_seq hl) fun σ H Q ⟨ρ, ts, r, q⟩ => bindI r q fun sv v ρ1 H1 r1 q1 => ?_
  cases e : esc sv ρ1 with
  | none => rw [bnd_none e] at q1; exact q1.elim
  | some x =>
    cases x with
    | er x _ => exact absurd e esc_er
    | ok d ρ2 =>
      rw [bnd_some e] at q1
      have r2 := r_esc r1 e
      have t := r2.top_fz
      cases d with
      | lst ds =>
        simp only [Rep] at t
        obtain ⟨a, vs, rfl, e2, rl⟩ := t
        exact ⟨a, rfl, .inl ⟨⟨vs, SqL.of e2.1⟩, q1 _ _ [_] r2 noLoc1 (hK ▸ jd_list)⟩⟩
      | seq ds =>
        simp only [Rep] at t
        obtain ⟨a, vs, rfl, e2, rl⟩ := t
        exact ⟨a, rfl, .inl ⟨⟨vs, hK ▸ e2.sq⟩, q1 _ _ [_] r2 noLoc1 (hK ▸ jd_seq)⟩⟩
      | tup ds =>
        simp only [Rep] at t
        obtain ⟨a, vs, rfl, e2, rl⟩ := t
        exact ⟨a, rfl, .inr ⟨⟨vs, hK ▸ e2⟩, q1 _ _ [_] r2 noLoc1 (hK ▸ jd_tup)⟩⟩
      | _ => exact q1.elim
@[irreducible] def rgD (lo : Int) (n : Nat) : List D := (List.range n).map fun k => .int (lo + (k : Nat))
theorem rgD_get {lo : Int} {n k : Nat} : (rgD lo n)[k]? = if k < n then some (.int (lo + (k : Nat))) else none := by
  unfold rgD
  rw [List.getElem?_map]
  by_cases h : k < n
  · rw [List.getElem?_range h, if_pos h]; rfl
  · rw [List.getElem?_eq_none (by simpa using h), if_neg h]; rfl
theorem jd_range {lo : Int} {n : Nat} : JD c (Itr lo n) (rgD lo n) [] := by
  intro σ ρ ts H i r ht
  have hl : (rgD lo n).length = n := by simp [rgD]
  refine ⟨fun h => by rw [hl] at h; exact h, fun d hd => ?_⟩
  rw [rgD_get] at hd
  split at hd
  · rename_i hi
    cases hd
    refine ⟨hi, fun x H' ⟨e1, e2⟩ => ?_⟩
    subst e1 e2
    exact r.push_fz (rep_int _)
  · cases hd
def rgOk (i : Int) : Bool := nlt i.natAbs (2 ^ 62)
theorem rgOk_iff {i : Int} : rgOk i = true ↔ (-(2 ^ 62) < i ∧ i < 2 ^ 62) := by
  unfold rgOk; rw [nlt_iff]; omega
def mRange1 (m : M SV) : M (List D) := m.bnd fun s => fun ρ => match s with
  | .fz (.int j) => if rgOk j = true then some (.ok (rgD 0 j.toNat) ρ) else none
  | _ => none
def mRange2 (m n : M SV) : M (List D) := m.bnd fun s => n.bnd fun u => fun ρ => match s, u with
  | .fz (.int i), .fz (.int j) => if (rgOk i && rgOk j) = true then some (.ok (rgD i (j - i).toNat) ρ) else none
  | _, _ => none
theorem pd_range1 {tg a : Expr} {m : M SV} {p' : Pos} (ha : PE X a (tDE c W m)) (hg : Gl X "range") (hm : X.mg "range" = none) (h1 : starEach [a] X.env = (false, eval a X.env) :: starEach [] X.env := by rfl) (h2 : starEach [a] X.env = [(false, eval a X.env)] := by rfl) :
    PI X tg (.Call (.Name "range" p') [a] [] pos) (tDI c W (mRange1 m)) := by
  refine pi_imp (pi_range1 hg hm (pa_cons ha pa_nil h1) h2) fun σ H Q ⟨ρ, ts, r, q⟩ => bindI r q fun sv v ρ1 H1 r1 q1 => ?_
  split at q1
  · rename_i j
    split at q1
    · rename_i hc
      rw [rgOk_iff] at hc
      have hv : v = .int j := by have z := r1.top_fz; simpa only [Rep] using z
      exact ⟨j, by rw [hv], by omega, hc.2, q1 _ _ [] r1.pop (fun i u h => by cases h) jd_range⟩
    · exact q1.elim
  · exact q1.elim
theorem bindI1 {m : M SV} {f : SV → M (List D)} {Q : It → Hp → Prop} {t : SV × V} (r : R c σ ρ (t :: ts) H) (h : PostI c W σ ts Q ((m.bnd f) ρ)) {Q' : VK} (k : ∀ sv v ρ' H', R c σ ρ' ((sv, v) :: t :: ts) H' → PostI c W σ ts Q (f sv ρ') → Q' v H') : tDE c W m σ H Q' := by
  refine ⟨ρ, t :: ts, r, ?_⟩
  cases e : m ρ with
  | none => rw [bnd_none e] at h; exact h
  | some x =>
    cases x with
    | er x ρ' => rw [bnd_er e] at h; exact fun cls od H' r' q => h cls od H' r'.pop (q.less avr_sub)
    | ok sv ρ' => rw [bnd_some e] at h; exact fun v H' r' => k sv v ρ' H' r' h
theorem pd_range2 {tg a b : Expr} {m n : M SV} {p' : Pos} (ha : PE X a (tDE c W m)) (hb : PE X b (tDE c W n)) (hg : Gl X "range") (hm : X.mg "range" = none)
    (h1 : starEach [a, b] X.env = (false, eval a X.env) :: starEach [b] X.env := by rfl) (h1' : starEach [b] X.env = (false, eval b X.env) :: starEach [] X.env := by rfl) (h2 : starEach [a, b] X.env = [(false, eval a X.env), (false, eval b X.env)] := by rfl) (h3 : starEach [b] X.env = [(false, eval b X.env)] := by rfl) :
    PI X tg (.Call (.Name "range" p') [a, b] [] pos) (tDI c W (mRange2 m n)) := by
  refine pi_imp (pi_range2 hg hm (pa_cons ha (pa_cons hb pa_nil h1') h1) h2 h3) fun σ H Q ⟨ρ, ts, r, q⟩ => bindI r q fun s1 v1 ρ1 H1 r1 q1 => bindI1 r1 q1 fun s2 v2 ρ2 H2 r2 q2 => ?_
  split at q2
  · rename_i i j
    split at q2
    · rename_i hc
      simp only [Bool.and_eq_true, rgOk_iff] at hc
      have hv2 : v2 = .int j := by have z := r2.top_fz; simpa only [Rep] using z
      have hv1 : v1 = .int i := by have z := r2.pop.top_fz; simpa only [Rep] using z
      exact ⟨i, j, by rw [hv1, hv2], ⟨by omega, hc.1.2, by omega, hc.2.2⟩, q2 _ _ [] r2.pop.pop (fun i u h => by cases h) jd_range⟩
    · exact q2.elim
  · exact q2.elim
/-- the loop itself -/
def mLoop (g : SV → List SV → Option (List SV)) (b : MS) : List D → MS
  | [], ρ => some (.nx ρ)
  | d :: ds, ρ => match g (.fz d) ρ with
    | some ρ1 => match b ρ1 with
      | some (.nx ρ2) => mLoop g b ds ρ2
      | some (.ct ρ2) => mLoop g b ds ρ2
      | some (.bk ρ2) => some (.nx ρ2)
      | r => r
    | none => none
def mFor (mi : M (List D)) (g : SV → List SV → Option (List SV)) (b : MS) : MS := fun ρ => match mi ρ with
  | some (.ok ds ρ') => mLoop g b ds ρ'
  | some (.er e ρ') => some (.er e ρ')
  | none => none
theorem pops_noLoc {tt : Ts} (n1 : NoLoc tt) (n2 : NoLoc ts) : NoLoc (tt ++ ts) := fun i v h => (List.mem_append.mp h).elim (n1 i v) (n2 i v)
theorem pd_for {tg iter : Expr} {body : List Stmt} {mi : M (List D)} {g : SV → List SV → Option (List SV)} {b : MS} (hp : PassesOwn (model X.prog X.w) X.A X.env X.xe) (hc : X.calm = true) (hi : PI X tg iter (tDI c W mi)) (hg : PG X tg (tDG c g)) (hb : PSs X body (tDS c W b))
    (hs : ∀ x, foldedSetIterable iter X.env x = pure x := by intro _; rfl) : PS X (.For tg iter body [] pos) (tDS c W (mFor mi g b)) := by
  refine ps_imp (ps_for hp hc hi hg hb hs) fun D σ H ⟨ρ, ts, r, n, q⟩ => ⟨ρ, ts, r, ?_⟩
  unfold mFor at q
  cases e : mi ρ with
  | none => rw [e] at q; exact q
  | some x =>
    rw [e] at q
    cases x with
    | er x ρ' => exact fun cls od H' r' z => q σ cls od H' r' z
    | ok ds ρ' =>
      simp only at q
      intro J H1 tt r1 nt jd
      refine ⟨fun i m σ H => m = ds.length - i ∧ i ≤ ds.length ∧ ∃ ρ, R c σ ρ (tt ++ ts) H ∧ PostS c W ts D (mLoop g b (ds.drop i) ρ), ⟨ds.length, rfl, Nat.zero_le _, ρ', r1, q⟩, ?_⟩
      rintro i m σ2 H2 ⟨rfl, hi, ρ2, r2, q2⟩
      obtain ⟨j1, j2⟩ := jd σ2 ρ2 (tt ++ ts) H2 i r2 fun t h => List.mem_append_left _ h
      by_cases hlt : i < ds.length
      · have hd : ds[i]? = some ds[i] := by simp [hlt]
        obtain ⟨j3, j4⟩ := j2 _ hd
        have ed : ds.drop i = ds[i] :: ds.drop (i + 1) := List.drop_eq_getElem_cons hlt
        rw [ed] at q2
        simp only [mLoop] at q2
        refine .inr ⟨j3, fun σ' H' => i + 1 ≤ ds.length ∧ ∃ ρ, R c σ' ρ (tt ++ ts) H' ∧ PostS c W ts D (mLoop g b (ds.drop (i + 1)) ρ), fun σ' H' z => ⟨ds.length - (i + 1), by omega, rfl, z⟩, fun x H3 y => ?_⟩
        have r3 := j4 x H3 y
        refine ⟨ρ2, tt ++ ts, .fz ds[i], r3, pops_noLoc nt n, ?_⟩
        cases eg : g (.fz ds[i]) ρ2 with
        | none => rw [eg] at q2; exact q2.elim
        | some ρ3 =>
          rw [eg] at q2
          simp only at q2
          intro σ4 H4 r4
          refine ⟨ρ3, tt ++ ts, r4, pops_noLoc nt n, ?_⟩
          cases eb : b ρ3 with
          | none => rw [eb] at q2; exact q2.elim
          | some y =>
            rw [eb] at q2
            cases y with
            | nx ρ5 => exact fun σ5 H5 r5 => ⟨hlt, ρ5, r5, q2⟩
            | ct ρ5 => exact fun σ5 H5 r5 => ⟨hlt, ρ5, r5, q2⟩
            | bk ρ5 => exact fun σ5 H5 r5 => q2 σ5 H5 (R.pops _ r5)
            | rt sv ρ5 => exact fun σ5 v5 H5 r5 => q2 σ5 v5 H5 (R.pops tt (r5.perm (List.perm_middle.symm)))
            | er e ρ5 => exact fun σ5 cls od H5 r5 z => q2 σ5 cls od H5 (R.pops _ r5) (z.less (avr_subs tt))
      · have ei : i = ds.length := by omega
        subst ei
        refine .inl ⟨j1 (Nat.le_refl _), ?_⟩
        rw [List.drop_length] at q2
        exact q2 σ2 H2 (R.pops _ r2)
/-! while -/
def whileN (t : M Bool) (b : MS) : Nat → MS
  | 0, _ => none
  | k + 1, ρ => match t ρ with
    | some (.ok true ρ1) => match b ρ1 with
      | some (.nx ρ2) => whileN t b k ρ2
      | some (.ct ρ2) => whileN t b k ρ2
      | some (.bk ρ2) => some (.nx ρ2)
      | r => r
    | some (.ok false ρ1) => some (.nx ρ1)
    | some (.er e ρ1) => some (.er e ρ1)
    | none => none
theorem pd_while {t : Expr} {body : List Stmt} {mt : M Bool} {b : MS} (k : Nat) (hp : PassesOwn (model X.prog X.w) X.A X.env X.xe) (ht : PT X t (tDT c W mt)) (hb : PSs X body (tDS c W b)) : PS X (.While t body [] pos) (tDS c W (whileN mt b k)) := by
  refine ps_imp (ps_while hp ht hb) fun D σ H ⟨ρ, ts, r, n, q⟩ => ?_
  refine ⟨fun m σ H => ∃ ρ, R c σ ρ ts H ∧ PostS c W ts D (whileN mt b m ρ), ⟨k, ρ, r, q⟩, ?_⟩
  rintro m σ1 H1 ⟨ρ1, r1, q1⟩
  cases m with
  | zero => exact q1.elim
  | succ m =>
    simp only [whileN] at q1
    refine ⟨ρ1, ts, r1, ?_⟩
    cases e : mt ρ1 with
    | none => rw [e] at q1; exact q1
    | some x =>
      rw [e] at q1
      cases x with
      | er x ρ' => exact fun cls od H' r' z => q1 σ1 cls od H' r' z
      | ok bb ρ2 =>
        intro H2 r2
        cases bb with
        | false => exact q1 σ1 H2 r2
        | true =>
          simp only at q1
          refine ⟨fun σ' H' => ∃ ρ, R c σ' ρ ts H' ∧ PostS c W ts D (whileN mt b m ρ), fun σ' H' z => ⟨m, Nat.lt_succ_self _, z⟩, ρ2, ts, r2, n, ?_⟩
          cases eb : b ρ2 with
          | none => rw [eb] at q1; exact q1.elim
          | some y =>
            rw [eb] at q1
            cases y with
            | nx ρ5 => exact fun σ5 H5 r5 => ⟨ρ5, r5, q1⟩
            | ct ρ5 => exact fun σ5 H5 r5 => ⟨ρ5, r5, q1⟩
            | bk ρ5 => exact fun σ5 H5 r5 => q1 σ5 H5 r5
            | rt sv ρ5 => exact q1
            | er e ρ5 => exact q1
end
end DL

set_option Elab.async false
set_option linter.all false
set_option maxRecDepth 100000
/-! The data layer: comprehensions, list methods, a def's body. -/
namespace DL
open PySem PySem.Spec PyProof.Rows L2
section
variable {c : Fc} {W : WX} {X : Cx} {σ : L2.St} {ρ : List SV} {ts : Ts} {H H' : Hp} {sv : SV} {d : D} {ds : List D} {v w : V} {vs : List V} {p : Addr} {i j : Nat} {Q : VK} {pos : Pos}
/-! ### comprehensions -/
def wipeD (ρ : List SV) : List Nat → List SV
  | [] => ρ
  | v :: vs => (wipeD ρ vs).set v .un
theorem r_set_un {o : Option V} (r : R c σ ρ ts H) (hc : c.cv i = true ∧ c.pin i = none) : R c (σ.set i o) (ρ.set i .un) ts H := by
  by_cases hi : i < ρ.length
  · obtain ⟨ov, e1, g, k⟩ := r.at (i := i) (sv := ρ[i]) (by simp [hi])
    refine k .un o _ H (fun j z => by cases z) ?_ rfl
    refine G.sig (σ := σ) g.drop.push_un (fun j u hm hv => ?_) fun j u e h => by
      rw [List.getElem?_set_ne (fun z => by subst z; rw [hc.2] at e; cases e)]; exact h
    have hj : c.cv j = false := by
      rcases List.mem_cons.mp hm with z | z
      · cases z
      · exact (g.rs _ (List.mem_cons_of_mem _ z)).1
    have : i ≠ j := fun z => by subst z; rw [hc.1] at hj; cases hj
    rw [List.getElem?_set_ne this]
    exact hv
  · have h1 : ρ.set i .un = ρ := List.set_eq_of_length_le (by omega)
    have h2 : σ.set i o = σ := List.set_eq_of_length_le (by rw [← r.len]; omega)
    rw [h1, h2]; exact r
theorem r_wipe (r : R c σ ρ ts H) : ∀ {vs : List Nat}, (∀ i ∈ vs, c.cv i = true ∧ c.pin i = none) → R c (wipe σ vs) (wipeD ρ vs) ts H
  | [], _ => r
  | i :: vs, h => by
    unfold wipe wipeD
    exact r_set_un (r_wipe r fun j hj => h j (List.mem_cons_of_mem _ hj)) (h i List.mem_cons_self)
theorem wipe_len {vs : List Nat} : (wipe σ vs).length = σ.length := wipe_length σ vs
theorem wipe_get {vs : List Nat} (h : i ∉ vs) : (wipe σ vs)[i]? = σ[i]? := by
  induction vs with
  | nil => rfl
  | cons a vs ih =>
    unfold wipe
    rw [List.getElem?_set_ne (fun z => h (by rw [z]; exact List.mem_cons_self))]
    exact ih fun z => h (List.mem_cons_of_mem _ z)
theorem own_zip_same : ∀ {ρ : List SV} {σ σ' : L2.St}, σ'.length = σ.length → (∀ (i : Nat), ρ[i]? = some SV.un ∨ σ'[i]? = σ[i]?) → Own (ρ.zip σ') = Own (ρ.zip σ) ∧ ∀ x ∈ ρ.zip σ', x ∈ ρ.zip σ ∨ x.1 = SV.un
  | [], σ, σ', _, _ => by simp
  | s :: ρ, [], σ', hl, _ => by
    have : σ' = [] := List.length_eq_zero_iff.mp (by simpa using hl)
    subst this; simp
  | s :: ρ, o :: σ, [], hl, _ => by simp at hl
  | s :: ρ, o :: σ, o' :: σ', hl, h => by
    obtain ⟨i1, i2⟩ := own_zip_same (ρ := ρ) (σ := σ) (σ' := σ') (by simpa using hl) fun i => by simpa using h (i + 1)
    have h0 := h 0
    simp only [List.getElem?_cons_zero, Option.some.injEq] at h0
    simp only [List.zip_cons_cons, List.mem_cons]
    rcases h0 with rfl | rfl
    · refine ⟨i1, fun x hx => ?_⟩
      rcases hx with rfl | hx
      · exact .inr rfl
      · exact (i2 x hx).imp .inr id
    · refine ⟨?_, fun x hx => ?_⟩
      · unfold Own at i1 ⊢
        rw [List.filterMap_cons, List.filterMap_cons, i1]
      · rcases hx with rfl | hx
        · exact .inl (.inl rfl)
        · exact (i2 x hx).imp .inr id
theorem r_same {σ' : L2.St} (r : R c σ ρ ts H) (hl : σ'.length = σ.length) (h : ∀ (i : Nat), ρ[i]? = some SV.un ∨ σ'[i]? = σ[i]?) (hc : ∀ i, c.cv i = false → σ'[i]? = σ[i]?) (hp : ∀ i v, c.pin i = some v → σ'[i]? = σ[i]?) : R c σ' ρ ts H := by
  obtain ⟨e1, e2⟩ := own_zip_same hl h
  refine ⟨r.len.trans hl.symm, r.nl, ?_⟩
  have g : G c σ (tsP ts ++ ρ.zip σ') H := by
    refine r.g.sub (fun x hx => ?_) ?_
    · rcases List.mem_append.mp hx with hx | hx
      · exact .inl (List.mem_append_left _ hx)
      · rcases e2 x hx with z | z
        · exact .inl (List.mem_append_right _ z)
        · obtain ⟨sv, ov⟩ := x
          cases z
          exact .inr trivial
    · rw [own_append, own_append, e1]
      exact List.Sublist.refl _
  refine G.sig g (fun j u hm hv => ?_) fun j u e h => by rw [hp j u e]; exact h
  rw [hc j (g.rs _ hm).1]
  exact hv
def Wiped (vs : List Nat) (ρ : List SV) : Prop := ∀ i ∈ vs, i < ρ.length → ρ[i]? = some SV.un
theorem wipeD_len {vs : List Nat} : (wipeD ρ vs).length = ρ.length := by
  induction vs with
  | nil => rfl
  | cons a vs ih => unfold wipeD; rw [List.length_set]; exact ih
theorem wipeD_wiped : ∀ {vs : List Nat}, Wiped vs (wipeD ρ vs)
  | [], i, h, _ => by cases h
  | a :: vs, i, h, hl => by
    unfold wipeD at hl ⊢
    rw [List.length_set] at hl
    by_cases e : a = i
    · subst e
      rw [List.getElem?_set_self hl]
    · rw [List.getElem?_set_ne e]
      exact wipeD_wiped i ((List.mem_cons.mp h).resolve_left fun z => e z.symm) hl
theorem r_unwipe {ns : List Nat} (hv : ∀ i ∈ ns, c.cv i = true ∧ c.pin i = none) (hw : Wiped ns ρ) (r : R c (wipe σ ns) ρ ts H) : R c σ ρ ts H := by
  have hl : ρ.length = σ.length := by rw [r.len, wipe_length]
  refine r_same r (wipe_length σ ns).symm (fun i => ?_) (fun i hi => ?_) fun i v e => ?_
  · by_cases h : i ∈ ns
    · by_cases h2 : i < ρ.length
      · exact .inl (hw i h h2)
      · refine .inr ?_
        rw [List.getElem?_eq_none (by omega), List.getElem?_eq_none (by rw [wipe_length]; omega)]
    · exact .inr (wipe_get h).symm
  · refine (wipe_get fun h => ?_).symm
    rw [(hv i h).1] at hi; cases hi
  · refine (wipe_get fun h => ?_).symm
    rw [(hv i h).2] at e; cases e
/-- the slots of ns again forgotten -/
theorem r_rewipe {σ2 : L2.St} {ns : List Nat} (hv : ∀ i ∈ ns, c.cv i = true ∧ c.pin i = none) (hs : wipe σ2 ns = wipe σ ns) (r : R c σ2 ρ ts H) : R c (wipe σ ns) (wipeD ρ ns) ts H := hs ▸ r_wipe r hv
/-- a temporary's own list grows -/
theorem r_grow {acc : List D} {y : V} (r : R c σ ρ ((.fz d, y) :: (.own (.lst acc), .ref p) :: ts) H) : ∃ xs, H p = some (.lst xs) ∧ xs.length = acc.length ∧ R c σ ρ ((.own (.lst (acc ++ [d])), .ref p) :: ts) (upd H p (.lst (xs ++ [y]))) := by
  have q := r.top_fz
  obtain ⟨p', ds', vs', e1, e2, e3, rl, n1, n2, n3⟩ := r.pop.g.own_at
  cases e1
  cases e2
  refine ⟨vs', e3, rl.length, r.len, r.nl, ?_⟩
  exact r.pop.g.upd (RepL.app rl (RepL.one q)) upd_same fun a o ha h => by rw [upd_ne ha]; exact h
def lcLoop (ns : List Nat) (g : SV → List SV → Option (List SV)) (t : M Bool) (e : M SV) : List D → List SV → List D → Option (List D × List SV)
  | [], ρ, acc => some (acc, ρ)
  | d :: ds, ρ, acc => match g (.fz d) ρ with
    | some ρ1 => match t ρ1 with
      | some (.ok true ρ2) => match e ρ2 with
        | some (.ok sv ρ3) => match esc sv ρ3 with
          | some (.ok y ρ4) => if acc.length < sizeLine then lcLoop ns g t e ds (wipeD ρ4 ns) (acc ++ [y]) else none
          | _ => none
        | _ => none
      | some (.ok false ρ2) => lcLoop ns g t e ds (wipeD ρ2 ns) acc
      | _ => none
    | none => none
def mLc (ns : List Nat) (mi : M (List D)) (g : SV → List SV → Option (List SV)) (t : M Bool) (e : M SV) : M SV := fun ρ => match mi ρ with
  | some (.ok ds ρ1) => match lcLoop ns g t e ds (wipeD ρ1 ns) [] with
    | some (acc, ρ2) => some (.ok (.own (.lst acc)) ρ2)
    | none => none
  | some (.er e ρ1) => some (.er e ρ1)
  | none => none
theorem r_storeC (r : R c σ ρ ((.fz d, v) :: ts) H) (hc : c.cv i = true ∧ c.pin i = none) (hi : i < ρ.length) : R c (σ.set i (some v)) (ρ.set i (.fz d)) ts H := by
  obtain ⟨ov, e1, g, k⟩ := r.pop.at (i := i) (sv := ρ[i]) (by simp [hi])
  refine k (.fz d) (some v) _ H (fun j z => by cases z) ?_ rfl
  obtain ⟨ov', e1', g', _⟩ := r.at (i := i) (sv := ρ[i]) (by simp [hi])
  have g2 : G c σ ((SV.fz d, some v) :: (tsP ts ++ (ρ.zip σ).eraseIdx i)) H := by
    have g3 : G c σ ((ρ[i], ov') :: (SV.fz d, some v) :: (tsP ts ++ (ρ.zip σ).eraseIdx i)) H := g'
    exact g3.drop
  refine G.sig g2 (fun j u hm hv => ?_) fun j u e h => by
    rw [List.getElem?_set_ne (fun z => by subst z; rw [hc.2] at e; cases e)]; exact h
  have hj : c.cv j = false := (g2.rs _ hm).1
  have : i ≠ j := fun z => by subst z; rw [hc.1] at hj; cases hj
  rw [List.getElem?_set_ne this]
  exact hv
/-- what a comprehension's target does -/
structure CG (c : Fc) (ns : List Nat) (t : TG) (g : SV → List SV → Option (List SV)) : Prop where
  go : ∀ (σ : L2.St) (ρ ρ' : List SV) (ts : Ts) (H : Hp) (d : D) (v : V) (Q : L2.St → Hp → Prop), R c σ ρ ((.fz d, v) :: ts) H → g (.fz d) ρ = some ρ' → (∀ σ', wipe σ' ns = wipe σ ns → R c σ' ρ' ts H → Q σ' H) → t v σ H Q
theorem wipe_comm : ∀ {ns : List Nat} {i : Nat} {o : Option V}, i ∈ ns → wipe (σ.set i o) ns = wipe σ ns
  | [], i, o, h => by cases h
  | a :: ns, i, o, h => by
    unfold wipe
    by_cases e : i ∈ ns
    · rw [wipe_comm e]
    · have ea : i = a := (List.mem_cons.mp h).resolve_right e
      subst ea
      have : ∀ {ns : List Nat}, i ∉ ns → (wipe (σ.set i o) ns).set i none = (wipe σ ns).set i none := by
        intro ns
        induction ns with
        | nil => intro _; simp [wipe, List.set_set]
        | cons b ns ih =>
          intro hn
          unfold wipe
          have hb : b ≠ i := fun z => hn (by rw [z]; exact List.mem_cons_self)
          rw [List.set_comm _ _ hb, List.set_comm _ _ hb, ih fun z => hn (List.mem_cons_of_mem _ z)]
      exact this e
theorem cg_name {ns : List Nat} (hc : c.cv i = true ∧ c.pin i = none) (hi : i ∈ ns) : CG c ns (gName i) (sto i) := ⟨fun σ ρ ρ' ts H d v Q r e k => by
  unfold sto at e
  split at e
  · rename_i h
    simp only [Option.some.injEq] at e
    cases e
    exact k _ (wipe_comm hi) (r_storeC r hc h)
  · cases e⟩
theorem read_lc {own : List (Str × Nat)} {mi : M (List D)} {t : TG} {g : SV → List SV → Option (List SV)} {mt : M Bool} {me : M SV}
    (hv : ∀ i ∈ own.map (·.2), c.cv i = true ∧ c.pin i = none) (cg : CG c (own.map (·.2)) t g) {σ : L2.St} {H : Hp} {Q : VK} (h : tDE c W (mLc (own.map (·.2)) mi g mt me) σ H Q) : tLc (tDI c W mi) t (tDT c W0 mt) (tDE c W0 me) (own.map (·.2)) σ H Q := by
  obtain ⟨ρ, ts, r, q⟩ := h
  refine ⟨ρ, ts, r, ?_⟩
  unfold mLc at q
  cases e : mi ρ with
  | none => rw [e] at q; exact q
  | some x =>
  rw [e] at q
  cases x with
  | er x ρ' => exact q
  | ok ds ρ1 =>
  simp only at q
  cases el : lcLoop (own.map (·.2)) g mt me ds (wipeD ρ1 (own.map (·.2))) [] with
  | none => rw [el] at q; exact q.elim
  | some res =>
  obtain ⟨accF, ρF⟩ := res
  rw [el] at q
  simp only at q
  intro J H1 tt r1 nt jd D hD
  have r2 : R c σ ρ1 ((.own (.lst []), .ref D) :: (tt ++ ts)) (upd H1 D (.lst [])) := r1.push_new hD upd_same (ext_new hD) RepL.nil
  refine ⟨fun i m H => m = ds.length - i ∧ i ≤ ds.length ∧ ∃ ρ acc, R c (wipe σ (own.map (·.2))) ρ ((.own (.lst acc), .ref D) :: (tt ++ ts)) H ∧ Wiped (own.map (·.2)) ρ ∧ lcLoop (own.map (·.2)) g mt me (ds.drop i) ρ acc = some (accF, ρF),
    ⟨ds.length, rfl, Nat.zero_le _, _, [], r_wipe r2 hv, wipeD_wiped, el⟩, ?_⟩
  rintro i m H2 ⟨rfl, hi, ρ2, acc, r3, w3, e3⟩
  obtain ⟨j1, j2⟩ := jd (wipe σ (own.map (·.2))) ρ2 ((.own (.lst acc), .ref D) :: (tt ++ ts)) H2 i r3 fun t h => List.mem_cons_of_mem _ (List.mem_append_left _ h)
  by_cases hlt : i < ds.length
  · have hd : ds[i]? = some ds[i] := by simp [hlt]
    obtain ⟨j3, j4⟩ := j2 _ hd
    have ed : ds.drop i = ds[i] :: ds.drop (i + 1) := List.drop_eq_getElem_cons hlt
    rw [ed] at e3
    simp only [lcLoop] at e3
    refine .inr ⟨j3, fun H => i + 1 ≤ ds.length ∧ ∃ ρ acc, R c (wipe σ (own.map (·.2))) ρ ((.own (.lst acc), .ref D) :: (tt ++ ts)) H ∧ Wiped (own.map (·.2)) ρ ∧ lcLoop (own.map (·.2)) g mt me (ds.drop (i + 1)) ρ acc = some (accF, ρF), fun H' z => ⟨ds.length - (i + 1), by omega, rfl, z⟩, fun x H3 y => ?_⟩
    have r4 := j4 x H3 y
    cases eg : g (.fz ds[i]) ρ2 with
    | none => rw [eg] at e3; cases e3
    | some ρ4 =>
    rw [eg] at e3
    simp only at e3
    refine cg.go _ _ _ _ _ _ _ _ r4 eg fun σ5 hs5 r5 => ?_
    have hw : wipe (wipe σ (own.map (·.2))) (own.map (·.2)) = wipe σ (own.map (·.2)) := by
      apply List.ext_getElem?
      intro j
      by_cases hj : j ∈ own.map (·.2)
      · cases ej : (wipe (wipe σ (own.map (·.2))) (own.map (·.2)))[j]? with
        | none =>
          have := List.getElem?_eq_none_iff.mp ej
          rw [wipe_length] at this
          rw [List.getElem?_eq_none this]
        | some o =>
          have hlj : j < σ.length := by
            have := (List.getElem?_eq_some_iff.mp ej).1
            rwa [wipe_length, wipe_length] at this
          cases o with
          | some u => exact absurd hj (wipe_some ej).2
          | none =>
            cases ej2 : (wipe σ (own.map (·.2)))[j]? with
            | none => have := List.getElem?_eq_none_iff.mp ej2; rw [wipe_length] at this; omega
            | some o =>
              cases o with
              | some u => exact absurd hj (wipe_some ej2).2
              | none => rfl
      · rw [wipe_get hj]
    rw [hw] at hs5
    refine ⟨hs5, ρ4, _, r5, ?_⟩
    cases et : mt ρ4 with
    | none => rw [et] at e3; cases e3
    | some yt =>
    rw [et] at e3
    cases yt with
    | er _ _ => cases e3
    | ok bb ρ5 =>
    cases bb with
    | false =>
      simp only at e3
      intro H6 r6
      exact ⟨hlt, _, acc, r_rewipe hv hs5 r6, wipeD_wiped, e3⟩
    | true =>
      simp only at e3
      intro H6 r6
      refine ⟨ρ5, _, r6, ?_⟩
      cases ee : me ρ5 with
      | none => rw [ee] at e3; cases e3
      | some ye =>
      rw [ee] at e3
      cases ye with
      | er _ _ => cases e3
      | ok sv ρ6 =>
      simp only at e3
      intro yv H7 r7
      cases es : esc sv ρ6 with
      | none => rw [es] at e3; cases e3
      | some z =>
      rw [es] at e3
      cases z with
      | er _ _ => cases e3
      | ok yd ρ7 =>
      simp only at e3
      split at e3
      · rename_i hz
        obtain ⟨xs, h1, h2, r8⟩ := r_grow (r_esc r7 es)
        exact ⟨xs, h1, by rw [h2]; exact hz, hlt, _, _, r_rewipe hv hs5 r8, wipeD_wiped, e3⟩
      · cases e3
  · have ei : i = ds.length := by omega
    subst ei
    rw [List.drop_length] at e3
    simp only [lcLoop, Option.some.injEq, Prod.mk.injEq] at e3
    obtain ⟨rfl, rfl⟩ := e3
    refine .inl ⟨j1 (Nat.le_refl _), q _ _ ?_⟩
    have r9 := r_unwipe hv w3 r3
    exact R.pops tt (r9.perm List.perm_middle.symm)
theorem pd_lc {elt tg iter : Expr} {ifs : List Expr} {scope : Scope} {own : List (Str × Nat)} {mi : M (List D)} {t : TG} {g : SV → List SV → Option (List SV)} {mt : M Bool} {me : M SV} (hc : X.calm = true) (hN : X.N.Nodup) (hi : PI X tg iter (tDI c W mi)) (ok : BlkOk X.N X.env.scope scope own)
    (hv : ∀ i ∈ own.map (·.2), c.cv i = true ∧ c.pin i = none)
    (hg : ∀ (s : Shared) (H : Hp) (C : Addr) (cl : List (Str × Addr)) (fp : List Addr), PG (X.blk s H scope (compEnvC scope cl C X.env) fp) tg t) (cg : CG c (own.map (·.2)) t g)
    (ht : ∀ (s : Shared) (H : Hp) (C : Addr) (cl : List (Str × Addr)) (fp : List Addr), PTs (X.blk s H scope (compEnvC scope cl C X.env) fp) ifs (tDT c W0 mt))
    (he : ∀ (s : Shared) (H : Hp) (C : Addr) (cl : List (Str × Addr)) (fp : List Addr), PE (X.blk s H scope (compEnvC scope cl C X.env) fp) elt (tDE c W0 me)) (hs : ∀ x, foldedSetIterable iter X.env x = pure x := by intro _; rfl) :
    PE X (.ListComp elt [⟨tg, iter, ifs, 0⟩] scope pos) (tDE c W (mLc (own.map (·.2)) mi g mt me)) :=
  pe_imp (pe_lc hc hN hi ok hg ht he hs) fun σ H Q h => read_lc hv cg h
theorem pd_setR {i : Nat} {x : Str} {e : Expr} {m : M SV} {pos' : Pos} {t : TE} (h : PS X (.Assign [.Name x pos'] e pos) (tAsg t (gName i))) (hi : ∀ σ H Q, tDE c W m σ H Q → t σ H Q) (hp : c.pin i = none := by rfl) : PS X (.Assign [.Name x pos'] e pos) (tDS c W (mSet i m)) := by
  refine ps_imp h fun D σ H ⟨ρ, ts, r, n, q⟩ => hi _ _ _ (bindS r q fun sv v ρ' H' r' q' => ?_)
  cases e : sto i sv ρ' with
  | none => rw [e] at q'; exact q'.elim
  | some ρ2 =>
    rw [e] at q'
    exact q' _ _ (r_sto r' n hp e)
theorem pd_setLc {i : Nat} {y : Str} {py spos : Pos} {elt tg iter : Expr} {ifs : List Expr} {scope : Scope} {own : List (Str × Nat)} {mi : M (List D)} {t : TG} {g : SV → List SV → Option (List SV)} {mt : M Bool} {me : M SV} (hc : X.calm = true) (hN : X.N.Nodup)
    (hy : X.N[i]? = some y) (hyl : X.env.scope.names.lookup y = some .local) (hsw : swapsWith (.ListComp elt [⟨tg, iter, ifs, 0⟩] scope pos) (some (.Name y py)) spos.line X.env = pure true)
    (hi : PI X tg iter (tDI c W mi)) (ok : BlkOk X.N X.env.scope scope own)
    (hv : ∀ i ∈ own.map (·.2), c.cv i = true ∧ c.pin i = none)
    (hg : ∀ (s : Shared) (H : Hp) (C : Addr) (cl : List (Str × Addr)) (fp : List Addr), PG (X.blk s H scope (compEnvC scope cl C X.env) fp) tg t) (cg : CG c (own.map (·.2)) t g)
    (ht : ∀ (s : Shared) (H : Hp) (C : Addr) (cl : List (Str × Addr)) (fp : List Addr), PTs (X.blk s H scope (compEnvC scope cl C X.env) fp) ifs (tDT c W0 mt))
    (he : ∀ (s : Shared) (H : Hp) (C : Addr) (cl : List (Str × Addr)) (fp : List Addr), PE (X.blk s H scope (compEnvC scope cl C X.env) fp) elt (tDE c W0 me)) (hp : c.pin i = none := by rfl) (hs : ∀ x, foldedSetIterable iter X.env x = pure x := by intro _; rfl) :
    PS X (.Assign [.Name y py] (.ListComp elt [⟨tg, iter, ifs, 0⟩] scope pos) spos) (tDS c W (mSet i (mLc (own.map (·.2)) mi g mt me))) :=
  pd_setR (ps_setLc hc hN hy hyl hsw hi ok hg ht he hs) (fun σ H Q h => read_lc hv cg h) hp
end
end DL

set_option Elab.async false
set_option linter.all false
set_option maxRecDepth 100000
/-! The data layer: list methods, a def's body. -/
namespace DL
open PySem PySem.Spec PyProof.Rows L2
section
variable {c : Fc} {W : WX} {X : Cx} {σ : L2.St} {ρ : List SV} {ts : Ts} {H H' : Hp} {sv : SV} {d : D} {ds : List D} {v w : V} {vs : List V} {p : Addr} {i j : Nat} {Q : VK} {pos : Pos}
/-! ### methods of an own list -/
def MtS (K : PySem.W.Frag) (r : V → List V → Hp → VK → Prop) (j : Nat) (k : List SV → M SV) : Prop := ∀ (c : Fc) (W : WX) (σ : L2.St) (ρ : List SV) (ts : Ts) (H : Hp) (svs : List SV) (vs : List V) (w : V) (Q : VK), c.K = K → svs.length = vs.length →
  R c σ ρ (svs.zip vs ++ ts) H → σ[j]? = some (some w) → PostE c W σ ts Q (k svs ρ) → r w vs H Q
def mMeth (j : Nat) (ma : M (List SV)) (k : List SV → M SV) : M SV := fun ρ => match ρ[j]? with
  | some (.own _) => (ma.bnd k) ρ
  | _ => none
theorem pd_meth {x m : Str} {po apos cpos : Pos} {e : Expr} {es : List Expr} {ma : M (List SV)} {r : V → List V → Hp → VK → Prop} {k : List SV → M SV} (hk : MtS X.K r j k) (ha : PA X (e :: es) (tDA c W ma))
    (h : ∀ t, PA X (e :: es) t → PE X (.Call (.Attribute (.Name x po) m apos) (e :: es) [] cpos) (tBM X.K "list" r (tVar j) t)) (hK : c.K = X.K := by rfl) : PE X (.Call (.Attribute (.Name x po) m apos) (e :: es) [] cpos) (tDE c W (mMeth j ma k)) := by
  refine pe_imp (h _ ha) fun σ H Q ⟨ρ, ts, r, q⟩ => ?_
  unfold mMeth at q
  cases ej : ρ[j]? with
  | none => rw [ej] at q; exact q.elim
  | some s =>
    rw [ej] at q
    cases s with
    | own d =>
      obtain ⟨p, ds, us, e4, _, e6, _⟩ := r.slot_own ej
      refine ⟨_, e4, .inl ⟨rfl, us, SqL.of e6⟩, bindA (α := Unit) r q fun svs vs ρ1 H1 hl r1 q1 => ?_⟩
      exact hk c W σ ρ1 ts H1 svs vs _ Q hK hl r1 e4 q1
    | _ => exact q.elim
theorem pd_meth0 {x m : Str} {po apos cpos : Pos} {r : V → List V → Hp → VK → Prop} {k : List SV → M SV} (hk : MtS X.K r j k)
    (h : PE X (.Call (.Attribute (.Name x po) m apos) [] [] cpos) (tBM0 X.K "list" r (tVar j))) (hK : c.K = X.K := by rfl) : PE X (.Call (.Attribute (.Name x po) m apos) [] [] cpos) (tDE c W (mMeth j mNil k)) := by
  refine pe_imp h fun σ H Q ⟨ρ, ts, r, q⟩ => ?_
  unfold mMeth at q
  cases ej : ρ[j]? with
  | none => rw [ej] at q; exact q.elim
  | some s =>
    rw [ej] at q
    cases s with
    | own d =>
      obtain ⟨p, ds, us, e4, _, e6, _⟩ := r.slot_own ej
      exact ⟨_, e4, .inl ⟨rfl, us, SqL.of e6⟩, hk c W σ ρ ts H [] [] _ Q hK rfl r e4 q⟩
    | _ => exact q.elim
def kAppend (j : Nat) (svs : List SV) : M SV := fun ρ => match svs with
  | [s] => match esc s ρ with
    | some (.ok d ρ') => match ρ'[j]? with
      | some (.own (.lst ds)) => if ds.length < sizeLine then some (.ok (.fz .non) (ρ'.set j (.own (.lst (ds ++ [d]))))) else none
      | _ => none
    | _ => none
  | _ => none
theorem zip1 {svs : List SV} {vs : List V} {s : SV} (hl : svs.length = vs.length) (e : svs = [s]) : ∃ v, vs = [v] := by
  subst e
  cases vs with
  | nil => cases hl
  | cons v vs => cases vs with
    | nil => exact ⟨v, rfl⟩
    | cons _ _ => simp at hl
theorem mtS_append {K : PySem.W.Frag} : MtS K rAppend j (kAppend j) := by
  intro c W σ ρ ts H svs vs w Q hK hl r hw q
  unfold kAppend at q
  split at q
  case h_2 => exact q.elim
  rename_i s
  obtain ⟨v, rfl⟩ := zip1 hl rfl
  cases e : esc s ρ with
  | none => rw [e] at q; exact q.elim
  | some x =>
    cases x with
    | er x _ => exact absurd e esc_er
    | ok d ρ' =>
      rw [e] at q
      have r2 : R c σ ρ' ((.fz d, v) :: ts) H := r_esc r e
      simp only at q
      cases e2 : ρ'[j]? with
      | none => rw [e2] at q; exact q.elim
      | some s2 =>
        rw [e2] at q
        cases s2 with
        | own d2 =>
          cases d2 with
          | lst ds =>
            simp only at q
            split at q
            · rename_i hz
              obtain ⟨p, ds', us, e4, e5, e6, rl⟩ := r2.pop.slot_own e2
              cases e5
              rw [hw] at e4; cases e4
              refine ⟨p, us, v, rfl, rfl, e6, by rw [rl.length]; exact hz, ?_⟩
              exact q _ _ ((r2.pop.write e2 hw (RepL.app rl (RepL.one r2.top_fz)) upd_same fun a o ha h => by rw [upd_ne ha]; exact h).push_fz rep_non)
            · exact q.elim
          | _ => exact q.elim
        | _ => exact q.elim
def kPop (j : Nat) (svs : List SV) : M SV := fun ρ => match svs with
  | [] => match ρ[j]? with
    | some (.own (.lst ds)) => match ds[ds.length - 1]? with
      | some d => some (.ok (.fz d) (ρ.set j (.own (.lst ds.dropLast))))
      | none => none
    | _ => none
  | _ => none
theorem RepL.dropLast {K : PySem.W.Frag} {A : Addr → Prop} (r : RepL K A H ds vs) : RepL K A H ds.dropLast vs.dropLast := by
  rw [List.dropLast_eq_take, List.dropLast_eq_take, r.length]
  exact r.take _
theorem mtS_pop {K : PySem.W.Frag} : MtS K rPop j (kPop j) := by
  intro c W σ ρ ts H svs vs w Q hK hl r hw q
  unfold kPop at q
  split at q
  case h_2 => exact q.elim
  have : vs = [] := List.length_eq_zero_iff.mp hl.symm
  subst this
  cases e2 : ρ[j]? with
  | none => rw [e2] at q; exact q.elim
  | some s2 =>
    rw [e2] at q
    cases s2 with
    | own d2 =>
      cases d2 with
      | lst ds =>
        simp only at q
        cases e3 : ds[ds.length - 1]? with
        | none => rw [e3] at q; exact q.elim
        | some d =>
          rw [e3] at q
          have r0 : R c σ ρ ts H := r
          obtain ⟨p, ds', us, e4, e5, e6, rl⟩ := r0.slot_own e2
          cases e5
          rw [hw] at e4; cases e4
          obtain ⟨y, e7, ry⟩ := rl.get e3
          refine ⟨p, us, y, rfl, rfl, e6, by rw [rl.length]; exact e7, ?_⟩
          have r2 : R c σ ρ ((.fz d, y) :: ts) H := r0.push_fz ry
          exact q _ _ (r2.write e2 hw rl.dropLast upd_same fun a o ha h => by rw [upd_ne ha]; exact h)
      | _ => exact q.elim
    | _ => exact q.elim
def kPopAt (j : Nat) (svs : List SV) : M SV := fun ρ => match svs with
  | [.fz (.int k)] => match ρ[j]? with
    | some (.own (.lst ds)) => match ixN ds.length k with
      | some n => match ds[n]? with
        | some d => if rgOk k = true then some (.ok (.fz d) (ρ.set j (.own (.lst (ds.eraseIdx n))))) else none
        | none => none
      | none => none
    | _ => none
  | _ => none
theorem RepL.erase {K : PySem.W.Frag} {A : Addr → Prop} : ∀ {ds : List D} {vs : List V} (n : Nat), RepL K A H ds vs → RepL K A H (ds.eraseIdx n) (vs.eraseIdx n)
  | [], vs, n, r => by simp only [RepL] at r; subst r; simp [RepL]
  | d :: ds, vs, 0, r => by
    simp only [RepL] at r
    obtain ⟨v, vs', rfl, r, rs⟩ := r
    exact rs
  | d :: ds, vs, n + 1, r => by
    simp only [RepL] at r
    obtain ⟨v, vs', rfl, r, rs⟩ := r
    exact RepL.cons r (RepL.erase n rs)
theorem mtS_popAt {K : PySem.W.Frag} : MtS K rPopAt j (kPopAt j) := by
  intro c W σ ρ ts H svs vs w Q hK hl r hw q
  unfold kPopAt at q
  split at q
  case h_2 => exact q.elim
  rename_i k
  obtain ⟨v, rfl⟩ := zip1 hl rfl
  have r1 : R c σ ρ ((.fz (.int k), v) :: ts) H := r
  have hv : v = .int k := by have z := r1.top_fz; simpa only [Rep] using z
  subst hv
  cases e2 : ρ[j]? with
  | none => rw [e2] at q; exact q.elim
  | some s2 =>
    rw [e2] at q
    cases s2 with
    | own d2 =>
      cases d2 with
      | lst ds =>
        simp only at q
        cases e8 : ixN ds.length k with
        | none => rw [e8] at q; exact q.elim
        | some n =>
          rw [e8] at q
          simp only at q
          cases e3 : ds[n]? with
          | none => rw [e3] at q; exact q.elim
          | some d =>
            rw [e3] at q
            simp only at q
            split at q
            case isFalse => exact q.elim
            rename_i hc
            simp only [Bool.and_eq_true, rgOk_iff] at hc
            have r0 := r1.pop
            obtain ⟨p, ds', us, e4, e5, e6, rl⟩ := r0.slot_own e2
            cases e5
            rw [hw] at e4; cases e4
            obtain ⟨y, e7, ry⟩ := rl.get e3
            obtain ⟨h1, h2, h3, h4⟩ := ixN_seq e8
            have r2 : R c σ ρ ((.fz d, y) :: ts) H := r0.push_fz ry
            refine ⟨p, us, k, n, y, rfl, rfl, e6, by omega, by omega, by rw [rl.length]; exact h1, e7, ?_⟩
            exact q _ _ (r2.write e2 hw (rl.erase n) upd_same fun a o ha h => by rw [upd_ne ha]; exact h)
      | _ => exact q.elim
    | _ => exact q.elim
def kReverse (j : Nat) (svs : List SV) : M SV := fun ρ => match svs with
  | [] => match ρ[j]? with
    | some (.own (.lst ds)) => some (.ok (.fz .non) (ρ.set j (.own (.lst ds.reverse))))
    | _ => none
  | _ => none
theorem RepL.rev {K : PySem.W.Frag} {A : Addr → Prop} : ∀ {ds : List D} {vs : List V}, RepL K A H ds vs → RepL K A H ds.reverse vs.reverse
  | [], vs, r => by simp only [RepL] at r; subst r; simp [RepL]
  | d :: ds, vs, r => by
    simp only [RepL] at r
    obtain ⟨v, vs', rfl, r, rs⟩ := r
    rw [List.reverse_cons, List.reverse_cons]
    exact RepL.app (RepL.rev rs) (RepL.one r)
theorem mtS_reverse {K : PySem.W.Frag} : MtS K rReverse j (kReverse j) := by
  intro c W σ ρ ts H svs vs w Q hK hl r hw q
  unfold kReverse at q
  split at q
  case h_2 => exact q.elim
  have : vs = [] := List.length_eq_zero_iff.mp hl.symm
  subst this
  cases e2 : ρ[j]? with
  | none => rw [e2] at q; exact q.elim
  | some s2 =>
    rw [e2] at q
    cases s2 with
    | own d2 =>
      cases d2 with
      | lst ds =>
        have r0 : R c σ ρ ts H := r
        obtain ⟨p, ds', us, e4, e5, e6, rl⟩ := r0.slot_own e2
        cases e5
        rw [hw] at e4; cases e4
        refine ⟨p, us, rfl, rfl, e6, ?_⟩
        exact q _ _ ((r0.write e2 hw rl.rev upd_same fun a o ha h => by rw [upd_ne ha]; exact h).push_fz rep_non)
      | _ => exact q.elim
    | _ => exact q.elim
/-! a method that only reads: index of flat items -/
def idxF (d : D) : List D → Option Nat
  | [] => none
  | e :: ds => if eqF e d = true then some 0 else (idxF d ds).map (· + 1)
def fIndex (d : D) : List D → Option BR
  | [e] => match d with
    | .lst ds => if flatD e = true ∧ ds.all flatD = true then (idxF e ds).map fun n => .imm (.int (n : Nat)) else none
    | .seq ds => if flatD e = true ∧ ds.all flatD = true then (idxF e ds).map fun n => .imm (.int (n : Nat)) else none
    | _ => none
  | _ => none
theorem idxF_some : ∀ {ds : List D} {n : Nat}, idxF d ds = some n → (∃ z, ds[n]? = some z ∧ eqF z d = true) ∧ ∀ m z, m < n → ds[m]? = some z → eqF z d = false
  | [], n, h => by simp [idxF] at h
  | e :: ds, n, h => by
    simp only [idxF] at h
    split at h
    · rename_i hc
      cases h
      exact ⟨⟨e, rfl, hc⟩, fun m z hm => absurd hm (Nat.not_lt_zero _)⟩
    · rename_i hc
      rw [Option.map_eq_some_iff] at h
      obtain ⟨k, hk, rfl⟩ := h
      obtain ⟨⟨z, h1, h2⟩, h3⟩ := idxF_some hk
      refine ⟨⟨z, by simpa using h1, h2⟩, fun m y hm hy => ?_⟩
      cases m with
      | zero =>
        simp at hy; subst hy
        simpa using hc
      | succ m => exact h3 m y (by omega) (by simpa using hy)
theorem mt_idx {K : PySem.W.Frag} {A : Addr → Prop} {e : D} {u : V} {a : Addr} (hs : SqL K H a vs) (rl : RepL K A H ds vs) (re : RepR K A H e u) (fe : flatD e = true) (fs : ds.all flatD = true) {n : Nat} (h : idxF e ds = some n) (q : Q (.int (n : Nat)) H) : rIndex K (.ref a) [u] H Q := by
  obtain ⟨⟨z, h1, h2⟩, h3⟩ := idxF_some h
  obtain ⟨y, e1, ry⟩ := rl.get h1
  have fz : ∀ {m : Nat} {x : D}, ds[m]? = some x → flatD x = true := fun hx => List.all_eq_true.mp fs _ (List.mem_of_getElem? hx)
  have key := (flat_v fe re).2
  have fl : ∀ {x : D} {xv : V}, flatD x = true → RepR K A H x xv → eqV xv u = eqF x e := fun {x xv} fx rx => by
    have := (flat_v fx rx).2 e u fe re
    -- eqV is symmetric here
    cases x with
    | non => rw [repR_non rx] at this ⊢; cases e with
      | non => rw [repR_non re]; rfl
      | bl b => rw [repR_bl re]; rfl
      | int b => rw [repR_int re]; rfl
      | str b => rw [repR_str re]; rfl
      | _ => simp [flatD] at fe
    | bl b1 => rw [repR_bl rx] at this ⊢; cases e with
      | non => rw [repR_non re]; rfl
      | bl b => rw [repR_bl re]; rfl
      | int b => rw [repR_int re]; rfl
      | str b => rw [repR_str re]; rfl
      | _ => simp [flatD] at fe
    | int b1 => rw [repR_int rx] at this ⊢; cases e with
      | non => rw [repR_non re]; rfl
      | bl b => rw [repR_bl re]; rfl
      | int b => rw [repR_int re]; rfl
      | str b => rw [repR_str re]; rfl
      | _ => simp [flatD] at fe
    | str b1 => rw [repR_str rx] at this ⊢; cases e with
      | non => rw [repR_non re]; rfl
      | bl b => rw [repR_bl re]; rfl
      | int b => rw [repR_int re]; rfl
      | str b => rw [repR_str re]; rfl
      | _ => simp [flatD] at fe
    | _ => simp [flatD] at fx
  refine ⟨a, vs, u, n, y, rfl, rfl, hs, (flat_v fe re).1, (inV_of fe re fs rl).1, e1, by rw [fl (fz h1) ry.root]; exact h2, fun m z' hm hz' => ?_, q⟩
  have hm2 : m < ds.length := by
    have := (List.getElem?_eq_some_iff.mp hz').1
    rw [rl.length] at this; exact this
  have hd : ds[m]? = some ds[m] := by simp [hm2]
  obtain ⟨y2, e2, ry2⟩ := rl.get hd
  rw [hz'] at e2; cases e2
  rw [fl (fz hd) ry2.root]
  exact h3 m _ hm hd
def isL : D → Bool
  | .lst _ => true
  | .seq _ => true
  | _ => false
def idx2 (s : SV) (ss : List SV) : M SV := fun ρ => match con ρ s, cons ρ ss with
  | some d, some es => bres (fIndex d es) ρ
  | _, _ => none
def mIndex (mo : M SV) (ma : M (List SV)) : M SV := mo.bnd fun s => fun ρ => match con ρ s with
  | some d => if isL d = true then (ma.bnd (idx2 s)) ρ else none
  | none => none
theorem bindA1 {m : M (List SV)} {f : List SV → M SV} {t : SV × V} (r : R c σ ρ (t :: ts) H) (h : PostE c W σ ts Q ((m.bnd f) ρ)) {Q' : List V → Hp → Prop} (k : ∀ svs vs ρ' H', svs.length = vs.length → R c σ ρ' (svs.zip vs ++ t :: ts) H' → PostE c W σ ts Q (f svs ρ') → Q' vs H') : tDA c W m σ H Q' := by
  refine ⟨ρ, t :: ts, r, ?_⟩
  cases e : m ρ with
  | none => rw [bnd_none e] at h; exact h
  | some x =>
    cases x with
    | er x ρ' => rw [bnd_er e] at h; exact fun cls od H' r' q => h cls od H' r'.pop (q.less avr_sub)
    | ok svs ρ' => rw [bnd_some e] at h; exact fun vs H' hl r' => k svs vs ρ' H' hl r' h
theorem pd_index {o : Expr} {m : Str} {apos cpos : Pos} {e : Expr} {es : List Expr} {mo : M SV} {ma : M (List SV)} (ho : PE X o (tDE c W mo)) (ha : PA X (e :: es) (tDA c W ma))
    (h : ∀ t u, PE X o t → PA X (e :: es) u → PE X (.Call (.Attribute o m apos) (e :: es) [] cpos) (tBM X.K "list" (rIndex X.K) t u)) (hK : c.K = X.K := by rfl) : PE X (.Call (.Attribute o m apos) (e :: es) [] cpos) (tDE c W (mIndex mo ma)) := by
  refine pe_imp (h _ _ ho ha) fun σ H Q ⟨ρ, ts, r, q⟩ => bindE r q fun s v ρ1 H1 r1 q1 => ?_
  cases e1 : con ρ1 s with
  | none => rw [e1] at q1; exact q1.elim
  | some d =>
    rw [e1] at q1
    simp only at q1
    split at q1
    case isFalse => exact q1.elim
    rename_i hl
    have rr := r1.con List.mem_cons_self e1
    refine ⟨?_, bindA1 r1 q1 fun svs vs ρ2 H2 hlen r2 q2 => ?_⟩
    · cases d with
      | lst ds =>
        obtain ⟨a, us, rfl, e2, rl⟩ := repR_lst rr
        exact .inl ⟨rfl, us, SqL.of e2⟩
      | seq ds =>
        obtain ⟨a, us, rfl, e2, rl⟩ := repR_seq rr
        exact .inl ⟨rfl, us, hK ▸ e2.sq⟩
      | _ => cases hl
    · unfold idx2 at q2
      cases e2 : con ρ2 s with
      | none => rw [e2] at q2; exact q2.elim
      | some d2 =>
      cases e3 : cons ρ2 svs with
      | none => rw [e2, e3] at q2; exact q2.elim
      | some es2 =>
        rw [e2, e3] at q2
        simp only at q2
        cases e4 : fIndex d2 es2 with
        | none => rw [e4] at q2; exact q2.elim
        | some b =>
          rw [e4] at q2
          have rs := r2.con (List.mem_append_right _ List.mem_cons_self) e2
          have ra := r_cons r2 (fun t ht => List.mem_append_left _ ht) hlen e3
          have fb := fin_br (us := svs.zip vs ++ [(s, v)]) (by rw [List.append_assoc]; exact r2) q2
          have fb2 : BRQ c.K (Avr c σ ρ2 (svs.zip vs ++ (s, v) :: ts)) H2 b Q := by
            have e : svs.zip vs ++ [(s, v)] ++ ts = svs.zip vs ++ (s, v) :: ts := by rw [List.append_assoc]; rfl
            rw [e] at fb; exact fb
          unfold fIndex at e4
          split at e4
          · rename_i e5
            obtain ⟨u, rfl, ru⟩ := repRL1 ra
            split at e4
            · rename_i ds
              split at e4
              · rename_i hc
                rw [Option.map_eq_some_iff] at e4
                obtain ⟨n, en, rfl⟩ := e4
                obtain ⟨a, us, rfl, e6, rl⟩ := repR_lst rs
                exact hK ▸ mt_idx (K := c.K) (SqL.of e6) rl ru hc.1 hc.2 en (fb2 _ (rep_int _))
              · cases e4
            · rename_i ds
              split at e4
              · rename_i hc
                rw [Option.map_eq_some_iff] at e4
                obtain ⟨n, en, rfl⟩ := e4
                obtain ⟨a, us, rfl, e6, rl⟩ := repR_seq rs
                exact hK ▸ mt_idx (K := c.K) e6.sq rl ru hc.1 hc.2 en (fb2 _ (rep_int _))
              · cases e4
            · cases e4
          · cases e4
/-! ### a def's body -/
def outsOf : List Bool → List SV → Option (List SV)
  | [], _ => some []
  | true :: bs, .own d :: ρ => (outsOf bs ρ).map (.own d :: ·)
  | true :: bs, .box d :: ρ => (outsOf bs ρ).map (.box d :: ·)
  | false :: bs, _ :: ρ => (outsOf bs ρ).map (.un :: ·)
  | _, _ => none
def fin (io : List Bool) : Option SR → Option FRes
  | some (.rt (.fz d) ρ) => (outsOf io ρ).map (.ok (.fz d))
  | some (.rt (.own d) ρ) => (outsOf io ρ).map (.ok (.own d))
  | some (.rt (.box d) ρ) => (outsOf io ρ).map (.ok (.box d))
  | some (.rt (.loc i) ρ) => match ρ[i]? with
    | some (.own d) => (outsOf io (ρ.set i .un)).map (.ok (.own d))
    | some (.box d) => (outsOf io (ρ.set i .un)).map (.ok (.box d))
    | some (.fz d) => (outsOf io ρ).map (.ok (.fz d))
    | _ => none
  | some (.nx ρ) => (outsOf io ρ).map (.ok (.fz .non))
  | some (.er e ρ) => (outsOf io ρ).map (.er e)
  | _ => none
def pinOf (io : List Bool) (vs : List V) : Nat → Option V := fun i => if io.getD i false = true then vs[i]? else none
def cxD (K : PySem.W.Frag) (T : Addr → Prop) (H : Hp) (as : List SV) (vs : List V) (cv : Nat → Bool) (io : List Bool) : Fc :=
  { K := K, T := T, H0 := H, W := fun a => a ∈ Own (asP as vs), cv := cv, pin := pinOf io vs }
theorem outs_own : ∀ {io : List Bool} {ρ outs : List SV} {σ : L2.St} {vs : List V}, outsOf io ρ = some outs → vs.length = io.length → ρ.length = σ.length → (∀ i v, pinOf io vs i = some v → σ[i]? = some (some v)) →
    (Own (asP outs vs)).Sublist (Own (ρ.zip σ)) ∧ ∀ x ∈ asP outs vs, x ∈ ρ.zip σ ∨ x.1 = SV.un
  | [], ρ, outs, σ, vs, h, hv, hl, hp => by
    simp only [outsOf, Option.some.injEq] at h
    subst h
    exact ⟨List.nil_sublist _, fun x hx => by simp [asP, tsP] at hx⟩
  | b :: io, [], outs, σ, vs, h, hv, hl, hp => by cases b <;> simp [outsOf] at h
  | b :: io, s :: ρ, outs, [], vs, h, hv, hl, hp => by simp at hl
  | b :: io, s :: ρ, outs, o :: σ, [], h, hv, hl, hp => by simp at hv
  | b :: io, s :: ρ, outs, o :: σ, v :: vs, h, hv, hl, hp => by
    have hp' : ∀ i u, pinOf io vs i = some u → σ[i]? = some (some u) := fun i u e => by
      have := hp (i + 1) u (by simpa [pinOf] using e)
      simpa using this
    have hs : (Own (ρ.zip σ)).Sublist (Own ((s, o) :: ρ.zip σ)) := by
      unfold Own
      rw [List.filterMap_cons]
      split
      · exact List.Sublist.refl _
      · exact List.sublist_cons_self _ _
    cases b with
    | true =>
      cases s with
      | own d =>
        simp only [outsOf, Option.map_eq_some_iff] at h
        obtain ⟨os, ho, rfl⟩ := h
        obtain ⟨i1, i2⟩ := outs_own ho (by simpa using hv) (by simpa using hl) hp'
        have h0 := hp 0 v (by simp [pinOf])
        simp only [List.getElem?_cons_zero, Option.some.injEq] at h0
        subst h0
        refine ⟨?_, fun x hx => ?_⟩
        · show (Own ((SV.own d, some v) :: asP os vs)).Sublist (Own ((SV.own d, some v) :: ρ.zip σ))
          unfold Own at i1 ⊢
          rw [List.filterMap_cons, List.filterMap_cons]
          split
          · exact i1
          · exact i1.cons_cons _
        · rcases List.mem_cons.mp hx with e | hx
          · exact .inl (by rw [e]; exact List.mem_cons_self)
          · exact (i2 x hx).imp (List.mem_cons_of_mem _) id
      | box d =>
        simp only [outsOf, Option.map_eq_some_iff] at h
        obtain ⟨os, ho, rfl⟩ := h
        obtain ⟨i1, i2⟩ := outs_own ho (by simpa using hv) (by simpa using hl) hp'
        have h0 := hp 0 v (by simp [pinOf])
        simp only [List.getElem?_cons_zero, Option.some.injEq] at h0
        subst h0
        refine ⟨?_, fun x hx => ?_⟩
        · show (Own ((SV.box d, some v) :: asP os vs)).Sublist (Own ((SV.box d, some v) :: ρ.zip σ))
          unfold Own at i1 ⊢
          rw [List.filterMap_cons, List.filterMap_cons]
          split
          · exact i1
          · exact i1.cons_cons _
        · rcases List.mem_cons.mp hx with e | hx
          · exact .inl (by rw [e]; exact List.mem_cons_self)
          · exact (i2 x hx).imp (List.mem_cons_of_mem _) id
      | _ => simp [outsOf] at h
    | false =>
      simp only [outsOf, Option.map_eq_some_iff] at h
      obtain ⟨os, ho, rfl⟩ := h
      obtain ⟨i1, i2⟩ := outs_own ho (by simpa using hv) (by simpa using hl) hp'
      refine ⟨?_, fun x hx => ?_⟩
      · show (Own ((SV.un, some v) :: asP os vs)).Sublist (Own ((s, o) :: ρ.zip σ))
        rw [own_cons_un]
        exact i1.trans hs
      · rcases List.mem_cons.mp hx with e | hx
        · exact .inr (by rw [e])
        · exact (i2 x hx).imp (List.mem_cons_of_mem _) id
theorem exit_rep {T : Addr → Prop} {K : PySem.W.Frag} {H0 : Hp} {as outs : List SV} {cv : Nat → Bool} {io : List Bool} (hv : vs.length = io.length) (r : R (cxD K T H0 as vs cv io) σ ρ ts H) {P : Pl} (hP : ∀ x ∈ P, x ∈ tsP ts) (hPs : P.Sublist (tsP ts)) (ho : outsOf io ρ = some outs) (nl : NoLocP P) :
    G { K := K, T := T, H0 := H0, W := fun a => a ∈ Own (asP as vs), cv := fun _ => false, pin := fun _ => none } [] (P ++ asP outs vs) H := by
  obtain ⟨s1, s2⟩ := outs_own ho hv r.len r.g.pn
  have g : G (cxD K T H0 as vs cv io) σ (P ++ asP outs vs) H := by
    refine r.g.sub (fun x hx => ?_) ?_
    · rcases List.mem_append.mp hx with hx | hx
      · exact .inl (List.mem_append_left _ (hP x hx))
      · rcases s2 x hx with z | z
        · exact .inl (List.mem_append_right _ z)
        · obtain ⟨sv, ov⟩ := x
          cases z
          exact .inr trivial
    · rw [own_append, own_append]
      exact (hPs.filterMap _).append s1
  refine ⟨fun x hx => ?_, g.nd, g.fr, g.new, g.tt, fun i v e => by cases e⟩
  have q := g.rs x hx
  obtain ⟨sv, ov⟩ := x
  cases sv with
  | un => trivial
  | fz d => exact q
  | own d => exact q
  | box d => exact q
  | loc i =>
    exfalso
    rcases List.mem_append.mp hx with hx | hx
    · exact nl i ov hx
    · rcases s2 _ hx with z | z
      · exact r.nl i (List.of_mem_zip z).1
      · cases z
/-- the body, from a call's arguments to its end -/
theorem body_ok {K : PySem.W.Frag} {n : Nat} {g : Fn} {m : MS} {N : List Str} {cv : Nat → Bool} {io : List Bool} {E : XK} {We : WX} (hio : io.length = n) (hN : n ≤ N.length) (hm : ∀ as r, as.length = n → g as = some r → fin io (m (as ++ List.replicate (N.length - n) .un)) = some r)
    (hW : ∀ e ρ as, m (as ++ List.replicate (N.length - n) .un) = some (.er e ρ) → as.length = n → g as ≠ none → ∀ cls od σ H, E cls od H → We cls od σ H) (h : spD K n g vs H Q E) :
    ∃ T as, as.length = n ∧ vs.length = n ∧ tDS (cxD K T H as vs cv io) We m { nx := fun _ H' => Q .non H', rt := Q } (L2.start N vs) H := by
  obtain ⟨T, as, la, lv, g0, post⟩ := h
  refine ⟨T, as, la, lv, as ++ List.replicate (N.length - n) .un, [], ?_, ⟨(fun i v h => nomatch h), ?_⟩⟩
  · have hz : (as ++ List.replicate (N.length - n) SV.un).zip (L2.start N vs) = asP as vs ++ (List.replicate (N.length - n) SV.un).zip (List.replicate (N.length - n) (none : Option V)) := by
      unfold L2.start
      rw [lv, List.zip_append (by simp [la, lv])]
      congr 1
      unfold asP tsP
      rw [List.zip_map_right]
      rfl
    have hun : ∀ k : Nat, Own ((List.replicate k SV.un).zip (List.replicate k (none : Option V))) = [] ∧ ∀ x ∈ (List.replicate k SV.un).zip (List.replicate k (none : Option V)), x = (SV.un, none) := fun k => by
      induction k with
      | zero => exact ⟨rfl, fun x hx => by cases hx⟩
      | succ k ih =>
        simp only [List.replicate_succ, List.zip_cons_cons]
        exact ⟨ih.1, fun x hx => (List.mem_cons.mp hx).elim id (ih.2 x)⟩
    refine ⟨?_, fun i hi => ?_, ?_⟩
    · unfold L2.start
      simp [la, lv]
    · rcases List.mem_append.mp hi with z | z
      · obtain ⟨k, hk⟩ := List.getElem?_of_mem z
        have hkl : k < as.length := (List.getElem?_eq_some_iff.mp hk).1
        have hm : (SV.loc i, some (vs[k]'(by omega))) ∈ asP as vs := by
          unfold asP
          refine tsP_mem (t := (SV.loc i, vs[k]'(by omega))) ?_
          refine List.mem_of_getElem? (i := k) ?_
          rw [List.getElem?_zip_eq_some]
          exact ⟨hk, by simp [lv ▸ la ▸ hkl]⟩
        obtain ⟨_, w, _, e⟩ := g0.rs _ hm
        simp at e
      · have := List.eq_of_mem_replicate z
        cases this
    · rw [hz]
      show G _ _ (tsP [] ++ (asP as vs ++ _)) H
      have g1 : G (cxD K T H as vs cv io) (L2.start N vs) (asP as vs) H := by
        refine ⟨fun x hx => ?_, g0.nd, g0.fr, g0.new, g0.tt, fun i v e => ?_⟩
        · have q := g0.rs x hx
          obtain ⟨sv, ov⟩ := x
          cases sv with
          | un => trivial
          | fz d => exact q
          | own d => exact q
          | box d => exact q
          | loc i =>
            obtain ⟨_, w, _, e⟩ := q
            simp at e
        · have e' : (if io.getD i false = true then vs[i]? else none) = some v := e
          split at e'
          · have hi : i < vs.length := (List.getElem?_eq_some_iff.mp e').1
            unfold L2.start
            rw [List.getElem?_append_left (by simpa using hi), List.getElem?_map, e']
            rfl
          · cases e'
      refine G.sub g1 (fun x hx => ?_) ?_
      · rcases List.mem_append.mp hx with hx | hx
        · cases hx
        · rcases List.mem_append.mp hx with hx | hx
          · exact .inl hx
          · rw [(hun _).2 x hx]; exact .inr trivial
      · show (Own (asP as vs ++ _)).Sublist _
        rw [own_append, (hun _).1, List.append_nil]
        exact List.Sublist.refl _
  · have hv : vs.length = io.length := by omega
    cases eg : g as with
    | none => rw [eg] at post; exact post.elim
    | some r =>
      rw [eg] at post
      have hf := hm as r la eg
      cases em : m (as ++ List.replicate (N.length - n) .un) with
      | none => rw [em] at hf; cases hf
      | some x =>
        rw [em] at hf
        cases x with
        | bk ρ => simp [fin] at hf
        | ct ρ => simp [fin] at hf
        | nx ρ =>
          simp only [fin, Option.map_eq_some_iff] at hf
          obtain ⟨os, ho, rfl⟩ := hf
          intro σ' H' r'
          exact post _ _ (exit_rep (P := [(.fz .non, some .non)]) hv (r'.push_fz (v := .non) rep_non) (fun x hx => hx) (List.Sublist.refl _) ho (fun i o z => by simp at z))
        | rt sv ρ =>
          intro σ' v H' r'
          cases sv with
          | un => simp [fin] at hf
          | fz d =>
            simp only [fin, Option.map_eq_some_iff] at hf
            obtain ⟨os, ho, rfl⟩ := hf
            exact post _ _ (exit_rep (P := [(.fz d, some v)]) hv r' (fun x hx => hx) (List.Sublist.refl _) ho (fun i o z => by simp at z))
          | own d =>
            simp only [fin, Option.map_eq_some_iff] at hf
            obtain ⟨os, ho, rfl⟩ := hf
            exact post _ _ (exit_rep (P := [(.own d, some v)]) hv r' (fun x hx => hx) (List.Sublist.refl _) ho (fun i o z => by simp at z))
          | box d =>
            simp only [fin, Option.map_eq_some_iff] at hf
            obtain ⟨os, ho, rfl⟩ := hf
            exact post _ _ (exit_rep (P := [(.box d, some v)]) hv r' (fun x hx => hx) (List.Sublist.refl _) ho (fun i o z => by simp at z))
          | loc i =>
            simp only [fin] at hf
            cases ei : ρ[i]? with
            | none => rw [ei] at hf; cases hf
            | some s =>
              rw [ei] at hf
              cases s with
              | own d =>
                simp only [Option.map_eq_some_iff] at hf
                obtain ⟨os, ho, rfl⟩ := hf
                exact post _ _ (exit_rep (P := [(.own d, some v)]) hv (r'.take ei) (fun x hx => hx) (List.Sublist.refl _) ho (fun i o z => by simp at z))
              | box d =>
                simp only [Option.map_eq_some_iff] at hf
                obtain ⟨os, ho, rfl⟩ := hf
                exact post _ _ (exit_rep (P := [(.box d, some v)]) hv (r'.takeX ei) (fun x hx => hx) (List.Sublist.refl _) ho (fun i o z => by simp at z))
              | fz d =>
                simp only [Option.map_eq_some_iff] at hf
                obtain ⟨os, ho, rfl⟩ := hf
                exact post _ _ (exit_rep (P := [(.fz d, some v)]) hv (r'.loc_fz ei) (fun x hx => hx) (List.Sublist.refl _) ho (fun i o z => by simp at z))
              | _ => cases hf
        | er e ρ =>
          simp only [fin, Option.map_eq_some_iff] at hf
          obtain ⟨os, ho, rfl⟩ := hf
          intro σ' cls od H' r' z
          refine hW e ρ as em la (by rw [eg]; simp) cls od σ' H' (post cls od H' ?_ ?_)
          · have := exit_rep (P := []) hv r' (fun x hx => by cases hx) (List.nil_sublist _) ho (fun i o z => by cases z)
            exact this
          · refine z.less fun a w => ?_
            rcases w with w | w
            · exact .inl w
            · exact .inr ((outs_own ho hv r'.len r'.g.pn).1.subset w)
def fin0 (io : List Bool) : Option SR → Option FRes
  | some (.er _ _) => none
  | r => fin io r
theorem fin0_fin {io : List Bool} {r : Option SR} {x : FRes} (h : fin0 io r = some x) : fin io r = some x := by
  unfold fin0 at h
  split at h
  · cases h
  · exact h
/-- a def out of which no exception comes -/
theorem fn_ok0 {P : Program} {w : World} {K : PySem.W.Frag} {mg : Str → Option Value} {base : Heap} {x qual : Str} {st : Stmt} {f : Addr} {fd : FuncData} {N ps : List Str} {k n : Nat} {g : Fn} {m : MS} (cv : Nat → Bool) (io : List Bool) (F : Fun K x qual st f fd) (S : FnScope N ps (defScope st))
    (hp : ps.length = n) (hio : io.length = n) (hN : n ≤ N.length)
    (hb : ∀ (cdv : Value) (A : Around) (outer : List Env) (s : Shared) (H : Hp) (E : XK) (T : Addr → Prop) (as : List SV) (vs : List V), Room k (A.deeper (envOfC qual (defScope st) s.heap.objs.size f cdv)) →
      PSs (cxOf CX0 P w K mg base N qual (defScope st) f cdv A outer s H E).nox (defBody st) (tDS (cxD K T H as vs cv io) W0 m))
    (hm : ∀ as r, as.length = n → g as = some r → fin0 io (m (as ++ List.replicate (N.length - n) .un)) = some r) : FnOk P w K mg base CX0 (k + 1) f fd ps (spD K n g) := by
  refine F.ok S (fun vs H Q E h => ?_) (fun cdv A outer s H vs Q E hr h => ?_)
  · obtain ⟨T, as, _, lv, _⟩ := h
    rw [hp]; exact lv
  · obtain ⟨T, as, la, lv, t⟩ := body_ok (cv := cv) (We := W0) (N := N) hio hN (fun as r la eg => fin0_fin (hm as r la eg)) (fun e ρ as em la hg cls od σ H' z => by
      cases eg : g as with
      | none => exact absurd eg hg
      | some r =>
        have := hm as r la eg
        rw [em] at this
        cases this) h
    exact ⟨_, hb cdv A outer s H E T as vs hr, t⟩
/-- a def that may raise -/
theorem fn_okX {P : Program} {w : World} {K : PySem.W.Frag} {mg : Str → Option Value} {base : Heap} {x qual : Str} {st : Stmt} {f : Addr} {fd : FuncData} {N ps : List Str} {k n : Nat} {g : Fn} {m : MS} (cv : Nat → Bool) (io : List Bool) (F : Fun K x qual st f fd) (S : FnScope N ps (defScope st))
    (hp : ps.length = n) (hio : io.length = n) (hN : n ≤ N.length)
    (hb : ∀ (cdv : Value) (A : Around) (outer : List Env) (s : Shared) (H : Hp) (E : XK) (T : Addr → Prop) (as : List SV) (vs : List V), Room k (A.deeper (envOfC qual (defScope st) s.heap.objs.size f cdv)) →
      PSs (cxOf (L2.CX P w) P w K mg base N qual (defScope st) f cdv A outer s H E) (defBody st) (tDS (cxD K T H as vs cv io) (fun cls od _ H => E cls od H) m))
    (hm : ∀ as r, as.length = n → g as = some r → fin io (m (as ++ List.replicate (N.length - n) .un)) = some r) : FnOk P w K mg base (L2.CX P w) (k + 1) f fd ps (spD K n g) := by
  refine F.okX S (fun vs H Q E h => ?_) (fun cdv A outer s H vs Q E hr h => ?_)
  · obtain ⟨T, as, _, lv, _⟩ := h
    rw [hp]; exact lv
  · obtain ⟨T, as, la, lv, t⟩ := body_ok (cv := cv) (We := fun cls od _ H => E cls od H) (N := N) hio hN hm (fun e ρ as em la hg cls od σ H' z => z) h
    exact ⟨_, hb cdv A outer s H E T as vs hr, t⟩
/-- one, two slots of a comprehension -/
theorem own1 {P : Nat → Prop} {a : Str × Nat} (h : P a.2) : ∀ i ∈ [a].map (·.2), P i := fun i hi => by
  simp at hi; rw [hi]; exact h
theorem own2 {P : Nat → Prop} {a b : Str × Nat} (h : P a.2) (h' : P b.2) : ∀ i ∈ [a, b].map (·.2), P i := fun i hi => by
  simp at hi
  rcases hi with e | e <;> (rw [e]; assumption)
theorem own3 {P : Nat → Prop} {a b d : Str × Nat} (h : P a.2) (h' : P b.2) (h3 : P d.2) : ∀ i ∈ [a, b, d].map (·.2), P i := fun i hi => by
  simp at hi
  rcases hi with e | e | e <;> (rw [e]; assumption)
end
end DL

set_option Elab.async false
set_option linter.all false
set_option maxRecDepth 100000
/-! The data layer: names for what a program prints. -/
namespace DL
open PySem PySem.Spec PyProof.Rows L2
theorem b_len : bootBuiltins "len" = some (.builtin "len") := by decide +kernel
theorem b_int : bootBuiltins "int" = some (.type "int") := by decide +kernel
theorem b_abs : bootBuiltins "abs" = some (.builtin "abs") := by decide +kernel
theorem b_max : bootBuiltins "max" = some (.builtin "max") := by decide +kernel
theorem b_min : bootBuiltins "min" = some (.builtin "min") := by decide +kernel
theorem b_list : bootBuiltins "list" = some (.type "list") := by decide +kernel
theorem b_tuple : bootBuiltins "tuple" = some (.type "tuple") := by decide +kernel
theorem b_sorted : bootBuiltins "sorted" = some (.builtin "sorted") := by decide +kernel
theorem b_sum : bootBuiltins "sum" = some (.builtin "sum") := by decide +kernel
theorem b_all : bootBuiltins "all" = some (.builtin "all") := by decide +kernel
theorem b_any : bootBuiltins "any" = some (.builtin "any") := by decide +kernel
theorem b_str : bootBuiltins "str" = some (.type "str") := by decide +kernel
theorem b_bool : bootBuiltins "bool" = some (.type "bool") := by decide +kernel
theorem b_dict : bootBuiltins "dict" = some (.type "dict") := by decide +kernel
theorem b_isinstance : bootBuiltins "isinstance" = some (.builtin "isinstance") := by decide +kernel
theorem b_range : bootBuiltins "range" = some (.type "range") := by decide +kernel
section
variable {c : Fc} {W : WX} {X : Cx} {pos : Pos}
theorem pd_biR {e : Expr} {ma : M (List SV)} {r : List V → Hp → VK → Prop} {f : List D → Option BR} (hs : CallB c.K r f) (h : PE X e (tCB r (tDA c W ma))) : PE X e (tDE c W (mCallB f ma)) := pe_imp h fun σ H Q z => readB hs z
/-! list(range(..)) -/
def rgL (a b : Int) (ρ : List SV) : Option (Res SV) := if (rgOk a && rgOk b && nlt (b - a).toNat (2 ^ 24 + 1)) = true then some (.ok (.own (.lst (rgD a (b - a).toNat))) ρ) else none
def mListRg1 (m : M SV) : M SV := m.bnd fun s => fun ρ => match s with
  | .fz (.int j) => rgL 0 j ρ
  | _ => none
def mListRg2 (m n : M SV) : M SV := m.bnd fun s => n.bnd fun u => fun ρ => match s, u with
  | .fz (.int i), .fz (.int j) => rgL i j ρ
  | _, _ => none
theorem rgV_rep {K : PySem.W.Frag} {A : Addr → Prop} {H : Hp} (a b : Int) : RepL K A H (rgD a (b - a).toNat) (rgV a b) := by
  unfold rgD rgV
  induction (List.range (b - a).toNat) with
  | nil => exact RepL.nil
  | cons x xs ih => exact RepL.cons (rep_int _) ih
theorem rg_fin {σ : L2.St} {ρ : List SV} {ts : Ts} {H : Hp} {Q : VK} {a b : Int} (r : R c σ ρ ts H) (q : PostE c W σ ts Q (rgL a b ρ)) : RgOk a b ∧ ∀ p, H p = none → Q (.ref p) (upd H p (.lst (rgV a b))) := by
  unfold rgL at q
  split at q
  · rename_i hc
    simp only [rgOk_iff, nlt_iff, Bool.and_eq_true] at hc
    exact ⟨⟨by omega, hc.1.1.2, by omega, hc.1.2.2, by omega⟩, fun p hp => fin_new r (rgV_rep a b) hp q⟩
  · exact q.elim
theorem pd_listRg1 {a : Expr} {m : M SV} {p p2 pos2 : Pos} (hc : X.calm = true) (hg : Gl X "list") (hm : X.mg "list" = none) (hgr : Gl X "range") (hmr : X.mg "range" = none) (ha : PE X a (tDE c W m))
    (na : starEach [.Call (.Name "range" p2) [a] [] pos2] X.env = (false, eval (.Call (.Name "range" p2) [a] [] pos2) X.env) :: starEach [] X.env := by rfl) (nb : starEach [a] X.env = (false, eval a X.env) :: starEach [] X.env := by rfl) :
    PE X (.Call (.Name "list" p) [.Call (.Name "range" p2) [a] [] pos2] [] pos) (tDE c W (mListRg1 m)) := by
  refine pe_imp (pe_listRg hc hg hm (prg_1 hgr hmr ha nb) na) fun σ H Q ⟨ρ, ts, r, q⟩ => bindE r q fun s v ρ1 H1 r1 q1 => ?_
  split at q1
  · rename_i j
    have hv : v = .int j := by have z := r1.top_fz; simpa only [Rep] using z
    obtain ⟨h1, h2⟩ := rg_fin r1.pop q1
    exact ⟨j, hv, h1, h2⟩
  · exact q1.elim
theorem pd_listRg2 {a b : Expr} {m n : M SV} {p p2 pos2 : Pos} (hc : X.calm = true) (hg : Gl X "list") (hm : X.mg "list" = none) (hgr : Gl X "range") (hmr : X.mg "range" = none) (ha : PE X a (tDE c W m)) (hb : PE X b (tDE c W n))
    (na : starEach [.Call (.Name "range" p2) [a, b] [] pos2] X.env = (false, eval (.Call (.Name "range" p2) [a, b] [] pos2) X.env) :: starEach [] X.env := by rfl) (n1 : starEach [a, b] X.env = (false, eval a X.env) :: starEach [b] X.env := by rfl)
    (n2 : starEach [b] X.env = (false, eval b X.env) :: starEach [] X.env := by rfl) (n3 : (backTo pos2 (starEach [b] X.env)).any (·.1) = false := by rfl) :
    PE X (.Call (.Name "list" p) [.Call (.Name "range" p2) [a, b] [] pos2] [] pos) (tDE c W (mListRg2 m n)) := by
  refine pe_imp (pe_listRg hc hg hm (prg_2 hgr hmr ha hb n1 n2 n3) na) fun σ H Q ⟨ρ, ts, r, q⟩ => bindE r q fun s v ρ1 H1 r1 q1 => bindE1 r1 q1 fun s2 v2 ρ2 H2 r2 q2 => ?_
  split at q2
  · rename_i i j
    have hv2 : v2 = .int j := by have z := r2.top_fz; simpa only [Rep] using z
    have hv1 : v = .int i := by have z := r2.pop.top_fz; simpa only [Rep] using z
    obtain ⟨h1, h2⟩ := rg_fin r2.pop.pop q2
    exact ⟨i, j, hv1, hv2, h1, h2⟩
  · exact q2.elim
end
theorem mulOk_r {i j : Int} (h1 : -18446744073709551616 < j) (h2 : j < 18446744073709551616) : mulOk i j = true := by
  have h : nlt j.natAbs (2 ^ 64) = true := nlt_iff.mpr (by omega)
  unfold mulOk
  rw [h]
  simp
theorem mulOk_l {i j : Int} (h1 : -18446744073709551616 < i) (h2 : i < 18446744073709551616) : mulOk i j = true := by
  have h : nlt i.natAbs (2 ^ 64) = true := nlt_iff.mpr (by omega)
  unfold mulOk
  rw [h]
  simp
theorem divOk_r {i j : Int} (h1 : 0 < j) (h2 : j < 1073741824) : divOk i j = true := by
  unfold divOk
  rw [decide_eq_true h1, nlt_iff.mpr (show j.natAbs < 1073741824 by omega)]
  simp
theorem modOk_r {i j : Int} (h1 : 0 < j) : modOk i j = true := by
  unfold modOk
  exact decide_eq_true h1
theorem rgOk_of {i : Int} (h1 : -4611686018427387904 < i) (h2 : i < 4611686018427387904) : rgOk i = true := rgOk_iff.mpr ⟨h1, h2⟩
end DL

set_option Elab.async false
set_option linter.all false
set_option maxRecDepth 100000
/-! The data layer: loops as folds; lists of numbers. -/
namespace DL
open PySem PySem.Spec PyProof.Rows L2
theorem mLoop_fold {α : Type} (st : α → List SV) (step : α → D → α) (I : α → Prop) {g : SV → List SV → Option (List SV)} {b : MS} : ∀ {ds : List D} (_ : ∀ a d, d ∈ ds → I a → (∃ ρ1, g (.fz d) (st a) = some ρ1 ∧ (b ρ1 = some (.nx (st (step a d))) ∨ b ρ1 = some (.ct (st (step a d))))) ∧ I (step a d)) (a : α) (_ : I a),
    mLoop g b ds (st a) = some (.nx (st (ds.foldl step a))) ∧ I (ds.foldl step a)
  | [], h, a, ha => ⟨rfl, ha⟩
  | d :: ds, h, a, ha => by
    obtain ⟨⟨ρ1, h1, h2⟩, h3⟩ := h a d List.mem_cons_self ha
    have ih := mLoop_fold st step I (g := g) (b := b) (ds := ds) (fun a d hd => h a d (List.mem_cons_of_mem _ hd)) (step a d) h3
    refine ⟨?_, ih.2⟩
    simp only [mLoop, h1]
    rcases h2 with h2 | h2 <;> (rw [h2]; exact ih.1)
theorem mLoop_nil {g : SV → List SV → Option (List SV)} {b : MS} {ρ : List SV} : mLoop g b [] ρ = some (.nx ρ) := rfl
theorem mLoop_nx {g : SV → List SV → Option (List SV)} {b : MS} {d : D} {ds : List D} {ρ ρ1 ρ2 : List SV} (h1 : g (.fz d) ρ = some ρ1) (h2 : b ρ1 = some (.nx ρ2)) : mLoop g b (d :: ds) ρ = mLoop g b ds ρ2 := by simp only [mLoop, h1, h2]
theorem mLoop_ct {g : SV → List SV → Option (List SV)} {b : MS} {d : D} {ds : List D} {ρ ρ1 ρ2 : List SV} (h1 : g (.fz d) ρ = some ρ1) (h2 : b ρ1 = some (.ct ρ2)) : mLoop g b (d :: ds) ρ = mLoop g b ds ρ2 := by simp only [mLoop, h1, h2]
theorem mLoop_rt {g : SV → List SV → Option (List SV)} {b : MS} {d : D} {ds : List D} {ρ ρ1 ρ2 : List SV} {sv : SV} (h1 : g (.fz d) ρ = some ρ1) (h2 : b ρ1 = some (.rt sv ρ2)) : mLoop g b (d :: ds) ρ = some (.rt sv ρ2) := by simp only [mLoop, h1, h2]
/-- a comprehension that leaves the slots as they are -/
theorem lcLoop_map {ns : List Nat} {g : SV → List SV → Option (List SV)} {t : M Bool} {e : M SV} {F : D → D} {ρ : List SV} : ∀ {ds acc : List D}, (∀ d ∈ ds, ∃ ρ1 ρ2 ρ3 ρ4 sv, g (.fz d) ρ = some ρ1 ∧ t ρ1 = some (.ok true ρ2) ∧ e ρ2 = some (.ok sv ρ3) ∧ esc sv ρ3 = some (.ok (F d) ρ4) ∧ wipeD ρ4 ns = ρ) →
    acc.length + ds.length ≤ sizeLine → lcLoop ns g t e ds ρ acc = some (acc ++ ds.map F, ρ)
  | [], acc, h, hl => by simp [lcLoop]
  | d :: ds, acc, h, hl => by
    obtain ⟨ρ1, ρ2, ρ3, ρ4, sv, h1, h2, h3, h4, h5⟩ := h d List.mem_cons_self
    have hl' : acc.length < sizeLine := by simp at hl; omega
    simp only [lcLoop, h1, h2, h3, h4, if_pos hl', h5]
    rw [lcLoop_map (fun d hd => h d (List.mem_cons_of_mem _ hd)) (by simp at hl ⊢; omega)]
    simp
theorem pd_yes {X : Cx} {c : Fc} {W : WX} : PTs X [] (tDT c W (DL.ret true)) := by
  refine ⟨fun pins s σ H Q I ⟨ρ, ts, r, q⟩ => pts_nil.run pins s σ H Q I (q H r)⟩
theorem intsOf_some : ∀ {ds : List D} {ns : List Int}, intsOf ds = some ns → ds = ns.map .int
  | [], ns, h => by simp only [intsOf, Option.some.injEq] at h; subst h; rfl
  | .int i :: ds, ns, h => by
    simp only [intsOf, Option.map_eq_some_iff] at h
    obtain ⟨ms, e, rfl⟩ := h
    rw [intsOf_some e]; rfl
  | .non :: _, _, h => by simp [intsOf] at h
  | .bl _ :: _, _, h => by simp [intsOf] at h
  | .str _ :: _, _, h => by simp [intsOf] at h
  | .tup _ :: _, _, h => by simp [intsOf] at h
  | .lst _ :: _, _, h => by simp [intsOf] at h
  | .seq _ :: _, _, h => by simp [intsOf] at h
  | .obj _ _ _ :: _, _, h => by simp [intsOf] at h
theorem atI_of {α : Type} {xs : List α} {i : Int} (h0 : 0 ≤ i) : atI xs i = xs[i.toNat]? := by
  unfold atI ixN
  rw [if_pos h0]
  by_cases h : i < xs.length
  · rw [if_pos h]; rfl
  · rw [if_neg h]
    rw [List.getElem?_eq_none (by omega)]; rfl
theorem ixN_of {n : Nat} {i : Int} (h0 : 0 ≤ i) (h : i < n) : ixN n i = some i.toNat := by
  unfold ixN
  rw [if_pos h0, if_pos h]
theorem cutD_take (ds : List D) (k : Nat) : cutD ds none (some (k : Int)) = ds.take k := by
  unfold cutD
  simp only [HT.sIx, List.drop_zero, Nat.sub_zero]
  have hk : ¬ ((k : Int) < 0) := by omega
  simp only [hk, if_false]
  rw [show (k : Int).toNat = k by omega]
  by_cases h : k ≤ ds.length
  · rw [Nat.min_eq_left h]
  · rw [Nat.min_eq_right (by omega), List.take_of_length_le (Nat.le_refl _), List.take_of_length_le (by omega)]
def cvL (l : List Nat) : Nat → Bool := fun i => l.contains i
theorem cvL_nil {i : Nat} : cvL [] i = false := rfl
theorem cvL_cons {a i : Nat} {l : List Nat} : cvL (a :: l) i = (i == a || cvL l i) := List.contains_cons
theorem ixN_lit {n k : Nat} : ixN n (no_index (OfNat.ofNat k)) = if (OfNat.ofNat k : Nat) < n then some (OfNat.ofNat k : Nat) else none := by
  have h0 : (0 : Int) ≤ (@OfNat.ofNat Int k (@instOfNat k)) := Int.natCast_nonneg k
  unfold ixN
  rw [if_pos h0]
  have e : (@OfNat.ofNat Int k (@instOfNat k)) = ((k : Nat) : Int) := rfl
  rw [e]
  by_cases h : k < n
  · rw [if_pos (by omega), if_pos (show (OfNat.ofNat k : Nat) < n from h)]; rfl
  · rw [if_neg (by omega), if_neg (show ¬ (OfNat.ofNat k : Nat) < n from h)]
theorem atI_lit {α : Type} {xs : List α} {k : Nat} : atI xs (no_index (OfNat.ofNat k)) = xs[(OfNat.ofNat k : Nat)]? := by
  have h0 : (0 : Int) ≤ (@OfNat.ofNat Int k (@instOfNat k)) := Int.natCast_nonneg k
  rw [atI_of h0]
  rfl
theorem cast_lit {k : Nat} : ((no_index (OfNat.ofNat k) : Nat) : Int) = (@OfNat.ofNat Int k (@instOfNat k)) := rfl
theorem size_le {k : Nat} : ((no_index (OfNat.ofNat k) : Nat) ≤ sizeLine) = ((OfNat.ofNat k : Nat) ≤ 16777216) := by rw [sizeLine_eq]
theorem size_lt {k : Nat} : ((no_index (OfNat.ofNat k) : Nat) < sizeLine) = ((OfNat.ofNat k : Nat) < 16777216) := by rw [sizeLine_eq]
theorem powOk_of {i j : Int} (h0 : 0 ≤ i) (h1 : i < 18446744073709551616) (h2 : 0 ≤ j) (h3 : j ≤ 1000000) : powOk i j = true := by
  unfold powOk
  rw [decide_eq_true h2, nlt_iff.mpr (show j.natAbs < 1000001 by omega), nlt_iff.mpr (show i.natAbs < 2 ^ 64 by omega)]
  rfl
def rgI (lo : Int) (n : Nat) : List Int := (List.range n).map fun k => lo + (k : Nat)
theorem rgD_map {lo : Int} {n : Nat} : rgD lo n = (rgI lo n).map .int := by
  unfold rgD rgI
  rw [List.map_map]
  rfl
theorem mem_rgI {lo : Int} {n : Nat} {x : Int} : x ∈ rgI lo n ↔ lo ≤ x ∧ x < lo + n := by
  unfold rgI
  simp only [List.mem_map, List.mem_range]
  constructor
  · rintro ⟨k, h, rfl⟩; omega
  · rintro ⟨h1, h2⟩; exact ⟨(x - lo).toNat, by omega, by omega⟩
theorem rgI_succ {lo : Int} {n : Nat} : rgI lo (n + 1) = lo :: rgI (lo + 1) n := by
  unfold rgI
  rw [List.range_succ_eq_map, List.map_cons, List.map_map]
  simp only [Int.ofNat_zero, Int.add_zero, List.cons.injEq, true_and]
  apply List.map_congr_left
  intro a _
  simp only [Function.comp]
  omega
theorem rgI_zero {lo : Int} : rgI lo 0 = [] := rfl
theorem mSeq_nx {a b : MS} {ρ ρ' : List SV} (h : a ρ = some (.nx ρ')) : mSeq a b ρ = b ρ' := by simp only [mSeq, h]
theorem mSeq_rt {a b : MS} {ρ ρ' : List SV} {sv : SV} (h : a ρ = some (.rt sv ρ')) : mSeq a b ρ = some (.rt sv ρ') := by simp only [mSeq, h]
theorem log2_lt {i : Int} (h0 : 0 ≤ i) (h1 : i < 10715086071862673209484250490600018105614048117055336074437503883703510511249361224931983788156958581275946729175531468251871452856923140435984577574698574803934567774824230985421074605062371141877954182153046474983581941267398767559165543946077062914571196477686542167660429831652624386837205668069376) : i.natAbs.log2 < 1000 := by
  by_cases hz : i.natAbs = 0
  · rw [hz]; decide
  · exact (Nat.log2_lt hz).mpr (by omega)
theorem mulOk_big {i j : Int} (h0 : 0 ≤ i) (h1 : i < 10715086071862673209484250490600018105614048117055336074437503883703510511249361224931983788156958581275946729175531468251871452856923140435984577574698574803934567774824230985421074605062371141877954182153046474983581941267398767559165543946077062914571196477686542167660429831652624386837205668069376) (h2 : 0 ≤ j) (h3 : j < 10715086071862673209484250490600018105614048117055336074437503883703510511249361224931983788156958581275946729175531468251871452856923140435984577574698574803934567774824230985421074605062371141877954182153046474983581941267398767559165543946077062914571196477686542167660429831652624386837205668069376) : mulOk i j = true := by
  have a := log2_lt h0 h1
  have b := log2_lt h2 h3
  unfold mulOk
  rw [nlt_iff.mpr (show i.natAbs.log2 + j.natAbs.log2 < 1000000 by omega)]
  simp
/-! ### the law itself, from its body to the row -/
theorem law_fn {P : Program} {w : World} {K : PySem.W.Frag} {mg : Str → Option Value} {base : Heap} {L : Nat} {st : Stmt} {fa f : Addr} {fda fd : FuncData} {ps : List Str} {g : Fn} (F : Fun K "law" "law" st fa fda) (hm : mg "law" = some (.ref fa)) (b : Binds K fda ["script"] []) (Fo : FnOk P w K mg base CX0 L f fd ps (spD K 1 g)) (hf : mg "law" = some (.ref f)) : True := trivial
/-- a script in, True out -/
theorem law_end {K : PySem.W.Frag} {H : Hp} {a : Addr} {ns : List Int} {g : Fn} {Q : VK} {E : XK} (hg1 : g [.fz (.lst (ns.map .int))] = some (.ok (.fz (.bl true)) [.un])) (hg2 : g [.fz (.seq (ns.map .int))] = some (.ok (.fz (.bl true)) [.un])) (hS : SqL K H a (ns.map V.int)) (hq : ∀ H', Q (.bl true) H') : spD K 1 g [.ref a] H Q E := by
  have fin : ∀ {d : D} (c : Fc) (H' : Hp) (v : V), G c [] ((.fz (.bl true), some v) :: asP [SV.un] [.ref a]) H' → Q v H' := fun c H' v h => by
    obtain ⟨w, e, q⟩ := h.rs _ List.mem_cons_self
    cases e
    simp only [Rep] at q
    subst q
    exact hq H'
  rcases sqL_cases hS with h | h
  · refine ⟨fun _ => False, [.fz (.lst (ns.map .int))], rfl, rfl, ⟨fun x hx => ?_, List.nodup_nil, fun a o e _ => e, fun a h => (nomatch h), fun a h => h.elim, fun i v e => (nomatch e)⟩, ?_⟩
    · have hx' : x = (SV.fz (.lst (ns.map .int)), some (.ref a)) := by simpa [asP, tsP] using hx
      rw [hx']
      refine ⟨.ref a, rfl, ?_⟩
      simp only [Rep]
      exact ⟨a, _, rfl, ⟨h, fun z => z.elim id (fun y => by cases y)⟩, intsOf_rep⟩
    · rw [hg1]
      exact fun v H' h => fin (d := .non) _ H' v h
  · refine ⟨fun _ => False, [.fz (.seq (ns.map .int))], rfl, rfl, ⟨fun x hx => ?_, List.nodup_nil, fun a o e _ => e, fun a h => (nomatch h), fun a h => h.elim, fun i v e => (nomatch e)⟩, ?_⟩
    · have hx' : x = (SV.fz (.seq (ns.map .int)), some (.ref a)) := by simpa [asP, tsP] using hx
      rw [hx']
      refine ⟨.ref a, rfl, ?_⟩
      simp only [Rep]
      exact ⟨a, _, rfl, h, intsOf_rep⟩
    · rw [hg2]
      exact fun v H' h => fin (d := .non) _ H' v h
theorem fn_none {P : Program} {w : World} {K : PySem.W.Frag} {mg : Str → Option Value} {base : Heap} {CX : CXT} {k : Nat} {f : Addr} {fd : FuncData} {ps : List Str} {n : Nat} (hp : ps.length = n) : FnOk P w K mg base CX k f fd ps (spD K n fun _ => none) :=
  ⟨fun vs H Q E ⟨T, as, _, lv, _⟩ => by rw [hp]; exact lv, fun A outer s H args us vs Q E hr he hb hv ⟨T, as, _, _, _, z⟩ => z.elim⟩
end DL

set_option Elab.async false
set_option linter.all false
set_option maxRecDepth 100000
/-! The data layer: enumerate over a list or a tuple. -/
namespace DL
open PySem PySem.Spec PyProof.Rows L2
def tupIt (t : Addr) : Obj := { cls := .type "tuple_iterator", data := .fields #[.ref t, .int 0 0] }
def enumOb (i : Addr) : Obj := { cls := .type "enumerate", data := .fields #[.none, .bool false, .ref i, rawInt 0, .none, .none] }
set_option maxHeartbeats 1000000 in
theorem enumT_new (t : Addr) (vs : Array Value) : Meets (Builtin.«enumerate.__new__» ⟨[.type "enumerate", .ref t], []⟩) (fun _ R s => s.heap.IsTuple t vs ∧
      R (.ok (.ret (.ref (s.heap.push (tupIt t)).objs.size))) { s with heap := (s.heap.push (tupIt t)).push (enumOb s.heap.objs.size) }) :=
  .of_wp fun pr wo Ar Re st z => by
    obtain ⟨hp, gl, dd, tk, os⟩ := st
    obtain ⟨z1, z⟩ := z
    have sub := sub_enumerate
    have ask : ∀ {Ar' : Around} {Er : Value → Shared → Prop} {Qr : Value → Shared → Prop}, Qr (.ref hp.objs.size) ⟨hp.push (tupIt t), gl, dd, tk, os⟩ → wpAny (model pr wo) Ar' (pyIter (.ref t)) Qr Er ⟨hp, gl, dd, tk, os⟩ := fun y => wpAny_pyIter_tuple z1 y
    obtain ⟨ot, h1, h2, kn, h3⟩ := id z1
    wp_walk using AutoSeq1.wpAny_loadPart' h1, ask
    refine wpAny_stack_any fun fs => wpAny_pure ?_
    split
    · rename_i cc _ _ _ _ _
      cases (cc == Value.type "enumerate") <;>
      · wp_walk using AutoSeq1.wpAny_loadPart' h1, ask
        exact ⟨_, rfl, z⟩
    · wp_walk using AutoSeq1.wpAny_loadPart' h1, ask
      exact ⟨_, rfl, z⟩
section
variable {prog : Program} {w : World} {A : Around} {E : Value → Shared → Prop} {s : Shared}
theorem call_enumT {t : Addr} {vs : Array Value} {Q : Value → Shared → Prop} (hT : s.heap.IsTuple t vs)
    (h : ∀ hp, IsEnum hp (s.heap.objs.size + 1) s.heap.objs.size 0 .none → hp.IsTupleIter s.heap.objs.size t 0 → (∀ b o, s.heap.get? b = some o → hp.get? b = some o) → Q (.ref (s.heap.objs.size + 1)) { s with heap := hp }) :
    wpAny (model prog w) A (call (.type "enumerate") [.ref t]) Q E s := by
  refine callType_new F.called_enumerate (by decide) (F.typeCall_enumerate_1 _) (F.newCall_enumerate_1 _) (fun ob => F.args_object_init_2 ob _) F.entry_enumerate_new (enumT_new t vs) ⟨hT, ?_⟩
  have sz : (s.heap.push (tupIt t)).objs.size = s.heap.objs.size + 1 := Heap.size_push ..
  show _ ∧ _
  rw [sz]
  have en : IsEnum ((s.heap.push (tupIt t)).push (enumOb s.heap.objs.size)) (s.heap.objs.size + 1) s.heap.objs.size 0 .none := by
    have y := Heap.get?_push_size (s.heap.push (tupIt t)) (o := enumOb s.heap.objs.size) rfl
    rw [sz] at y
    exact y
  exact ⟨⟨_, en, rfl⟩, h _ en ⟨_, Heap.get?_push_of_some _ (Heap.get?_push_size _ rfl), rfl, rfl⟩ fun b o y => Heap.get?_push_of_some _ (Heap.get?_push_of_some _ y)⟩
end
/-- the tuple at a, each item in a new pair with its place -/
def IteT (K : PySem.W.Frag) (a : Addr) : It :=
  ⟨fun i H => ∃ (xs : List V) (x : V), SqT K H a xs ∧ xs[i]? = some x, fun i H v H' => ∃ T x, v = .ref T ∧ H T = none ∧ H' = upd H T (.tup [.int (i : Nat), x]) ∧ ∀ xs, SqT K H a xs → xs[i]? = some x, fun i H => ∃ xs : List V, SqT K H a xs ∧ xs.length ≤ i⟩
theorem enumT_end {prog : Program} {w : World} {A : Around} {E : Value → Shared → Prop} {s : Shared} {e it t : Addr} {i : Nat} {vs : Array Value} {old : Value} {c : Int} {Q : Option Value → Shared → Prop} (hh : A.handled = none) (he : IsEnum s.heap e it c old) (hit : s.heap.IsTupleIter it t i) (ht : s.heap.IsTuple t vs) (hx : vs[i]? = none)
    (hQ : ∀ hp, Heap.ExtBut it s.heap hp → Q none { s with heap := hp }) : wpAny (model prog w) A (pyNext (.ref e)) Q E s := by
  have hT : s.TypeIs (.ref e) "enumerate" := ⟨_, he, rfl⟩
  unfold pyNext
  refine wpAny_bind (wpAny_attempt (wpAny_callSpecial?_slot (name := Str.ofString "__next__") hT F.slot_enumerate_next (wpAny_call_entry F.slot_enumerate_next hT F.entry_enumerate_next ?_ (F.args_enumerate_next_1 _))))
  show wpAny _ _ (field (.ref e) 2 >>= _) _ _ _
  refine wpAny_bind (wpAny_field he rfl (x := .ref it) rfl ?_)
  refine wpAny_bind (wpAny_nextOf_tuple_end hh hit ht hx fun hp x k y => ?_)
  obtain ⟨o, ho, hc⟩ := y
  refine wpAny_bind (wpAny_isInstance (T := "StopIteration") (b := true) ⟨o, ho, hc⟩ isSubtype_stop ?_)
  exact wpAny_pure (hQ _ k)
theorem turn_enumT {P : Program} {w : World} {K : PySem.W.Frag} {elts : List Expr} {kk : Nat} {tpos : Pos} (a e it : Addr) :
    Turn P w K (.Tuple elts kk tpos) (IteT K a) [e, it] e (fun i h => (∃ old, IsEnum h e it ((i : Nat) : Int) old) ∧ h.IsTupleIter it a i ∧ e ≠ it) where
  mem := List.mem_cons_self
  obj := fun i h st b hb => by
    obtain ⟨⟨old, he⟩, ⟨o, ho, hc, hd⟩, _⟩ := st
    rcases List.mem_cons.mp hb with rfl | hb
    · exact ⟨_, he, fun v q => nomatch q⟩
    · rw [List.mem_singleton.mp hb]
      exact ⟨o, ho, fun v q => by rw [hd] at q; cases q⟩
  keep := fun i h h' st k => by
    obtain ⟨⟨old, he⟩, hi, hne⟩ := st
    exact ⟨⟨old, k e List.mem_cons_self _ he⟩, hi.at fun o q => k it (List.mem_cons_of_mem _ List.mem_cons_self) o q, hne⟩
  item := by
    intro X hP hw hK hc i pins s σ H E I hf st hg
    subst hP hw hK
    obtain ⟨⟨old, he⟩, hit, hne⟩ := st
    obtain ⟨xs, x, hq, hx⟩ := hg
    obtain ⟨its, rv, p, hz⟩ := I.tuple hq
    obtain ⟨u, hu, ru⟩ := rv.get hx
    have hel : e < s.heap.objs.size := Heap.lt_size he
    have hil : it < s.heap.objs.size := by obtain ⟨_, q, _⟩ := hit; exact Heap.lt_size q
    have hai : a ≠ it := by
      intro z
      subst z
      obtain ⟨_, q1, q2, _⟩ := hit
      obtain ⟨_, q3, q4, _⟩ := id p
      rw [q1] at q3; cases q3
      rw [q2] at q4
      injection q4 with q5
      exact absurd q5 (by decide)
    have hae : e ≠ a := by
      intro z
      subst z
      obtain ⟨_, q3, q4, _⟩ := id p
      have q1 := id he
      unfold IsEnum at q1
      rw [q1] at q3; cases q3
      injection q4 with q5
      exact absurd q5 (by decide)
    have hlt : i < its.toArray.size := by
      have := List.getElem?_eq_some_iff.mp hu
      obtain ⟨y, _⟩ := this
      simpa using y
    refine wpAny_pyNext_enum_itemD (Draws.tuple (by rw [show X.A.in1.handled = X.A.handled from rfl]; exact I.ok.hd hc) it a hai its.toArray) he ⟨hit, p⟩ hlt hne (by
      intro z
      rcases List.mem_cons.mp z with z | z
      · exact hne z
      · exact hae (List.mem_singleton.mp z)) fun x' h' tk hP ho hst hT hsz hk => ?_
    have ex : x' = u := by
      have hP : its.toArray[i]? = some x' := hP
      rw [List.getElem?_toArray, hu] at hP
      cases hP
      rfl
    subst ex
    refine ⟨_, rfl, wpAny_letOwnedTupleGo_enum (s := { s with heap := h', toks := tk + 1 }) ho fun h'' he' sb => ?_⟩
    have hT2 : h''.get? s.heap.objs.size = some { cls := .type "tuple", data := .seq #[.int i tk, x'] } := (sb.2 _ (Nat.ne_of_gt hel)).trans hT
    have new : ObjOk X.prog X.w (upd H s.heap.objs.size (.tup [.int (i : Nat), x])) h'' s.heap.objs.size (.tup [.int (i : Nat), x]) :=
      ⟨by show 2 ≤ sizeLine; decide, [.int i tk, x'], .cons ⟨_, rfl⟩ (.cons ru .nil), ⟨_, hT2, rfl, _, rfl⟩⟩
    have I1 : Inv X pins σ (upd H s.heap.objs.size (.tup [.int (i : Nat), x])) { s with heap := h'', toks := tk + 1 } :=
      I.turnedNew (ch := [e, it]) (fun b o hb q => (sb.2 b (fun z => hb (z ▸ List.mem_cons_self))).trans (hk b o (fun z => hb (z ▸ List.mem_cons_self)) (fun z => hb (z ▸ List.mem_cons_of_mem _ List.mem_cons_self)) q)) hf (Nat.le_refl _) new
    refine ⟨.ref s.heap.objs.size, _, I1, rfl, ⟨_, x, rfl, I.hok.fresh (Nat.le_refl _), rfl, fun ys hy => by rw [I.tuple_inj hy hq]; exact hx⟩, ⟨⟨x', ?_⟩, hst.1.at fun o q => (sb.2 it (Ne.symm hne)).trans q, hne⟩, fun b hb => ?_⟩
    · have e1 : ((i + 1 : Nat) : Int) = (i : Int) + 1 := by omega
      rw [e1]; exact he'
    · have hb' : b < s.heap.objs.size := by
        rcases List.mem_cons.mp hb with rfl | hb
        · exact hel
        · rw [List.mem_singleton.mp hb]; exact hil
      rw [upd_ne (Nat.ne_of_lt hb')]
      exact (hf b hb).1
  done := by
    intro X hP hw hK hc i pins s σ H E I hf st hg
    subst hP hw hK
    obtain ⟨⟨old, he⟩, hit, hne⟩ := st
    obtain ⟨xs, hq, hx⟩ := hg
    obtain ⟨its, rv, p, hz⟩ := I.tuple hq
    obtain ⟨f0, f1, f2, f3, f4, f5⟩ := hf it (List.mem_cons_of_mem _ List.mem_cons_self)
    have hl := rv.length
    refine enumT_end (I.ok.hd hc) he hit p (by simp; omega) fun h' eb => ⟨rfl, I.turned (t' := s.toks) (fun b o hb q => eb b o hb q) f0 f1 f3 f4 f5⟩
  self := fun A i s Q E st h => let ⟨⟨_, he⟩, _⟩ := st; wpAny_pyIter_enum he h
def iEnumA (K : PySem.W.Frag) (ta : TA) : TI := fun σ H R => ta σ H fun vs H1 => ∃ a, vs = [.ref a] ∧ (((∃ xs, SqL K H1 a xs) ∧ R (Ite K a) H1) ∨ ((∃ xs, SqT K H1 a xs) ∧ R (IteT K a) H1))
theorem pi_enumA {X : Cx} {e : Expr} {ta : TA} {p pos tpos : Pos} {elts : List Expr} {kk : Nat} (hg : Gl X "enumerate") (hm : X.mg "enumerate" = none) (ha : PA X [e] ta) (hs : starEach [e] X.env = [(false, eval e X.env)] := by rfl) :
    PI X (.Tuple elts kk tpos) (.Call (.Name "enumerate" p) [e] [] pos) (iEnumA X.K ta) := by
  refine ⟨fun pins s σ H R I h => ?_⟩
  refine Call_ (ld_blt I hg hm boot_enumerate (PyProof.Rows.callWith_type1 (thn (ha.run pos pins s σ H _ I h) fun us s1 ⟨vs, H1, I1, r1, q1⟩ => ?_) hs rfl))
  obtain ⟨a, ex, q⟩ := q1
  subst ex
  obtain ⟨u, rfl, ru⟩ := vals1 r1
  obtain rfl : u = Value.ref a := ru
  have two : ∀ b, b ∈ [s1.heap.objs.size + 1, s1.heap.objs.size] → FpOk X pins H1 b := fun b hb => by
    have hle : s1.heap.objs.size ≤ b := by
      rcases List.mem_cons.mp hb with rfl | hb
      · exact Nat.le_add_right _ _
      · rw [List.mem_singleton.mp hb]
        exact Nat.le_refl _
    exact I1.fpOk hle (I1.hok.fresh hle)
  rcases q with ⟨⟨xs, hq⟩, q⟩ | ⟨⟨xs, hq⟩, q⟩
  · obtain ⟨its, rv, p', hz⟩ := I1.list hq
    refine call_enumerate_list p'.isList fun hp he hit hsz hk => wpAny_pyIter_enum he ?_
    exact ⟨s1.heap.objs.size + 1, _, _, _, H1, rfl, I1.kept (t' := s1.toks) hk, turn_enum a _ s1.heap.objs.size, ⟨⟨.none, he⟩, hit, Nat.succ_ne_self _⟩, two, q⟩
  · obtain ⟨its, rv, p', hz⟩ := I1.tuple hq
    refine call_enumT (show s1.heap.IsTuple a its.toArray from p') fun hp he hit hk => wpAny_pyIter_enum he ?_
    exact ⟨s1.heap.objs.size + 1, _, _, _, H1, rfl, I1.kept (t' := s1.toks) hk, turn_enumT a _ s1.heap.objs.size, ⟨⟨.none, he⟩, hit, Nat.succ_ne_self _⟩, two, q⟩
def enumD (k : Nat) : List D → List D
  | [] => []
  | d :: ds => .tup [.int k, d] :: enumD (k + 1) ds
theorem enumD_get : ∀ {k i : Nat} {ds : List D}, (enumD k ds)[i]? = ds[i]?.map fun d => .tup [.int ((k + i : Nat) : Int), d]
  | k, i, [] => by simp [enumD]
  | k, 0, d :: ds => by simp [enumD]
  | k, i + 1, d :: ds => by
    simp only [enumD, List.getElem?_cons_succ]
    rw [enumD_get (ds := ds)]
    rw [show k + 1 + i = k + (i + 1) by omega]
theorem enumD_len : ∀ {k : Nat} {ds : List D}, (enumD k ds).length = ds.length
  | _, [] => rfl
  | _, d :: ds => by simp [enumD, enumD_len]
section
variable {c : Fc} {W : WX} {X : Cx} {pos : Pos} {ds : List D}
theorem r_pair {σ : L2.St} {ρ : List SV} {ts : Ts} {H : Hp} {d : D} {x : V} {i : Int} {T : Addr} (r : R c σ ρ ts H) (q : Rep c.K (Avr c σ ρ ts) H d x) (hT : H T = none) : R c σ ρ ((.fz (.tup [.int i, d]), .ref T) :: ts) (upd H T (.tup [.int i, x])) :=
  fin_tup (W := fun _ _ _ _ => True) (Q := fun v H' => R c σ ρ ((.fz (.tup [.int i, d]), v) :: ts) H') r (RepL.cons (rep_int _) (RepL.cons q RepL.nil)) hT fun v H' r' => r'
theorem jd_enumL {a : Addr} : JD c (Ite c.K a) (enumD 0 ds) [(.fz (.lst ds), .ref a)] := by
  intro σ ρ ts H i r ht
  obtain ⟨w, e, q⟩ := r.g.rs _ (List.mem_append_left _ (tsP_mem (ht _ List.mem_cons_self)))
  cases e
  simp only [Rep] at q
  obtain ⟨a', vs, e1, e2, rl⟩ := q
  cases e1
  refine ⟨fun h => ⟨vs, SqL.of e2.1, by rw [rl.length]; rw [enumD_len] at h; exact h⟩, fun d hd => ?_⟩
  rw [enumD_get] at hd
  obtain ⟨d0, hd0, rfl⟩ := Option.map_eq_some_iff.mp hd
  obtain ⟨x, hx, rx⟩ := rl.get hd0
  refine ⟨⟨vs, x, SqL.of e2.1, hx⟩, fun y H' hy => ?_⟩
  obtain ⟨T, x', rfl, hT, rfl, hy⟩ := hy
  have := hy vs (SqL.of e2.1)
  rw [hx] at this; cases this
  rw [Nat.zero_add]
  exact r_pair r rx hT
theorem jd_enumS {a : Addr} : JD c (Ite c.K a) (enumD 0 ds) [(.fz (.seq ds), .ref a)] := by
  intro σ ρ ts H i r ht
  obtain ⟨w, e, q⟩ := r.g.rs _ (List.mem_append_left _ (tsP_mem (ht _ List.mem_cons_self)))
  cases e
  simp only [Rep] at q
  obtain ⟨a', vs, e1, e2, rl⟩ := q
  cases e1
  refine ⟨fun h => ⟨vs, e2.sq, by rw [rl.length]; rw [enumD_len] at h; exact h⟩, fun d hd => ?_⟩
  rw [enumD_get] at hd
  obtain ⟨d0, hd0, rfl⟩ := Option.map_eq_some_iff.mp hd
  obtain ⟨x, hx, rx⟩ := rl.get hd0
  refine ⟨⟨vs, x, e2.sq, hx⟩, fun y H' hy => ?_⟩
  obtain ⟨T, x', rfl, hT, rfl, hy⟩ := hy
  have := hy vs e2.sq
  rw [hx] at this; cases this
  rw [Nat.zero_add]
  exact r_pair r rx hT
theorem jd_enumT {a : Addr} : JD c (IteT c.K a) (enumD 0 ds) [(.fz (.tup ds), .ref a)] := by
  intro σ ρ ts H i r ht
  obtain ⟨w, e, q⟩ := r.g.rs _ (List.mem_append_left _ (tsP_mem (ht _ List.mem_cons_self)))
  cases e
  simp only [Rep] at q
  obtain ⟨a', vs, e1, e2, rl⟩ := q
  cases e1
  refine ⟨fun h => ⟨vs, e2, by rw [rl.length]; rw [enumD_len] at h; exact h⟩, fun d hd => ?_⟩
  rw [enumD_get] at hd
  obtain ⟨d0, hd0, rfl⟩ := Option.map_eq_some_iff.mp hd
  obtain ⟨x, hx, rx⟩ := rl.get hd0
  refine ⟨⟨vs, x, e2, hx⟩, fun y H' hy => ?_⟩
  obtain ⟨T, x', rfl, hT, rfl, hy⟩ := hy
  have := hy vs e2
  rw [hx] at this; cases this
  rw [Nat.zero_add]
  exact r_pair r rx hT
def mEnum (m : M SV) : M (List D) := m.bnd fun s => (esc s).bnd fun d => fun ρ => match itD d with
  | some ds => some (.ok (enumD 0 ds) ρ)
  | none => none
theorem pd_enum {elts : List Expr} {kk : Nat} {p tpos : Pos} {l : Expr} {m : M SV} (hl : PE X l (tDE c W m)) (hg : Gl X "enumerate") (hm : X.mg "enumerate" = none) (hK : c.K = X.K := by rfl)
    (h1 : starEach [l] X.env = (false, eval l X.env) :: starEach [] X.env := by rfl) (h2 : starEach [l] X.env = [(false, eval l X.env)] := by rfl) : PI X (.Tuple elts kk tpos) (.Call (.Name "enumerate" p) [l] [] pos) (tDI c W (mEnum m)) := by
  refine pi_imp (pi_enumA hg hm (pa_cons hl pa_nil h1) h2) fun σ H Q ⟨ρ, ts, r, q⟩ => bindI r q fun sv v ρ1 H1 r1 q1 => ?_
  cases e : esc sv ρ1 with
  | none => rw [bnd_none e] at q1; exact q1.elim
  | some x =>
    cases x with
    | er x _ => exact absurd e esc_er
    | ok d ρ2 =>
      rw [bnd_some e] at q1
      have r2 := r_esc r1 e
      have t := r2.top_fz
      cases d with
      | lst ds =>
        simp only [Rep] at t
        obtain ⟨a, vs, rfl, e2, rl⟩ := t
        exact ⟨a, rfl, .inl ⟨⟨vs, SqL.of e2.1⟩, q1 _ _ [_] r2 noLoc1 (hK ▸ jd_enumL)⟩⟩
      | seq ds =>
        simp only [Rep] at t
        obtain ⟨a, vs, rfl, e2, rl⟩ := t
        exact ⟨a, rfl, .inl ⟨⟨vs, hK ▸ e2.sq⟩, q1 _ _ [_] r2 noLoc1 (hK ▸ jd_enumS)⟩⟩
      | tup ds =>
        simp only [Rep] at t
        obtain ⟨a, vs, rfl, e2, rl⟩ := t
        exact ⟨a, rfl, .inr ⟨⟨vs, hK ▸ e2⟩, q1 _ _ [_] r2 noLoc1 (hK ▸ jd_enumT)⟩⟩
      | _ => exact q1.elim
end
end DL

set_option Elab.async false
set_option linter.all false
set_option maxRecDepth 100000
/-! The data layer: sorted of pairs of ints. -/
namespace DL
open PySem PySem.Spec PyProof.Rows L2
def pairOf : D → Option (Int × Int)
  | .tup [.int i, .int j] => some (i, j)
  | _ => none
def pairsOf : List D → Option (List (Int × Int))
  | [] => some []
  | d :: ds => match pairOf d, pairsOf ds with
    | some p, some ps => some (p :: ps)
    | _, _ => none
def prD (p : Int × Int) : D := .tup [.int p.1, .int p.2]
def leP (p q : Int × Int) : Prop := p.1 < q.1 ∨ (p.1 = q.1 ∧ p.2 ≤ q.2)
instance (p q : Int × Int) : Decidable (leP p q) := inferInstanceAs (Decidable (_ ∨ _))
def insP (p : Int × Int) : List (Int × Int) → List (Int × Int)
  | [] => [p]
  | q :: qs => if leP p q then p :: q :: qs else q :: insP p qs
def sortP : List (Int × Int) → List (Int × Int)
  | [] => []
  | p :: ps => insP p (sortP ps)
theorem insP_perm (p : Int × Int) : ∀ qs, (insP p qs).Perm (p :: qs)
  | [] => List.Perm.refl _
  | q :: qs => by
    unfold insP
    split
    · exact List.Perm.refl _
    · exact ((insP_perm p qs).cons q).trans (List.Perm.swap _ _ _)
theorem sortP_perm : ∀ ps, (sortP ps).Perm ps
  | [] => List.Perm.refl _
  | p :: ps => (insP_perm p (sortP ps)).trans ((sortP_perm ps).cons p)
theorem insP_le (p : Int × Int) : ∀ qs, qs.Pairwise leP → (insP p qs).Pairwise leP
  | [], _ => List.pairwise_singleton _ _
  | q :: qs, h => by
    obtain ⟨h1, h2⟩ := List.pairwise_cons.mp h
    unfold insP
    split
    · rename_i hc
      refine List.pairwise_cons.mpr ⟨fun x hx => ?_, h⟩
      rcases List.mem_cons.mp hx with rfl | hx
      · exact hc
      · have := h1 x hx
        unfold leP at hc this ⊢
        omega
    · rename_i hc
      refine List.pairwise_cons.mpr ⟨fun x hx => ?_, insP_le p qs h2⟩
      rcases List.mem_cons.mp ((insP_perm p qs).mem_iff.mp hx) with rfl | hx
      · unfold leP at hc ⊢
        omega
      · exact h1 x hx
theorem sortP_le : ∀ ps, (sortP ps).Pairwise leP
  | [] => List.Pairwise.nil
  | p :: ps => insP_le p _ (sortP_le ps)
theorem sortP_uniq {a b : List (Int × Int)} (hp : a.Perm b) (ha : a.Pairwise leP) (hb : b.Pairwise leP) : a = b := by
  refine hp.eq_of_pairwise (fun x y _ _ h1 h2 => ?_) ha hb
  obtain ⟨x1, x2⟩ := x
  obtain ⟨y1, y2⟩ := y
  unfold leP at h1 h2
  simp only [Prod.mk.injEq]
  simp only at h1 h2
  omega
theorem pairOf_some {d : D} {p : Int × Int} (h : pairOf d = some p) : d = prD p := by
  unfold pairOf at h
  split at h
  · cases h; rfl
  · cases h
theorem pairsOf_some : ∀ {ds : List D} {ps : List (Int × Int)}, pairsOf ds = some ps → ds = ps.map prD
  | [], ps, h => by cases h; rfl
  | d :: ds, ps, h => by
    unfold pairsOf at h
    split at h
    · rename_i p qs e1 e2
      cases h
      rw [pairOf_some e1, pairsOf_some e2]
      rfl
    · cases h
theorem pairsOf_map : ∀ ps : List (Int × Int), pairsOf (ps.map prD) = some ps
  | [] => rfl
  | p :: ps => by
    simp only [List.map_cons, pairsOf, pairsOf_map ps]
    rfl
def AN : Addr → Prop := fun _ => False
theorem pairs_any {K : PySem.W.Frag} {A A' : Addr → Prop} {H : Hp} : ∀ {ps : List (Int × Int)} {vs : List V}, RepL K A H (ps.map prD) vs → RepL K A' H (ps.map prD) vs
  | [], vs, h => h
  | p :: ps, vs, h => by
    simp only [List.map_cons, RepL] at h ⊢
    obtain ⟨v, vs', rfl, h1, h2⟩ := h
    refine ⟨v, vs', rfl, ?_, pairs_any h2⟩
    simp only [prD, Rep, RepL] at h1 ⊢
    exact h1
/-- some function from the refs to their pairs -/
theorem pairs_fun {K : PySem.W.Frag} {A : Addr → Prop} {H : Hp} : ∀ {ps : List (Int × Int)} {vs : List V}, RepL K A H (ps.map prD) vs → ∀ x ∈ vs, ∃ (t : Addr) (p : Int × Int), x = V.ref t ∧ SqT K H t [.int p.1, .int p.2]
  | [], vs, h, x, hx => by simp only [List.map_nil, RepL] at h; subst h; cases hx
  | p :: ps, vs, h, x, hx => by
    simp only [List.map_cons, RepL] at h
    obtain ⟨v, vs', rfl, h1, h2⟩ := h
    rcases List.mem_cons.mp hx with rfl | hx
    · simp only [prD, Rep, RepL] at h1
      obtain ⟨a, ws, rfl, hs, w1, ws1, rfl, h3, w2, ws2, rfl, h4, rfl⟩ := h1
      subst h3 h4
      exact ⟨a, p, rfl, hs⟩
    · exact pairs_fun h2 x hx
theorem pairs_same {K : PySem.W.Frag} {A : Addr → Prop} {H : Hp} (k : V → Int × Int) : ∀ {ps : List (Int × Int)} {vs : List V}, RepL K A H (ps.map prD) vs → (∀ (t : Addr) (p : Int × Int), SqT K H t [.int p.1, .int p.2] → k (.ref t) = p) → vs.map k = ps
  | [], vs, h, hk => by simp only [List.map_nil, RepL] at h; subst h; rfl
  | p :: ps, vs, h, hk => by
    simp only [List.map_cons, RepL] at h
    obtain ⟨v, vs', rfl, h1, h2⟩ := h
    rw [List.map_cons, pairs_same k h2 hk]
    simp only [prD, Rep, RepL] at h1
    obtain ⟨a, ws, rfl, hs, w1, ws1, rfl, h3, w2, ws2, rfl, h4, rfl⟩ := h1
    subst h3 h4
    rw [hk a p hs]
theorem pairs_rep {K : PySem.W.Frag} {A : Addr → Prop} {H : Hp} {k : V → Int × Int} : ∀ {vs : List V}, (∀ x ∈ vs, ∃ t, x = V.ref t ∧ SqT K H t [.int (k x).1, .int (k x).2]) → RepL K A H ((vs.map k).map prD) vs
  | [], _ => RepL.nil
  | v :: vs, h => by
    obtain ⟨t, rfl, ht⟩ := h v List.mem_cons_self
    exact RepL.cons (rep_tup ht (RepL.cons (rep_int _) (RepL.cons (rep_int _) RepL.nil))) (pairs_rep fun x hx => h x (List.mem_cons_of_mem _ hx))
def rSortedPS (K : PySem.W.Frag) : List V → Hp → VK → Prop := fun vs H Q => ∃ (a : Addr) (xs : List V) (ps : List (Int × Int)), vs = [V.ref a] ∧ SqL K H a xs ∧ RepL K AN H (ps.map prD) xs ∧
  ∀ ys p, RepL K AN H ((sortP ps).map prD) ys → H p = none → Q (.ref p) (upd H p (.lst ys))
theorem cr_sortedPS {X : Cx} : CallR X (.builtin "sorted") (rSortedPS X.K) := by
  intro pins s σ H vs us Q I r h
  obtain ⟨a, xs, ps, rfl, hs, hps, q⟩ := h
  obtain ⟨its, rv, hl, hz⟩ := I.list hs
  obtain ⟨u, rfl, ru⟩ := vals1 r
  obtain rfl : u = Value.ref a := ru
  have inj : ∀ t (p p' : Int × Int), SqT X.K H t [.int p.1, .int p.2] → SqT X.K H t [.int p'.1, .int p'.2] → p = p' := by
    rintro t ⟨p1, p2⟩ ⟨p3, p4⟩ h1 h2
    have := I.tuple_inj h1 h2
    simp only [List.cons.injEq, V.int.injEq, and_true] at this
    simp only [Prod.mk.injEq]
    exact this
  have hk : ∃ k : V → Int × Int, ∀ (t : Addr) (p : Int × Int), SqT X.K H t [.int p.1, .int p.2] → k (.ref t) = p := by
    refine ⟨fun v => match v with
      | .ref t => Classical.epsilon fun p : Int × Int => SqT X.K H t [.int p.1, .int p.2]
      | _ => (0, 0), fun t p h => ?_⟩
    exact inj t _ _ (Classical.epsilon_spec (p := fun p : Int × Int => SqT X.K H t [.int p.1, .int p.2]) ⟨p, h⟩) h
  obtain ⟨k, hk⟩ := hk
  have hx : ∀ x ∈ xs, ∃ t, x = V.ref t ∧ SqT X.K H t [.int (k x).1, .int (k x).2] := fun x hx => by
    obtain ⟨t, p, rfl, hs⟩ := pairs_fun hps x hx
    refine ⟨t, rfl, ?_⟩
    rw [hk t p hs]
    exact hs
  have e5 : xs.map k = ps := pairs_same k hps hk
  obtain ⟨e1, e2⟩ := refs_back rv fun x m => (hx x m).imp fun t e => e.1
  refine SrtO.sorted_pairsO (k := fun u => k (backV u)) hl.isList (by rw [← rv.length]; exact hz) (fun v hv => ?_) fun hp d out h1 h2 kp hd hn => ?_
  · obtain ⟨t, rfl⟩ := e2 v hv
    obtain ⟨t2, e, ht⟩ := hx (V.ref t) (by rw [e1]; exact List.mem_map.mpr ⟨_, hv, rfl⟩)
    cases e
    obtain ⟨its2, r2, p2, _⟩ := I.tuple ht
    obtain ⟨u1, u2, rfl, ri, rj⟩ := vals2 r2
    obtain ⟨k1, rfl⟩ := ri
    obtain ⟨k2, rfl⟩ := rj
    obtain ⟨o, g1, g2, n, g3⟩ := p2
    exact ⟨t, o, k1, k2, n, rfl, g1, g2, g3⟩
  · have h3 : ∀ u ∈ out, ∃ b, u = Value.ref b := fun u hu => e2 u (h2.perm.mem_iff.mp hu)
    obtain ⟨n, hn⟩ := hn
    have hpm : (out.map backV).Perm xs := by
      rw [e1]
      exact h2.perm.map backV
    have e6 : (out.map backV).map k = sortP ps := by
      refine sortP_uniq ?_ ?_ (sortP_le ps)
      · rw [← e5]
        exact (hpm.map k).trans (sortP_perm _).symm
      · refine List.pairwise_map.mpr (List.pairwise_map.mpr (List.Pairwise.imp ?_ h1))
        intro x y hxy
        have := SrtO.lexB_no.mp hxy
        unfold leP
        omega
    have e7 := pairs_rep (A := AN) (fun x hx' => hx x (hpm.mem_iff.mp hx'))
    rw [e6] at e7
    refine ⟨.ref d, upd H d (.lst (out.map backV)), I.laid (t' := s.toks) kp hd ⟨?_, out, n, vals_back h3, hn⟩, rfl, q _ d e7 (I.hok.fresh hd)⟩
    rw [hpm.length_eq]
    exact hz
def fSortedIP : List D → Option BR
  | [.lst ds] => match intsOf ds with
    | some ns => some (.newL ((sortI ns).map .int))
    | none => (pairsOf ds).map fun ps => .newL ((sortP ps).map prD)
  | _ => none
def rSortedIP (K : PySem.W.Frag) : List V → Hp → VK → Prop := fun vs H Q => rSortedI K vs H Q ∨ rSortedPS K vs H Q
theorem cr_sortedIP {X : Cx} : CallR X (.builtin "sorted") (rSortedIP X.K) := CallR.or cr_sortedI cr_sortedPS
theorem callB_sortedIP {K : PySem.W.Frag} : CallB K (rSortedIP K) fSortedIP := by
  intro A H ds vs b Q h e q
  unfold fSortedIP at e
  split at e
  · rename_i ds
    split at e
    · rename_i ns en
      refine .inl (callB_sorted A H [.lst ds] vs b Q h ?_ q)
      show (intsOf ds).map _ = _
      rw [en]
      exact e
    · rename_i en
      rw [Option.map_eq_some_iff] at e
      obtain ⟨ps, e1, rfl⟩ := e
      obtain ⟨v, rfl, r⟩ := repRL1 h
      obtain ⟨a, us, rfl, e2, r⟩ := repR_lst r
      have e3 := pairsOf_some e1
      subst e3
      exact .inr ⟨a, us, ps, rfl, SqL.of e2, pairs_any r, fun ys p hr hn => q _ p (pairs_any hr) hn⟩
  · cases e
end DL

set_option Elab.async false
set_option linter.all false
set_option maxRecDepth 100000
/-! The data layer: a comprehension whose target is a tuple of own names. -/
namespace DL
open PySem PySem.Spec PyProof.Rows L2
section
variable {c : Fc} {W : WX} {X : Cx} {pos : Pos} {ns : List Nat}
structure CGs (c : Fc) (ns : List Nat) (t : TGs) (gs : List D → List SV → Option (List SV)) : Prop where
  go : ∀ (σ : L2.St) (ρ ρ' : List SV) (ts : Ts) (H : Hp) (ds : List D) (vs : List V) (Q : L2.St → Hp → Prop), R c σ ρ ts H → RepL c.K (Avr c σ ρ ts) H ds vs → gs ds ρ = some ρ' → (∀ σ', wipe σ' ns = wipe σ ns → R c σ' ρ' ts H → Q σ' H) → t vs σ H Q
theorem cgs_nil : CGs c ns gNil gsNil := ⟨fun σ ρ ρ' ts H ds vs Q r rl e k => by
  cases ds with
  | nil =>
    simp only [RepL] at rl
    subst rl
    cases e
    exact ⟨rfl, k σ rfl r⟩
  | cons _ _ => cases e⟩
theorem cgs_cons {t : TG} {u : TGs} {g : SV → List SV → Option (List SV)} {gs : List D → List SV → Option (List SV)} (h1 : CG c ns t g) (h2 : CGs c ns u gs) : CGs c ns (gCons t u) (gsCons g gs) := ⟨fun σ ρ ρ' ts H ds vs Q r rl e k => by
  cases ds with
  | nil => cases e
  | cons d ds =>
    have r2 := r_pushs r rl
    have hl := rl.length
    simp only [RepL] at rl
    obtain ⟨v, vs', rfl, q1, qs⟩ := rl
    simp only [gsCons] at e
    cases e1 : g (.fz d) ρ with
    | none => rw [e1] at e; cases e
    | some ρ1 =>
      rw [e1] at e
      refine ⟨v, vs', rfl, h1.go _ _ _ _ _ _ _ _ r2 e1 fun σ1 w1 r1 => ?_⟩
      obtain ⟨r3, q3⟩ := r_pulls (by simp at hl; exact hl.symm) r1
      exact h2.go _ _ _ _ _ _ _ _ r3 q3 e fun σ2 w2 r4 => k σ2 (w2.trans w1) r4⟩
def gTL (K : PySem.W.Frag) (n : Nat) (t : TGs) : TG := fun v σ H Q => gTup K n t v σ H Q ∨ gLst K n t v σ H Q
theorem pg_TL {es : List Expr} {k : Nat} {t : TGs} {n : Nat} (hc : X.calm = true) (h : PGs X es t)
    (hn : (assignEach es X.env).length = n := by rfl) (hst : (assignEach es X.env).findIdx? (·.1) = none := by rfl) : PG X (.Tuple es k pos) (gTL X.K n t) := pg_or (pg_tup hc h hn hst) (pg_lst hc h hn hst)
theorem cg_TL {n : Nat} {t : TGs} {gs : List D → List SV → Option (List SV)} (h : CGs c ns t gs) : CG c ns (gTL c.K n t) (gTupD n gs) := ⟨fun σ ρ ρ' ts H d v Q r e k => by
  have t := r.top_fz
  have fin : ∀ {ds : List D}, (if ds.length = n then gs ds ρ else none) = some ρ' → ds.length = n ∧ gs ds ρ = some ρ' := fun {ds} z => by
    by_cases hl : ds.length = n
    · rw [if_pos hl] at z; exact ⟨hl, z⟩
    · rw [if_neg hl] at z; cases z
  cases d with
  | tup ds =>
    obtain ⟨hl, q⟩ := fin e
    simp only [Rep] at t
    obtain ⟨a, vs, rfl, e2, rl⟩ := t
    exact .inl ⟨a, vs, rfl, e2, by rw [rl.length]; exact hl, h.go _ _ _ _ _ _ _ _ r.pop rl q k⟩
  | lst ds =>
    obtain ⟨hl, q⟩ := fin e
    simp only [Rep] at t
    obtain ⟨a, vs, rfl, e2, rl⟩ := t
    exact .inr ⟨a, vs, rfl, SqL.of e2.1, by rw [rl.length]; exact hl, h.go _ _ _ _ _ _ _ _ r.pop rl q k⟩
  | seq ds =>
    obtain ⟨hl, q⟩ := fin e
    simp only [Rep] at t
    obtain ⟨a, vs, rfl, e2, rl⟩ := t
    exact .inr ⟨a, vs, rfl, e2.sq, by rw [rl.length]; exact hl, h.go _ _ _ _ _ _ _ _ r.pop rl q k⟩
  | _ => cases e⟩
end
end DL

set_option Elab.async false
set_option linter.all false
set_option maxRecDepth 100000
/-! The data layer: loops by an invariant, comprehensions that leave some out. -/
namespace DL
open PySem PySem.Spec PyProof.Rows L2
theorem mLoop_ix {g : SV → List SV → Option (List SV)} {b : MS} : ∀ {ds : List D} {k : Nat} (I : Nat → List SV → Prop) {ρ : List SV}, (∀ i d ρ, ds[i]? = some d → I (k + i) ρ → ∃ ρ1 ρ2, g (.fz d) ρ = some ρ1 ∧ b ρ1 = some (.nx ρ2) ∧ I (k + i + 1) ρ2) → I k ρ → ∃ ρ', mLoop g b ds ρ = some (.nx ρ') ∧ I (k + ds.length) ρ'
  | [], k, I, ρ, _, h0 => ⟨ρ, rfl, h0⟩
  | d :: ds, k, I, ρ, h, h0 => by
    obtain ⟨ρ1, ρ2, h1, h2, h3⟩ := h 0 d ρ rfl h0
    obtain ⟨ρ', h4, h5⟩ := mLoop_ix (g := g) (b := b) (ds := ds) (k := k + 1) I (ρ := ρ2) (fun i d' ρ hd hi => by
      have := h (i + 1) d' ρ (by simpa using hd) (by rw [show k + (i + 1) = k + 1 + i by omega]; exact hi)
      rw [show k + (i + 1) + 1 = k + 1 + i + 1 by omega] at this
      exact this) h3
    refine ⟨ρ', by rw [mLoop_nx h1 h2]; exact h4, ?_⟩
    rw [List.length_cons, show k + (ds.length + 1) = k + 1 + ds.length by omega]
    exact h5
theorem mLoop_inv {g : SV → List SV → Option (List SV)} {b : MS} {ds : List D} (I : List SV → Prop) {ρ : List SV} (h : ∀ d ρ, d ∈ ds → I ρ → ∃ ρ1 ρ2, g (.fz d) ρ = some ρ1 ∧ b ρ1 = some (.nx ρ2) ∧ I ρ2) (h0 : I ρ) : ∃ ρ', mLoop g b ds ρ = some (.nx ρ') ∧ I ρ' :=
  mLoop_ix (k := 0) (fun _ => I) (fun i d ρ hd hi => h d ρ (List.mem_of_getElem? hd) hi) h0
theorem lcLoop_filter {ns : List Nat} {g : SV → List SV → Option (List SV)} {t : M Bool} {e : M SV} {p : D → Bool} {F : D → D} {ρ : List SV} : ∀ {ds acc : List D}, (∀ d ∈ ds, ∃ ρ1 ρ2, g (.fz d) ρ = some ρ1 ∧ t ρ1 = some (.ok (p d) ρ2) ∧ (p d = true → ∃ ρ3 ρ4 sv, e ρ2 = some (.ok sv ρ3) ∧ esc sv ρ3 = some (.ok (F d) ρ4) ∧ wipeD ρ4 ns = ρ) ∧ (p d = false → wipeD ρ2 ns = ρ)) →
    acc.length + ds.length ≤ sizeLine → lcLoop ns g t e ds ρ acc = some (acc ++ (ds.filter p).map F, ρ)
  | [], acc, h, hl => by simp [lcLoop]
  | d :: ds, acc, h, hl => by
    obtain ⟨ρ1, ρ2, h1, h2, h3, h4⟩ := h d List.mem_cons_self
    have hl' : acc.length < sizeLine := by simp at hl; omega
    have ih := fun acc' => lcLoop_filter (ns := ns) (g := g) (t := t) (e := e) (p := p) (F := F) (ρ := ρ) (ds := ds) (acc := acc') (fun d hd => h d (List.mem_cons_of_mem _ hd))
    cases hp : p d with
    | false =>
      rw [hp] at h2
      simp only [lcLoop, h1, h2]
      rw [h4 hp, ih acc (by simp at hl; omega), List.filter_cons_of_neg (by rw [hp]; decide)]
    | true =>
      rw [hp] at h2
      obtain ⟨ρ3, ρ4, sv, h5, h6, h7⟩ := h3 hp
      simp only [lcLoop, h1, h2, h5, h6, if_pos hl', h7]
      rw [ih _ (by simp at hl ⊢; omega), List.filter_cons_of_pos hp]
      simp
theorem lcLoop_inv {ns : List Nat} {g : SV → List SV → Option (List SV)} {t : M Bool} {e : M SV} (I : List SV → Prop) (P : D → Prop) : ∀ {ds acc : List D} {ρ : List SV}, (∀ d ∈ ds, ∀ ρ, I ρ → ∃ ρ1 ρ2 ρ3 ρ4 sv y, g (.fz d) ρ = some ρ1 ∧ t ρ1 = some (.ok true ρ2) ∧ e ρ2 = some (.ok sv ρ3) ∧ esc sv ρ3 = some (.ok y ρ4) ∧ P y ∧ I (wipeD ρ4 ns)) →
    acc.length + ds.length ≤ sizeLine → I ρ → ∃ ys ρ', lcLoop ns g t e ds ρ acc = some (acc ++ ys, ρ') ∧ ys.length = ds.length ∧ (∀ y ∈ ys, P y) ∧ I ρ'
  | [], acc, ρ, h, hl, h0 => ⟨[], ρ, by simp [lcLoop], rfl, fun y hy => (by cases hy), h0⟩
  | d :: ds, acc, ρ, h, hl, h0 => by
    obtain ⟨ρ1, ρ2, ρ3, ρ4, sv, y, h1, h2, h3, h4, h5, h6⟩ := h d List.mem_cons_self ρ h0
    have hl' : acc.length < sizeLine := by simp at hl; omega
    obtain ⟨ys, ρ', k1, k2, k3, k4⟩ := lcLoop_inv (ns := ns) (g := g) (t := t) (e := e) I P (ds := ds) (acc := acc ++ [y]) (ρ := wipeD ρ4 ns) (fun d hd => h d (List.mem_cons_of_mem _ hd)) (by simp at hl ⊢; omega) h6
    refine ⟨y :: ys, ρ', ?_, by simp [k2], fun z hz => ?_, k4⟩
    · simp only [lcLoop, h1, h2, h3, h4, if_pos hl']
      rw [k1]
      simp
    · rcases List.mem_cons.mp hz with rfl | hz
      · exact h5
      · exact k3 z hz
theorem ints_of : ∀ {ds : List D}, (∀ d ∈ ds, ∃ i : Int, d = .int i) → ∃ ns : List Int, ds = ns.map .int
  | [], _ => ⟨[], rfl⟩
  | d :: ds, h => by
    obtain ⟨i, rfl⟩ := h d List.mem_cons_self
    obtain ⟨ns, rfl⟩ := ints_of fun d hd => h d (List.mem_cons_of_mem _ hd)
    exact ⟨i :: ns, rfl⟩
theorem atI_last {α : Type} {xs : List α} (h : 0 < xs.length) : atI xs (-1) = some (xs[xs.length - 1]'(by omega)) := by
  unfold atI ixN
  rw [if_neg (by omega), if_pos (by omega)]
  have : ((-1 : Int) + (xs.length : Int)).toNat = xs.length - 1 := by omega
  simp only [this]
  simp
end DL

set_option Elab.async false
set_option linter.all false
set_option maxRecDepth 100000
/-! The data layer: a comprehension over a slot that stays owned. -/
namespace DL
open PySem PySem.Spec PyProof.Rows L2
open Classical in
noncomputable def lcLoopV (ns : List Nat) (j : Nat) (d0 : List D) (g : SV → List SV → Option (List SV)) (t : M Bool) (e : M SV) : List D → List SV → List D → Option (List D × List SV)
  | [], ρ, acc => if ρ[j]? = some (.own (.lst d0)) then some (acc, ρ) else none
  | d :: ds, ρ, acc => if ρ[j]? = some (.own (.lst d0)) then (match g (.fz d) ρ with
    | some ρ1 => match t ρ1 with
      | some (.ok true ρ2) => match e ρ2 with
        | some (.ok sv ρ3) => match esc sv ρ3 with
          | some (.ok y ρ4) => if acc.length < sizeLine then lcLoopV ns j d0 g t e ds (wipeD ρ4 ns) (acc ++ [y]) else none
          | _ => none
        | _ => none
      | some (.ok false ρ2) => lcLoopV ns j d0 g t e ds (wipeD ρ2 ns) acc
      | _ => none
    | none => none) else none
noncomputable def mLcV (ns : List Nat) (cv : Nat → Bool) (j : Nat) (g : SV → List SV → Option (List SV)) (t : M Bool) (e : M SV) : M SV := fun ρ => match ρ[j]? with
  | some (.own (.lst ds)) => if cv j = false then (match lcLoopV ns j ds g t e ds (wipeD ρ ns) [] with
    | some (acc, ρ2) => some (.ok (.own (.lst acc)) ρ2)
    | none => none) else none
  | _ => mLc ns (mItems (mVar cv j)) g t e ρ
section
variable {c : Fc} {W : WX} {X : Cx} {pos : Pos} {ρ : List SV} {ts : Ts} {σ : L2.St} {H : Hp} {Q : VK}
theorem wipe_twice {σ : L2.St} {ns : List Nat} : wipe (wipe σ ns) ns = wipe σ ns := by
  apply List.ext_getElem?
  intro j
  by_cases hj : j ∈ ns
  · have one : ∀ {τ : L2.St} {o : Option V}, (wipe τ ns)[j]? = some o → o = none := fun {τ o} e => by
      cases o with
      | none => rfl
      | some u => exact absurd hj (wipe_some e).2
    by_cases hl : j < σ.length
    · have l1 : j < (wipe σ ns).length := by rw [wipe_length]; exact hl
      have l2 : j < (wipe (wipe σ ns) ns).length := by rw [wipe_length]; exact l1
      rw [List.getElem?_eq_getElem l1, List.getElem?_eq_getElem l2, one (List.getElem?_eq_getElem l1), one (List.getElem?_eq_getElem l2)]
    · rw [List.getElem?_eq_none (by rw [wipe_length, wipe_length]; omega), List.getElem?_eq_none (by rw [wipe_length]; omega)]
  · rw [wipe_get hj]
theorem read_lcV {own : List (Str × Nat)} {j : Nat} {t : TG} {g : SV → List SV → Option (List SV)} {mt : M Bool} {me : M SV}
    (hv : ∀ i ∈ own.map (·.2), c.cv i = true ∧ c.pin i = none) (cg : CG c (own.map (·.2)) t g) {ds : List D} (r : R c σ ρ ts H) (ej : ρ[j]? = some (.own (.lst ds)))
    (q : PostE c W σ ts Q (match lcLoopV (own.map (·.2)) j ds g mt me ds (wipeD ρ (own.map (·.2))) [] with
      | some (acc, ρ2) => some (.ok (.own (.lst acc)) ρ2)
      | none => none)) : ∃ a, σ[j]? = some (some (.ref a)) ∧ (∃ xs, H a = some (.lst xs)) ∧ ∀ D, H D = none → ∃ Wr : Nat → Nat → Hp → Prop, (∃ m, Wr 0 m (upd H D (.lst []))) ∧ ∀ i m H, Wr i m H →
  ((Itl c.K a).stop i H ∧ Q (.ref D) H) ∨ ((Itl c.K a).go i H ∧ ∃ Nx : Hp → Prop, (∀ H', Nx H' → ∃ m', m' < m ∧ Wr (i + 1) m' H') ∧ ∀ x H', (Itl c.K a).yld i H x H' → t x (wipe σ (own.map (·.2))) H' fun σ2 H2 => wipe σ2 (own.map (·.2)) = wipe σ (own.map (·.2)) ∧ tDT c W0 mt σ2 H2 fun b H3 =>
    if b = true then tDE c W0 me σ2 H3 fun y H4 => ∃ acc, H4 D = some (.lst acc) ∧ acc.length < sizeLine ∧ Nx (upd H4 D (.lst (acc ++ [y]))) else Nx H3) := by
  obtain ⟨a, ds', vs0, ea, e0, eH, _⟩ := r.slot_own ej
  cases e0
  cases el : lcLoopV (own.map (·.2)) j ds g mt me ds (wipeD ρ (own.map (·.2))) [] with
  | none => rw [el] at q; exact q.elim
  | some res =>
  obtain ⟨accF, ρF⟩ := res
  rw [el] at q
  simp only at q
  refine ⟨a, ea, ⟨vs0, eH⟩, fun D hD => ?_⟩
  have r2 : R c σ ρ ((.own (.lst []), .ref D) :: ts) (upd H D (.lst [])) := r.push_new hD upd_same (ext_new hD) RepL.nil
  refine ⟨fun i m H => m = ds.length - i ∧ i ≤ ds.length ∧ ∃ ρ acc, R c (wipe σ (own.map (·.2))) ρ ((.own (.lst acc), .ref D) :: ts) H ∧ Wiped (own.map (·.2)) ρ ∧ lcLoopV (own.map (·.2)) j ds g mt me (ds.drop i) ρ acc = some (accF, ρF),
    ⟨ds.length, rfl, Nat.zero_le _, _, [], r_wipe r2 hv, wipeD_wiped, el⟩, ?_⟩
  rintro i m H2 ⟨rfl, hi, ρ2, acc, r3, w3, e3⟩
  have chk : ρ2[j]? = some (.own (.lst ds)) := by
    cases ed : ds.drop i with
    | nil => rw [ed] at e3; simp only [lcLoopV] at e3; split at e3 <;> first | assumption | cases e3
    | cons _ _ => rw [ed] at e3; simp only [lcLoopV] at e3; split at e3 <;> first | assumption | cases e3
  obtain ⟨a', ds', us, ea', e0, eH2, rl⟩ := r3.slot_own chk
  cases e0
  have eaa : a' = a := by
    have z := (wipe_some ea').1
    rw [ea] at z
    cases z; rfl
  subst eaa
  by_cases hlt : i < ds.length
  · have ed : ds.drop i = ds[i] :: ds.drop (i + 1) := List.drop_eq_getElem_cons hlt
    rw [ed] at e3
    simp only [lcLoopV, if_pos chk] at e3
    obtain ⟨x, hx, rx⟩ := rl.get (show ds[i]? = some ds[i] by simp [hlt])
    refine .inr ⟨⟨us, x, SqL.of eH2, hx⟩, fun H => i + 1 ≤ ds.length ∧ ∃ ρ acc, R c (wipe σ (own.map (·.2))) ρ ((.own (.lst acc), .ref D) :: ts) H ∧ Wiped (own.map (·.2)) ρ ∧ lcLoopV (own.map (·.2)) j ds g mt me (ds.drop (i + 1)) ρ acc = some (accF, ρF), fun H' z => ⟨ds.length - (i + 1), by omega, rfl, z⟩, fun x' H3 y => ?_⟩
    obtain ⟨eH3, hy⟩ := y
    have e4 := hy us (SqL.of eH2)
    rw [hx] at e4
    cases e4
    subst eH3
    have r4 := r3.push_fz rx
    cases eg : g (.fz ds[i]) ρ2 with
    | none => rw [eg] at e3; cases e3
    | some ρ4 =>
    rw [eg] at e3
    simp only at e3
    refine cg.go _ _ _ _ _ _ _ _ r4 eg fun σ5 hs5 r5 => ?_
    have hw : wipe (wipe σ (own.map (·.2))) (own.map (·.2)) = wipe σ (own.map (·.2)) := wipe_twice
    rw [hw] at hs5
    refine ⟨hs5, ρ4, _, r5, ?_⟩
    cases et : mt ρ4 with
    | none => rw [et] at e3; cases e3
    | some yt =>
    rw [et] at e3
    cases yt with
    | er _ _ => cases e3
    | ok bb ρ5 =>
    cases bb with
    | false =>
      simp only at e3
      intro H6 r6
      exact ⟨hlt, _, acc, r_rewipe hv hs5 r6, wipeD_wiped, e3⟩
    | true =>
      simp only at e3
      intro H6 r6
      refine ⟨ρ5, _, r6, ?_⟩
      cases ee : me ρ5 with
      | none => rw [ee] at e3; cases e3
      | some ye =>
      rw [ee] at e3
      cases ye with
      | er _ _ => cases e3
      | ok sv ρ6 =>
      simp only at e3
      intro yv H7 r7
      cases es : esc sv ρ6 with
      | none => rw [es] at e3; cases e3
      | some z =>
      rw [es] at e3
      cases z with
      | er _ _ => cases e3
      | ok yd ρ7 =>
      simp only at e3
      split at e3
      · rename_i hz
        obtain ⟨xs, h1, h2, r8⟩ := r_grow (r_esc r7 es)
        exact ⟨xs, h1, by rw [h2]; exact hz, hlt, _, _, r_rewipe hv hs5 r8, wipeD_wiped, e3⟩
      · cases e3
  · have ei : i = ds.length := by omega
    subst ei
    rw [List.drop_length] at e3
    simp only [lcLoopV, if_pos chk, Option.some.injEq, Prod.mk.injEq] at e3
    obtain ⟨rfl, rfl⟩ := e3
    refine .inl ⟨⟨us, SqL.of eH2, by rw [rl.length]; exact Nat.le_refl _⟩, q _ _ ?_⟩
    exact r_unwipe hv w3 r3
theorem pi_or {tg e : Expr} {t t' : TI} (h : PI X tg e t) (h' : PI X tg e t') : PI X tg e (fun σ H R => t σ H R ∨ t' σ H R) := ⟨fun pins s σ H R I q => q.elim (h.run pins s σ H R I) (h'.run pins s σ H R I)⟩
abbrev iV (c : Fc) (W : WX) (j : Nat) : TI := fun σ H R => iSeq c.K (tDE c W (mVar c.cv j)) σ H R ∨ tDI c W (mItems (mVar c.cv j)) σ H R
theorem read_lcVV {own : List (Str × Nat)} {j : Nat} {t : TG} {g : SV → List SV → Option (List SV)} {mt : M Bool} {me : M SV}
    (hv : ∀ i ∈ own.map (·.2), c.cv i = true ∧ c.pin i = none) (cg : CG c (own.map (·.2)) t g) (h : tDE c W (mLcV (own.map (·.2)) c.cv j g mt me) σ H Q) : tLc (iV c W j) t (tDT c W0 mt) (tDE c W0 me) (own.map (·.2)) σ H Q := by
  obtain ⟨ρ, ts, r, q⟩ := h
  have other : PostE c W σ ts Q (mLc (own.map (·.2)) (mItems (mVar c.cv j)) g mt me ρ) → tLc (iV c W j) t (tDT c W0 mt) (tDE c W0 me) (own.map (·.2)) σ H Q := fun q => .inr (read_lc (W := W) hv cg ⟨ρ, ts, r, q⟩)
  unfold mLcV at q
  split at q
  · rename_i ds ej
    split at q
    · rename_i hc
      refine .inl ⟨ρ, ts, r, ?_⟩
      unfold mVar
      rw [ej]
      simp only [if_pos hc]
      intro v H' r'
      obtain ⟨a, ea, hx, k⟩ := read_lcV hv cg r'.pop ej q
      have := r'.loc_at
      rw [ea] at this
      cases this
      exact ⟨a, rfl, .inl ⟨hx.imp fun xs e => SqL.of e, k⟩⟩
    · exact q.elim
  · exact other q
theorem pd_lcV {elt tg iter : Expr} {ifs : List Expr} {scope : Scope} {own : List (Str × Nat)} {j : Nat} {t : TG} {g : SV → List SV → Option (List SV)} {mt : M Bool} {me : M SV} (hc : X.calm = true) (hN : X.N.Nodup) (hl : PE X iter (tDE c W (mVar c.cv j))) (ok : BlkOk X.N X.env.scope scope own)
    (hv : ∀ i ∈ own.map (·.2), c.cv i = true ∧ c.pin i = none)
    (hg : ∀ (s : Shared) (H : Hp) (C : Addr) (cl : List (Str × Addr)) (fp : List Addr), PG (X.blk s H scope (compEnvC scope cl C X.env) fp) tg t) (cg : CG c (own.map (·.2)) t g)
    (ht : ∀ (s : Shared) (H : Hp) (C : Addr) (cl : List (Str × Addr)) (fp : List Addr), PTs (X.blk s H scope (compEnvC scope cl C X.env) fp) ifs (tDT c W0 mt))
    (he : ∀ (s : Shared) (H : Hp) (C : Addr) (cl : List (Str × Addr)) (fp : List Addr), PE (X.blk s H scope (compEnvC scope cl C X.env) fp) elt (tDE c W0 me)) (hK : c.K = X.K := by rfl) (hs : ∀ x, foldedSetIterable iter X.env x = pure x := by intro _; rfl) :
    PE X (.ListComp elt [⟨tg, iter, ifs, 0⟩] scope pos) (tDE c W (mLcV (own.map (·.2)) c.cv j g mt me)) :=
  pe_imp (pe_lc hc hN (pi_or (hK ▸ pi_seq hl) (pd_seq hl hK)) ok hg ht he hs) fun σ H Q h => read_lcVV hv cg h
theorem pd_setLcV {i : Nat} {y : Str} {py spos : Pos} {elt tg iter : Expr} {ifs : List Expr} {scope : Scope} {own : List (Str × Nat)} {j : Nat} {t : TG} {g : SV → List SV → Option (List SV)} {mt : M Bool} {me : M SV} (hc : X.calm = true) (hN : X.N.Nodup)
    (hy : X.N[i]? = some y) (hyl : X.env.scope.names.lookup y = some .local) (hsw : swapsWith (.ListComp elt [⟨tg, iter, ifs, 0⟩] scope pos) (some (.Name y py)) spos.line X.env = pure true)
    (hl : PE X iter (tDE c W (mVar c.cv j))) (ok : BlkOk X.N X.env.scope scope own)
    (hv : ∀ i ∈ own.map (·.2), c.cv i = true ∧ c.pin i = none)
    (hg : ∀ (s : Shared) (H : Hp) (C : Addr) (cl : List (Str × Addr)) (fp : List Addr), PG (X.blk s H scope (compEnvC scope cl C X.env) fp) tg t) (cg : CG c (own.map (·.2)) t g)
    (ht : ∀ (s : Shared) (H : Hp) (C : Addr) (cl : List (Str × Addr)) (fp : List Addr), PTs (X.blk s H scope (compEnvC scope cl C X.env) fp) ifs (tDT c W0 mt))
    (he : ∀ (s : Shared) (H : Hp) (C : Addr) (cl : List (Str × Addr)) (fp : List Addr), PE (X.blk s H scope (compEnvC scope cl C X.env) fp) elt (tDE c W0 me)) (hp : c.pin i = none := by rfl) (hK : c.K = X.K := by rfl) (hs : ∀ x, foldedSetIterable iter X.env x = pure x := by intro _; rfl) :
    PS X (.Assign [.Name y py] (.ListComp elt [⟨tg, iter, ifs, 0⟩] scope pos) spos) (tDS c W (mSet i (mLcV (own.map (·.2)) c.cv j g mt me))) :=
  pd_setR (ps_setLc hc hN hy hyl hsw (pi_or (hK ▸ pi_seq hl) (pd_seq hl hK)) ok hg ht he hs) (fun σ H Q h => read_lcVV hv cg h) hp
end
/-! the loop in plain terms -/
theorem lcLoopV_filter {ns : List Nat} {j : Nat} {d0 : List D} {g : SV → List SV → Option (List SV)} {t : M Bool} {e : M SV} {p : D → Bool} {F : D → D} {ρ : List SV} (hj : ρ[j]? = some (.own (.lst d0))) : ∀ {ds acc : List D}, (∀ d ∈ ds, ∃ ρ1 ρ2, g (.fz d) ρ = some ρ1 ∧ t ρ1 = some (.ok (p d) ρ2) ∧ (p d = true → ∃ ρ3 ρ4 sv, e ρ2 = some (.ok sv ρ3) ∧ esc sv ρ3 = some (.ok (F d) ρ4) ∧ wipeD ρ4 ns = ρ) ∧ (p d = false → wipeD ρ2 ns = ρ)) →
    acc.length + ds.length ≤ sizeLine → lcLoopV ns j d0 g t e ds ρ acc = some (acc ++ (ds.filter p).map F, ρ)
  | [], acc, h, hl => by simp [lcLoopV, hj]
  | d :: ds, acc, h, hl => by
    obtain ⟨ρ1, ρ2, h1, h2, h3, h4⟩ := h d List.mem_cons_self
    have hl' : acc.length < sizeLine := by simp at hl; omega
    have ih := fun acc' => lcLoopV_filter (ns := ns) (g := g) (t := t) (e := e) (p := p) (F := F) (ρ := ρ) hj (ds := ds) (acc := acc') (fun d hd => h d (List.mem_cons_of_mem _ hd))
    cases hp : p d with
    | false =>
      rw [hp] at h2
      simp only [lcLoopV, if_pos hj, h1, h2]
      rw [h4 hp, ih acc (by simp at hl; omega), List.filter_cons_of_neg (by rw [hp]; decide)]
    | true =>
      rw [hp] at h2
      obtain ⟨ρ3, ρ4, sv, h5, h6, h7⟩ := h3 hp
      simp only [lcLoopV, if_pos hj, h1, h2, h5, h6, if_pos hl', h7]
      rw [ih _ (by simp at hl ⊢; omega), List.filter_cons_of_pos hp]
      simp
theorem lcLoopV_map {ns : List Nat} {j : Nat} {d0 : List D} {g : SV → List SV → Option (List SV)} {t : M Bool} {e : M SV} {F : D → D} {ρ : List SV} (hj : ρ[j]? = some (.own (.lst d0))) {ds acc : List D} (h : ∀ d ∈ ds, ∃ ρ1 ρ2 ρ3 ρ4 sv, g (.fz d) ρ = some ρ1 ∧ t ρ1 = some (.ok true ρ2) ∧ e ρ2 = some (.ok sv ρ3) ∧ esc sv ρ3 = some (.ok (F d) ρ4) ∧ wipeD ρ4 ns = ρ)
    (hl : acc.length + ds.length ≤ sizeLine) : lcLoopV ns j d0 g t e ds ρ acc = some (acc ++ ds.map F, ρ) := by
  have := lcLoopV_filter (p := fun _ => true) (F := F) hj (ds := ds) (acc := acc) (fun d hd => by
    obtain ⟨ρ1, ρ2, ρ3, ρ4, sv, h1, h2, h3, h4, h5⟩ := h d hd
    exact ⟨ρ1, ρ2, h1, h2, fun _ => ⟨ρ3, ρ4, sv, h3, h4, h5⟩, fun z => (nomatch z)⟩) hl
  rw [this, List.filter_eq_self.mpr fun _ _ => rfl]
end DL

set_option Elab.async false
set_option linter.all false
set_option maxRecDepth 100000
/-! The data layer: what is wanted of an expression, a statement, a def (weakest preconditions), as rules for simp. -/
namespace DL
open PySem PySem.Spec PyProof.Rows L2

def WpR {α : Type} (r : Option (Res α)) (Q : α → List SV → Prop) (X : Ex → List SV → Prop) : Prop := match r with
  | some (.ok a ρ) => Q a ρ
  | some (.er e ρ) => X e ρ
  | none => False
def WpO {α : Type} (o : Option α) (Q : α → Prop) : Prop := match o with
  | some a => Q a
  | none => False
/-- the expression m from the slots ρ -/
def WpE {α : Type} (m : M α) (ρ : List SV) (Q : α → List SV → Prop) (X : Ex → List SV → Prop) : Prop := WpR (m ρ) Q X
/-- the statement m from the slots ρ -/
def WpS (m : MS) (ρ : List SV) (K : SR → Prop) : Prop := WpO (m ρ) K
/-- the def g -/
def WpC (g : Fn) (as : List SV) (Q : SV → List SV → Prop) (X : Ex → List SV → Prop) : Prop := match g as with
  | some (.ok r o) => Q r o
  | some (.er e o) => X e o
  | none => False
def WpB (b : Option BR) (ρ : List SV) (Q : SV → List SV → Prop) : Prop := match b with
  | some (.imm d) => Q (.fz d) ρ
  | some (.newL ds) => Q (.own (.lst ds)) ρ
  | some (.newT ds) => Q (.fz (.tup ds)) ρ
  | some (.anyT ds) => Q (.fz (.tup ds)) ρ
  | none => False
/-- a loop over ds -/
def WpL (g : SV → List SV → Option (List SV)) (b : MS) (ds : List D) (ρ : List SV) (K : SR → Prop) : Prop := WpO (mLoop g b ds ρ) K
/-- a while, so many turns at most -/
def WpW (t : M Bool) (b : MS) (k : Nat) (ρ : List SV) (K : SR → Prop) : Prop := WpO (whileN t b k ρ) K
/-- a comprehension over ds -/
def WpM (ns : List Nat) (g : SV → List SV → Option (List SV)) (t : M Bool) (e : M SV) (ds : List D) (ρ : List SV) (acc : List D) (Q : List D → List SV → Prop) : Prop := match lcLoop ns g t e ds ρ acc with
  | some (acc', ρ') => Q acc' ρ'
  | none => False
noncomputable def WpMV (ns : List Nat) (j : Nat) (d0 : List D) (g : SV → List SV → Option (List SV)) (t : M Bool) (e : M SV) (ds : List D) (ρ : List SV) (acc : List D) (Q : List D → List SV → Prop) : Prop := match lcLoopV ns j d0 g t e ds ρ acc with
  | some (acc', ρ') => Q acc' ρ'
  | none => False
theorem WpE_congr {α : Type} (m : M α) (ρ : List SV) (Q : α → List SV → Prop) (X : Ex → List SV → Prop) : WpE m ρ Q X = WpE m ρ Q X := rfl
theorem WpS_congr (m : MS) (ρ : List SV) (K : SR → Prop) : WpS m ρ K = WpS m ρ K := rfl
theorem WpL_congr (g : SV → List SV → Option (List SV)) (b : MS) (ds : List D) (ρ : List SV) (K : SR → Prop) : WpL g b ds ρ K = WpL g b ds ρ K := rfl
theorem WpW_congr (t : M Bool) (b : MS) (k : Nat) (ρ : List SV) (K : SR → Prop) : WpW t b k ρ K = WpW t b k ρ K := rfl
theorem WpM_congr (ns : List Nat) (g : SV → List SV → Option (List SV)) (t : M Bool) (e : M SV) (ds : List D) (ρ : List SV) (acc : List D) (Q : List D → List SV → Prop) : WpM ns g t e ds ρ acc Q = WpM ns g t e ds ρ acc Q := rfl
theorem WpMV_congr (ns : List Nat) (j : Nat) (d0 : List D) (g : SV → List SV → Option (List SV)) (t : M Bool) (e : M SV) (ds : List D) (ρ : List SV) (acc : List D) (Q : List D → List SV → Prop) : WpMV ns j d0 g t e ds ρ acc Q = WpMV ns j d0 g t e ds ρ acc Q := rfl
theorem WpC_congr {g : Fn} {as as' : List SV} (h : as = as') (Q : SV → List SV → Prop) (X : Ex → List SV → Prop) : WpC g as Q X = WpC g as' Q X := by rw [h]
theorem WpO_congr {α : Type} {o o' : Option α} (h : o = o') (Q : α → Prop) : WpO o Q = WpO o' Q := by rw [h]
theorem WpB_congr {b b' : Option BR} (h : b = b') (ρ : List SV) (Q : SV → List SV → Prop) : WpB b ρ Q = WpB b' ρ Q := by rw [h]

section
variable {α β : Type} {ρ : List SV} {Q : α → List SV → Prop} {X : Ex → List SV → Prop} {K : SR → Prop} {QS : SV → List SV → Prop}
theorem wo_some {a : α} {Q : α → Prop} : WpO (some a) Q = Q a := rfl
theorem wo_none {Q : α → Prop} : WpO none Q = False := rfl
theorem wo_ite {c : Prop} [Decidable c] {o : Option α} {Q : α → Prop} : WpO (if c then o else none) Q = (c ∧ WpO o Q) := by
  by_cases h : c <;> simp [h, WpO]
theorem wo_map {f : α → β} {o : Option α} {Q : β → Prop} : WpO (o.map f) Q = WpO o fun a => Q (f a) := by cases o <;> rfl
theorem wb_imm {d : D} : WpB (some (.imm d)) ρ QS = QS (.fz d) ρ := rfl
theorem wb_newL {d : List D} : WpB (some (.newL d)) ρ QS = QS (.own (.lst d)) ρ := rfl
theorem wb_newT {d : List D} : WpB (some (.newT d)) ρ QS = QS (.fz (.tup d)) ρ := rfl
theorem wb_anyT {d : List D} : WpB (some (.anyT d)) ρ QS = QS (.fz (.tup d)) ρ := rfl
theorem wb_ite {c : Prop} [Decidable c] {b : Option BR} : WpB (if c then b else none) ρ QS = (c ∧ WpB b ρ QS) := by
  by_cases h : c <;> simp [h, WpB]
theorem wb_map {f : α → BR} {o : Option α} : WpB (o.map f) ρ QS = WpO o fun a => WpB (some (f a)) ρ QS := by cases o <;> rfl
theorem v_bnd {m : M α} {f : α → M β} {Q : β → List SV → Prop} : WpE (m.bnd f) ρ Q X = WpE m ρ (fun a ρ' => WpE (f a) ρ' Q X) X := by
  unfold WpE M.bnd
  cases m ρ with
  | none => rfl
  | some r => cases r <;> rfl
theorem v_ret {a : α} : WpE (ret a) ρ Q X = Q a ρ := rfl
theorem v_c {d : D} : WpE (mC d) ρ QS X = QS (.fz d) ρ := rfl
def WpV (cv : Nat → Bool) (i : Nat) (ρ : List SV) (o : Option SV) (Q : SV → List SV → Prop) : Prop := match o with
  | some (.fz d) => Q (.fz d) ρ
  | some (.own _) => cv i = false ∧ Q (.loc i) ρ
  | some (.box _) => cv i = false ∧ Q (.loc i) ρ
  | _ => False
theorem v_var {cv : Nat → Bool} {i : Nat} : WpE (mVar cv i) ρ QS X = WpV cv i ρ ρ[i]? QS := by
  unfold WpE WpV mVar
  cases h : ρ[i]? with
  | none => rfl
  | some s =>
    cases s with
    | own d => by_cases hc : cv i = false <;> simp [WpR, hc]
    | box d => by_cases hc : cv i = false <;> simp [WpR, hc]
    | _ => rfl
theorem wv_fz {cv : Nat → Bool} {i : Nat} {d : D} : WpV cv i ρ (some (.fz d)) QS = QS (.fz d) ρ := rfl
theorem wv_own {cv : Nat → Bool} {i : Nat} {d : D} : WpV cv i ρ (some (.own d)) QS = (cv i = false ∧ QS (.loc i) ρ) := rfl
theorem wv_box {cv : Nat → Bool} {i : Nat} {d : D} : WpV cv i ρ (some (.box d)) QS = (cv i = false ∧ QS (.loc i) ρ) := rfl
theorem v_bin {sem : SV → SV → M SV} {a b : M SV} : WpE (mBin sem a b) ρ QS X = WpE a ρ (fun x ρ1 => WpE b ρ1 (fun y ρ2 => WpE (sem x y) ρ2 QS X) X) X := by
  unfold mBin; rw [v_bnd]; simp only [v_bnd]
theorem wb_bres {b : Option BR} : WpR (bres b ρ) QS X = WpB b ρ QS := by
  cases b with
  | none => rfl
  | some b => cases b <;> rfl
theorem v_lift1 {f : D → Option BR} {s : SV} : WpE (lift1 f s) ρ QS X = WpO (con ρ s) fun d => WpB (f d) ρ QS := by
  unfold WpE lift1
  cases con ρ s with
  | none => rfl
  | some d => exact wb_bres
theorem v_lift2 {f : D → D → Option BR} {s t : SV} : WpE (lift2 f s t) ρ QS X = WpO (con ρ s) fun d => WpO (con ρ t) fun e => WpB (f d e) ρ QS := by
  unfold WpE lift2
  cases con ρ s with
  | none => rfl
  | some d =>
    cases con ρ t with
    | none => rfl
    | some e => exact wb_bres
theorem v_liftN {f : List D → Option BR} {ss : List SV} : WpE (liftN f ss) ρ QS X = WpO (cons ρ ss) fun ds => WpB (f ds) ρ QS := by
  unfold WpE liftN
  cases cons ρ ss with
  | none => rfl
  | some d => exact wb_bres
theorem v_un {f : D → Option BR} {m : M SV} : WpE (mUn f m) ρ QS X = WpE m ρ (fun s ρ' => WpE (lift1 f s) ρ' QS X) X := v_bnd
theorem v_callB {f : List D → Option BR} {m : M (List SV)} : WpE (mCallB f m) ρ QS X = WpE m ρ (fun s ρ' => WpE (liftN f s) ρ' QS X) X := v_bnd
theorem v_nil {Q : List SV → List SV → Prop} : WpE mNil ρ Q X = Q [] ρ := rfl
theorem v_cons {m : M SV} {ms : M (List SV)} {Q : List SV → List SV → Prop} : WpE (mCons m ms) ρ Q X = WpE m ρ (fun s ρ1 => WpE ms ρ1 (fun ss ρ2 => Q (s :: ss) ρ2) X) X := by
  unfold mCons; rw [v_bnd]; simp only [v_bnd, v_ret]
def tstB (s : SV) (K : Bool → Prop) : Prop := match s with
  | .fz (.bl b) => K b
  | _ => False
theorem ts_bl {b : Bool} {K : Bool → Prop} : tstB (.fz (.bl b)) K = K b := rfl
theorem v_test {m : M SV} {Q : Bool → List SV → Prop} : WpE (mTest m) ρ Q X = WpE m ρ (fun s ρ' => tstB s fun b => Q b ρ') X := by
  unfold mTest; rw [v_bnd]; congr 1; funext s ρ'
  unfold tstB
  split <;> simp_all [WpE, WpR, ret]
theorem v_tru {m : M SV} {Q : Bool → List SV → Prop} : WpE (mTru m) ρ Q X = WpE m ρ (fun s ρ' => WpO (con ρ' s) fun d => WpO (truD d) fun b => Q b ρ') X := by
  unfold mTru; rw [v_bnd]; congr 1; funext s ρ'
  unfold WpE
  dsimp only
  cases con ρ' s with
  | none => rfl
  | some d =>
    dsimp only [WpO]
    cases truD d <;> rfl
theorem v_not {m : M Bool} {Q : Bool → List SV → Prop} : WpE (mNot m) ρ Q X = WpE m ρ (fun b ρ' => Q (!b) ρ') X := by unfold mNot; rw [v_bnd]; rfl
def brB (b : Bool) (A B : Prop) : Prop := (b = true → A) ∧ (b = false → B)
theorem br_true {A B : Prop} : brB true A B = A := by simp [brB]
theorem br_false {A B : Prop} : brB false A B = B := by simp [brB]
theorem br_dec {c : Prop} [Decidable c] {A B : Prop} : brB (decide c) A B = ((c → A) ∧ (¬ c → B)) := by simp [brB]
theorem br_not {b : Bool} {A B : Prop} : brB (!b) A B = brB b B A := by cases b <;> simp [brB]
theorem v_and {m n : M Bool} {Q : Bool → List SV → Prop} : WpE (mAnd m n) ρ Q X = WpE m ρ (fun b ρ' => brB b (WpE n ρ' Q X) (Q false ρ')) X := by
  unfold mAnd; rw [v_bnd]; congr 1; funext b ρ'; cases b <;> simp [brB, WpE, ret, WpR]
theorem v_or {m n : M Bool} {Q : Bool → List SV → Prop} : WpE (mOr m n) ρ Q X = WpE m ρ (fun b ρ' => brB b (Q true ρ') (WpE n ρ' Q X)) X := by
  unfold mOr; rw [v_bnd]; congr 1; funext b ρ'; cases b <;> simp [brB, WpE, ret, WpR]
theorem v_andV {m n : M SV} : WpE (mAndV m n) ρ QS X = WpE m ρ (fun s ρ' => tstB s fun b => brB b (WpE n ρ' QS X) (QS (.fz (.bl false)) ρ')) X := by
  unfold mAndV; rw [v_bnd]; congr 1; funext s ρ'
  cases s with
  | fz d => cases d with
    | bl b => cases b <;> simp [tstB, brB, WpE, ret, WpR]
    | _ => rfl
  | _ => rfl
theorem v_orV {m n : M SV} : WpE (mOrV m n) ρ QS X = WpE m ρ (fun s ρ' => tstB s fun b => brB b (QS (.fz (.bl true)) ρ') (WpE n ρ' QS X)) X := by
  unfold mOrV; rw [v_bnd]; congr 1; funext s ρ'
  cases s with
  | fz d => cases d with
    | bl b => cases b <;> simp [tstB, brB, WpE, ret, WpR]
    | _ => rfl
  | _ => rfl
theorem v_notV {m : M SV} : WpE (mNotV m) ρ QS X = WpE m ρ (fun s ρ' => tstB s fun b => QS (.fz (.bl (!b))) ρ') X := by
  unfold mNotV; rw [v_bnd]; congr 1; funext s ρ'
  cases s with
  | fz d => cases d <;> rfl
  | _ => rfl
theorem v_ifE {t : M Bool} {m n : M SV} : WpE (mIfE t m n) ρ QS X = WpE t ρ (fun b ρ' => brB b (WpE m ρ' QS X) (WpE n ρ' QS X)) X := by
  unfold mIfE; rw [v_bnd]; congr 1; funext b ρ'; cases b <;> simp [brB]
theorem v_tup {ma : M (List SV)} : WpE (mTup ma) ρ QS X = WpE ma ρ (fun ss ρ1 => WpE (escs ss) ρ1 (fun ds ρ2 => ds.length ≤ sizeLine ∧ QS (.fz (.tup ds)) ρ2) X) X := by
  unfold mTup; rw [v_bnd]; congr 1; funext ss ρ'; rw [v_bnd]; congr 1; funext ds ρ2
  unfold WpE
  by_cases h : ds.length ≤ sizeLine <;> simp [h, WpR]
theorem v_lst {ma : M (List SV)} : WpE (mLst ma) ρ QS X = WpE ma ρ (fun ss ρ1 => WpE (escs ss) ρ1 (fun ds ρ2 => ds.length ≤ sizeLine ∧ QS (.own (.lst ds)) ρ2) X) X := by
  unfold mLst; rw [v_bnd]; congr 1; funext ss ρ'; rw [v_bnd]; congr 1; funext ds ρ2
  unfold WpE
  by_cases h : ds.length ≤ sizeLine <;> simp [h, WpR]
/-- a value leaves its place -/
def WpEsc (s : SV) (ρ : List SV) (Q : D → List SV → Prop) : Prop := match s with
  | .fz d => Q d ρ
  | .own d => Q d ρ
  | .loc i => match ρ[i]? with
    | some (.own d) => Q d (ρ.set i (.fz d))
    | some (.fz d) => Q d ρ
    | some (.box (.obj C fs ds)) => Q (.obj C fs ds) (ρ.set i (.fz (.obj C fs ds)))
    | _ => False
  | .box (.obj C fs ds) => Q (.obj C fs ds) ρ
  | _ => False
def WpEscL (i : Nat) (ρ : List SV) (o : Option SV) (Q : D → List SV → Prop) : Prop := match o with
  | some (.own d) => Q d (ρ.set i (.fz d))
  | some (.fz d) => Q d ρ
  | some (.box (.obj C fs ds)) => Q (.obj C fs ds) (ρ.set i (.fz (.obj C fs ds)))
  | _ => False
theorem we_box {C : Str} {fs : List Str} {ds : List D} {Q : D → List SV → Prop} : WpEsc (.box (.obj C fs ds)) ρ Q = Q (.obj C fs ds) ρ := rfl
theorem wel_box {i : Nat} {C : Str} {fs : List Str} {ds : List D} {Q : D → List SV → Prop} : WpEscL i ρ (some (.box (.obj C fs ds))) Q = Q (.obj C fs ds) (ρ.set i (.fz (.obj C fs ds))) := rfl
theorem we_fz {d : D} {Q : D → List SV → Prop} : WpEsc (.fz d) ρ Q = Q d ρ := rfl
theorem we_own {d : D} {Q : D → List SV → Prop} : WpEsc (.own d) ρ Q = Q d ρ := rfl
theorem we_loc {i : Nat} {Q : D → List SV → Prop} : WpEsc (.loc i) ρ Q = WpEscL i ρ ρ[i]? Q := rfl
theorem wel_own {i : Nat} {d : D} {Q : D → List SV → Prop} : WpEscL i ρ (some (.own d)) Q = Q d (ρ.set i (.fz d)) := rfl
theorem wel_fz {i : Nat} {d : D} {Q : D → List SV → Prop} : WpEscL i ρ (some (.fz d)) Q = Q d ρ := rfl
theorem v_esc {s : SV} {Q : D → List SV → Prop} : WpE (esc s) ρ Q X = WpEsc s ρ Q := by
  cases s with
  | loc i =>
    show WpR _ _ _ = _
    unfold DL.esc
    rw [we_loc]
    dsimp only
    cases ρ[i]? with
    | none => rfl
    | some s =>
      cases s with
      | box d => cases d <;> rfl
      | _ => rfl
  | box d => cases d <;> rfl
  | _ => rfl
theorem v_escs_nil {Q : List D → List SV → Prop} : WpE (escs []) ρ Q X = Q [] ρ := rfl
theorem v_escs_cons {s : SV} {ss : List SV} {Q : List D → List SV → Prop} : WpE (escs (s :: ss)) ρ Q X = WpEsc s ρ fun d ρ1 => WpE (escs ss) ρ1 (fun ds ρ2 => Q (d :: ds) ρ2) X := by
  show WpE ((esc s).bnd fun d => (escs ss).bnd fun ds => ret (d :: ds)) ρ Q X = _
  rw [v_bnd, v_esc]; congr 1; funext d ρ1; rw [v_bnd]; rfl
def prtI (s : SV) (K : Int → Prop) : Prop := match s with
  | .fz (.int i) => K i
  | _ => False
theorem pi_int {i : Int} {K : Int → Prop} : prtI (.fz (.int i)) K = K i := rfl
theorem v_part {m : M SV} {Q : Option Int → List SV → Prop} : WpE (mPart m) ρ Q X = WpE m ρ (fun s ρ' => prtI s fun i => Q (some i) ρ') X := by
  unfold mPart; rw [v_bnd]; congr 1; funext s ρ'
  cases s with
  | fz d => cases d <;> rfl
  | _ => rfl
theorem v_noPart {Q : Option Int → List SV → Prop} : WpE mNoPart ρ Q X = Q none ρ := rfl
theorem v_sl {m : M SV} {ml mh : M (Option Int)} : WpE (mSl m ml mh) ρ QS X = WpE m ρ (fun s ρ1 => WpE ml ρ1 (fun lo ρ2 => WpE mh ρ2 (fun hi ρ3 => WpO (con ρ3 s) fun d => WpB (fSl lo hi d) ρ3 QS) X) X) X := by
  unfold mSl; simp only [v_bnd, v_lift1]
theorem v_isi {Ts : List Ty} {m : M SV} : WpE (mIsi Ts m) ρ QS X = WpE m ρ (fun s ρ' => WpO (con ρ' s) fun d => WpO (tyD d) fun t => QS (.fz (.bl (Ts.any (isT t)))) ρ') X := by
  unfold mIsi; rw [v_bnd]; congr 1; funext s ρ'
  unfold WpE
  dsimp only
  cases con ρ' s with
  | none => rfl
  | some d =>
    dsimp only [WpO]
    cases tyD d <;> rfl
/-- what a call hands back -/
def retV (rv : SV) (A : Prop) : Prop := match rv with
  | .fz _ => A
  | .own _ => A
  | .box _ => A
  | _ => False
theorem rv_box {d : D} {A : Prop} : retV (.box d) A = A := rfl
theorem rv_fz {d : D} {A : Prop} : retV (.fz d) A = A := rfl
theorem rv_own {d : D} {A : Prop} : retV (.own d) A = A := rfl
theorem v_callT {io : List Bool} {g : Fn} {svs : List SV} : WpE (mCallT io g svs) ρ QS X = WpE (prep io svs) ρ (fun as ρ1 => WpC g as (fun rv outs => retV rv (WpO (give io svs outs ρ1) fun ρ2 => QS rv ρ2)) (fun e outs => WpO (give io svs outs ρ1) fun ρ2 => X e ρ2)) X := by
  unfold mCallT; rw [v_bnd]; congr 1; funext as ρ1
  unfold WpE WpC
  cases g as with
  | none => rfl
  | some r =>
    cases r with
    | er e outs => simp only []; cases give io svs outs ρ1 <;> rfl
    | ok rv outs =>
      cases rv with
      | fz d => simp only [retV]; cases give io svs outs ρ1 <;> rfl
      | own d => simp only [retV]; cases give io svs outs ρ1 <;> rfl
      | box d => simp only [retV]; cases give io svs outs ρ1 <;> rfl
      | _ => rfl
theorem v_call {io : List Bool} {g : Fn} {ma : M (List SV)} : WpE (mCall io g ma) ρ QS X = WpE ma ρ (fun svs ρ0 => WpE (prep io svs) ρ0 (fun as ρ1 => WpC g as (fun rv outs => retV rv (WpO (give io svs outs ρ1) fun ρ2 => QS rv ρ2)) (fun e outs => WpO (give io svs outs ρ1) fun ρ2 => X e ρ2)) X) X := by
  unfold mCall; rw [v_bnd]; simp only [v_callT]
theorem v_prep_nil {Q : List SV → List SV → Prop} : WpE (prep [] []) ρ Q X = Q [] ρ := rfl
def prep1K (b : Bool) (s : SV) (ρ : List SV) (Q : SV → List SV → Prop) : Prop := match s with
  | .fz d => Q (.fz d) ρ
  | .own d => if b = true then Q (.own d) ρ else Q (.fz d) ρ
  | .loc i => match ρ[i]? with
    | some (.own d) => if b = true then Q (.own d) (ρ.set i .un) else Q (.fz d) (ρ.set i (.fz d))
    | some (.fz d) => if b = true then False else Q (.fz d) ρ
    | some (.box d) => if b = true then Q (.box d) (ρ.set i .un) else False
    | _ => False
  | .box d => if b = true then Q (.box d) ρ else False
  | .un => False
def prepL (b : Bool) (i : Nat) (ρ : List SV) (o : Option SV) (Q : SV → List SV → Prop) : Prop := match o with
  | some (.own d) => if b = true then Q (.own d) (ρ.set i .un) else Q (.fz d) (ρ.set i (.fz d))
  | some (.fz d) => if b = true then False else Q (.fz d) ρ
  | some (.box d) => if b = true then Q (.box d) (ρ.set i .un) else False
  | _ => False
theorem p1_box {d : D} : prep1K true (.box d) ρ QS = QS (.box d) ρ := rfl
theorem pl_box {i : Nat} {d : D} : prepL true i ρ (some (.box d)) QS = QS (.box d) (ρ.set i .un) := rfl
theorem p1_fz {b : Bool} {d : D} : prep1K b (.fz d) ρ QS = QS (.fz d) ρ := rfl
theorem p1_ownT {d : D} : prep1K true (.own d) ρ QS = QS (.own d) ρ := rfl
theorem p1_ownF {d : D} : prep1K false (.own d) ρ QS = QS (.fz d) ρ := rfl
theorem p1_loc {b : Bool} {i : Nat} : prep1K b (.loc i) ρ QS = prepL b i ρ ρ[i]? QS := rfl
theorem pl_ownT {i : Nat} {d : D} : prepL true i ρ (some (.own d)) QS = QS (.own d) (ρ.set i .un) := rfl
theorem pl_ownF {i : Nat} {d : D} : prepL false i ρ (some (.own d)) QS = QS (.fz d) (ρ.set i (.fz d)) := rfl
theorem pl_fzF {i : Nat} {d : D} : prepL false i ρ (some (.fz d)) QS = QS (.fz d) ρ := rfl
theorem v_prep1 {b : Bool} {s : SV} : WpE (prep1 b s) ρ QS X = prep1K b s ρ QS := by
  cases s with
  | fz d => rfl
  | own d => cases b <;> rfl
  | box d => cases b <;> rfl
  | un => rfl
  | loc i =>
    rw [p1_loc]
    show WpR _ _ _ = _
    unfold prep1 prepL
    dsimp only
    cases ρ[i]? with
    | none => rfl
    | some s => cases s <;> cases b <;> rfl
theorem v_prep_cons {b : Bool} {bs : List Bool} {s : SV} {ss : List SV} {Q : List SV → List SV → Prop} : WpE (prep (b :: bs) (s :: ss)) ρ Q X = prep1K b s ρ fun a ρ1 => WpE (prep bs ss) ρ1 (fun as ρ2 => Q (a :: as) ρ2) X := by
  show WpE ((prep1 b s).bnd fun a => (prep bs ss).bnd fun as => ret (a :: as)) ρ Q X = _
  rw [v_bnd, v_prep1]; congr 1; funext d ρ1; rw [v_bnd]; rfl
/-- a call that lends: what comes back -/
def lendK (rv : SV) (ρ : List SV) (Q : SV → List SV → Prop) (B : Prop) : Prop := match rv with
  | .fz d => if nolist d = true then Q (.fz d) ρ else B
  | .own (.lst es) => if nolists es = true then Q (.own (.lst es)) ρ else B
  | _ => False
theorem lk_fz {d : D} {B : Prop} : lendK (.fz d) ρ QS B = if nolist d = true then QS (.fz d) ρ else B := rfl
theorem lk_own {ds : List D} {B : Prop} : lendK (.own (.lst ds)) ρ QS B = if nolists ds = true then QS (.own (.lst ds)) ρ else B := rfl
theorem v_callP {n : Nat} {g : Fn} {ma : M (List SV)} : WpE (mCallP n g ma) ρ QS X = WpE ma ρ (fun svs ρ0 => (svs.length = n ∧ svs.all (lendOk ρ0) = true) ∧ WpO (cons ρ0 svs) fun ds => WpC g (ds.map .fz)
    (fun rv _ => lendK rv ρ0 QS (WpE (mCallT (List.replicate svs.length false) g svs) ρ0 QS X)) (fun e _ => if nolists (e.fs.map (·.2)) = true then X e ρ0 else WpE (mCallT (List.replicate svs.length false) g svs) ρ0 QS X)) X := by
  unfold mCallP; rw [v_bnd]; congr 1; funext svs ρ0
  unfold WpE WpC
  dsimp only
  by_cases hn : svs.length = n ∧ svs.all (lendOk ρ0) = true
  · rw [if_pos hn]
    simp only [hn, true_and, and_self]
    cases cons ρ0 svs with
    | none => rfl
    | some ds =>
      simp only [WpO]
      cases g (ds.map .fz) with
      | none => rfl
      | some r =>
        cases r with
        | er e outs =>
          simp only []
          by_cases h : nolists (e.fs.map (·.2)) = true
          · rw [if_pos h, if_pos h]; rfl
          · rw [if_neg h, if_neg h]
        | ok rv outs =>
          cases rv with
          | fz d =>
            simp only [lendK]
            by_cases h : nolist d = true
            · rw [if_pos h, if_pos h]; rfl
            · rw [if_neg h, if_neg h]
          | own d =>
            cases d with
            | lst es =>
              simp only [lendK]
              by_cases h : nolists es = true
              · rw [if_pos h, if_pos h]; rfl
              · rw [if_neg h, if_neg h]
            | _ => rfl
          | _ => rfl
  · rw [if_neg hn]
    simp only [hn, false_and]
    rfl
/-! statements -/
theorem s_seq {a b : MS} : WpS (mSeq a b) ρ K = WpS a ρ fun r => match r with
    | .nx ρ' => WpS b ρ' K
    | r => K r := by
  unfold WpS mSeq
  cases a ρ with
  | none => rfl
  | some r => cases r <;> rfl
theorem s_next : WpS mNext ρ K = K (.nx ρ) := rfl
theorem s_pass : WpS mPass ρ K = K (.nx ρ) := rfl
theorem s_brk : WpS mBrk ρ K = K (.bk ρ) := rfl
theorem s_cnt : WpS mCnt ρ K = K (.ct ρ) := rfl
theorem s_e {m : M SV} {f : SV → MS} : WpS (mE m f) ρ K = WpE m ρ (fun s ρ1 => WpS (f s) ρ1 K) (fun e ρ1 => K (.er e ρ1)) := by
  unfold WpS mE WpE
  cases m ρ with
  | none => rfl
  | some r => cases r <;> rfl
theorem s_expr {m : M SV} : WpS (mExpr m) ρ K = WpE m ρ (fun _ ρ1 => K (.nx ρ1)) (fun e ρ1 => K (.er e ρ1)) := s_e
theorem s_ret {m : M SV} : WpS (mRet m) ρ K = WpE m ρ (fun s ρ1 => K (.rt s ρ1)) (fun e ρ1 => K (.er e ρ1)) := s_e
theorem s_retN : WpS mRetN ρ K = K (.rt (.fz .non) ρ) := rfl
theorem s_if {t : M Bool} {a b : MS} : WpS (mIf t a b) ρ K = WpE t ρ (fun c ρ1 => brB c (WpS a ρ1 K) (WpS b ρ1 K)) (fun e ρ1 => K (.er e ρ1)) := by
  unfold WpS mIf WpE
  cases t ρ with
  | none => rfl
  | some r =>
    cases r with
    | er e ρ => rfl
    | ok b ρ => cases b <;> simp [WpR, brB]
theorem s_to {g : SV → List SV → Option (List SV)} {m : M SV} : WpS (mTo g m) ρ K = WpE m ρ (fun s ρ1 => WpO (g s ρ1) fun ρ2 => K (.nx ρ2)) (fun e ρ1 => K (.er e ρ1)) := by
  unfold mTo; rw [s_e]; simp only [WpS, wo_map]
theorem sto_fz {i : Nat} {d : D} {Q : List SV → Prop} : WpO (sto i (.fz d) ρ) Q = (i < ρ.length ∧ Q (ρ.set i (.fz d))) := by
  unfold sto; rw [wo_ite]; rfl
theorem sto_box {i : Nat} {d : D} {Q : List SV → Prop} : WpO (sto i (.box d) ρ) Q = (i < ρ.length ∧ Q (ρ.set i (.box d))) := by
  unfold sto; rw [wo_ite]; rfl
theorem sto_own {i : Nat} {d : D} {Q : List SV → Prop} : WpO (sto i (.own d) ρ) Q = (i < ρ.length ∧ Q (ρ.set i (.own d))) := by
  unfold sto; rw [wo_ite]; rfl
def stoL (i j : Nat) (ρ : List SV) (o : Option SV) (Q : List SV → Prop) : Prop := match o with
  | some (.own d) => Q ((ρ.set j (.fz d)).set i (.fz d))
  | some (.fz d) => Q (ρ.set i (.fz d))
  | _ => False
theorem sto_loc {i j : Nat} {Q : List SV → Prop} : WpO (sto i (.loc j) ρ) Q = (i < ρ.length ∧ stoL i j ρ ρ[j]? Q) := by
  unfold sto; rw [wo_ite]; congr 1
  simp only []
  cases ρ[j]? with
  | none => rfl
  | some s => cases s <;> rfl
theorem sl_own {i j : Nat} {d : D} {Q : List SV → Prop} : stoL i j ρ (some (.own d)) Q = Q ((ρ.set j (.fz d)).set i (.fz d)) := rfl
theorem sl_fz {i j : Nat} {d : D} {Q : List SV → Prop} : stoL i j ρ (some (.fz d)) Q = Q (ρ.set i (.fz d)) := rfl
def tupK (k : Nat) (d : D) (Q : List D → Prop) : Prop := match d with
  | .tup ds => ds.length = k ∧ Q ds
  | .lst ds => ds.length = k ∧ Q ds
  | .seq ds => ds.length = k ∧ Q ds
  | _ => False
theorem tk_tup {k : Nat} {ds : List D} {Q : List D → Prop} : tupK k (.tup ds) Q = (ds.length = k ∧ Q ds) := rfl
theorem tk_lst {k : Nat} {ds : List D} {Q : List D → Prop} : tupK k (.lst ds) Q = (ds.length = k ∧ Q ds) := rfl
theorem wo_gtup {k : Nat} {gs : List D → List SV → Option (List SV)} {s : SV} {Q : List SV → Prop} : WpO (gTupD k gs s ρ) Q = WpEsc s ρ fun d ρ1 => tupK k d fun ds => WpO (gs ds ρ1) Q := by
  rw [← v_esc (X := fun _ _ => False)]
  unfold gTupD WpE
  cases h : esc s ρ with
  | none => rfl
  | some r =>
    cases r with
    | er e ρ1 => exact absurd h esc_er
    | ok d ρ1 =>
      show _ = tupK k d _
      cases d with
      | tup ds => exact wo_ite
      | lst ds => exact wo_ite
      | seq ds => exact wo_ite
      | _ => rfl
theorem wo_gsnil {Q : List SV → Prop} : WpO (gsNil [] ρ) Q = Q ρ := rfl
theorem wo_gscons {g : SV → List SV → Option (List SV)} {gs : List D → List SV → Option (List SV)} {d : D} {ds : List D} {Q : List SV → Prop} : WpO (gsCons g gs (d :: ds) ρ) Q = WpO (g (.fz d) ρ) fun ρ1 => WpO (gs ds ρ1) Q := by
  show WpO (match g (.fz d) ρ with | some ρ' => gs ds ρ' | none => none) Q = _
  cases g (.fz d) ρ <;> rfl
def ownAt (o : Option SV) (A : Prop) : Prop := match o with
  | some (.own _) => A
  | _ => False
theorem oa_own {d : D} {A : Prop} : ownAt (some (.own d)) A = A := rfl
theorem s_atOwn {j : Nat} {m : MS} : WpS (atOwn j m) ρ K = ownAt ρ[j]? (WpS m ρ K) := by
  unfold WpS atOwn
  cases ρ[j]? with
  | none => rfl
  | some s => cases s <;> rfl
def lstAt (o : Option SV) (A : List D → Prop) : Prop := match o with
  | some (.own (.lst ds)) => A ds
  | _ => False
theorem la_lst {ds : List D} {A : List D → Prop} : lstAt (some (.own (.lst ds))) A = A ds := rfl
theorem s_putAt {j : Nat} {si s : SV} : WpS (putAt j si s) ρ K = prtI si fun k => WpEsc s ρ fun d ρ1 => lstAt ρ1[j]? fun ds => WpO (ixN ds.length k) fun n => K (.nx (ρ1.set j (.own (.lst (ds.set n d))))) := by
  unfold WpS putAt
  cases si with
  | fz d =>
    cases d with
    | int k =>
      rw [pi_int, ← v_esc (X := fun _ _ => False)]
      unfold WpE
      simp only []
      cases h : esc s ρ with
      | none => rfl
      | some r =>
        cases r with
        | er e ρ1 => exact absurd h esc_er
        | ok d ρ1 =>
          simp only [WpR]
          cases ρ1[j]? with
          | none => rfl
          | some s =>
            cases s with
            | own d2 =>
              cases d2 with
              | lst ds => simp only [lstAt]; cases ixN ds.length k <;> rfl
              | _ => rfl
            | _ => rfl
    | _ => rfl
  | _ => rfl
theorem s_setAt {j : Nat} {m mi : M SV} : WpS (mSetAt j m mi) ρ K = WpE m ρ (fun s ρ1 => ownAt ρ1[j]? (WpE mi ρ1 (fun si ρ2 => WpS (putAt j si s) ρ2 K) (fun e ρ2 => K (.er e ρ2)))) (fun e ρ1 => K (.er e ρ1)) := by
  unfold mSetAt; rw [s_e]; simp only [s_atOwn, s_e]
def immK (b : Option BR) (A : D → Prop) : Prop := match b with
  | some (.imm d) => A d
  | _ => False
theorem im_imm {d : D} {A : D → Prop} : immK (some (.imm d)) A = A d := rfl
theorem im_ite {c : Prop} [Decidable c] {b : Option BR} {A : D → Prop} : immK (if c then b else none) A = (c ∧ immK b A) := by
  by_cases h : c <;> simp [h, immK]
def fzAt (o : Option SV) (A : D → Prop) : Prop := match o with
  | some (.fz d) => A d
  | _ => False
theorem fa_fz {d : D} {A : D → Prop} : fzAt (some (.fz d)) A = A d := rfl
theorem s_aug {f : D → D → Option BR} {i : Nat} {m : M SV} : WpS (mAug f i m) ρ K = fzAt ρ[i]? fun d => WpE m ρ (fun s ρ1 => WpO (con ρ1 s) fun d2 => immK (f d d2) fun d3 => K (.nx (ρ1.set i (.fz d3)))) (fun e ρ1 => K (.er e ρ1)) := by
  unfold mAug
  show WpO (match ρ[i]? with | some (.fz d) => _ | _ => none) K = _
  cases ρ[i]? with
  | none => rfl
  | some s =>
    cases s with
    | fz d =>
      show WpS (mE m _) ρ K = _
      rw [s_e]
      simp only [fzAt]
      congr 1; funext s ρ1
      unfold WpS
      dsimp only
      cases con ρ1 s with
      | none => rfl
      | some d2 =>
        dsimp only [WpO]
        cases f d d2 with
        | none => rfl
        | some b => cases b <;> rfl
    | _ => rfl
theorem s_augAt2 {f : D → D → Option BR} {j : Nat} {k : Int} {d : D} {s : SV} : WpS (augAt2 f j k d s) ρ K = lstAt ρ[j]? fun ds => WpO (con ρ s) fun d2 => WpO (ixN ds.length k) fun n => immK (f d d2) fun d3 => nolist d3 = true ∧ K (.nx (ρ.set j (.own (.lst (ds.set n d3))))) := by
  unfold WpS augAt2
  cases ρ[j]? with
  | none => rfl
  | some s2 =>
    cases s2 with
    | own d2 =>
      cases d2 with
      | lst ds =>
        simp only [lstAt]
        cases con ρ s with
        | none => rfl
        | some d2 =>
          cases ixN ds.length k with
          | none => rfl
          | some n =>
            simp only [WpO]
            cases f d d2 with
            | none => rfl
            | some b =>
              cases b with
              | imm d3 => by_cases h : nolist d3 = true <;> simp [h, immK]
              | _ => rfl
      | _ => rfl
    | _ => rfl
theorem s_augAt {f : D → D → Option BR} {j : Nat} {mi m : M SV} : WpS (mAugAt f j mi m) ρ K = ownAt ρ[j]? (WpE mi ρ (fun si ρ1 => prtI si fun k => lstAt ρ1[j]? fun ds => WpO (atI ds k) fun d => WpE m ρ1 (fun s ρ2 => WpS (augAt2 f j k d s) ρ2 K) (fun e ρ2 => K (.er e ρ2))) (fun e ρ1 => K (.er e ρ1))) := by
  unfold mAugAt; rw [s_atOwn, s_e]; congr 2; funext si ρ1
  show WpO (augAt1 f j m si ρ1) K = _
  unfold augAt1
  cases si with
  | fz d =>
    cases d with
    | int k =>
      simp only [prtI]
      cases ρ1[j]? with
      | none => rfl
      | some s2 =>
        cases s2 with
        | own d2 =>
          cases d2 with
          | lst ds =>
            simp only [lstAt]
            cases atI ds k with
            | none => rfl
            | some d => exact s_e
          | _ => rfl
        | _ => rfl
    | _ => rfl
  | _ => rfl
/-! methods, walks, loops -/
theorem v_meth {j : Nat} {ma : M (List SV)} {k : List SV → M SV} : WpE (mMeth j ma k) ρ QS X = ownAt ρ[j]? (WpE ma ρ (fun ss ρ1 => WpE (k ss) ρ1 QS X) X) := by
  unfold mMeth
  show WpR (match ρ[j]? with | some (.own _) => _ | _ => none) QS X = _
  cases ρ[j]? with
  | none => rfl
  | some s =>
    cases s with
    | own d => exact v_bnd
    | _ => rfl
theorem v_append {j : Nat} {s : SV} : WpE (kAppend j [s]) ρ QS X = WpEsc s ρ fun d ρ1 => lstAt ρ1[j]? fun ds => ds.length < sizeLine ∧ QS (.fz .non) (ρ1.set j (.own (.lst (ds ++ [d])))) := by
  rw [← v_esc (X := fun _ _ => False)]
  unfold WpE kAppend
  simp only []
  cases h : esc s ρ with
  | none => rfl
  | some r =>
    cases r with
    | er e ρ1 => exact absurd h esc_er
    | ok d ρ1 =>
      simp only [WpR]
      cases ρ1[j]? with
      | none => rfl
      | some s =>
        cases s with
        | own d2 =>
          cases d2 with
          | lst ds => by_cases h : ds.length < sizeLine <;> simp [h, lstAt]
          | _ => rfl
        | _ => rfl
theorem v_reverse {j : Nat} : WpE (kReverse j []) ρ QS X = lstAt ρ[j]? fun ds => QS (.fz .non) (ρ.set j (.own (.lst ds.reverse))) := by
  unfold WpE kReverse
  simp only []
  cases ρ[j]? with
  | none => rfl
  | some s =>
    cases s with
    | own d2 => cases d2 <;> rfl
    | _ => rfl
theorem v_popAt {j : Nat} {k : Int} : WpE (kPopAt j [.fz (.int k)]) ρ QS X = lstAt ρ[j]? fun ds => WpO (ixN ds.length k) fun n => WpO ds[n]? fun d => rgOk k = true ∧ QS (.fz d) (ρ.set j (.own (.lst (ds.eraseIdx n)))) := by
  unfold WpE kPopAt
  simp only []
  cases ρ[j]? with
  | none => rfl
  | some s =>
    cases s with
    | own d2 =>
      cases d2 with
      | lst ds =>
        simp only [lstAt]
        cases ixN ds.length k with
        | none => rfl
        | some n =>
          simp only [WpO]
          cases ds[n]? with
          | none => rfl
          | some d => by_cases h : rgOk k = true <;> simp [h, WpR]
      | _ => rfl
    | _ => rfl
theorem v_rg1 {m : M SV} : WpE (mListRg1 m) ρ QS X = WpE m ρ (fun s ρ1 => prtI s fun j => (rgOk 0 && rgOk j && nlt (j - 0).toNat (2 ^ 24 + 1)) = true ∧ QS (.own (.lst (rgD 0 (j - 0).toNat))) ρ1) X := by
  unfold mListRg1; rw [v_bnd]; congr 1; funext s ρ1
  cases s with
  | fz d =>
    cases d with
    | int j =>
      show WpR (rgL 0 j ρ1) QS X = _
      unfold rgL
      split
      · rename_i h; simp only [prtI, h, true_and]; rfl
      · rename_i h; simp only [prtI, WpR, eq_iff_iff, false_iff]; exact fun z => h z.1
    | _ => rfl
  | _ => rfl
theorem v_items {m : M SV} {Q : List D → List SV → Prop} : WpE (mItems m) ρ Q X = WpE m ρ (fun s ρ1 => WpEsc s ρ1 fun d ρ2 => WpO (itD d) fun ds => Q ds ρ2) X := by
  unfold mItems; rw [v_bnd]; congr 1; funext s ρ1; rw [v_bnd, v_esc]; congr 1; funext d ρ2
  unfold WpE
  cases itD d <;> rfl
theorem v_enum {m : M SV} {Q : List D → List SV → Prop} : WpE (mEnum m) ρ Q X = WpE m ρ (fun s ρ1 => WpEsc s ρ1 fun d ρ2 => WpO (itD d) fun ds => Q (enumD 0 ds) ρ2) X := by
  unfold mEnum; rw [v_bnd]; congr 1; funext s ρ1; rw [v_bnd, v_esc]; congr 1; funext d ρ2
  unfold WpE
  cases itD d <;> rfl
theorem v_range1 {m : M SV} {Q : List D → List SV → Prop} : WpE (mRange1 m) ρ Q X = WpE m ρ (fun s ρ1 => prtI s fun j => rgOk j = true ∧ Q (rgD 0 j.toNat) ρ1) X := by
  unfold mRange1; rw [v_bnd]; congr 1; funext s ρ1
  cases s with
  | fz d =>
    cases d with
    | int j =>
      unfold WpE
      by_cases h : rgOk j = true <;> simp [h, WpR, prtI]
    | _ => rfl
  | _ => rfl
theorem v_range2 {m n : M SV} {Q : List D → List SV → Prop} : WpE (mRange2 m n) ρ Q X = WpE m ρ (fun s ρ1 => WpE n ρ1 (fun u ρ2 => prtI s fun i => prtI u fun j => (rgOk i && rgOk j) = true ∧ Q (rgD i (j - i).toNat) ρ2) X) X := by
  unfold mRange2; rw [v_bnd]; congr 1; funext s ρ1; rw [v_bnd]; congr 1; funext u ρ2
  cases s with
  | fz d =>
    cases d with
    | int i =>
      cases u with
      | fz e =>
        cases e with
        | int j =>
          unfold WpE
          by_cases h : (rgOk i && rgOk j) = true <;> simp [h, WpR, prtI]
        | _ => rfl
      | _ => rfl
    | _ => cases u <;> rfl
  | _ => cases u <;> rfl
theorem s_for {mi : M (List D)} {g : SV → List SV → Option (List SV)} {b : MS} : WpS (mFor mi g b) ρ K = WpE mi ρ (fun ds ρ1 => WpL g b ds ρ1 K) (fun e ρ1 => K (.er e ρ1)) := by
  unfold WpS mFor WpE
  cases mi ρ with
  | none => rfl
  | some r => cases r <;> rfl
theorem s_while {t : M Bool} {b : MS} {k : Nat} : WpS (whileN t b k) ρ K = WpW t b k ρ K := rfl
theorem l_nil {g : SV → List SV → Option (List SV)} {b : MS} : WpL g b [] ρ K = K (.nx ρ) := rfl
/-- what a turn's end means to the loop -/
def turnK (N : List SV → Prop) (K : SR → Prop) : SR → Prop
  | .nx ρ => N ρ
  | .ct ρ => N ρ
  | .bk ρ => K (.nx ρ)
  | .rt s ρ => K (.rt s ρ)
  | .er e ρ => K (.er e ρ)
theorem tu_nx {N : List SV → Prop} {K : SR → Prop} : turnK N K (.nx ρ) = N ρ := rfl
theorem tu_ct {N : List SV → Prop} {K : SR → Prop} : turnK N K (.ct ρ) = N ρ := rfl
theorem tu_bk {N : List SV → Prop} {K : SR → Prop} : turnK N K (.bk ρ) = K (.nx ρ) := rfl
theorem tu_rt {N : List SV → Prop} {K : SR → Prop} {s : SV} : turnK N K (.rt s ρ) = K (.rt s ρ) := rfl
theorem tu_er {N : List SV → Prop} {K : SR → Prop} {e : Ex} : turnK N K (.er e ρ) = K (.er e ρ) := rfl
theorem l_cons {g : SV → List SV → Option (List SV)} {b : MS} {d : D} {ds : List D} : WpL g b (d :: ds) ρ K = WpO (g (.fz d) ρ) fun ρ1 => WpS b ρ1 (turnK (fun ρ2 => WpL g b ds ρ2 K) K) := by
  unfold WpL WpS
  rw [mLoop]
  cases g (.fz d) ρ with
  | none => rfl
  | some ρ1 =>
    simp only [WpO]
    cases b ρ1 with
    | none => rfl
    | some r => cases r <;> rfl
theorem w_succ {t : M Bool} {b : MS} {k : Nat} : WpW t b (k + 1) ρ K = WpE t ρ (fun c ρ1 => brB c (WpS b ρ1 (turnK (fun ρ2 => WpW t b k ρ2 K) K)) (K (.nx ρ1))) (fun e ρ1 => K (.er e ρ1)) := by
  unfold WpW WpS WpE
  rw [whileN]
  cases t ρ with
  | none => rfl
  | some r =>
    cases r with
    | er e ρ1 => rfl
    | ok c ρ1 =>
      cases c with
      | false => simp [WpR, WpO, brB]
      | true =>
        simp only [WpR, br_true]
        cases b ρ1 with
        | none => rfl
        | some r => cases r <;> rfl
/-- a loop by its invariant: I so many items done, at these slots -/
theorem l_inv {g : SV → List SV → Option (List SV)} {b : MS} {ds : List D} (I : Nat → List SV → Prop) (h0 : I 0 ρ) (hs : ∀ i d ρ, ds[i]? = some d → I i ρ → WpO (g (.fz d) ρ) fun ρ1 => WpS b ρ1 (turnK (I (i + 1)) K)) (hd : ∀ ρ, I ds.length ρ → K (.nx ρ)) : WpL g b ds ρ K := by
  have key : ∀ (n i : Nat) (ρ : List SV), ds.length - i = n → i ≤ ds.length → I i ρ → WpL g b (ds.drop i) ρ K := by
    intro n
    induction n with
    | zero =>
      intro i ρ h1 h2 h3
      have : i = ds.length := by omega
      subst this
      rw [List.drop_length, l_nil]
      exact hd ρ h3
    | succ n ih =>
      intro i ρ h1 h2 h3
      have hlt : i < ds.length := by omega
      rw [List.drop_eq_getElem_cons hlt, l_cons]
      have q := hs i ds[i] ρ (by simp [hlt]) h3
      cases eg : g (.fz ds[i]) ρ with
      | none => rw [eg] at q; exact q
      | some ρ1 =>
        rw [eg] at q
        simp only [WpO, WpS] at q ⊢
        cases eb : b ρ1 with
        | none => rw [eb] at q; exact q
        | some r =>
          rw [eb] at q
          cases r with
          | nx ρ2 => exact ih (i + 1) ρ2 (by omega) (by omega) q
          | ct ρ2 => exact ih (i + 1) ρ2 (by omega) (by omega) q
          | _ => exact q
  have := key ds.length 0 ρ rfl (Nat.zero_le _) h0
  rwa [List.drop_zero] at this
theorem w_inv {t : M Bool} {b : MS} (I : Nat → List SV → Prop) : ∀ {k : Nat} {ρ : List SV}, I k ρ → (∀ k ρ, I k ρ → WpE t ρ (fun c ρ1 => brB c (0 < k ∧ WpS b ρ1 (turnK (I (k - 1)) K)) (K (.nx ρ1))) (fun e ρ1 => K (.er e ρ1))) → WpW t b (k + 1) ρ K
  | k, ρ, h0, hs => by
    rw [w_succ]
    have q := hs k ρ h0
    unfold WpE WpR at q ⊢
    cases et : t ρ with
    | none => rw [et] at q; exact q
    | some r =>
      rw [et] at q
      cases r with
      | er e ρ1 => exact q
      | ok c ρ1 =>
        cases c with
        | false => simpa [brB] using q
        | true =>
          simp only [br_true] at q ⊢
          obtain ⟨hk, q⟩ := q
          obtain ⟨k, rfl⟩ : ∃ j, k = j + 1 := ⟨k - 1, by omega⟩
          unfold WpS WpO at q ⊢
          cases eb : b ρ1 with
          | none => rw [eb] at q; exact q
          | some r =>
            rw [eb] at q
            cases r with
            | nx ρ2 => exact w_inv I q hs
            | ct ρ2 => exact w_inv I q hs
            | _ => exact q
/-! comprehensions -/
theorem v_lc {ns : List Nat} {mi : M (List D)} {g : SV → List SV → Option (List SV)} {t : M Bool} {e : M SV} : WpE (mLc ns mi g t e) ρ QS X = WpE mi ρ (fun ds ρ1 => WpM ns g t e ds (wipeD ρ1 ns) [] fun acc ρ2 => QS (.own (.lst acc)) ρ2) X := by
  unfold WpE mLc
  cases mi ρ with
  | none => rfl
  | some r =>
    cases r with
    | er e ρ1 => rfl
    | ok ds ρ1 =>
      simp only [WpR]
      unfold WpM
      cases lcLoop ns g t e ds (wipeD ρ1 ns) [] with
      | none => rfl
      | some x => rfl
theorem m_nil {ns : List Nat} {g : SV → List SV → Option (List SV)} {t : M Bool} {e : M SV} {acc : List D} {Q : List D → List SV → Prop} : WpM ns g t e [] ρ acc Q = Q acc ρ := rfl
theorem m_cons {ns : List Nat} {g : SV → List SV → Option (List SV)} {t : M Bool} {e : M SV} {d : D} {ds acc : List D} {Q : List D → List SV → Prop} (h : WpO (g (.fz d) ρ) fun ρ1 => WpE t ρ1 (fun c ρ2 => brB c
      (WpE e ρ2 (fun s ρ3 => WpEsc s ρ3 fun y ρ4 => acc.length < sizeLine ∧ WpM ns g t e ds (wipeD ρ4 ns) (acc ++ [y]) Q) (fun _ _ => False)) (WpM ns g t e ds (wipeD ρ2 ns) acc Q)) (fun _ _ => False)) : WpM ns g t e (d :: ds) ρ acc Q := by
  unfold WpM lcLoop
  unfold WpM at h
  cases eg : g (.fz d) ρ with
  | none => rw [eg] at h; exact h
  | some ρ1 =>
    rw [eg] at h
    simp only [WpO, WpE] at h
    simp only []
    cases et : t ρ1 with
    | none => rw [et] at h; exact h.elim
    | some r =>
      rw [et] at h
      cases r with
      | er x ρ2 => exact h.elim
      | ok c ρ2 =>
        cases c with
        | false => simpa [WpR, brB] using h
        | true =>
          simp only [WpR, br_true] at h
          simp only []
          cases ee : e ρ2 with
          | none => rw [ee] at h; exact h.elim
          | some r =>
            rw [ee] at h
            cases r with
            | er x ρ2 => exact h.elim
            | ok s ρ3 =>
              simp only [] at h
              rw [← v_esc (X := fun _ _ => False)] at h
              unfold WpE at h
              dsimp only at h ⊢
              cases es : esc s ρ3 with
              | none => rw [es] at h; exact h.elim
              | some r =>
                rw [es] at h
                cases r with
                | er x ρ2 => exact h.elim
                | ok y ρ4 =>
                  simp only [WpR] at h
                  dsimp only
                  rw [if_pos h.1]
                  exact h.2
/-- a comprehension by its invariant: I so many items done, made so far, at these slots -/
theorem m_inv {ns : List Nat} {g : SV → List SV → Option (List SV)} {t : M Bool} {e : M SV} {ds : List D} {Q : List D → List SV → Prop} (I : Nat → List D → List SV → Prop) {acc : List D} (h0 : I 0 acc ρ) (hs : ∀ i d acc ρ, ds[i]? = some d → I i acc ρ →
      WpO (g (.fz d) ρ) fun ρ1 => WpE t ρ1 (fun c ρ2 => brB c (WpE e ρ2 (fun s ρ3 => WpEsc s ρ3 fun y ρ4 => acc.length < sizeLine ∧ I (i + 1) (acc ++ [y]) (wipeD ρ4 ns)) (fun _ _ => False)) (I (i + 1) acc (wipeD ρ2 ns))) (fun _ _ => False))
    (hd : ∀ acc ρ, I ds.length acc ρ → Q acc ρ) : WpM ns g t e ds ρ acc Q := by
  have key : ∀ (n i : Nat) (acc : List D) (ρ : List SV), ds.length - i = n → i ≤ ds.length → I i acc ρ → WpM ns g t e (ds.drop i) ρ acc Q := by
    intro n
    induction n with
    | zero =>
      intro i acc ρ h1 h2 h3
      have : i = ds.length := by omega
      subst this
      rw [List.drop_length, m_nil]
      exact hd acc ρ h3
    | succ n ih =>
      intro i acc ρ h1 h2 h3
      have hlt : i < ds.length := by omega
      rw [List.drop_eq_getElem_cons hlt]
      refine m_cons ?_
      have q := hs i ds[i] acc ρ (by simp [hlt]) h3
      revert q
      have up : ∀ acc ρ, I (i + 1) acc ρ → WpM ns g t e (ds.drop (i + 1)) ρ acc Q := fun acc ρ z => ih (i + 1) acc ρ (by omega) (by omega) z
      cases eg : g (.fz ds[i]) ρ with
      | none => exact id
      | some ρ1 =>
        simp only [WpO, WpE]
        cases et : t ρ1 with
        | none => exact id
        | some r =>
          cases r with
          | er x ρ2 => exact id
          | ok c ρ2 =>
            cases c with
            | false => simpa [WpR, brB] using up acc _
            | true =>
              simp only [WpR, br_true]
              cases ee : e ρ2 with
              | none => exact id
              | some r =>
                cases r with
                | er x ρ2 => exact id
                | ok s ρ3 =>
                  simp only [← v_esc (X := fun _ _ => False)]
                  unfold WpE
                  cases es : esc s ρ3 with
                  | none => exact id
                  | some r =>
                    cases r with
                    | er x ρ2 => exact id
                    | ok y ρ4 => exact fun z => ⟨z.1, up _ _ z.2⟩
  have := key ds.length 0 acc ρ rfl (Nat.zero_le _) h0
  rwa [List.drop_zero] at this
/-! defs -/
theorem c_of {g : Fn} {as : List SV} {r : FRes} {Q : SV → List SV → Prop} {X : Ex → List SV → Prop} (e : g as = some r) (h : match r with | .ok r o => Q r o | .er x o => X x o) : WpC g as Q X := by
  unfold WpC; rw [e]
  cases r <;> exact h
theorem c_ok {g : Fn} {as : List SV} {r : SV} {o : List SV} {Q : SV → List SV → Prop} {X : Ex → List SV → Prop} (e : g as = some (.ok r o)) (h : Q r o) : WpC g as Q X := by
  unfold WpC; rw [e]; exact h
/-- what a def's end hands back -/
def finK (io : List Bool) (Q : SV → List SV → Prop) (X : Ex → List SV → Prop) : SR → Prop
  | .rt (.fz d) ρ => WpO (outsOf io ρ) (Q (.fz d))
  | .rt (.own d) ρ => WpO (outsOf io ρ) (Q (.own d))
  | .rt (.box d) ρ => WpO (outsOf io ρ) (Q (.box d))
  | .rt (.loc i) ρ => match ρ[i]? with
    | some (.own d) => WpO (outsOf io (ρ.set i .un)) (Q (.own d))
    | some (.box d) => WpO (outsOf io (ρ.set i .un)) (Q (.box d))
    | some (.fz d) => WpO (outsOf io ρ) (Q (.fz d))
    | _ => False
  | .nx ρ => WpO (outsOf io ρ) (Q (.fz .non))
  | .er e ρ => WpO (outsOf io ρ) (X e)
  | _ => False
def finL (io : List Bool) (i : Nat) (ρ : List SV) (o : Option SV) (Q : SV → List SV → Prop) : Prop := match o with
  | some (.own d) => WpO (outsOf io (ρ.set i .un)) (Q (.own d))
  | some (.box d) => WpO (outsOf io (ρ.set i .un)) (Q (.box d))
  | some (.fz d) => WpO (outsOf io ρ) (Q (.fz d))
  | _ => False
theorem fk_box {io : List Bool} {Q : SV → List SV → Prop} {X : Ex → List SV → Prop} {d : D} : finK io Q X (.rt (.box d) ρ) = WpO (outsOf io ρ) (Q (.box d)) := rfl
theorem fl_box {io : List Bool} {Q : SV → List SV → Prop} {i : Nat} {d : D} : finL io i ρ (some (.box d)) Q = WpO (outsOf io (ρ.set i .un)) (Q (.box d)) := rfl
theorem fk_fz {io : List Bool} {Q : SV → List SV → Prop} {X : Ex → List SV → Prop} {d : D} : finK io Q X (.rt (.fz d) ρ) = WpO (outsOf io ρ) (Q (.fz d)) := rfl
theorem fk_own {io : List Bool} {Q : SV → List SV → Prop} {X : Ex → List SV → Prop} {d : D} : finK io Q X (.rt (.own d) ρ) = WpO (outsOf io ρ) (Q (.own d)) := rfl
theorem fk_loc {io : List Bool} {Q : SV → List SV → Prop} {X : Ex → List SV → Prop} {i : Nat} : finK io Q X (.rt (.loc i) ρ) = finL io i ρ ρ[i]? Q := rfl
theorem fl_own {io : List Bool} {Q : SV → List SV → Prop} {i : Nat} {d : D} : finL io i ρ (some (.own d)) Q = WpO (outsOf io (ρ.set i .un)) (Q (.own d)) := rfl
theorem fl_fz {io : List Bool} {Q : SV → List SV → Prop} {i : Nat} {d : D} : finL io i ρ (some (.fz d)) Q = WpO (outsOf io ρ) (Q (.fz d)) := rfl
theorem fk_nx {io : List Bool} {Q : SV → List SV → Prop} {X : Ex → List SV → Prop} : finK io Q X (.nx ρ) = WpO (outsOf io ρ) (Q (.fz .non)) := rfl
theorem fk_er {io : List Bool} {Q : SV → List SV → Prop} {X : Ex → List SV → Prop} {e : Ex} : finK io Q X (.er e ρ) = WpO (outsOf io ρ) (X e) := rfl
theorem oo_nil : outsOf [] ρ = some [] := by unfold outsOf; rfl
theorem oo_T {bs : List Bool} {d : D} : outsOf (true :: bs) (.own d :: ρ) = (outsOf bs ρ).map (.own d :: ·) := rfl
theorem oo_X {bs : List Bool} {d : D} : outsOf (true :: bs) (.box d :: ρ) = (outsOf bs ρ).map (.box d :: ·) := rfl
theorem oo_F {bs : List Bool} {s : SV} : outsOf (false :: bs) (s :: ρ) = (outsOf bs ρ).map (.un :: ·) := rfl
def WpF (f : Option FRes) (Q : SV → List SV → Prop) (X : Ex → List SV → Prop) : Prop := match f with
  | some (.ok r o) => Q r o
  | some (.er e o) => X e o
  | none => False
theorem wf_ok {o : Option (List SV)} {s : SV} {Q : SV → List SV → Prop} {X : Ex → List SV → Prop} : WpF (o.map (.ok s)) Q X = WpO o (Q s) := by cases o <;> rfl
theorem wf_er {o : Option (List SV)} {e : Ex} {Q : SV → List SV → Prop} {X : Ex → List SV → Prop} : WpF (o.map (.er e)) Q X = WpO o (X e) := by cases o <;> rfl
theorem wf_fin {io : List Bool} {r : SR} {Q : SV → List SV → Prop} {X : Ex → List SV → Prop} (h : finK io Q X r) : WpF (fin io (some r)) Q X := by
  cases r with
  | rt s ρ =>
    cases s with
    | fz d => show WpF (Option.map _ _) Q X; rw [wf_ok]; exact h
    | own d => show WpF (Option.map _ _) Q X; rw [wf_ok]; exact h
    | box d => show WpF (Option.map _ _) Q X; rw [wf_ok]; exact h
    | loc i =>
      rw [fk_loc] at h
      unfold fin
      dsimp only
      cases hr : ρ[i]? with
      | none => rw [hr] at h; exact h.elim
      | some s =>
        rw [hr] at h
        cases s with
        | own d => dsimp only; rw [wf_ok]; exact h
        | box d => dsimp only; rw [wf_ok]; exact h
        | fz d => dsimp only; rw [wf_ok]; exact h
        | _ => exact h.elim
    | un => exact h.elim
  | nx ρ => show WpF (Option.map _ _) Q X; rw [wf_ok]; exact h
  | er x ρ => show WpF (Option.map _ _) Q X; rw [wf_er]; exact h
  | _ => exact h.elim
/-- a def by its body -/
theorem c_fin {io : List Bool} {g : Fn} {m : MS} {as : List SV} {un : List SV} {Q : SV → List SV → Prop} {X : Ex → List SV → Prop} (e : g as = fin io (m (as ++ un))) (h : WpS m (as ++ un) (finK io Q X)) : WpC g as Q X := by
  show WpF (g as) Q X; rw [e]
  unfold WpS at h
  cases em : m (as ++ un) with
  | none => rw [em] at h; exact h.elim
  | some r => rw [em] at h; exact wf_fin h
/-- .. of which no exception comes -/
theorem c_fin0 {io : List Bool} {g : Fn} {m : MS} {as : List SV} {un : List SV} {Q : SV → List SV → Prop} {X : Ex → List SV → Prop} (e : g as = fin0 io (m (as ++ un))) (h : WpS m (as ++ un) (finK io Q fun _ _ => False)) : WpC g as Q X := by
  show WpF (g as) Q X; rw [e]
  unfold WpS at h
  cases em : m (as ++ un) with
  | none => rw [em] at h; exact h.elim
  | some r =>
    rw [em] at h
    have h2 : WpF (fin io (some r)) Q fun _ _ => False := wf_fin h
    cases r with
    | er x ρ =>
      have h3 : finK io Q (fun _ _ => False) (.er x ρ) := h
      rw [fk_er] at h3
      cases ho : outsOf io ρ with
      | none => rw [ho] at h3; exact h3.elim
      | some o => rw [ho] at h3; exact h3.elim
    | _ =>
      unfold fin0
      dsimp only
      revert h2
      generalize fin io _ = f
      cases f with
      | none => exact id
      | some r => cases r with
        | ok _ _ => exact id
        | er _ _ => exact False.elim
/-- from what is wanted back to the equation -/
theorem c_eq {g : Fn} {as : List SV} {P : SV → List SV → Prop} (h : WpC g as P fun _ _ => False) : ∃ r o, g as = some (.ok r o) ∧ P r o := by
  unfold WpC at h
  cases e : g as with
  | none => rw [e] at h; exact h.elim
  | some x =>
    rw [e] at h
    cases x with
    | ok r o => exact ⟨r, o, rfl, h⟩
    | er _ _ => exact h.elim
theorem c_mono {g : Fn} {as : List SV} {P Q : SV → List SV → Prop} {X Y : Ex → List SV → Prop} (h : WpC g as P X) (hq : ∀ r o, P r o → Q r o) (hx : ∀ e o, X e o → Y e o) : WpC g as Q Y := by
  unfold WpC at h ⊢
  revert h
  cases g as with
  | none => exact id
  | some x => cases x with
    | ok r o => exact hq r o
    | er e o => exact hx e o
theorem s_mono {m : MS} {K' : SR → Prop} (h : WpS m ρ K') (hk : ∀ r, K' r → K r) : WpS m ρ K := by
  unfold WpS at h ⊢
  revert h
  cases m ρ with
  | none => exact id
  | some r => exact hk r
end
end DL

set_option Elab.async false
set_option linter.all false
set_option maxRecDepth 100000
/-! The data layer: the rules for simp at the head alone (Go), what the built-ins say of data. -/
namespace DL
open PySem PySem.Spec PyProof.Rows L2
def Go (P : Prop) : Prop := P
theorem go {P : Prop} (h : Go P) : P := h
theorem g_and {a b : Prop} : Go (a ∧ b) = (a ∧ Go b) := rfl
theorem g_imp {a b : Prop} : Go (a → b) = (a → Go b) := rfl
theorem g_true : Go True = True := rfl
theorem g_dec {c : Prop} [Decidable c] {A B : Prop} : Go (brB (decide c) A B) = ((c → Go A) ∧ (¬ c → Go B)) := br_dec
theorem g_iteT {A B : Prop} : Go (if True then A else B) = Go A := by simp
theorem g_iteTT {A B : Prop} : Go (if true = true then A else B) = Go A := by simp
theorem g_iteFF {A B : Prop} : Go (if false = true then A else B) = Go B := by simp
section
variable {α β : Type} {ρ : List SV} {Q : α → List SV → Prop} {X : Ex → List SV → Prop} {K : SR → Prop} {QS : SV → List SV → Prop}
theorem gwo_some {a : α} {Q : α → Prop} : Go (WpO (some a) Q) = Go (Q a) := congrArg Go wo_some
theorem gwo_none {Q : α → Prop} : Go (WpO none Q) = Go (False) := congrArg Go wo_none
theorem gwo_ite {c : Prop} [Decidable c] {o : Option α} {Q : α → Prop} : Go (WpO (if c then o else none) Q) = Go ((c ∧ WpO o Q)) := congrArg Go wo_ite
theorem gwo_map {f : α → β} {o : Option α} {Q : β → Prop} : Go (WpO (o.map f) Q) = Go (WpO o fun a => Q (f a)) := congrArg Go wo_map
theorem gwb_imm {d : D} : Go (WpB (some (.imm d)) ρ QS) = Go (QS (.fz d) ρ) := congrArg Go wb_imm
theorem gwb_newL {d : List D} : Go (WpB (some (.newL d)) ρ QS) = Go (QS (.own (.lst d)) ρ) := congrArg Go wb_newL
theorem gwb_newT {d : List D} : Go (WpB (some (.newT d)) ρ QS) = Go (QS (.fz (.tup d)) ρ) := congrArg Go wb_newT
theorem gwb_anyT {d : List D} : Go (WpB (some (.anyT d)) ρ QS) = Go (QS (.fz (.tup d)) ρ) := congrArg Go wb_anyT
theorem gwb_ite {c : Prop} [Decidable c] {b : Option BR} : Go (WpB (if c then b else none) ρ QS) = Go ((c ∧ WpB b ρ QS)) := congrArg Go wb_ite
theorem gwb_map {f : α → BR} {o : Option α} : Go (WpB (o.map f) ρ QS) = Go (WpO o fun a => WpB (some (f a)) ρ QS) := congrArg Go wb_map
theorem gv_bnd {m : M α} {f : α → M β} {Q : β → List SV → Prop} : Go (WpE (m.bnd f) ρ Q X) = Go (WpE m ρ (fun a ρ' => WpE (f a) ρ' Q X) X) := congrArg Go v_bnd
theorem gv_ret {a : α} : Go (WpE (ret a) ρ Q X) = Go (Q a ρ) := congrArg Go v_ret
theorem gv_c {d : D} : Go (WpE (mC d) ρ QS X) = Go (QS (.fz d) ρ) := congrArg Go v_c
theorem gv_var {cv : Nat → Bool} {i : Nat} : Go (WpE (mVar cv i) ρ QS X) = Go (WpV cv i ρ ρ[i]? QS) := congrArg Go v_var
theorem gwv_fz {cv : Nat → Bool} {i : Nat} {d : D} : Go (WpV cv i ρ (some (.fz d)) QS) = Go (QS (.fz d) ρ) := congrArg Go wv_fz
theorem gwv_own {cv : Nat → Bool} {i : Nat} {d : D} : Go (WpV cv i ρ (some (.own d)) QS) = Go ((cv i = false ∧ QS (.loc i) ρ)) := congrArg Go wv_own
theorem gwv_box {cv : Nat → Bool} {i : Nat} {d : D} : Go (WpV cv i ρ (some (.box d)) QS) = Go ((cv i = false ∧ QS (.loc i) ρ)) := congrArg Go wv_box
theorem gv_bin {sem : SV → SV → M SV} {a b : M SV} : Go (WpE (mBin sem a b) ρ QS X) = Go (WpE a ρ (fun x ρ1 => WpE b ρ1 (fun y ρ2 => WpE (sem x y) ρ2 QS X) X) X) := congrArg Go v_bin
theorem gwb_bres {b : Option BR} : Go (WpR (bres b ρ) QS X) = Go (WpB b ρ QS) := congrArg Go wb_bres
theorem gv_lift1 {f : D → Option BR} {s : SV} : Go (WpE (lift1 f s) ρ QS X) = Go (WpO (con ρ s) fun d => WpB (f d) ρ QS) := congrArg Go v_lift1
theorem gv_lift2 {f : D → D → Option BR} {s t : SV} : Go (WpE (lift2 f s t) ρ QS X) = Go (WpO (con ρ s) fun d => WpO (con ρ t) fun e => WpB (f d e) ρ QS) := congrArg Go v_lift2
theorem gv_liftN {f : List D → Option BR} {ss : List SV} : Go (WpE (liftN f ss) ρ QS X) = Go (WpO (cons ρ ss) fun ds => WpB (f ds) ρ QS) := congrArg Go v_liftN
theorem gv_un {f : D → Option BR} {m : M SV} : Go (WpE (mUn f m) ρ QS X) = Go (WpE m ρ (fun s ρ' => WpE (lift1 f s) ρ' QS X) X) := congrArg Go v_un
theorem gv_callB {f : List D → Option BR} {m : M (List SV)} : Go (WpE (mCallB f m) ρ QS X) = Go (WpE m ρ (fun s ρ' => WpE (liftN f s) ρ' QS X) X) := congrArg Go v_callB
theorem gv_nil {Q : List SV → List SV → Prop} : Go (WpE mNil ρ Q X) = Go (Q [] ρ) := congrArg Go v_nil
theorem gv_cons {m : M SV} {ms : M (List SV)} {Q : List SV → List SV → Prop} : Go (WpE (mCons m ms) ρ Q X) = Go (WpE m ρ (fun s ρ1 => WpE ms ρ1 (fun ss ρ2 => Q (s :: ss) ρ2) X) X) := congrArg Go v_cons
theorem gts_bl {b : Bool} {K : Bool → Prop} : Go (tstB (.fz (.bl b)) K) = Go (K b) := congrArg Go ts_bl
theorem gv_test {m : M SV} {Q : Bool → List SV → Prop} : Go (WpE (mTest m) ρ Q X) = Go (WpE m ρ (fun s ρ' => tstB s fun b => Q b ρ') X) := congrArg Go v_test
theorem gv_tru {m : M SV} {Q : Bool → List SV → Prop} : Go (WpE (mTru m) ρ Q X) = Go (WpE m ρ (fun s ρ' => WpO (con ρ' s) fun d => WpO (truD d) fun b => Q b ρ') X) := congrArg Go v_tru
theorem gv_not {m : M Bool} {Q : Bool → List SV → Prop} : Go (WpE (mNot m) ρ Q X) = Go (WpE m ρ (fun b ρ' => Q (!b) ρ') X) := congrArg Go v_not
theorem gbr_true {A B : Prop} : Go (brB true A B) = Go (A) := congrArg Go br_true
theorem gbr_false {A B : Prop} : Go (brB false A B) = Go (B) := congrArg Go br_false
theorem gbr_dec {c : Prop} [Decidable c] {A B : Prop} : Go (brB (decide c) A B) = Go (((c → A) ∧ (¬ c → B))) := congrArg Go br_dec
theorem gbr_not {b : Bool} {A B : Prop} : Go (brB (!b) A B) = Go (brB b B A) := congrArg Go br_not
theorem gv_and {m n : M Bool} {Q : Bool → List SV → Prop} : Go (WpE (mAnd m n) ρ Q X) = Go (WpE m ρ (fun b ρ' => brB b (WpE n ρ' Q X) (Q false ρ')) X) := congrArg Go v_and
theorem gv_or {m n : M Bool} {Q : Bool → List SV → Prop} : Go (WpE (mOr m n) ρ Q X) = Go (WpE m ρ (fun b ρ' => brB b (Q true ρ') (WpE n ρ' Q X)) X) := congrArg Go v_or
theorem gv_andV {m n : M SV} : Go (WpE (mAndV m n) ρ QS X) = Go (WpE m ρ (fun s ρ' => tstB s fun b => brB b (WpE n ρ' QS X) (QS (.fz (.bl false)) ρ')) X) := congrArg Go v_andV
theorem gv_orV {m n : M SV} : Go (WpE (mOrV m n) ρ QS X) = Go (WpE m ρ (fun s ρ' => tstB s fun b => brB b (QS (.fz (.bl true)) ρ') (WpE n ρ' QS X)) X) := congrArg Go v_orV
theorem gv_notV {m : M SV} : Go (WpE (mNotV m) ρ QS X) = Go (WpE m ρ (fun s ρ' => tstB s fun b => QS (.fz (.bl (!b))) ρ') X) := congrArg Go v_notV
theorem gv_ifE {t : M Bool} {m n : M SV} : Go (WpE (mIfE t m n) ρ QS X) = Go (WpE t ρ (fun b ρ' => brB b (WpE m ρ' QS X) (WpE n ρ' QS X)) X) := congrArg Go v_ifE
theorem gv_tup {ma : M (List SV)} : Go (WpE (mTup ma) ρ QS X) = Go (WpE ma ρ (fun ss ρ1 => WpE (escs ss) ρ1 (fun ds ρ2 => ds.length ≤ sizeLine ∧ QS (.fz (.tup ds)) ρ2) X) X) := congrArg Go v_tup
theorem gv_lst {ma : M (List SV)} : Go (WpE (mLst ma) ρ QS X) = Go (WpE ma ρ (fun ss ρ1 => WpE (escs ss) ρ1 (fun ds ρ2 => ds.length ≤ sizeLine ∧ QS (.own (.lst ds)) ρ2) X) X) := congrArg Go v_lst
theorem gwe_box {C : Str} {fs : List Str} {ds : List D} {Q : D → List SV → Prop} : Go (WpEsc (.box (.obj C fs ds)) ρ Q) = Go (Q (.obj C fs ds) ρ) := congrArg Go we_box
theorem gwel_box {i : Nat} {C : Str} {fs : List Str} {ds : List D} {Q : D → List SV → Prop} : Go (WpEscL i ρ (some (.box (.obj C fs ds))) Q) = Go (Q (.obj C fs ds) (ρ.set i (.fz (.obj C fs ds)))) := congrArg Go wel_box
theorem gwe_fz {d : D} {Q : D → List SV → Prop} : Go (WpEsc (.fz d) ρ Q) = Go (Q d ρ) := congrArg Go we_fz
theorem gwe_own {d : D} {Q : D → List SV → Prop} : Go (WpEsc (.own d) ρ Q) = Go (Q d ρ) := congrArg Go we_own
theorem gwe_loc {i : Nat} {Q : D → List SV → Prop} : Go (WpEsc (.loc i) ρ Q) = Go (WpEscL i ρ ρ[i]? Q) := congrArg Go we_loc
theorem gwel_own {i : Nat} {d : D} {Q : D → List SV → Prop} : Go (WpEscL i ρ (some (.own d)) Q) = Go (Q d (ρ.set i (.fz d))) := congrArg Go wel_own
theorem gwel_fz {i : Nat} {d : D} {Q : D → List SV → Prop} : Go (WpEscL i ρ (some (.fz d)) Q) = Go (Q d ρ) := congrArg Go wel_fz
theorem gv_esc {s : SV} {Q : D → List SV → Prop} : Go (WpE (esc s) ρ Q X) = Go (WpEsc s ρ Q) := congrArg Go v_esc
theorem gv_escs_nil {Q : List D → List SV → Prop} : Go (WpE (escs []) ρ Q X) = Go (Q [] ρ) := congrArg Go v_escs_nil
theorem gv_escs_cons {s : SV} {ss : List SV} {Q : List D → List SV → Prop} : Go (WpE (escs (s :: ss)) ρ Q X) = Go (WpEsc s ρ fun d ρ1 => WpE (escs ss) ρ1 (fun ds ρ2 => Q (d :: ds) ρ2) X) := congrArg Go v_escs_cons
theorem gpi_int {i : Int} {K : Int → Prop} : Go (prtI (.fz (.int i)) K) = Go (K i) := congrArg Go pi_int
theorem gv_part {m : M SV} {Q : Option Int → List SV → Prop} : Go (WpE (mPart m) ρ Q X) = Go (WpE m ρ (fun s ρ' => prtI s fun i => Q (some i) ρ') X) := congrArg Go v_part
theorem gv_noPart {Q : Option Int → List SV → Prop} : Go (WpE mNoPart ρ Q X) = Go (Q none ρ) := congrArg Go v_noPart
theorem gv_sl {m : M SV} {ml mh : M (Option Int)} : Go (WpE (mSl m ml mh) ρ QS X) = Go (WpE m ρ (fun s ρ1 => WpE ml ρ1 (fun lo ρ2 => WpE mh ρ2 (fun hi ρ3 => WpO (con ρ3 s) fun d => WpB (fSl lo hi d) ρ3 QS) X) X) X) := congrArg Go v_sl
theorem gv_isi {Ts : List Ty} {m : M SV} : Go (WpE (mIsi Ts m) ρ QS X) = Go (WpE m ρ (fun s ρ' => WpO (con ρ' s) fun d => WpO (tyD d) fun t => QS (.fz (.bl (Ts.any (isT t)))) ρ') X) := congrArg Go v_isi
theorem grv_box {d : D} {A : Prop} : Go (retV (.box d) A) = Go (A) := congrArg Go rv_box
theorem grv_fz {d : D} {A : Prop} : Go (retV (.fz d) A) = Go (A) := congrArg Go rv_fz
theorem grv_own {d : D} {A : Prop} : Go (retV (.own d) A) = Go (A) := congrArg Go rv_own
theorem gv_callT {io : List Bool} {g : Fn} {svs : List SV} : Go (WpE (mCallT io g svs) ρ QS X) = Go (WpE (prep io svs) ρ (fun as ρ1 => WpC g as (fun rv outs => retV rv (WpO (give io svs outs ρ1) fun ρ2 => QS rv ρ2)) (fun e outs => WpO (give io svs outs ρ1) fun ρ2 => X e ρ2)) X) := congrArg Go v_callT
theorem gv_call {io : List Bool} {g : Fn} {ma : M (List SV)} : Go (WpE (mCall io g ma) ρ QS X) = Go (WpE ma ρ (fun svs ρ0 => WpE (prep io svs) ρ0 (fun as ρ1 => WpC g as (fun rv outs => retV rv (WpO (give io svs outs ρ1) fun ρ2 => QS rv ρ2)) (fun e outs => WpO (give io svs outs ρ1) fun ρ2 => X e ρ2)) X) X) := congrArg Go v_call
theorem gv_prep_nil {Q : List SV → List SV → Prop} : Go (WpE (prep [] []) ρ Q X) = Go (Q [] ρ) := congrArg Go v_prep_nil
theorem gp1_box {d : D} : Go (prep1K true (.box d) ρ QS) = Go (QS (.box d) ρ) := congrArg Go p1_box
theorem gpl_box {i : Nat} {d : D} : Go (prepL true i ρ (some (.box d)) QS) = Go (QS (.box d) (ρ.set i .un)) := congrArg Go pl_box
theorem gp1_fz {b : Bool} {d : D} : Go (prep1K b (.fz d) ρ QS) = Go (QS (.fz d) ρ) := congrArg Go p1_fz
theorem gp1_ownT {d : D} : Go (prep1K true (.own d) ρ QS) = Go (QS (.own d) ρ) := congrArg Go p1_ownT
theorem gp1_ownF {d : D} : Go (prep1K false (.own d) ρ QS) = Go (QS (.fz d) ρ) := congrArg Go p1_ownF
theorem gp1_loc {b : Bool} {i : Nat} : Go (prep1K b (.loc i) ρ QS) = Go (prepL b i ρ ρ[i]? QS) := congrArg Go p1_loc
theorem gpl_ownT {i : Nat} {d : D} : Go (prepL true i ρ (some (.own d)) QS) = Go (QS (.own d) (ρ.set i .un)) := congrArg Go pl_ownT
theorem gpl_ownF {i : Nat} {d : D} : Go (prepL false i ρ (some (.own d)) QS) = Go (QS (.fz d) (ρ.set i (.fz d))) := congrArg Go pl_ownF
theorem gpl_fzF {i : Nat} {d : D} : Go (prepL false i ρ (some (.fz d)) QS) = Go (QS (.fz d) ρ) := congrArg Go pl_fzF
theorem gv_prep1 {b : Bool} {s : SV} : Go (WpE (prep1 b s) ρ QS X) = Go (prep1K b s ρ QS) := congrArg Go v_prep1
theorem gv_prep_cons {b : Bool} {bs : List Bool} {s : SV} {ss : List SV} {Q : List SV → List SV → Prop} : Go (WpE (prep (b :: bs) (s :: ss)) ρ Q X) = Go (prep1K b s ρ fun a ρ1 => WpE (prep bs ss) ρ1 (fun as ρ2 => Q (a :: as) ρ2) X) := congrArg Go v_prep_cons
theorem glk_fz {d : D} {B : Prop} : Go (lendK (.fz d) ρ QS B) = Go (if nolist d = true then QS (.fz d) ρ else B) := congrArg Go lk_fz
theorem glk_own {ds : List D} {B : Prop} : Go (lendK (.own (.lst ds)) ρ QS B) = Go (if nolists ds = true then QS (.own (.lst ds)) ρ else B) := congrArg Go lk_own
theorem gv_callP {n : Nat} {g : Fn} {ma : M (List SV)} : Go (WpE (mCallP n g ma) ρ QS X) = Go (WpE ma ρ (fun svs ρ0 => (svs.length = n ∧ svs.all (lendOk ρ0) = true) ∧ WpO (cons ρ0 svs) fun ds => WpC g (ds.map .fz)
    (fun rv _ => lendK rv ρ0 QS (WpE (mCallT (List.replicate svs.length false) g svs) ρ0 QS X)) (fun e _ => if nolists (e.fs.map (·.2)) = true then X e ρ0 else WpE (mCallT (List.replicate svs.length false) g svs) ρ0 QS X)) X) := congrArg Go v_callP
theorem gs_seq {a b : MS} : Go (WpS (mSeq a b) ρ K) = Go (WpS a ρ fun r => match r with
    | .nx ρ' => WpS b ρ' K
    | r => K r) := congrArg Go s_seq
theorem gs_next : Go (WpS mNext ρ K) = Go (K (.nx ρ)) := congrArg Go s_next
theorem gs_pass : Go (WpS mPass ρ K) = Go (K (.nx ρ)) := congrArg Go s_pass
theorem gs_brk : Go (WpS mBrk ρ K) = Go (K (.bk ρ)) := congrArg Go s_brk
theorem gs_cnt : Go (WpS mCnt ρ K) = Go (K (.ct ρ)) := congrArg Go s_cnt
theorem gs_e {m : M SV} {f : SV → MS} : Go (WpS (mE m f) ρ K) = Go (WpE m ρ (fun s ρ1 => WpS (f s) ρ1 K) (fun e ρ1 => K (.er e ρ1))) := congrArg Go s_e
theorem gs_expr {m : M SV} : Go (WpS (mExpr m) ρ K) = Go (WpE m ρ (fun _ ρ1 => K (.nx ρ1)) (fun e ρ1 => K (.er e ρ1))) := congrArg Go s_expr
theorem gs_ret {m : M SV} : Go (WpS (mRet m) ρ K) = Go (WpE m ρ (fun s ρ1 => K (.rt s ρ1)) (fun e ρ1 => K (.er e ρ1))) := congrArg Go s_ret
theorem gs_retN : Go (WpS mRetN ρ K) = Go (K (.rt (.fz .non) ρ)) := congrArg Go s_retN
theorem gs_if {t : M Bool} {a b : MS} : Go (WpS (mIf t a b) ρ K) = Go (WpE t ρ (fun c ρ1 => brB c (WpS a ρ1 K) (WpS b ρ1 K)) (fun e ρ1 => K (.er e ρ1))) := congrArg Go s_if
theorem gs_to {g : SV → List SV → Option (List SV)} {m : M SV} : Go (WpS (mTo g m) ρ K) = Go (WpE m ρ (fun s ρ1 => WpO (g s ρ1) fun ρ2 => K (.nx ρ2)) (fun e ρ1 => K (.er e ρ1))) := congrArg Go s_to
theorem gsto_fz {i : Nat} {d : D} {Q : List SV → Prop} : Go (WpO (sto i (.fz d) ρ) Q) = Go ((i < ρ.length ∧ Q (ρ.set i (.fz d)))) := congrArg Go sto_fz
theorem gsto_box {i : Nat} {d : D} {Q : List SV → Prop} : Go (WpO (sto i (.box d) ρ) Q) = Go ((i < ρ.length ∧ Q (ρ.set i (.box d)))) := congrArg Go sto_box
theorem gsto_own {i : Nat} {d : D} {Q : List SV → Prop} : Go (WpO (sto i (.own d) ρ) Q) = Go ((i < ρ.length ∧ Q (ρ.set i (.own d)))) := congrArg Go sto_own
theorem gsto_loc {i j : Nat} {Q : List SV → Prop} : Go (WpO (sto i (.loc j) ρ) Q) = Go ((i < ρ.length ∧ stoL i j ρ ρ[j]? Q)) := congrArg Go sto_loc
theorem gsl_own {i j : Nat} {d : D} {Q : List SV → Prop} : Go (stoL i j ρ (some (.own d)) Q) = Go (Q ((ρ.set j (.fz d)).set i (.fz d))) := congrArg Go sl_own
theorem gsl_fz {i j : Nat} {d : D} {Q : List SV → Prop} : Go (stoL i j ρ (some (.fz d)) Q) = Go (Q (ρ.set i (.fz d))) := congrArg Go sl_fz
theorem gtk_tup {k : Nat} {ds : List D} {Q : List D → Prop} : Go (tupK k (.tup ds) Q) = Go ((ds.length = k ∧ Q ds)) := congrArg Go tk_tup
theorem gtk_lst {k : Nat} {ds : List D} {Q : List D → Prop} : Go (tupK k (.lst ds) Q) = Go ((ds.length = k ∧ Q ds)) := congrArg Go tk_lst
theorem gwo_gtup {k : Nat} {gs : List D → List SV → Option (List SV)} {s : SV} {Q : List SV → Prop} : Go (WpO (gTupD k gs s ρ) Q) = Go (WpEsc s ρ fun d ρ1 => tupK k d fun ds => WpO (gs ds ρ1) Q) := congrArg Go wo_gtup
theorem gwo_gsnil {Q : List SV → Prop} : Go (WpO (gsNil [] ρ) Q) = Go (Q ρ) := congrArg Go wo_gsnil
theorem gwo_gscons {g : SV → List SV → Option (List SV)} {gs : List D → List SV → Option (List SV)} {d : D} {ds : List D} {Q : List SV → Prop} : Go (WpO (gsCons g gs (d :: ds) ρ) Q) = Go (WpO (g (.fz d) ρ) fun ρ1 => WpO (gs ds ρ1) Q) := congrArg Go wo_gscons
theorem goa_own {d : D} {A : Prop} : Go (ownAt (some (.own d)) A) = Go (A) := congrArg Go oa_own
theorem gs_atOwn {j : Nat} {m : MS} : Go (WpS (atOwn j m) ρ K) = Go (ownAt ρ[j]? (WpS m ρ K)) := congrArg Go s_atOwn
theorem gla_lst {ds : List D} {A : List D → Prop} : Go (lstAt (some (.own (.lst ds))) A) = Go (A ds) := congrArg Go la_lst
theorem gs_putAt {j : Nat} {si s : SV} : Go (WpS (putAt j si s) ρ K) = Go (prtI si fun k => WpEsc s ρ fun d ρ1 => lstAt ρ1[j]? fun ds => WpO (ixN ds.length k) fun n => K (.nx (ρ1.set j (.own (.lst (ds.set n d)))))) := congrArg Go s_putAt
theorem gs_setAt {j : Nat} {m mi : M SV} : Go (WpS (mSetAt j m mi) ρ K) = Go (WpE m ρ (fun s ρ1 => ownAt ρ1[j]? (WpE mi ρ1 (fun si ρ2 => WpS (putAt j si s) ρ2 K) (fun e ρ2 => K (.er e ρ2)))) (fun e ρ1 => K (.er e ρ1))) := congrArg Go s_setAt
theorem gim_imm {d : D} {A : D → Prop} : Go (immK (some (.imm d)) A) = Go (A d) := congrArg Go im_imm
theorem gim_ite {c : Prop} [Decidable c] {b : Option BR} {A : D → Prop} : Go (immK (if c then b else none) A) = Go ((c ∧ immK b A)) := congrArg Go im_ite
theorem gfa_fz {d : D} {A : D → Prop} : Go (fzAt (some (.fz d)) A) = Go (A d) := congrArg Go fa_fz
theorem gs_aug {f : D → D → Option BR} {i : Nat} {m : M SV} : Go (WpS (mAug f i m) ρ K) = Go (fzAt ρ[i]? fun d => WpE m ρ (fun s ρ1 => WpO (con ρ1 s) fun d2 => immK (f d d2) fun d3 => K (.nx (ρ1.set i (.fz d3)))) (fun e ρ1 => K (.er e ρ1))) := congrArg Go s_aug
theorem gs_augAt2 {f : D → D → Option BR} {j : Nat} {k : Int} {d : D} {s : SV} : Go (WpS (augAt2 f j k d s) ρ K) = Go (lstAt ρ[j]? fun ds => WpO (con ρ s) fun d2 => WpO (ixN ds.length k) fun n => immK (f d d2) fun d3 => nolist d3 = true ∧ K (.nx (ρ.set j (.own (.lst (ds.set n d3)))))) := congrArg Go s_augAt2
theorem gs_augAt {f : D → D → Option BR} {j : Nat} {mi m : M SV} : Go (WpS (mAugAt f j mi m) ρ K) = Go (ownAt ρ[j]? (WpE mi ρ (fun si ρ1 => prtI si fun k => lstAt ρ1[j]? fun ds => WpO (atI ds k) fun d => WpE m ρ1 (fun s ρ2 => WpS (augAt2 f j k d s) ρ2 K) (fun e ρ2 => K (.er e ρ2))) (fun e ρ1 => K (.er e ρ1)))) := congrArg Go s_augAt
theorem gv_meth {j : Nat} {ma : M (List SV)} {k : List SV → M SV} : Go (WpE (mMeth j ma k) ρ QS X) = Go (ownAt ρ[j]? (WpE ma ρ (fun ss ρ1 => WpE (k ss) ρ1 QS X) X)) := congrArg Go v_meth
theorem gv_append {j : Nat} {s : SV} : Go (WpE (kAppend j [s]) ρ QS X) = Go (WpEsc s ρ fun d ρ1 => lstAt ρ1[j]? fun ds => ds.length < sizeLine ∧ QS (.fz .non) (ρ1.set j (.own (.lst (ds ++ [d]))))) := congrArg Go v_append
theorem gv_reverse {j : Nat} : Go (WpE (kReverse j []) ρ QS X) = Go (lstAt ρ[j]? fun ds => QS (.fz .non) (ρ.set j (.own (.lst ds.reverse)))) := congrArg Go v_reverse
theorem gv_popAt {j : Nat} {k : Int} : Go (WpE (kPopAt j [.fz (.int k)]) ρ QS X) = Go (lstAt ρ[j]? fun ds => WpO (ixN ds.length k) fun n => WpO ds[n]? fun d => rgOk k = true ∧ QS (.fz d) (ρ.set j (.own (.lst (ds.eraseIdx n))))) := congrArg Go v_popAt
theorem gv_rg1 {m : M SV} : Go (WpE (mListRg1 m) ρ QS X) = Go (WpE m ρ (fun s ρ1 => prtI s fun j => (rgOk 0 && rgOk j && nlt (j - 0).toNat (2 ^ 24 + 1)) = true ∧ QS (.own (.lst (rgD 0 (j - 0).toNat))) ρ1) X) := congrArg Go v_rg1
theorem gv_items {m : M SV} {Q : List D → List SV → Prop} : Go (WpE (mItems m) ρ Q X) = Go (WpE m ρ (fun s ρ1 => WpEsc s ρ1 fun d ρ2 => WpO (itD d) fun ds => Q ds ρ2) X) := congrArg Go v_items
theorem gv_enum {m : M SV} {Q : List D → List SV → Prop} : Go (WpE (mEnum m) ρ Q X) = Go (WpE m ρ (fun s ρ1 => WpEsc s ρ1 fun d ρ2 => WpO (itD d) fun ds => Q (enumD 0 ds) ρ2) X) := congrArg Go v_enum
theorem gv_range1 {m : M SV} {Q : List D → List SV → Prop} : Go (WpE (mRange1 m) ρ Q X) = Go (WpE m ρ (fun s ρ1 => prtI s fun j => rgOk j = true ∧ Q (rgD 0 j.toNat) ρ1) X) := congrArg Go v_range1
theorem gv_range2 {m n : M SV} {Q : List D → List SV → Prop} : Go (WpE (mRange2 m n) ρ Q X) = Go (WpE m ρ (fun s ρ1 => WpE n ρ1 (fun u ρ2 => prtI s fun i => prtI u fun j => (rgOk i && rgOk j) = true ∧ Q (rgD i (j - i).toNat) ρ2) X) X) := congrArg Go v_range2
theorem gs_for {mi : M (List D)} {g : SV → List SV → Option (List SV)} {b : MS} : Go (WpS (mFor mi g b) ρ K) = Go (WpE mi ρ (fun ds ρ1 => WpL g b ds ρ1 K) (fun e ρ1 => K (.er e ρ1))) := congrArg Go s_for
theorem gs_while {t : M Bool} {b : MS} {k : Nat} : Go (WpS (whileN t b k) ρ K) = Go (WpW t b k ρ K) := congrArg Go s_while
theorem gl_nil {g : SV → List SV → Option (List SV)} {b : MS} : Go (WpL g b [] ρ K) = Go (K (.nx ρ)) := congrArg Go l_nil
theorem gtu_nx {N : List SV → Prop} {K : SR → Prop} : Go (turnK N K (.nx ρ)) = Go (N ρ) := congrArg Go tu_nx
theorem gtu_ct {N : List SV → Prop} {K : SR → Prop} : Go (turnK N K (.ct ρ)) = Go (N ρ) := congrArg Go tu_ct
theorem gtu_bk {N : List SV → Prop} {K : SR → Prop} : Go (turnK N K (.bk ρ)) = Go (K (.nx ρ)) := congrArg Go tu_bk
theorem gtu_rt {N : List SV → Prop} {K : SR → Prop} {s : SV} : Go (turnK N K (.rt s ρ)) = Go (K (.rt s ρ)) := congrArg Go tu_rt
theorem gtu_er {N : List SV → Prop} {K : SR → Prop} {e : Ex} : Go (turnK N K (.er e ρ)) = Go (K (.er e ρ)) := congrArg Go tu_er
theorem gv_lc {ns : List Nat} {mi : M (List D)} {g : SV → List SV → Option (List SV)} {t : M Bool} {e : M SV} : Go (WpE (mLc ns mi g t e) ρ QS X) = Go (WpE mi ρ (fun ds ρ1 => WpM ns g t e ds (wipeD ρ1 ns) [] fun acc ρ2 => QS (.own (.lst acc)) ρ2) X) := congrArg Go v_lc
theorem gm_nil {ns : List Nat} {g : SV → List SV → Option (List SV)} {t : M Bool} {e : M SV} {acc : List D} {Q : List D → List SV → Prop} : Go (WpM ns g t e [] ρ acc Q) = Go (Q acc ρ) := congrArg Go m_nil
theorem gfk_box {io : List Bool} {Q : SV → List SV → Prop} {X : Ex → List SV → Prop} {d : D} : Go (finK io Q X (.rt (.box d) ρ)) = Go (WpO (outsOf io ρ) (Q (.box d))) := congrArg Go fk_box
theorem gfl_box {io : List Bool} {Q : SV → List SV → Prop} {i : Nat} {d : D} : Go (finL io i ρ (some (.box d)) Q) = Go (WpO (outsOf io (ρ.set i .un)) (Q (.box d))) := congrArg Go fl_box
theorem gfk_fz {io : List Bool} {Q : SV → List SV → Prop} {X : Ex → List SV → Prop} {d : D} : Go (finK io Q X (.rt (.fz d) ρ)) = Go (WpO (outsOf io ρ) (Q (.fz d))) := congrArg Go fk_fz
theorem gfk_own {io : List Bool} {Q : SV → List SV → Prop} {X : Ex → List SV → Prop} {d : D} : Go (finK io Q X (.rt (.own d) ρ)) = Go (WpO (outsOf io ρ) (Q (.own d))) := congrArg Go fk_own
theorem gfk_loc {io : List Bool} {Q : SV → List SV → Prop} {X : Ex → List SV → Prop} {i : Nat} : Go (finK io Q X (.rt (.loc i) ρ)) = Go (finL io i ρ ρ[i]? Q) := congrArg Go fk_loc
theorem gfl_own {io : List Bool} {Q : SV → List SV → Prop} {i : Nat} {d : D} : Go (finL io i ρ (some (.own d)) Q) = Go (WpO (outsOf io (ρ.set i .un)) (Q (.own d))) := congrArg Go fl_own
theorem gfl_fz {io : List Bool} {Q : SV → List SV → Prop} {i : Nat} {d : D} : Go (finL io i ρ (some (.fz d)) Q) = Go (WpO (outsOf io ρ) (Q (.fz d))) := congrArg Go fl_fz
theorem gfk_nx {io : List Bool} {Q : SV → List SV → Prop} {X : Ex → List SV → Prop} : Go (finK io Q X (.nx ρ)) = Go (WpO (outsOf io ρ) (Q (.fz .non))) := congrArg Go fk_nx
theorem gfk_er {io : List Bool} {Q : SV → List SV → Prop} {X : Ex → List SV → Prop} {e : Ex} : Go (finK io Q X (.er e ρ)) = Go (WpO (outsOf io ρ) (X e)) := congrArg Go fk_er
end
section
variable {ρ : List SV} {d e : D} {ds es : List D} {i j k : Int} {s t : Str} {b c : Bool} {n : Nat}
theorem con_fz : con ρ (.fz d) = some d := rfl
theorem con_own : con ρ (.own d) = some d := rfl
theorem con_box : con ρ (.box d) = some d := rfl
def conL (o : Option SV) : Option D := match o with
  | some (.own d) => some d
  | some (.fz d) => some d
  | some (.box d) => some d
  | _ => none
theorem cl_box : conL (some (.box d)) = some d := rfl
theorem con_loc : con ρ (.loc n) = conL ρ[n]? := rfl
theorem cl_own : conL (some (.own d)) = some d := rfl
theorem cl_fz : conL (some (.fz d)) = some d := rfl
theorem cons_nil : cons ρ [] = some [] := rfl
def consL (o : Option D) (p : Option (List D)) : Option (List D) := match o, p with
  | some d, some ds => some (d :: ds)
  | _, _ => none
theorem cons_cons {s : SV} {ss : List SV} : cons ρ (s :: ss) = consL (con ρ s) (cons ρ ss) := rfl
theorem cs_some : consL (some d) (some ds) = some (d :: ds) := rfl
theorem eInt : fInt [.int i] = some (.imm (.int i)) := rfl
theorem eIntB : fInt [.bl b] = some (.imm (.int (if b then 1 else 0))) := rfl
theorem eAbs : fAbs [.int i] = some (.imm (.int (if i < 0 then -i else i))) := rfl
theorem eMax : fMax [.int i, .int j] = some (.imm (.int (if j > i then j else i))) := rfl
theorem eMin : fMin [.int i, .int j] = some (.imm (.int (if j < i then j else i))) := rfl
theorem eMaxL {ns : List Int} : fMax [.lst (ns.map .int)] = ns.max?.map fun m => .imm (.int m) := by unfold fMax; dsimp only; rw [intsOf_map]
theorem eMinL {ns : List Int} : fMin [.lst (ns.map .int)] = ns.min?.map fun m => .imm (.int m) := by unfold fMin; dsimp only; rw [intsOf_map]
theorem eLenL : fLen [.lst ds] = some (.imm (.int ds.length)) := rfl
theorem eLenT : fLen [.tup ds] = some (.imm (.int ds.length)) := rfl
theorem eLenQ : fLen [.seq ds] = some (.imm (.int ds.length)) := rfl
theorem eLenS : fLen [.str s] = if s.length ≤ sizeLine then some (.imm (.int s.length)) else none := rfl
theorem eListL : fList [.lst ds] = some (.newL ds) := rfl
theorem eListT : fList [.tup ds] = some (.newL ds) := rfl
theorem eListQ : fList [.seq ds] = some (.newL ds) := rfl
theorem eTupL : fTuple [.lst ds] = some (.newT ds) := rfl
theorem eTupT : fTuple [.tup ds] = some (.imm (.tup ds)) := rfl
theorem eTupQ : fTuple [.seq ds] = some (.newT ds) := rfl
theorem eMul : fMul (.int i) (.int j) = if mulOk i j = true then some (.imm (.int (i * j))) else none := rfl
theorem eMulL : fMul (.lst ds) (.int k) = if repOk k ds.length = true then some (.newL (repD ds k)) else none := rfl
theorem eAdd : fAdd (.int i) (.int j) = some (.imm (.int (i + j))) := rfl
theorem eAddS : fAdd (.str s) (.str t) = if s.length + t.length ≤ sizeLine then some (.imm (.str (s ++ t))) else none := rfl
theorem eAddL : fAdd (.lst ds) (.lst es) = if ds.length + es.length ≤ sizeLine then some (.newL (ds ++ es)) else none := rfl
theorem eAddT : fAdd (.tup ds) (.tup es) = if ds.length + es.length ≤ sizeLine then some (.anyT (ds ++ es)) else none := rfl
theorem eSub : fSub (.int i) (.int j) = some (.imm (.int (i - j))) := rfl
theorem eDiv : fDiv (.int i) (.int j) = if divOk i j = true then some (.imm (.int (i / j))) else none := rfl
theorem eMod : fMod (.int i) (.int j) = if modOk i j = true then some (.imm (.int (i % j))) else none := rfl
theorem ePow : fPow (.int i) (.int j) = if powOk i j = true then some (.imm (.int (i ^ j.toNat))) else none := rfl
theorem eAddI : fAddI (.int i) (.int j) = some (.imm (.int (i + j))) := rfl
theorem eSubI : fSubI (.int i) (.int j) = some (.imm (.int (i - j))) := rfl
theorem eNeg : fNeg (.int i) = some (.imm (.int (-i))) := rfl
theorem eCmp {g : Int → Int → Bool} : fCmpI g (.int i) (.int j) = some (.imm (.bl (g i j))) := rfl
theorem eLt : fLt (.int i) (.int j) = some (.imm (.bl (decide (i < j)))) := rfl
theorem eLtT {ns ms : List Int} : fLt (.tup (ns.map .int)) (.tup (ms.map .int)) = some (.imm (.bl (HT.lexLt ns ms))) := by unfold fLt; dsimp only; rw [intsOf_map, intsOf_map]
theorem eLtT2 {a b c d : Int} : fLt (.tup [.int a, .int b]) (.tup [.int c, .int d]) = some (.imm (.bl (HT.lexLt [a, b] [c, d]))) := eLtT (ns := [a, b]) (ms := [c, d])
theorem eEqI : fEq (.int i) (.int j) = some (.imm (.bl (decide (i = j)))) := by unfold fEq eqD; rfl
theorem eEqS : fEq (.str s) (.str t) = some (.imm (.bl (decide (s = t)))) := by unfold fEq eqD; rfl
theorem eEqB : fEq (.bl b) (.bl c) = some (.imm (.bl (decide (b = c)))) := by unfold fEq eqD; rfl
theorem eNeI : fNe (.int i) (.int j) = some (.imm (.bl (!decide (i = j)))) := by unfold fNe eqD; rfl
theorem eNeS : fNe (.str s) (.str t) = some (.imm (.bl (!decide (s = t)))) := by unfold fNe eqD; rfl
theorem eNeB : fNe (.bl b) (.bl c) = some (.imm (.bl (!decide (b = c)))) := by unfold fNe eqD; rfl
theorem eIs : fIs false d .non = some (.imm (.bl (isNon d))) := rfl
theorem eIsN : fIs true d .non = some (.imm (.bl (!isNon d))) := rfl
theorem inN : isNon .non = true := rfl
theorem inI : isNon (.int i) = false := rfl
theorem inB : isNon (.bl b) = false := rfl
theorem inS : isNon (.str s) = false := rfl
theorem inL : isNon (.lst ds) = false := rfl
theorem inT : isNon (.tup ds) = false := rfl
theorem eIn : fIn false d e = (inD d e).map fun b => .imm (.bl b) := rfl
theorem eInN : fIn true d e = (inD d e).map fun b => .imm (.bl (!b)) := rfl
theorem eIxL : fIx (.lst ds) (.int k) = (atI ds k).map .imm := rfl
theorem eIxT : fIx (.tup ds) (.int k) = (atI ds k).map .imm := rfl
theorem eIxQ : fIx (.seq ds) (.int k) = (atI ds k).map .imm := rfl
theorem eIxS : fIx (.str s) (.int k) = if s.length ≤ sizeLine then (atI s.cps.toList k).map fun c => .imm (.str ⟨#[c]⟩) else none := rfl
theorem eSlL {lo hi : Option Int} : fSl lo hi (.lst ds) = some (.newL (cutD ds lo hi)) := rfl
theorem eSlT {lo hi : Option Int} : fSl lo hi (.tup ds) = some (.anyT (cutD ds lo hi)) := rfl
theorem eSlQ {lo hi : Option Int} : fSl lo hi (.seq ds) = some (.newL (cutD ds lo hi)) := rfl
theorem tyN : tyD .non = some .non := rfl
theorem tyB : tyD (.bl b) = some .bl := rfl
theorem tyI : tyD (.int i) = some .int := rfl
theorem tyS : tyD (.str s) = some .str := rfl
theorem tyL : tyD (.lst ds) = some .lst := rfl
theorem tyQ : tyD (.seq ds) = some .lst := rfl
theorem tyT : tyD (.tup ds) = some .tup := rfl
theorem trN : truD .non = some false := rfl
theorem trB : truD (.bl b) = some b := rfl
theorem trI : truD (.int i) = some (i != 0) := rfl
theorem trL : truD (.lst ds) = some (!ds.isEmpty) := rfl
theorem trT : truD (.tup ds) = some (!ds.isEmpty) := rfl
theorem itL : itD (.lst ds) = some ds := rfl
theorem itT : itD (.tup ds) = some ds := rfl
theorem itQ : itD (.seq ds) = some ds := rfl
theorem eSum {ns : List Int} : fSum [.lst (ns.map .int)] = some (.imm (.int ns.sum)) := by unfold fSum; dsimp only; rw [intsOf_map]; rfl
theorem eAll {bs : List Bool} : fAll [.lst (bs.map .bl)] = some (.imm (.bl (bs.all id))) := by unfold fAll; dsimp only; rw [blsOf_map]; rfl
theorem eAny {bs : List Bool} : fAny [.lst (bs.map .bl)] = some (.imm (.bl (bs.any id))) := by unfold fAny; dsimp only; rw [blsOf_map]; rfl
theorem eSortI {ns : List Int} : fSortedIP [.lst (ns.map .int)] = some (.newL ((sortI ns).map .int)) := by unfold fSortedIP; dsimp only; rw [intsOf_map]
theorem nlI : nolist (.int i) = true := by simp [nolist]
theorem nlB : nolist (.bl b) = true := by simp [nolist]
theorem nlS : nolist (.str s) = true := by simp [nolist]
theorem nlN : nolist .non = true := by simp [nolist]
theorem nlT : nolist (.tup ds) = nolists ds := by simp [nolist]
theorem nlL : nolist (.lst ds) = false := by simp [nolist]
theorem nsN : nolists [] = true := by simp [nolists]
theorem nsC : nolists (d :: ds) = (nolist d && nolists ds) := by simp [nolists]
theorem nsI : ∀ {ns : List Int}, nolists (ns.map .int) = true
  | [] => nsN
  | i :: ns => by rw [List.map_cons, nsC, nlI, nsI]; rfl
theorem nsS : ∀ {ns : List Str}, nolists (ns.map .str) = true
  | [] => nsN
  | i :: ns => by rw [List.map_cons, nsC, nlS, nsS]; rfl
theorem gvN : give [] [] [] ρ = some ρ := rfl
theorem gvF {bs : List Bool} {s o : SV} {ss os : List SV} : give (false :: bs) (s :: ss) (o :: os) ρ = give bs ss os ρ := by
  rw [give]
  all_goals (intros; first | contradiction | simp_all)
def giveL (o : Option SV) (A : Option (List SV)) : Option (List SV) := match o with
  | some .un => A
  | _ => none
theorem gvT {bs : List Bool} {ss os : List SV} : give (true :: bs) (.loc n :: ss) (.own d :: os) ρ = giveL ρ[n]? (give bs ss os (ρ.set n (.own d))) := by
  rw [give]; rfl
theorem gvTo {bs : List Bool} {ss os : List SV} {o : SV} : give (true :: bs) (.own d :: ss) (o :: os) ρ = give bs ss os ρ := by
  rw [give]
  all_goals (intros; first | contradiction | simp_all)
theorem gvX {bs : List Bool} {ss os : List SV} : give (true :: bs) (.loc n :: ss) (.box d :: os) ρ = giveL ρ[n]? (give bs ss os (ρ.set n (.box d))) := by
  rw [give]; rfl
theorem gvXo {bs : List Bool} {ss os : List SV} {o : SV} : give (true :: bs) (.box d :: ss) (o :: os) ρ = give bs ss os ρ := by
  rw [give]
  all_goals (intros; first | contradiction | simp_all)
theorem loF : lendOk ρ (.fz d) = true := rfl
theorem loO : lendOk ρ (.own d) = true := rfl
theorem loX {C : Str} {fs : List Str} : lendOk ρ (.box (.obj C fs ds)) = true := rfl
theorem loL : lendOk ρ (.loc n) = lendL ρ[n]? := rfl
theorem llF : lendL (some (.fz d)) = true := rfl
theorem llO : lendL (some (.own d)) = true := rfl
theorem llX {C : Str} {fs : List Str} : lendL (some (.box (.obj C fs ds))) = true := rfl
theorem gl_un {A : Option (List SV)} : giveL (some .un) A = A := rfl
theorem wN : wipeD ρ [] = ρ := rfl
theorem wC {v : Nat} {vs : List Nat} : wipeD ρ (v :: vs) = (wipeD ρ vs).set v .un := rfl
end
end DL

set_option Elab.async false
set_option linter.all false
set_option maxRecDepth 100000
/-! The data layer: dicts whose keys are tuples of data. -/
namespace DL
open PySem PySem.Spec PyProof.Rows L2

mutual
theorem nk_hash (w w' : World) : ∀ {d : D} {k : NestedKey}, nkOf d = some k → k.hash w = k.hash w'
  | .non, k, e => by simp only [nkOf, Option.some.injEq] at e; subst e; rfl
  | .bl _, k, e => by simp only [nkOf, Option.some.injEq] at e; subst e; rfl
  | .int _, k, e => by simp only [nkOf, Option.some.injEq] at e; subst e; rfl
  | .str _, _, e => by simp [nkOf] at e
  | .lst _, _, e => by simp [nkOf] at e
  | .seq _, _, e => by simp [nkOf] at e
  | .obj _ _ _, _, e => by simp [nkOf] at e
  | .dic _ _, _, e => by simp [nkOf] at e
  | .tup ds, k, e => by
    simp only [nkOf, Option.map_eq_some_iff] at e
    obtain ⟨ks, e, rfl⟩ := e
    simp only [NestedKey.hash]
    rw [nks_hash w w' e]
theorem nks_hash (w w' : World) : ∀ {ds : List D} {ks : List NestedKey}, nksOf ds = some ks → NestedKey.hashes w ks = NestedKey.hashes w' ks
  | [], ks, e => by simp only [nksOf, Option.some.injEq] at e; subst e; rfl
  | d :: ds, ks, e => by
    simp only [nksOf] at e
    split at e
    · rename_i k ks' e1 e2
      cases e
      simp only [NestedKey.hashes]
      rw [nk_hash w w' e1, nks_hash w w' e2]
    · cases e
end
section
variable {X : Cx} {pins : List (Addr × Obj)} {σ : L2.St} {H : Hp} {s : Shared}
mutual
theorem nk_is (I : Inv X pins σ H s) {A : Addr → Prop} : ∀ {d : D} {k : NestedKey} {v : V} {u : Value}, nkOf d = some k → Rep X.K A H d v → RelV v u → NestedIs s.heap k u
  | .non, k, v, u, e, h, r => by
    simp only [nkOf, Option.some.injEq] at e; subst e
    simp only [Rep] at h; subst h
    cases r
    exact .none
  | .bl b, k, v, u, e, h, r => by
    simp only [nkOf, Option.some.injEq] at e; subst e
    simp only [Rep] at h; subst h
    cases r
    exact .bool rfl
  | .int i, k, v, u, e, h, r => by
    simp only [nkOf, Option.some.injEq] at e; subst e
    simp only [Rep] at h; subst h
    obtain ⟨t, rfl⟩ := r
    exact .int _ _
  | .str _, _, _, _, e, _, _ => by simp [nkOf] at e
  | .lst _, _, _, _, e, _, _ => by simp [nkOf] at e
  | .seq _, _, _, _, e, _, _ => by simp [nkOf] at e
  | .obj _ _ _, _, _, _, e, _, _ => by simp [nkOf] at e
  | .dic _ _, _, _, _, e, _, _ => by simp [nkOf] at e
  | .tup ds, k, v, u, e, h, r => by
    simp only [nkOf, Option.map_eq_some_iff] at e
    obtain ⟨ks, e, rfl⟩ := e
    simp only [Rep] at h
    obtain ⟨a, vs, rfl, q, rl⟩ := h
    obtain rfl : u = Value.ref a := r
    obtain ⟨its, rv, ⟨o, ho, hc, n, hd⟩, _⟩ := I.tuple q
    exact .tup ho hc hd (by simpa using nks_is I e rl rv)
theorem nks_is (I : Inv X pins σ H s) {A : Addr → Prop} : ∀ {ds : List D} {ks : List NestedKey} {vs : List V} {us : List Value}, nksOf ds = some ks → RepL X.K A H ds vs → Vals vs us → NestedAll s.heap ks us
  | [], ks, vs, us, e, h, r => by
    simp only [nksOf, Option.some.injEq] at e; subst e
    simp only [RepL] at h; subst h
    cases r
    exact .nil
  | d :: ds, ks, vs, us, e, h, r => by
    simp only [nksOf] at e
    split at e
    · rename_i k ks' e1 e2
      cases e
      simp only [RepL] at h
      obtain ⟨v, vs', rfl, r1, r2⟩ := h
      cases r with
      | cons p q => exact .cons (nk_is I e1 r1 p) (nks_is I e2 r2 q)
    · cases e
end
/-- the key nk stands at b -/
def NkAt (K : PySem.W.Frag) (H : Hp) (nk : NestedKey) (b : Addr) : Prop := ∃ d, keyOf d = some nk ∧ Rep K NoA H d (.ref b)
theorem NkAt.is (I : Inv X pins σ H s) {nk : NestedKey} {b : Addr} (h : NkAt X.K H nk b) : (nestedKind X.prog X.w).is s.heap nk b := by
  obtain ⟨d, e, r⟩ := h
  obtain ⟨e1, e2, _⟩ := keyOf_nk e
  exact ⟨nk_is I e1 r rfl, e2⟩
theorem KeysAt.nk {K : PySem.W.Frag} {H : Hp} : ∀ {ks : List D} {xs : List (NestedKey × Addr × Value)}, KeysAt K H ks xs → ∀ x ∈ xs, NkAt K H x.1 x.2.1
  | [], xs, h, x, hx => by rw [show xs = [] from h] at hx; cases hx
  | k :: ks, xs, h, x, hx => by
    obtain ⟨y, ys, rfl, e, r, rs⟩ := h
    rcases List.mem_cons.mp hx with rfl | hx
    · exact ⟨k, e, r⟩
    · exact KeysAt.nk rs x hx
theorem dn_of (I : Inv X pins σ H s) {a : Addr} {w : World} {xs : List (NestedKey × Addr × Value)} (e : H a = some (dN a w xs)) (hk : ∀ x ∈ xs, NkAt X.K H x.1 x.2.1) :
    (a == sysModules) = false ∧ s.heap.DictOfH (nestedKind X.prog X.w) a xs := by
  obtain ⟨⟨hd, o, es, ep, h1, h2, h3, h4, h5⟩, _⟩ := I.hok _ _ e
  refine ⟨hd, o, es, ep, h1, h2, h3, h4.trans (List.map_congr_left fun x hx => ?_), fun x hx => (hk x hx).is I, h5⟩
  obtain ⟨d, e, _⟩ := hk x hx
  show (⟨x.1.hash w, _, _⟩ : DictEntry) = ⟨x.1.hash X.w, _, _⟩
  rw [nk_hash w X.w (keyOf_nk e).1]
theorem dn_ok {P : Program} {w : World} {H : Hp} {h : Heap} {a : Addr} {xs : List (NestedKey × Addr × Value)} (hd : (a == sysModules) = false) (x : h.DictOfH (nestedKind P w) a xs) : ObjOk P w H h a (dN a w xs) := by
  obtain ⟨o, es, ep, h1, h2, h3, h4, _, h5⟩ := x
  refine ⟨⟨hd, o, es, ep, h1, h2, h3, h4, h5⟩, ⟨o, h1⟩, fun g1 g2 ⟨y, o', es', ep', k1, k⟩ hg => ⟨y, o', es', ep', hg _ k1, k⟩⟩
/-! what is asked of the heap -/
def rNIn (K : PySem.W.Frag) (neg : Bool) : R2 := fun y x H Q => ∃ a w xs nk b, x = .ref a ∧ y = .ref b ∧ H a = some (dN a w xs) ∧ (∀ x ∈ xs, NkAt K H x.1 x.2.1) ∧ NkAt K H nk b ∧ Q (.bl (if neg then !(atKey xs nk).isSome else (atKey xs nk).isSome)) H
theorem room8 {A : Around} (hu : A.units + 64 < cLine) {P : Program} {w : World} : (nestedKind P w).room A.in1 := by
  show A.units + 1 + 8 < cLine
  omega
theorem op_nin (hu : X.A.units + 64 < cLine) : OpR X (compareOp .In) (rNIn X.K false) := by
  intro pins s σ H x y v u Q I rx ry ⟨a, w, xs, nk, b, e1, e2, e3, hk, hn, q⟩
  subst e1; subst e2
  obtain rfl : v = Value.ref b := rx
  obtain rfl : u = Value.ref a := ry
  obtain ⟨hd, dd⟩ := dn_of I e3 hk
  exact wpAny_in_heap (room8 hu) (hn.is I) hd dd ⟨.bl (atKey xs nk).isSome, H, I.tok _, rfl, q⟩
theorem op_nnotin (hu : X.A.units + 64 < cLine) : OpR X (compareOp .NotIn) (rNIn X.K true) := by
  intro pins s σ H x y v u Q I rx ry ⟨a, w, xs, nk, b, e1, e2, e3, hk, hn, q⟩
  subst e1; subst e2
  obtain rfl : v = Value.ref b := rx
  obtain rfl : u = Value.ref a := ry
  obtain ⟨hd, dd⟩ := dn_of I e3 hk
  exact wpAny_notIn_heap (room8 hu) (hn.is I) hd dd ⟨.bl (!(atKey xs nk).isSome), H, I.tok _, rfl, q⟩
end
/-! ### places in a dict -/
def dixF (nk : NestedKey) : List D → Option Nat
  | [] => none
  | k :: ks => if keyOf k = some nk then some 0 else (dixF nk ks).map (· + 1)
theorem dixF_some {nk : NestedKey} : ∀ {ks : List D} {i : Nat}, dixF nk ks = some i → ∃ k, ks[i]? = some k ∧ keyOf k = some nk
  | [], i, h => by simp [dixF] at h
  | k :: ks, i, h => by
    simp only [dixF] at h
    split at h
    · rename_i e
      cases h
      exact ⟨k, rfl, e⟩
    · rw [Option.map_eq_some_iff] at h
      obtain ⟨j, h, rfl⟩ := h
      obtain ⟨x, e1, e2⟩ := dixF_some h
      exact ⟨x, by simpa using e1, e2⟩
theorem at_dix {K : PySem.W.Frag} {H : Hp} (nk : NestedKey) : ∀ {ks : List D} {xs : List (NestedKey × Addr × Value)}, KeysAt K H ks xs → atKey xs nk = (dixF nk ks).bind fun i => xs[i]?.map (·.2)
  | [], xs, h => by rw [show xs = [] from h]; rfl
  | k :: ks, xs, h => by
    obtain ⟨x, ys, rfl, e, r, rs⟩ := h
    simp only [dixF]
    unfold atKey
    rw [List.find?_cons]
    by_cases h : x.1 = nk
    · rw [if_pos (by rw [e, h])]
      simp [h]
    · rw [if_neg (by rw [e]; simpa using h)]
      have ih := at_dix nk rs
      unfold atKey at ih
      simp only [h, decide_false]
      rw [ih]
      cases dixF nk ks <;> simp
theorem map_put {K : PySem.W.Frag} {H : Hp} (nk : NestedKey) (v : Value) : ∀ {ks : List D} {xs : List (NestedKey × Addr × Value)} {i : Nat}, KeysAt K H ks xs → (xs.map (·.1)).Nodup → dixF nk ks = some i → ∃ a u, xs[i]? = some (nk, a, u) ∧ xs.map (PySem.putAt nk v) = xs.set i (nk, a, v)
  | [], xs, i, h, hn, e => by simp [dixF] at e
  | k :: ks, xs, i, h, hn, e => by
    obtain ⟨x, ys, rfl, e1, r, rs⟩ := h
    rw [List.map_cons, List.nodup_cons] at hn
    simp only [dixF] at e
    by_cases h : x.1 = nk
    · rw [if_pos (by rw [e1, h])] at e
      cases e
      obtain ⟨xk, xa, xv⟩ := x
      simp only at h
      subst h
      refine ⟨xa, xv, rfl, ?_⟩
      rw [List.map_cons, List.set_cons_zero]
      congr 1
      · simp [PySem.putAt]
      · have : ∀ y ∈ ys, PySem.putAt xk v y = y := fun y hy => by
          unfold PySem.putAt
          rw [if_neg fun z => hn.1 (List.mem_map.mpr ⟨y, hy, z⟩)]
        exact (List.map_congr_left this).trans (List.map_id' _)
    · rw [if_neg (by rw [e1]; simpa using h), Option.map_eq_some_iff] at e
      obtain ⟨j, e, rfl⟩ := e
      obtain ⟨a, u, f1, f2⟩ := map_put nk v rs hn.2 e
      refine ⟨a, u, by simpa using f1, ?_⟩
      rw [List.map_cons, f2, List.set_cons_succ]
      congr 1
      unfold PySem.putAt
      rw [if_neg h]
theorem KeysAt.len {K : PySem.W.Frag} {H : Hp} : ∀ {ks : List D} {xs : List (NestedKey × Addr × Value)}, KeysAt K H ks xs → xs.length = ks.length
  | [], xs, h => by rw [show xs = [] from h]; rfl
  | k :: ks, xs, h => by
    obtain ⟨x, ys, rfl, _, _, rs⟩ := h
    simp [KeysAt.len rs]
theorem KeysAt.app {K : PySem.W.Frag} {H : Hp} {k : D} {nk : NestedKey} {b : Addr} (hk : keyOf k = some nk) (r : Rep K NoA H k (.ref b)) (v : Value) : ∀ {ks : List D} {xs : List (NestedKey × Addr × Value)}, KeysAt K H ks xs → KeysAt K H (ks ++ [k]) (xs ++ [(nk, b, v)])
  | [], xs, h => by
    rw [show xs = [] from h]
    exact ⟨_, [], rfl, hk, r, rfl⟩
  | k' :: ks, xs, h => by
    obtain ⟨x, ys, rfl, e, r', rs⟩ := h
    exact ⟨x, _, rfl, e, r', KeysAt.app hk r v rs⟩
theorem KeysAt.setV {K : PySem.W.Frag} {H : Hp} {nk : NestedKey} {a : Addr} {u : Value} (v : Value) : ∀ {ks : List D} {xs : List (NestedKey × Addr × Value)} {i : Nat}, KeysAt K H ks xs → xs[i]? = some (nk, a, u) → KeysAt K H ks (xs.set i (nk, a, v))
  | [], xs, i, h, e => by rw [show xs = [] from h] at e; simp at e
  | k' :: ks, xs, i, h, e => by
    obtain ⟨x, ys, rfl, e1, r', rs⟩ := h
    cases i with
    | zero =>
      simp only [List.getElem?_cons_zero, Option.some.injEq] at e
      subst e
      exact ⟨_, ys, rfl, e1, r', rs⟩
    | succ i => exact ⟨x, _, by rw [List.set_cons_succ], e1, r', KeysAt.setV v rs (by simpa using e)⟩
theorem vals_get : ∀ {us : List V} {ws : List Value} {i : Nat} {w : Value}, Vals us ws → ws[i]? = some w → ∃ u, us[i]? = some u ∧ RelV u w
  | _, _, i, w, .nil, e => by simp at e
  | _, _, 0, w, .cons r t, e => by simp at e; subst e; exact ⟨_, rfl, r⟩
  | _, _, i + 1, w, .cons r t, e => by
    obtain ⟨u, h1, h2⟩ := vals_get t (by simpa using e)
    exact ⟨u, by simpa using h1, h2⟩
theorem vals_set : ∀ {us : List V} {ws : List Value} {u : V} {w : Value} (i : Nat), Vals us ws → RelV u w → Vals (us.set i u) (ws.set i w)
  | _, _, u, w, i, .nil, r => by simpa using Paired.nil
  | _, _, u, w, 0, .cons p t, r => .cons r t
  | _, _, u, w, i + 1, .cons p t, r => .cons p (vals_set i t r)
theorem vals_app : ∀ {us : List V} {ws : List Value} {u : V} {w : Value}, Vals us ws → RelV u w → Vals (us ++ [u]) (ws ++ [w])
  | _, _, u, w, .nil, r => .cons r .nil
  | _, _, u, w, .cons p t, r => .cons p (vals_app t r)
/-! ### the dict as data -/
def dGet (ks vs : List D) (k : D) : Option (Option D) := (keyOf k).map fun nk => (dixF nk ks).bind fun i => vs[i]?
def dPut (ks vs : List D) (k v : D) : Option (List D × List D) := match keyOf k with
  | none => none
  | some nk => match dixF nk ks with
    | some i => some (ks, vs.set i v)
    | none => if ks.length < sizeLine then some (ks ++ [k], vs ++ [v]) else none
section
variable {K : PySem.W.Frag} {A : Addr → Prop} {H : Hp} {ks vs : List D} {p b : Addr} {k v : D}
/-- a look-up -/
def DGot (K : PySem.W.Frag) (A : Addr → Prop) (H : Hp) (xs : List (NestedKey × Addr × Value)) (nk : NestedKey) : Option D → Prop
  | none => atKey xs nk = none
  | some d => ∃ (q : Addr × Value) (u : V), atKey xs nk = some q ∧ RelV u q.2 ∧ Rep K A H d u
theorem dic_at (h : DicAt K A H ks vs p) {o : Option D} {u0 : V} (hk : Rep K A H k u0) (e : dGet ks vs k = some o) : ∃ (w : World) (xs : List (NestedKey × Addr × Value)) (nk : NestedKey) (b : Addr), u0 = .ref b ∧ H p = some (dN p w xs) ∧ (∀ x ∈ xs, NkAt K H x.1 x.2.1) ∧ NkAt K H nk b ∧
    DGot K A H xs nk o := by
  obtain ⟨w, xs, us, e1, e2, e3, e4, e5⟩ := h
  unfold dGet at e
  rw [Option.map_eq_some_iff] at e
  obtain ⟨nk, f1, f2⟩ := e
  obtain ⟨g1, g2, ds, rfl⟩ := keyOf_nk f1
  have hk' : Rep K NoA H (.tup ds) u0 := nk_list (fun _ _ z => z) g1 hk
  have hk2 := hk
  simp only [Rep] at hk2
  obtain ⟨b, _, rfl, _⟩ := hk2
  refine ⟨w, xs, nk, b, rfl, e1, e2.nk, ⟨_, f1, hk'⟩, ?_⟩
  have ha := at_dix nk e2
  subst f2
  cases hd : dixF nk ks with
  | none => rw [hd] at ha; exact ha
  | some i =>
    rw [hd] at ha
    simp only [Option.bind_some] at ha ⊢
    obtain ⟨y, hy, _⟩ := dixF_some hd
    have hi : i < xs.length := by rw [e2.len]; exact (List.getElem?_eq_some_iff.mp hy).1
    have hx : xs[i]? = some xs[i] := by simp [hi]
    rw [hx] at ha
    obtain ⟨u, hu, ru⟩ := vals_get (i := i) (w := xs[i].2.2) e4 (by simp [hi])
    have hl := e3.length
    have hiv : i < vs.length := by rw [← hl]; exact (List.getElem?_eq_some_iff.mp hu).1
    have hv : vs[i]? = some vs[i] := by simp [hiv]
    rw [hv]
    obtain ⟨u', h1, h2⟩ := e3.get hv
    rw [hu] at h1; cases h1
    exact ⟨_, u, ha, ru, h2⟩
end
end DL

set_option Elab.async false
set_option linter.all false
set_option maxRecDepth 100000
/-! The data layer: sorted of data of any depth, of a dict; the keys of a dict in a row. -/
namespace DL
open PySem PySem.Spec PyProof.Rows L2

def tupD : D → Bool
  | .tup (_ :: _) => true
  | _ => false
def atomD : D → Bool
  | .tup _ => false
  | .non => false
  | _ => true
def sortOk (ds : List D) : Bool := plains ds && nolists ds && (ds.all fun d => ds.all fun e => PySem.W.alike (py d) (py e)) && (ds.all tupD || ds.all atomD) && ds.all fun d => nlt (py d).depth 50
def sortD (ds : List D) : List D := ds.mergeSort (PySem.W.dataLe false py)
theorem sortOk_iff {ds : List D} (h : sortOk ds = true) : plains ds = true ∧ nolists ds = true ∧ PySem.W.AllAlike (ds.map py) ∧ PySem.W.Sortable (ds.map py) ∧ ∀ d ∈ ds, (py d).depth < 50 := by
  unfold sortOk at h
  simp only [Bool.and_eq_true] at h
  obtain ⟨⟨⟨⟨h1, h2⟩, h3⟩, h4⟩, h5⟩ := h
  refine ⟨h1, h2, ?_, ?_, fun d hd => nlt_iff.mp (List.all_eq_true.mp h5 d hd)⟩
  · intro d hd d' hd'
    obtain ⟨b, hb, rfl⟩ := List.mem_map.mp hd
    obtain ⟨b', hb', rfl⟩ := List.mem_map.mp hd'
    exact List.all_eq_true.mp (List.all_eq_true.mp h3 b hb) b' hb'
  · rw [Bool.or_eq_true] at h4
    rcases h4 with h4 | h4
    · refine .inl fun d hd => ?_
      obtain ⟨b, hb, rfl⟩ := List.mem_map.mp hd
      have := List.all_eq_true.mp h4 b hb
      unfold tupD at this
      split at this
      · simp only [py, pys]; exact ⟨_, _, rfl⟩
      · cases this
    · refine .inr fun d hd => ?_
      obtain ⟨b, hb, rfl⟩ := List.mem_map.mp hd
      have := List.all_eq_true.mp h4 b hb
      have hp : plain b = true := by
        have : ∀ {l : List D}, plains l = true → ∀ x ∈ l, plain x = true := fun {l} => by
          induction l with
          | nil => intro _ x hx; cases hx
          | cons y l ih =>
            intro h x hx
            simp only [plains, Bool.and_eq_true] at h
            rcases List.mem_cons.mp hx with rfl | hx
            · exact h.1
            · exact ih h.2 x hx
        exact this h1 b hb
      cases b <;> simp_all [py, atomD, plain]
/-- what an item of a list stands for -/
def IsD (K : PySem.W.Frag) (H : Hp) (v : Value) (d : D) : Prop := ∃ x, RelV x v ∧ Rep K NoA H d x
theorem isD_of {K : PySem.W.Frag} {H : Hp} {A : Addr → Prop} : ∀ {ds : List D} {vs : List V} {us : List Value}, nolists ds = true → RepL K A H ds vs → Vals vs us → PySem.W.EachIs (IsD K H) us ds
  | [], vs, us, n, h, r => by
    simp only [RepL] at h; subst h
    cases r
    exact .nil
  | d :: ds, vs, us, n, h, r => by
    simp only [RepL] at h
    simp only [nolists, Bool.and_eq_true] at n
    obtain ⟨v, vs', rfl, r1, r2⟩ := h
    cases r with
    | cons p q => exact .cons ⟨v, p, Rep.any n.1 r1⟩ (isD_of n.2 r2 q)
theorem isD_to {K : PySem.W.Frag} {H : Hp} : ∀ {ds : List D} {us : List Value}, PySem.W.EachIs (IsD K H) us ds → ∃ vs, Vals vs us ∧ RepL K NoA H ds vs
  | _, _, .nil => ⟨[], .nil, RepL.nil⟩
  | _, _, .cons ⟨x, rx, hx⟩ t => by
    obtain ⟨vs, h1, h2⟩ := isD_to t
    exact ⟨x :: vs, .cons rx h1, RepL.cons hx h2⟩
theorem each_weak {K : PySem.W.Frag} {H : Hp} {R : Value → D → Prop} : ∀ {ds : List D} {us : List Value}, (∀ v d, d ∈ ds → IsD K H v d → R v d) → PySem.W.EachIs (IsD K H) us ds → PySem.W.EachIs R us ds
  | _, _, _, .nil => .nil
  | _, _, h, .cons p t => .cons (h _ _ List.mem_cons_self p) (each_weak (fun v d hd q => h v d (List.mem_cons_of_mem _ hd) q) t)
theorem plain_mem : ∀ {l : List D}, plains l = true → ∀ x ∈ l, plain x = true
  | [], _, x, hx => by cases hx
  | y :: l, h, x, hx => by
    simp only [plains, Bool.and_eq_true] at h
    rcases List.mem_cons.mp hx with rfl | hx
    · exact h.1
    · exact plain_mem h.2 x hx
theorem sortD_mem {ds : List D} {d : D} : d ∈ sortD ds ↔ d ∈ ds := (List.mergeSort_perm _ _).mem_iff
section
variable {X : Cx} {pins : List (Addr × Obj)} {σ : L2.St} {H : Hp} {s : Shared}
theorem reads_of (I : Inv X pins σ H s) {us : List Value} {ds : List D} (hp : plains ds = true) (e : PySem.W.EachIs (IsD X.K H) us ds) : PySem.W.EachIs (fun v d => ∃ as, Reads s.heap v (py d) as) us ds :=
  each_weak (fun v d hd ⟨x, rx, hx⟩ => Dp.reads I (py d) x v (dp_of (plain_mem hp d hd) hx) rx) e
end
def rSortG (K : PySem.W.Frag) : List V → Hp → VK → Prop := fun vs H Q => ∃ (a : Addr) (xs : List V) (ds : List D), vs = [V.ref a] ∧ SqL K H a xs ∧ RepL K NoA H ds xs ∧ sortOk ds = true ∧ ∀ ys p, RepL K NoA H (sortD ds) ys → H p = none → Q (.ref p) (upd H p (.lst ys))
theorem cr_sortedG {X : Cx} (hu : X.A.units + 64 < cLine) : CallR X (.builtin "sorted") (rSortG X.K) := by
  intro pins s σ H vs us Q I r h
  obtain ⟨a, xs, ds, rfl, hs, hd, hok, q⟩ := h
  obtain ⟨its, rv, hl, hz⟩ := I.list hs
  obtain ⟨u, rfl, ru⟩ := vals1 r
  obtain rfl : u = Value.ref a := ru
  obtain ⟨h1, h2, h3, h4, h5⟩ := sortOk_iff hok
  have e := isD_of (K := X.K) (H := H) h2 hd rv
  have hlen : ds.length ≤ sizeLine := by rw [← hd.length]; exact hz
  refine PySem.W.sorted_data (β := D) (enc := py) (R := IsD X.K H) (vs := its) (bs := ds) hl.isList e (reads_of I h1 e) h3 h4 hlen (fun d hd => by have := h5 d hd; omega) fun out g1 g2 => ?_
  obtain ⟨ys, k1, k2⟩ := isD_to g2
  obtain ⟨n, hn⟩ := PyProof.Rows.sortedHeap_at (vs := its) (out := out.toArray) (PySem.W.copyHeap_at s.heap its)
  have hp : s.heap.objs.size ≤ s.heap.objs.size + 1 := Nat.le_succ _
  refine ⟨.ref (s.heap.objs.size + 1), upd H (s.heap.objs.size + 1) (.lst ys), I.laid (t' := s.toks) (fun b o eb => ?_) hp ⟨?_, out, n, k1, hn⟩, rfl, q ys _ k2 (I.hok.fresh hp)⟩
  · have hb : b < s.heap.objs.size := Heap.lt_size eb
    show (PyProof.Rows.sortedHeap (PySem.W.copyHeap s.heap its) (s.heap.objs.size + 1) its out.toArray).get? b = some o
    rw [PyProof.Rows.sortedHeap_old (Nat.ne_of_lt (Nat.lt_succ_of_lt hb)) (Nat.lt_trans hb (Nat.lt_of_succ_lt (Heap.lt_size (PySem.W.copyHeap_at s.heap its))))]
    exact PySem.W.copyHeap_old eb
  · rw [k1.length, g1]; exact hlen
/-- the keys of a dict as they are walked -/
theorem keys_each {K : PySem.W.Frag} {H : Hp} : ∀ {ks : List D} {xs : List (NestedKey × Addr × Value)}, KeysAt K H ks xs → PySem.W.EachIs (IsD K H) (xs.map fun x => Value.ref x.2.1) ks
  | [], xs, h => by rw [show xs = [] from h]; exact .nil
  | k :: ks, xs, h => by
    obtain ⟨x, ys, rfl, e, r, rs⟩ := h
    exact .cons ⟨.ref x.2.1, rfl, r⟩ (keys_each rs)
theorem items_eq {es : Array DictEntry} {xs : List (NestedKey × Addr × Value)} {w : World} (he : es.toList = xs.map (fun x => (⟨x.1.hash w, .ref x.2.1, x.2.2⟩ : DictEntry))) {acc : Array Value} (ha : acc.size = es.size) (hi : ∀ (i : Nat) (v : Value), acc[i]? = some v → ∃ hi : i < es.size, v = es[i].key) : acc.toList = xs.map fun x => Value.ref x.2.1 := by
  have hl : es.size = xs.length := by rw [← Array.length_toList, he, List.length_map]
  apply List.ext_getElem?
  intro i
  by_cases h : i < xs.length
  · have h1 : i < acc.size := by omega
    have h2 : acc[i]? = some acc[i] := by simp [h1]
    obtain ⟨h3, h4⟩ := hi i _ h2
    have h5 : es.toList[i]? = some es[i] := by simp [h3]
    rw [he, List.getElem?_map] at h5
    rw [List.getElem?_map, Array.getElem?_toList, h2, h4]
    cases h6 : xs[i]? with
    | none => rw [h6] at h5; cases h5
    | some x =>
      rw [h6] at h5
      simp only [Option.map_some, Option.some.injEq] at h5 ⊢
      rw [← h5]
  · rw [List.getElem?_eq_none (by simp; omega), List.getElem?_eq_none (by simp; omega)]
def rSortDic (K : PySem.W.Frag) : List V → Hp → VK → Prop := fun vs H Q => ∃ (a : Addr) (w : World) (xs : List (NestedKey × Addr × Value)) (ks : List D), vs = [V.ref a] ∧ H a = some (dN a w xs) ∧ KeysAt K H ks xs ∧ xs.length ≤ sizeLine ∧ sortOk ks = true ∧ ∀ ys p, RepL K NoA H (sortD ks) ys → H p = none → Q (.ref p) (upd H p (.lst ys))
theorem cr_sortedDic {X : Cx} (hc : X.calm = true) (hu : X.A.units + 64 < cLine) : CallR X (.builtin "sorted") (rSortDic X.K) := by
  intro pins s σ H vs us Q I r h
  obtain ⟨a, w, xs, ks, rfl, hd, hk, hz, hok, q⟩ := h
  obtain ⟨u, rfl, ru⟩ := vals1 r
  obtain rfl : u = Value.ref a := ru
  obtain ⟨h1, h2, h3, h4, h5⟩ := sortOk_iff hok
  obtain ⟨⟨lo, o, es, ep, d1, d2, d3, d4, d5⟩, _⟩ := I.hok _ _ hd
  have hes : es.size = xs.length := by rw [← Array.length_toList, d4, List.length_map]
  have hraw : s.heap.DictRaw a es ep := ⟨o, d1, d2, d3⟩
  refine Calls.call_function_entry PyProof.Rows.kind_sorted PyProof.Rows.plain_sorted PyProof.Rows.entry_sorted (PyProof.Rows.args_sorted1 _) ?_
  unfold Builtin.«sorted»
  refine wpAny_bind (m := checkCount "sorted" 1 1 _) (wpAny_pure ?_)
  refine wpAny_bind (PySem.W.kdu_collect (A := X.A.in1) (KdlSrc.rawDict (ep := ep) (es := es) lo) (I.ok.hd hc) hraw (by omega) fun h' tk acc hkp hacc => ?_)
  have eacc : acc.toList = xs.map fun x => Value.ref x.2.1 := items_eq d4 hacc.1 hacc.2
  have e : PySem.W.EachIs (IsD X.K H) acc.toList ks := by rw [eacc]; exact keys_each hk
  have I1 : Inv X pins σ H { s with heap := h', toks := tk } := I.kept hkp
  have hlen : acc.toList.length = ks.length := e.length
  have hksz : ks.length ≤ sizeLine := by rw [← hk.len]; exact hz
  refine wpAny_bind (wpAny_newList ?_ (by rw [hlen]; exact hksz))
  have hoL : (h'.push (seqObj "list" acc.toList.toArray 0)).get? h'.objs.size = some (seqObj "list" acc.toList.toArray 0) := Heap.get?_push_size _ rfl
  show wpAny _ _ _ _ _ { s with heap := h'.push (seqObj "list" acc.toList.toArray 0), toks := tk }
  have er := reads_of I1 h1 e
  have er' : PySem.W.EachIs (fun v d => ∃ as, Reads (PySem.W.sortingHeap (h'.push (seqObj "list" acc.toList.toArray 0)) h'.objs.size acc.toList) v (py d) as) acc.toList ks :=
    er.mono fun _ _ ⟨as, rr⟩ => ⟨as, PyProof.Rows.Reads.keeps (fun b o eb => PySem.W.sortingHeap_old (Nat.ne_of_lt (Heap.lt_size eb)) (Heap.get?_push_of_some _ eb)) rr⟩
  refine wpAny_bind (wpAny_holding (wpAny_call_entry PyProof.Rows.slot_list_sort ⟨_, hoL, rfl⟩ PyProof.Rows.entry_list_sort
    (PySem.W.list_sort_vals (κ := PySem.W.dataKind (PySem.W.sortingHeap (h'.push (seqObj "list" acc.toList.toArray 0)) h'.objs.size acc.toList) (ks.map py)) hoL
      (PySem.W.SortsAt.data (s := { s with heap := PySem.W.sortingHeap (h'.push (seqObj "list" acc.toList.toArray 0)) h'.objs.size acc.toList, toks := tk }) (PySem.W.each_map (R := fun v d => ∃ as, Reads (PySem.W.sortingHeap (h'.push (seqObj "list" acc.toList.toArray 0)) h'.objs.size acc.toList) v d as) py er') h3 h4 (PySem.W.bound_map fun d hd => by
        have := h5 d hd
        show X.A.units + 1 + 1 + _ < _
        omega)) (by rw [hlen]; exact hksz) ⟨_, rfl, ?_⟩) (PyProof.Rows.args_list_sort _)))
  have g2 := PySem.W.sortVals_data (R := IsD X.K H) false e er' h3
  obtain ⟨ys, k1, k2⟩ := isD_to g2
  obtain ⟨n, hn⟩ := PyProof.Rows.sortedHeap_at (vs := acc.toList) (out := (PySem.W.sortVals (PySem.W.dataKind (PySem.W.sortingHeap (h'.push (seqObj "list" acc.toList.toArray 0)) h'.objs.size acc.toList) (ks.map py)) false acc.toList acc.toList).toArray) hoL
  refine wpAny_pure ⟨_, rfl, .ref h'.objs.size, upd H h'.objs.size (.lst ys), I1.laid (t' := tk) (fun b o eb => ?_) (Nat.le_refl _) ⟨?_, _, n, k1, hn⟩, rfl, q ys _ k2 (I1.hok.fresh (Nat.le_refl _))⟩
  · have hb : b < h'.objs.size := Heap.lt_size eb
    rw [PyProof.Rows.sortedHeap_old (Nat.ne_of_lt hb) (by rw [PyProof.Rows.size_push']; exact Nat.lt_succ_of_lt hb)]
    exact Heap.get?_push_of_some _ eb
  · rw [k1.length, g2.length, (List.mergeSort_perm ks _).length_eq]; exact hksz
end DL

set_option Elab.async false
set_option linter.all false
set_option maxRecDepth 100000
/-! The data layer: what a def does with an owned dict. -/
namespace DL
open PySem PySem.Spec PyProof.Rows L2
section
variable {X : Cx} {pins : List (Addr × Obj)} {σ : L2.St} {H : Hp} {s : Shared}
def IsDN (H : Hp) (a : Addr) : Prop := ∃ w xs, H a = some (dN a w xs)
theorem isDN_at (I : Inv X pins σ H s) {a : Addr} (d : IsDN H a) : s.TypeIs (.ref a) "dict" ∧ (∀ b, Value.ref a = .ref b → ∃ ob, s.heap.get? b = some ob ∧ ob.dict = none) ∧ (a == sysModules) = false ∧ ∃ es ep, s.heap.DictRaw a es ep := by
  obtain ⟨w, xs, e⟩ := d
  obtain ⟨⟨lo, o, es, ep, d1, d2, d3, d4, d5⟩, _⟩ := I.hok _ _ e
  exact ⟨⟨o, d1, d2.1⟩, fun b q => by cases q; exact ⟨o, d1, d2.2.1⟩, lo, es, ep, o, d1, d2, d3⟩
end
/-! {} -/
def tDNewN (w : World) : TE := fun _ H Q => ∀ p, H p = none → Q (.ref p) (upd H p (dN p w []))
theorem pe_dnewN {X : Cx} {pos : Pos} : PE X (.Dict [] [] pos) (tDNewN X.w) := ⟨fun pins s σ H Q I h =>
  wpAny_Dict_empty ⟨.ref s.heap.objs.size, _, I.laid (a := s.heap.objs.size) (o := dN s.heap.objs.size X.w []) (t' := s.toks) (fun _ _ q => Heap.get?_push_of_some _ q) (Nat.le_refl _)
    (dn_ok (beq_eq_false_iff_ne.mpr (Nat.ne_of_gt I.big)) (Heap.DictOfH.new _)), rfl, h _ (I.hok.fresh (Nat.le_refl _))⟩⟩
def mDict0 : M SV := ret (.box (.dic [] []))
section
variable {X : Cx} {c : Fc} {W : WX} {pos : Pos} {σ : L2.St} {ρ : List SV} {ts : Ts} {H : Hp} {Q : VK} {i j : Nat} {sv sk sx : SV} {v u w : V} {p : Addr}
theorem pd_dict0 : PE X (.Dict [] [] pos) (tDE c W mDict0) := pe_imp pe_dnewN fun σ H Q ⟨ρ, ts, r, q⟩ p hp =>
  q _ _ (r.push_box hp (ext_new hp) fun A => ⟨X.w, [], [], upd_same, rfl, RepL.nil, .nil, Nat.zero_le _, List.nodup_nil⟩)
end
/-! in, not in -/
def fInX (neg : Bool) (d e : D) : Option BR := match e with
  | .dic ks vs => (dGet ks vs d).map fun o => .imm (.bl (if neg then !o.isSome else o.isSome))
  | e => fIn neg d e
theorem opB_inX {K : PySem.W.Frag} {neg : Bool} : OpB K (fun x y H Q => rIn K neg x y H Q ∨ rNIn K neg x y H Q) (fInX neg) := by
  intro A H d1 d2 v1 v2 b Q h1 h2 e q
  cases d2 with
  | dic ks vs =>
    simp only [fInX, Option.map_eq_some_iff] at e
    obtain ⟨o, e, rfl⟩ := e
    obtain ⟨a, rfl, hd⟩ := h2
    obtain ⟨nk, hk, _⟩ : ∃ nk, keyOf d1 = some nk ∧ True := by
      unfold dGet at e
      rw [Option.map_eq_some_iff] at e
      obtain ⟨nk, hk, _⟩ := e
      exact ⟨nk, hk, trivial⟩
    obtain ⟨_, _, ds, rfl⟩ := keyOf_nk hk
    obtain ⟨w, xs, nk, b, rfl, e1, e2, e3, e4⟩ := dic_at hd (A := A) h1 e
    refine .inr ⟨a, w, xs, nk, b, rfl, rfl, e1, e2, e3, ?_⟩
    have : (atKey xs nk).isSome = o.isSome := by
      cases o with
      | none => rw [show atKey xs nk = none from e4]; rfl
      | some d => obtain ⟨q, u, e5, _⟩ := e4; rw [e5]; rfl
    rw [this]
    exact q _ (rep_bl _)
  | _ => exact .inl (opB_in A H d1 _ v1 v2 b Q h1 h2 (by simpa only [fInX] using e) q)
theorem opR_inX {X : Cx} (hu : X.A.units + 64 < cLine) : OpR X (compareOp .In) (fun x y H Q => rIn X.K false x y H Q ∨ rNIn X.K false x y H Q) := OpR.or op_in_seq (op_nin hu)
theorem opR_notInX {X : Cx} (hu : X.A.units + 64 < cLine) : OpR X (compareOp .NotIn) (fun x y H Q => rIn X.K true x y H Q ∨ rNIn X.K true x y H Q) := OpR.or op_notIn_seq (op_nnotin hu)
/-! d.get(k, x) -/
def tDGetN (K : PySem.W.Frag) (td ty tx : TE) : TE := fun σ H Q => td σ H fun x H1 => ∃ a, x = .ref a ∧ IsDN H1 a ∧ ty σ H1 fun y H2 => tx σ H2 fun z H3 => ∃ w xs nk b, y = .ref b ∧ H3 a = some (dN a w xs) ∧ (∀ x ∈ xs, NkAt K H3 x.1 x.2.1) ∧ NkAt K H3 nk b ∧
  (atKey xs nk = none → Q z H3) ∧ ∀ q, atKey xs nk = some q → ∃ u, RelV u q.2 ∧ Q u H3
theorem pe_dgetN {X : Cx} {o e f : Expr} {apos cpos : Pos} {td ty tx : TE} (hu : X.A.units + 64 < cLine) (ho : PE X o td) (he : PE X e ty) (hf : PE X f tx) (m : M2 X o "get" apos e f cpos) : PE X (.Call (.Attribute o "get" apos) [e, f] [] cpos) (tDGetN X.K td ty tx) := by
  refine ⟨fun pins s σ H Q I h => ?_⟩
  refine wpAny_Call_method m.base m.few m.line PySem.F.plainAttrs_dict PySem.F.slot_dict_get PySem.F.type_dict_get (thn (ho.run pins s σ H _ I h) fun u s1 ⟨x, H1, I1, rx, a, ex, d, q1⟩ => ?_)
  subst ex
  obtain rfl : u = Value.ref a := rx
  obtain ⟨t1, t2, _⟩ := isDN_at I1 d
  refine ⟨t1, t2, ?_⟩
  rw [m.trees]
  refine Calls.callWith_builtin rfl (Calls.evalArgs_plain (Calls.spliced_cons (thn (he.run pins s1 σ H1 _ I1 q1) fun iv s2 ⟨y, H2, I2, ry, q2⟩ =>
    Calls.spliced_cons (thn (hf.run pins s2 σ H2 _ I2 q2) fun fv s3 ⟨z, H3, I3, rz, w, xs, nk, b, ey, e1, e2, e3, q3, q4⟩ => Calls.spliced_nil ?_))))
  subst ey
  obtain rfl : iv = Value.ref b := ry
  obtain ⟨hd, dd⟩ := dn_of I3 e1 e2
  refine call_meetsIn PySem.F.slot_dict_get dd.typeIs PySem.F.entry_dict_get (PySem.F.args_dict_get_3 _ _ _) (meetsH_dict_get_default (nestedKind X.prog X.w) a b hd fv) ⟨room8 hu, nk, xs, e3.is I3, dd, ?_⟩
  cases hk : atKey xs nk with
  | none => exact ⟨z, H3, I3.tok _, rz, q3 hk⟩
  | some q =>
    obtain ⟨u, ru, hq⟩ := q4 q hk
    exact ⟨u, H3, I3.tok _, ru, hq⟩
section
variable {X : Cx} {c : Fc} {W : WX} {pos : Pos} {σ : L2.St} {ρ : List SV} {ts : Ts} {H : Hp} {Q : VK} {i j : Nat} {sv sk sx : SV} {v u w : V} {p : Addr}
def getK (j : Nat) (sk sx : SV) : M SV := fun ρ => match ρ[j]? with
  | some (.box (.dic ks vs)) => match con ρ sk with
    | some k => match sx with
      | .fz x => match dGet ks vs k with
        | some (some d) => some (.ok (.fz d) ρ)
        | some none => some (.ok (.fz x) ρ)
        | none => none
      | _ => none
    | none => none
  | _ => none
def mDGet (j : Nat) (mk mx : M SV) : M SV := fun ρ => match ρ[j]? with
  | some (.box (.dic _ _)) => (mk.bnd fun sk => mx.bnd fun sx => getK j sk sx) ρ
  | _ => none
theorem keyRep {K : PySem.W.Frag} {A : Addr → Prop} {k : D} {ks vs : List D} {o : Option D} (e : dGet ks vs k = some o) (h : RepR K A H k v) : Rep K A H k v := by
  unfold dGet at e
  rw [Option.map_eq_some_iff] at e
  obtain ⟨nk, hk, _⟩ := e
  obtain ⟨_, _, ds, rfl⟩ := keyOf_nk hk
  exact h
theorem r_getK (r : R c σ ρ ((sx, w) :: (sk, v) :: ts) H) (hw : σ[j]? = some (some (.ref p))) (q : PostE c W σ ts Q (getK j sk sx ρ)) : ∃ wd xs nk b, v = .ref b ∧ H p = some (dN p wd xs) ∧ (∀ x ∈ xs, NkAt c.K H x.1 x.2.1) ∧ NkAt c.K H nk b ∧
    (atKey xs nk = none → Q w H) ∧ ∀ q, atKey xs nk = some q → ∃ u, RelV u q.2 ∧ Q u H := by
  unfold getK at q
  cases ej : ρ[j]? with
  | none => rw [ej] at q; exact q.elim
  | some s =>
    rw [ej] at q
    cases s with
    | box d =>
      cases d with
      | dic ks vs =>
        simp only at q
        cases ek : con ρ sk with
        | none => rw [ek] at q; exact q.elim
        | some k =>
          rw [ek] at q
          cases sx with
          | fz x =>
            simp only at q
            obtain ⟨p', e1, hx, _⟩ := r.slot_box ej
            rw [hw] at e1; cases e1
            have hk := r.con (List.mem_cons_of_mem _ List.mem_cons_self) ek
            cases eg : dGet ks vs k with
            | none => rw [eg] at q; exact q.elim
            | some o =>
              rw [eg] at q
              obtain ⟨wd, xs, nk, b, e1, e2, e3, e4, e5⟩ := dic_at hx (keyRep eg hk) eg
              refine ⟨wd, xs, nk, b, e1, e2, e3, e4, fun hn => ?_, fun y hy => ?_⟩
              · cases o with
                | some d => obtain ⟨y, u, e6, _⟩ := e5; rw [hn] at e6; cases e6
                | none => exact q w H (r.perm (List.Perm.swap _ _ _)).pop
              · cases o with
                | none => rw [show atKey xs nk = none from e5] at hy; cases hy
                | some d =>
                  obtain ⟨y', u, e6, e7, e8⟩ := e5
                  rw [hy] at e6; cases e6
                  exact ⟨u, e7, q u H (r.push_fz e8 |>.perm (List.Perm.refl _) |> fun z => (z.perm (ts' := (SV.fz x, w) :: (sk, v) :: (SV.fz d, u) :: ts) ((List.Perm.swap _ _ _).trans (List.Perm.cons _ (List.Perm.swap _ _ _)))).pop.pop)⟩
          | _ => exact q.elim
      | _ => exact q.elim
    | _ => exact q.elim
theorem pd_dget {x : Str} {po apos cpos : Pos} {e f : Expr} {mk mx : M SV} (hu : X.A.units + 64 < cLine) (ho : PE X (.Name x po) (tVar j)) (he : PE X e (tDE c W mk)) (hf : PE X f (tDE c W mx)) (m : M2 X (.Name x po) "get" apos e f cpos) (hK : c.K = X.K := by rfl) :
    PE X (.Call (.Attribute (.Name x po) "get" apos) [e, f] [] cpos) (tDE c W (mDGet j mk mx)) := by
  refine pe_imp (pe_dgetN hu ho he hf m) fun σ H Q ⟨ρ, ts, r, q⟩ => ?_
  unfold mDGet at q
  cases ej : ρ[j]? with
  | none => rw [ej] at q; exact q.elim
  | some s =>
    rw [ej] at q
    cases s with
    | box d =>
      cases d with
      | dic ks vs =>
        simp only at q
        obtain ⟨p, e1, hx, _⟩ := r.slot_box ej
        obtain ⟨w0, xs0, us0, e0, _⟩ := hx
        refine ⟨_, e1, p, rfl, ⟨w0, xs0, e0⟩, bindE r q fun sk v ρ1 H1 r1 q1 => ?_⟩
        refine bindE1 r1 q1 fun sx w ρ2 H2 r2 q2 => ?_
        exact hK ▸ r_getK r2 e1 q2
      | _ => exact q.elim
    | _ => exact q.elim
/-! d[k] = v -/
def sDPutN (K : PySem.W.Frag) (td ty tv : TE) : TS := fun D σ H => tv σ H fun v H1 => td σ H1 fun x H2 => ty σ H2 fun y H3 => ∃ a w xs nk b, x = .ref a ∧ y = .ref b ∧ H3 a = some (dN a w xs) ∧ (∀ x ∈ xs, NkAt K H3 x.1 x.2.1) ∧ NkAt K H3 nk b ∧ xs.length ≤ sizeLine ∧
  ∀ w' u, RelV v u → D.nx σ (upd H3 a (dN a w' (storedH xs nk b u)))
theorem ps_dputN {X : Cx} {o i value : Expr} {pos pos' : Pos} {td ty tv : TE} (hu : X.A.units + 64 < cLine) (ho : PE X o td) (hi : PE X i ty) (hv : PE X value tv) (hs : swapsWith value (some (.Subscript o i pos')) pos.line X.env = pure false) :
    PS X (.Assign [.Subscript o i pos'] value pos) (sDPutN X.K td ty tv) := by
  refine ⟨fun pins s σ H D I h => ?_⟩
  refine wpAny_Assign_Subscript (thn (hv.run pins s σ H _ I h) fun r s1 ⟨v, H1, I1, rv, q1⟩ => thn (ho.run pins s1 σ H1 _ I1 q1) fun u s2 ⟨x, H2, I2, rx, q2⟩ => thn (hi.run pins s2 σ H2 _ I2 q2) fun iv s3 ⟨y, H3, I3, ry, a, w, xs, nk, b, ex, ey, e1, e2, e3, hz, q3⟩ => ?_) hs
  subst ex ey
  obtain rfl : u = Value.ref a := rx
  obtain rfl : iv = Value.ref b := ry
  obtain ⟨hd, dd⟩ := dn_of I3 e1 e2
  refine wpAny_setItem_heap (hsz := hz) (room8 hu) (e3.is I3) dd fun h' dd' hsb => ?_
  obtain ⟨o', es, ep, hq, hrest⟩ := id dd'
  exact ⟨σ, _, d_write I3 (by rw [e1]; exact True.intro) hsb ⟨o', hq⟩ (dn_ok hd dd'), q3 X.w r rv⟩
def putKD (j : Nat) (sk sv : SV) : MS := fun ρ => match con ρ sk with
  | some k => match esc sv ρ with
    | some (.ok v ρ1) => match ρ1[j]? with
      | some (.box (.dic ks vs)) => match dPut ks vs k v with
        | some (ks', vs') => some (.nx (ρ1.set j (.box (.dic ks' vs'))))
        | none => none
      | _ => none
    | _ => none
  | none => none
def atBox (j : Nat) (m : MS) : MS := fun ρ => match ρ[j]? with
  | some (.box _) => m ρ
  | _ => none
def mDPut (j : Nat) (m mk : M SV) : MS := mE m fun sv => atBox j (mE mk fun sk => putKD j sk sv)
theorem dPut_key {ks vs ks' vs' : List D} {k v : D} (e : dPut ks vs k v = some (ks', vs')) : ∃ nk, keyOf k = some nk := by
  unfold dPut at e
  split at e
  · cases e
  · rename_i nk h; exact ⟨nk, h⟩
theorem keys_set {nk : NestedKey} {a : Addr} {u w : Value} : ∀ {xs : List (NestedKey × Addr × Value)} {i : Nat}, xs[i]? = some (nk, a, u) → (xs.set i (nk, a, w)).map (·.1) = xs.map (·.1)
  | [], i, h => by simp at h
  | x :: xs, 0, h => by simp at h; subst h; rfl
  | x :: xs, i + 1, h => by
    rw [List.set_cons_succ, List.map_cons, List.map_cons, keys_set (by simpa using h)]
/-- the dict behind a store -/
theorem dic_put {K : PySem.W.Frag} {A : Addr → Prop} {H H' : Hp} {ks vs ks' vs' : List D} {k vd : D} {xs : List (NestedKey × Addr × Value)} {us : List V} {nk : NestedKey} {b : Addr} {x : Value} {y : V} {wd' : World}
    (h2 : KeysAt K H ks xs) (h3 : RepL K A H vs us) (h4 : Vals us (xs.map (·.2.2))) (h5 : xs.length ≤ sizeLine) (h6 : (xs.map (·.1)).Nodup) (hk : keyOf k = some nk) (hr : Rep K NoA H k (.ref b)) (e : dPut ks vs k vd = some (ks', vs')) (ry : RelV y x) (hy : Rep K A H vd y)
    (hp : H' p = some (dN p wd' (storedH xs nk b x))) (kT : ∀ a vs, SqT K H a vs → SqT K H' a vs) (kL : ∀ ds vs, RepL K A H ds vs → RepL K A H' ds vs) : DicAt K A H' ks' vs' p := by
  unfold dPut at e
  rw [hk] at e
  simp only at e
  have ha := at_dix nk h2
  cases hd : dixF nk ks with
  | some i =>
    rw [hd] at e ha
    simp only [Option.some.injEq, Prod.mk.injEq] at e
    obtain ⟨rfl, rfl⟩ := e
    obtain ⟨a, u, f1, f2⟩ := map_put nk x h2 h6 hd
    have hs : storedH xs nk b x = xs.set i (nk, a, x) := by
      rw [storedH_old (p := (a, u)) (by rw [ha, Option.bind_some, f1]; rfl), f2]
    rw [hs] at hp
    refine ⟨wd', _, us.set i y, hp, (KeysAt.setV x h2 f1).ext kT, kL _ _ (RepL.set i h3 hy), ?_, by rw [List.length_set]; exact h5, by rw [keys_set f1]; exact h6⟩
    rw [List.map_set]
    exact vals_set i h4 ry
  | none =>
    rw [hd] at e ha
    simp only at e
    split at e
    · rename_i hl
      simp only [Option.some.injEq, Prod.mk.injEq] at e
      obtain ⟨rfl, rfl⟩ := e
      have hn : atKey xs nk = none := ha
      rw [storedH_new hn] at hp
      refine ⟨wd', _, us ++ [y], hp, (KeysAt.app hk hr x h2).ext kT, kL _ _ (RepL.app h3 (RepL.one hy)), ?_, ?_, ?_⟩
      · rw [List.map_append]; exact vals_app h4 ry
      · have := h2.len; rw [List.length_append, List.length_singleton]; omega
      · rw [List.map_append, List.nodup_append]
        refine ⟨h6, by simp, fun z hz z' hz' => ?_⟩
        simp only [List.map_cons, List.map_nil, List.mem_singleton] at hz'
        subst hz'
        intro ez
        subst ez
        obtain ⟨q, hq, e9⟩ := List.mem_map.mp hz
        unfold atKey at hn
        rw [Option.map_eq_none_iff, List.find?_eq_none] at hn
        have := hn q hq
        rw [e9] at this
        simp at this
    · cases e
theorem r_putKD {Dn : Ends} (n : NoLoc ts) (r : R c σ ρ ((sk, u) :: (sv, v) :: ts) H) (hw : σ[j]? = some (some (.ref p))) (q : PostS c W ts Dn (putKD j sk sv ρ)) : ∃ wd xs nk b, u = .ref b ∧ H p = some (dN p wd xs) ∧ (∀ x ∈ xs, NkAt c.K H x.1 x.2.1) ∧ NkAt c.K H nk b ∧ xs.length ≤ sizeLine ∧
    ∀ w' x, RelV v x → Dn.nx σ (upd H p (dN p w' (storedH xs nk b x))) := by
  unfold putKD at q
  cases ek : con ρ sk with
  | none => rw [ek] at q; exact q.elim
  | some k =>
    rw [ek] at q
    simp only at q
    have hk := r.con List.mem_cons_self ek
    cases ee : esc sv ρ with
    | none => rw [ee] at q; exact q.elim
    | some y =>
      cases y with
      | er x ρ' => exact absurd ee esc_er
      | ok vd ρ1 =>
        rw [ee] at q
        simp only at q
        have r1 := r_esc (r.perm (List.Perm.swap _ _ _)) ee
        cases ej : ρ1[j]? with
        | none => rw [ej] at q; exact q.elim
        | some s =>
          rw [ej] at q
          cases s with
          | box d =>
            cases d with
            | dic ks vs =>
              simp only at q
              cases ep : dPut ks vs k vd with
              | none => rw [ep] at q; exact q.elim
              | some kv =>
                obtain ⟨ks', vs'⟩ := kv
                rw [ep] at q
                simp only at q
                obtain ⟨p', e1, hx, hA⟩ := r1.slot_box ej
                rw [hw] at e1; cases e1
                obtain ⟨nk, hnk⟩ := dPut_key ep
                obtain ⟨hn1, hn2, ds, rfl⟩ := keyOf_nk hnk
                have hk2 : Rep c.K NoA H (.tup ds) u := nk_list (fun _ _ z => z) hn1 (show Rep c.K _ H (.tup ds) u from hk)
                have hk3 := hk2
                simp only [Rep] at hk3
                obtain ⟨b, _, rfl, _⟩ := hk3
                obtain ⟨wd, xs, us, h1, h2, h3, h4, h5, h6⟩ := hx
                refine ⟨wd, xs, nk, b, rfl, h1, h2.nk, ⟨_, hnk, hk2⟩, h5, fun w' x rx => ?_⟩
                have hxx : ∀ a o, a ≠ p → H a = some o → upd H p (dN p w' (storedH xs nk b x)) a = some o := fun a o ha h => by rw [upd_ne ha]; exact h
                have bx : Boxy (dN p wd xs) := ⟨fun _ => dN_tup, fun _ _ => dN_frz, fun _ => dN_lst⟩
                have r3 := r1.perm (List.Perm.swap _ _ _) |>.pop
                have hv := r3.top_fz
                refine q σ _ (R.pop (t := (.fz vd, v)) (r3.writeX (d' := .dic ks' vs') ej hw ?_ hxx))
                have e3 : Avr c σ ρ1 ((SV.fz vd, v) :: ts) = Avr c σ ρ1 ts := rfl
                have hA' : Avr c σ ρ1 ((SV.fz vd, v) :: ts) p := by
                  obtain ⟨p', e1, _, hA⟩ := r3.slot_box ej
                  rw [hw] at e1; cases e1
                  exact hA
                have h3' : RepL c.K (Avr c σ ρ1 ((SV.fz vd, v) :: ts)) H vs us := by
                  obtain ⟨p', e1, hx', _⟩ := r3.slot_box ej
                  rw [hw] at e1; cases e1
                  refine h3.less fun a z => .inl ?_
                  exact z.imp id fun m => by
                    have : Own (tsP ((SV.fz vd, v) :: (sk, V.ref b) :: ts) ++ ρ1.zip σ) = Own (tsP ((SV.fz vd, v) :: (sk, V.ref b) :: ts) ++ ρ1.zip σ) := rfl
                    exact (List.Sublist.filterMap ownA (List.Sublist.append_right (l := ρ1.zip σ) (show (tsP ((SV.fz vd, v) :: ts)).Sublist (tsP ((SV.fz vd, v) :: (sk, V.ref b) :: ts)) from List.Sublist.cons_cons _ (List.sublist_cons_self _ _)))).subset m
                exact dic_put (p := p) h2 h3' h4 h5 h6 hnk hk2 ep rx hv upd_same (fun a vs z => sqT_but h1 bx hxx z) fun ds vs z => repL_but h1 bx hA' hxx z
            | _ => exact q.elim
          | _ => exact q.elim
theorem pd_dput {ie e : Expr} {x : Str} {po pt : Pos} {m mk : M SV} (hu : X.A.units + 64 < cLine) (ho : PE X (.Name x po) (tVar j)) (hi : PE X ie (tDE c W mk)) (he : PE X e (tDE c W m)) (hK : c.K = X.K := by rfl)
    (hs : swapsWith e (some (.Subscript (.Name x po) ie pt)) pos.line X.env = pure false := by rfl) : PS X (.Assign [.Subscript (.Name x po) ie pt] e pos) (tDS c W (mDPut j m mk)) := by
  refine ps_imp (ps_dputN hu ho hi he hs) fun D σ H ⟨ρ, ts, r, n, q⟩ => ?_
  refine bindS r q fun sv v ρ1 H1 r1 q1 => ?_
  unfold atBox at q1
  cases ej : ρ1[j]? with
  | none => rw [ej] at q1; exact q1.elim
  | some s =>
    rw [ej] at q1
    cases s with
    | box d =>
      obtain ⟨p, e1, hx, _⟩ := r1.slot_box ej
      refine ⟨_, e1, bindS1 r1 q1 fun sk u ρ2 H2 r2 q2 => ?_⟩
      obtain ⟨wd, xs, nk, b, f1, f2, f3, f4, f5, f6⟩ := r_putKD n r2 e1 q2
      exact ⟨p, wd, xs, nk, b, rfl, f1, f2, hK ▸ f3, hK ▸ f4, f5, f6⟩
    | _ => exact q1.elim
/-! sorted -/
def fSortG : List D → Option BR
  | [.lst ds] => match intsOf ds with
    | some ns => some (.newL ((sortI ns).map .int))
    | none => if sortOk ds = true then some (.newL (sortD ds)) else none
  | [.dic ks _] => if sortOk ks = true then some (.newL (sortD ks)) else none
  | _ => none
def rSortX (K : PySem.W.Frag) : List V → Hp → VK → Prop := fun vs H Q => (rSortedI K vs H Q ∨ rSortG K vs H Q) ∨ rSortDic K vs H Q
theorem cr_sortX {X : Cx} (hc : X.calm = true) (hu : X.A.units + 64 < cLine) : CallR X (.builtin "sorted") (rSortX X.K) := CallR.or (CallR.or cr_sortedI (cr_sortedG hu)) (cr_sortedDic hc hu)
theorem repL_noA {K : PySem.W.Frag} {A : Addr → Prop} {H : Hp} {ds : List D} {vs : List V} (h : nolists ds = true) (r : RepL K A H ds vs) : RepL K NoA H ds vs := RepL.any h r
theorem sortD_nolist {ds : List D} (h : nolists ds = true) : nolists (sortD ds) = true := by
  have key : ∀ {l : List D}, nolists l = true ↔ ∀ d ∈ l, nolist d = true := fun {l} => by
    induction l with
    | nil => simp [nolists]
    | cons x l ih => simp [nolists, ih]
  rw [key] at h ⊢
  exact fun d hd => h d (sortD_mem.mp hd)
theorem callB_sortX {K : PySem.W.Frag} : CallB K (rSortX K) fSortG := by
  intro A H ds vs b Q h e q
  unfold fSortG at e
  split at e
  · rename_i ds
    split at e
    · rename_i ns en
      refine .inl (.inl (callB_sorted A H [.lst ds] vs b Q h ?_ q))
      show (intsOf ds).map _ = _
      rw [en]
      exact e
    · split at e
      · rename_i hok
        cases e
        obtain ⟨v, rfl, r⟩ := repRL1 h
        obtain ⟨a, us, rfl, e2, r⟩ := repR_lst r
        have hn := (sortOk_iff hok).2.1
        exact .inl (.inr ⟨a, us, ds, rfl, SqL.of e2, RepL.any hn r, hok, fun ys p hr hp => q _ p (RepL.any (sortD_nolist hn) hr) hp⟩)
      · cases e
  · rename_i ks us
    split at e
    · rename_i hok
      cases e
      obtain ⟨v, rfl, r⟩ := repRL1 h
      obtain ⟨a, rfl, w, xs, vs', h1, h2, h3, h4, h5, h6⟩ := r
      have hn := (sortOk_iff hok).2.1
      exact .inr ⟨a, w, xs, ks, rfl, h1, h2, h5, hok, fun ys p hr hp => q _ p (RepL.any (sortD_nolist hn) hr) hp⟩
    · cases e
  · cases e
/-! list(d.keys()) -/
def kvO (v d : Addr) : HO := .ext fun h => PySem.W.KdlKeysView h v d
def tKeysN (td : TE) : TE := fun σ H Q => td σ H fun x H1 => ∃ a, x = .ref a ∧ IsDN H1 a ∧ ∀ v, H1 v = none → Q (.ref v) (upd H1 v (kvO v a))
theorem pe_keysN {X : Cx} {o : Expr} {apos cpos : Pos} {td : TE} (ho : PE X o td) (hbase : attributeBase o "keys" X.env (eval o X.env) = eval o X.env := by rfl) (hline : (apos.endLine == cpos.line) = true := by rfl) : PE X (.Call (.Attribute o "keys" apos) [] [] cpos) (tKeysN td) := by
  refine ⟨fun pins s σ H Q I h => ?_⟩
  refine wpAny_Call_method0_late hbase hline (thn (ho.run pins s σ H _ I h) fun u s1 ⟨x, H1, I1, rx, a, ex, d, q1⟩ => ?_)
  subst ex
  obtain rfl : u = Value.ref a := rx
  obtain ⟨t1, t2, lo, es, ep, hr⟩ := isDN_at I1 d
  refine ⟨"dict", "dict.keys", PySem.F.plainAttrs_dict, PySem.F.slot_dict_keys, PySem.F.type_dict_keys, t1, t2, Calls.callWith_builtin rfl (PySem.evalArgs_none ?_)⟩
  refine call_meetsIn PySem.F.slot_dict_keys t1 PySem.F.entry_dict_keys (PySem.F.args_dict_keys_1 _) (meets_dict_keys_raw a lo) ⟨⟨es, ep, hr⟩, ?_⟩
  have hv : PySem.W.KdlKeysView (s1.heap.push { cls := .type "dict_keys", data := .fields #[.ref a] }) s1.heap.objs.size a := ⟨_, Heap.get?_push_size _ rfl, rfl, rfl⟩
  exact ⟨.ref s1.heap.objs.size, _, I1.laid (o := kvO s1.heap.objs.size a) (t' := s1.toks) (fun _ _ q => Heap.get?_push_of_some _ q) (Nat.le_refl _)
    ⟨hv, ⟨_, Heap.get?_push_size _ rfl⟩, fun h1 h2 ⟨o, x1, x2⟩ k => ⟨o, k _ x1, x2⟩⟩, rfl, q1 _ (I1.hok.fresh (Nat.le_refl _))⟩
def rListKeys (K : PySem.W.Frag) : List V → Hp → VK → Prop := fun vs H Q => ∃ (v a : Addr) (w : World) (xs : List (NestedKey × Addr × Value)) (ks : List D), vs = [V.ref v] ∧ H v = some (kvO v a) ∧ H a = some (dN a w xs) ∧ KeysAt K H ks xs ∧ xs.length ≤ sizeLine ∧ ∀ ys p, RepL K NoA H ks ys → H p = none → Q (.ref p) (upd H p (.lst ys))
theorem cr_listKeys {X : Cx} (hc : X.calm = true) : CallR X (.type "list") (rListKeys X.K) := by
  intro pins s σ H vs us Q I r h
  obtain ⟨v, a, w, xs, ks, rfl, hv, hd, hk, hz, q⟩ := h
  obtain ⟨u, rfl, ru⟩ := vals1 r
  obtain rfl : u = Value.ref v := ru
  obtain ⟨⟨lo, o, es, ep, d1, d2, d3, d4, d5⟩, _⟩ := I.hok _ _ hd
  obtain ⟨hv1, _⟩ := I.hok _ _ hv
  have hes : es.size = xs.length := by rw [← Array.length_toList, d4, List.length_map]
  refine PySem.W.kdl_call (KdlSrc.rawKeys (r := v) (d := a) (ep := ep) (es := es)) (I.ok.hd hc) ⟨hv1, o, d1, d2, d3⟩ (by omega) fun h' tk acc c' kp hD hacc => ?_
  have eacc : acc.toList = xs.map fun x => Value.ref x.2.1 := items_eq d4 hacc.1 hacc.2
  have e : PySem.W.EachIs (IsD X.K H) acc.toList ks := by rw [eacc]; exact keys_each hk
  obtain ⟨ys, k1, k2⟩ := isD_to e
  refine ⟨.ref s.heap.objs.size, upd H s.heap.objs.size (.lst ys), I.laid (t' := tk) kp (Nat.le_refl _) ⟨?_, acc.toList, c', k1, by rw [Array.toArray_toList]; exact hD⟩, rfl, q ys _ k2 (I.hok.fresh (Nat.le_refl _))⟩
  rw [k1.length, Array.length_toList, hacc.1, hes]; exact hz
def mListKeys (j : Nat) : M SV := fun ρ => match ρ[j]? with
  | some (.box (.dic ks _)) => some (.ok (.own (.lst ks)) ρ)
  | _ => none
mutual
theorem nkNo : ∀ {d : D} {nk : NestedKey}, nkOf d = some nk → nolist d = true
  | .non, _, _ => by simp [nolist]
  | .bl _, _, _ => by simp [nolist]
  | .int _, _, _ => by simp [nolist]
  | .str _, _, _ => by simp [nolist]
  | .lst _, _, e => by simp [nkOf] at e
  | .seq _, _, e => by simp [nkOf] at e
  | .obj _ _ _, _, e => by simp [nkOf] at e
  | .dic _ _, _, e => by simp [nkOf] at e
  | .tup ds, nk, e => by
    simp only [nkOf, Option.map_eq_some_iff] at e
    obtain ⟨ks, e, _⟩ := e
    simp only [nolist]
    exact nksNo e
theorem nksNo : ∀ {ds : List D} {nk : List NestedKey}, nksOf ds = some nk → nolists ds = true
  | [], _, _ => by simp [nolists]
  | d :: ds, nk, e => by
    simp only [nksOf] at e
    split at e
    · rename_i k ks e1 e2
      simp only [nolists, nkNo e1, nksNo e2, Bool.and_self]
    · cases e
end
theorem keys_nolist {K : PySem.W.Frag} {H : Hp} : ∀ {ks : List D} {xs : List (NestedKey × Addr × Value)}, KeysAt K H ks xs → nolists ks = true
  | [], _, _ => by simp [nolists]
  | k :: ks, xs, h => by
    obtain ⟨x, ys, rfl, e, r, rs⟩ := h
    simp only [nolists, keys_nolist rs, Bool.and_true]
    exact nkNo (keyOf_nk e).1
theorem pd_listKeys {x : Str} {po apos kpos p p2 : Pos} (hc : X.calm = true) (hg : Gl X "list") (hm : X.mg "list" = none) (ho : PE X (.Name x po) (tVar j))
    (h : ∀ t, PE X (.Call (.Attribute (.Name x po) "keys" apos) [] [] kpos) t → PE X (.Call (.Name "list" p) [.Call (.Attribute (.Name x po) "keys" apos) [] [] kpos] [] p2) (tCB (rListKeys X.K) (tCons t tNil)))
    (hbase : attributeBase (.Name x po) "keys" X.env (eval (.Name x po) X.env) = eval (.Name x po) X.env := by rfl) (hline : (apos.endLine == kpos.line) = true := by rfl) (hK : c.K = X.K := by rfl) :
    PE X (.Call (.Name "list" p) [.Call (.Attribute (.Name x po) "keys" apos) [] [] kpos] [] p2) (tDE c W (mListKeys j)) := by
  refine pe_imp (h _ (pe_keysN ho hbase hline)) fun σ H Q ⟨ρ, ts, r, q⟩ => ?_
  unfold mListKeys at q
  cases ej : ρ[j]? with
  | none => rw [ej] at q; exact q.elim
  | some s =>
    rw [ej] at q
    cases s with
    | box d =>
      cases d with
      | dic ks vs =>
        obtain ⟨p, e1, hx, _⟩ := r.slot_box ej
        obtain ⟨wd, xs, us, h1, h2, h3, h4, h5, h6⟩ := hx
        refine ⟨_, e1, p, rfl, ⟨wd, xs, h1⟩, fun v hv => ?_⟩
        have ne : p ≠ v := fun z => by subst z; rw [hv] at h1; cases h1
        have kx : ∀ a o, H a = some o → upd H v (kvO v p) a = some o := ext_new hv
        refine ⟨v, p, wd, xs, ks, rfl, upd_same, kx _ _ h1, hK ▸ h2.ext (fun a vs z => sqT_ext z kx), h5, fun ys p' hr hp => ?_⟩
        exact fin_new (r.ext kx) (RepL.any (keys_nolist h2) (hK ▸ hr)) hp q
      | _ => exact q.elim
    | _ => exact q.elim
end
end DL

set_option Elab.async false
set_option linter.all false
set_option maxRecDepth 100000
/-! The data layer: own classes: fields, properties, making an instance, walking an own iterable. -/
namespace DL
open PySem PySem.Spec PyProof.Rows L2
theorem clsA_fn {K : PySem.W.Frag} {C : Str} {a b : Addr} (h : ClsA K C a) (h' : ClsA K C b) : a = b := by
  unfold ClsA at h h'
  rw [h] at h'
  cases h'
  rfl
/-! fields -/
def putN (f : Str) : List Str → List Str
  | [] => [f]
  | g :: r => if g = f then g :: r else g :: putN f r
def putV {α : Type} (f : Str) (y : α) : List Str → List α → List α
  | [], _ => [y]
  | g :: r, x :: xs => if g = f then y :: xs else x :: putV f y r xs
  | _ :: _, [] => []
theorem putF_zip (f : Str) (y : V) : ∀ {fs : List Str} {us : List V}, us.length = fs.length → putF f y (fs.zip us) = (putN f fs).zip (putV f y fs us)
  | [], us, h => by simp [putF, putN, putV]
  | g :: r, [], h => by simp at h
  | g :: r, x :: xs, h => by
    simp only [List.zip_cons_cons, putF, putN, putV]
    by_cases e : g = f
    · simp [e]
    · simp only [e, if_false, List.zip_cons_cons]
      rw [putF_zip f y (by simpa using h)]
theorem putV_len {α : Type} (f : Str) (y : α) : ∀ {fs : List Str} {us : List α}, us.length = fs.length → (putV f y fs us).length = (putN f fs).length
  | [], us, h => by simp [putN, putV]
  | g :: r, [], h => by simp at h
  | g :: r, x :: xs, h => by
    simp only [putN, putV]
    by_cases e : g = f
    · simp only [e, if_true, List.length_cons]; simpa using h
    · simp only [e, if_false, List.length_cons]
      rw [putV_len f y (by simpa using h)]
theorem putV_rep {K : PySem.W.Frag} {A : Addr → Prop} {H : Hp} (f : Str) {d : D} {y : V} (hy : Rep K A H d y) : ∀ {fs : List Str} {ds : List D} {us : List V}, us.length = fs.length → RepL K A H ds us → RepL K A H (putV f d fs ds) (putV f y fs us)
  | [], ds, us, h, r => RepL.one hy
  | g :: r, ds, [], h, _ => by simp at h
  | g :: r, [], x :: xs, h, q => by simp only [RepL] at q; cases q
  | g :: r, d' :: ds, x :: xs, h, q => by
    simp only [RepL] at q
    obtain ⟨v, vs, e, q1, q2⟩ := q
    cases e
    simp only [putV]
    split
    · exact RepL.cons hy q2
    · exact RepL.cons q1 (putV_rep f hy (by simpa using h) q2)
theorem zip_look {K : PySem.W.Frag} {A : Addr → Prop} {H : Hp} {f : Str} {d : D} : ∀ {fs : List Str} {ds : List D} {us : List V}, RepL K A H ds us → (fs.zip ds).lookup f = some d → ∃ v, (fs.zip us).lookup f = some v ∧ Rep K A H d v
  | [], ds, us, r, e => by simp at e
  | g :: r, [], us, q, e => by simp at e
  | g :: r, d' :: ds, us, q, e => by
    simp only [RepL] at q
    obtain ⟨v, vs, rfl, q1, q2⟩ := q
    rw [List.zip_cons_cons, List.lookup_cons] at e ⊢
    by_cases h : (f == g) = true
    · rw [h] at e ⊢
      simp only [Option.some.injEq] at e
      subst e
      exact ⟨v, rfl, q1⟩
    · have h' : (f == g) = false := by simpa using h
      rw [h'] at e ⊢
      exact zip_look q2 e
/-- a field of that class -/
structure FldD (K : PySem.W.Frag) (C f : Str) : Prop where
  ex : ∃ c, ClsA K C c ∧ Cls K c ∧ NoAttr K c f
def fFld (C f : Str) : D → Option BR
  | .obj C' fs ds => if C' = C then ((fs.zip ds).lookup f).map .imm else none
  | _ => none
section
variable {X : Cx} {c : Fc} {W : WX} {pos : Pos} {σ : L2.St} {ρ : List SV} {ts : Ts} {H H' : Hp} {Q : VK} {i j : Nat} {sv : SV} {v u : V} {p : Addr} {C f : Str} {e : Expr} {m : M SV}
theorem unB_fld {K : PySem.W.Frag} (F : FldD K C f) : UnB K (fun x H Q => ∃ a C dx fs v, x = .ref a ∧ H a = some (.ins C dx fs) ∧ Cls K C ∧ NoAttr K C f ∧ fs.lookup f = some v ∧ Q v H) (fFld C f) := by
  intro A H d1 v1 b Q h e q
  unfold fFld at e
  split at e
  · rename_i C' fs ds
    split at e
    · rename_i hC
      subst hC
      rw [Option.map_eq_some_iff] at e
      obtain ⟨d, e, rfl⟩ := e
      obtain ⟨a, k, dx, us, rfl, hc, hi, hl, hr⟩ := h
      obtain ⟨c, g1, g2, g3⟩ := F.ex
      obtain rfl := clsA_fn hc g1
      obtain ⟨w, e2, e3⟩ := zip_look hr e
      exact ⟨a, k, dx, _, w, rfl, hi, g2, g3, e2, q w e3⟩
    · cases e
  · cases e
theorem pd_fld (F : FldD c.K C f) (he : PE X e (tDE c W m)) (hb : attributeBase e f X.env (eval e X.env) = eval e X.env := by rfl) (hK : c.K = X.K := by rfl) : PE X (.Attribute e f pos) (tDE c W (mUn (fFld C f) m)) :=
  pe_imp (pe_fld he hb) fun σ H Q h => read1 (r := fun x H Q => ∃ a C dx fs v, x = .ref a ∧ H a = some (.ins C dx fs) ∧ Cls X.K C ∧ NoAttr X.K C f ∧ fs.lookup f = some v ∧ Q v H) (hK ▸ unB_fld F) h
/-! self.f = e -/
def setFD (C f : Str) (j : Nat) (sv : SV) : MS := fun ρ => match esc sv ρ with
  | some (.ok d ρ1) => match ρ1[j]? with
    | some (.box (.obj C' fs ds)) => if C' = C ∧ fs.length < 900 then some (.nx (ρ1.set j (.box (.obj C' (putN f fs) (putV f d fs ds))))) else none
    | _ => none
  | _ => none
def mSetFld (C f : Str) (j : Nat) (m : M SV) : MS := mE m fun sv => setFD C f j sv
theorem pd_setFld {x : Str} {po p' : Pos} (F : FldD c.K C f) (ho : PE X (.Name x po) (tVar j)) (he : PE X e (tDE c W m)) (hK : c.K = X.K := by rfl) (hs : swapsWith e (some (.Attribute (.Name x po) f p')) pos.line X.env = pure false := by rfl) :
    PS X (.Assign [.Attribute (.Name x po) f p'] e pos) (tDS c W (mSetFld C f j m)) := by
  refine ps_imp (ps_fld ho he hs) fun Dn σ H ⟨ρ, ts, r, n, q⟩ => bindS r q fun sv v ρ1 H1 r1 q1 => ?_
  unfold setFD at q1
  cases ee : esc sv ρ1 with
  | none => rw [ee] at q1; exact q1.elim
  | some y =>
    cases y with
    | er x ρ' => exact absurd ee esc_er
    | ok d ρ2 =>
      rw [ee] at q1
      simp only at q1
      have r2 := r_esc r1 ee
      cases ej : ρ2[j]? with
      | none => rw [ej] at q1; exact q1.elim
      | some s =>
        rw [ej] at q1
        cases s with
        | box d2 =>
          cases d2 with
          | obj C' fs ds =>
            simp only at q1
            split at q1
            · rename_i hc
              obtain ⟨rfl, hl⟩ := hc
              obtain ⟨p, e1, hx, hA⟩ := r2.slot_box ej
              obtain ⟨k, dx, us, hk, hi, hlen, hr⟩ := hx
              obtain ⟨c', g1, g2, g3⟩ := F.ex
              obtain rfl := clsA_fn hk g1
              refine ⟨_, e1, p, k, dx, fs.zip us, rfl, hi, hK ▸ g2, hK ▸ g3, by rw [List.length_zip, hlen]; omega, ?_⟩
              have hv := r2.top_fz
              have hxx : ∀ a o, a ≠ p → H1 a = some o → upd H1 p (.ins k dx (putF f v (fs.zip us))) a = some o := fun a o ha h => by rw [upd_ne ha]; exact h
              have bx : Boxy (.ins k dx (fs.zip us)) := ⟨fun _ z => (nomatch z), fun _ _ z => (nomatch z), fun _ z => (nomatch z)⟩
              refine q1 σ _ (R.pop (t := (.fz d, v)) (r2.writeX (d' := .obj C' (putN f fs) (putV f d fs ds)) ej e1 ?_ hxx))
              refine ⟨k, dx, putV f v fs us, hk, by rw [upd_same, putF_zip f v hlen], putV_len f v hlen, repL_but hi bx hA hxx (putV_rep f ?_ hlen hr)⟩
              exact hv
            · exact q1.elim
          | _ => exact q1.elim
        | _ => exact q1.elim
/-! properties -/
structure PropD (P : Program) (w : World) (K : PySem.W.Frag) (mg : Str → Option Value) (base : Heap) (k : Nat) (C f : Str) (g : Fn) : Prop where
  ex : ∃ (c p ga : Addr) (fd : FuncData) (ps : List Str), ClsA K C c ∧ Cls K c ∧ PropOf K c f p ga ∧ FnOk P w K mg base CX0 k ga fd ps (spD K 1 g) ∧ Binds K fd ps []
/-- what is asked of an instance of that class -/
def objK (C : Str) (o : Option D) (A : Prop) : Prop := match o with
  | some (.obj C' _ _) => C' = C ∧ A
  | _ => False
def mProp (C : Str) (g : Fn) (m : M SV) : M SV := m.bnd fun s => fun ρ => match con ρ s with
  | some (.obj C' _ _) => if C' = C then mCallP 1 g (ret [s]) ρ else none
  | _ => none
theorem callP1 {g : Fn} {K : PySem.W.Frag} (hK : c.K = K) (r : R c σ ρ ((sv, v) :: ts) H) (q : PostE c W σ ts Q (mCallP 1 g (ret [sv]) ρ)) : spD K 1 g [v] H Q (fun cls od H' => W cls od σ H') :=
  callP_at (svs := [sv]) (vs := [v]) hK rfl r q
theorem obj_at {K : PySem.W.Frag} {A : Addr → Prop} {fs : List Str} {ds : List D} (h : RepR K A H (.obj C fs ds) v) : ∃ a k dx us, v = .ref a ∧ ClsA K C k ∧ H a = some (.ins k dx (fs.zip us)) ∧ us.length = fs.length ∧ RepL K A H ds us := by
  obtain ⟨a, k, dx, us, e, hk, hi, hl, hr⟩ := h
  exact ⟨a, k, dx, us, e, hk, hi, hl, hr⟩
theorem pd_prop {k j : Nat} {g : Fn} (F : PropD X.prog X.w X.K X.mg X.base k C f g) (hr : Room j X.A) (hk : k + 1 ≤ j) (he : PE X e (tDE c W m)) (hab : attributeBase e f X.env (eval e X.env) = eval e X.env := by rfl) (hK : c.K = X.K := by rfl) :
    PE X (.Attribute e f pos) (tDE c W (mProp C g m)) := by
  obtain ⟨k0, p, ga, fd, ps, g1, g2, g3, g4, g5⟩ := F.ex
  refine ⟨fun pins s σ H Q I ⟨ρ, ts, r, q⟩ => ?_⟩
  refine (pe_prop (E := fun cls od H' => W cls od σ H') (dvs := []) (ds := []) he g2 g3 g4 (hr.mono hk) g5 .nil (fun _ _ _ _ _ _ _ h => h.elim) hab).run pins s σ H Q I ?_
  refine bindE (Q := Q) r q fun s v ρ1 H1 r1 q1 => ?_
  cases e1 : con ρ1 s with
  | none => rw [e1] at q1; exact q1.elim
  | some d =>
    rw [e1] at q1
    cases d with
    | obj C' fs ds =>
      simp only at q1
      split at q1
      · rename_i hc
        subst hc
        obtain ⟨a, k1, dx, us, rfl, h1, h2, h3, h4⟩ := obj_at (r1.con List.mem_cons_self e1)
        rw [hK] at h1
        obtain rfl := clsA_fn h1 g1
        exact ⟨a, dx, _, rfl, h2, callP1 hK r1 q1⟩
      · exact q1.elim
    | _ => exact q1.elim
/-! making an instance -/
structure MakD (P : Program) (w : World) (K : PySem.W.Frag) (mg : Str → Option Value) (base : Heap) (CX : CXT) (k : Nat) (x : Str) (C : Str) (n : Nat) (g : Fn) : Prop where
  ex : ∃ (k0 f : Addr) (fd : FuncData) (ps : List Str), ClsA K C k0 ∧ Mk K k0 f ∧ mg x = some (.ref k0) ∧ FnOk P w K mg base CX k f fd ps (spD K (n + 1) g) ∧ Binds K fd ps []
def makF (C : Str) (n : Nat) (g : Fn) : List SV → M SV := fun svs ρ => if svs.length = n ∧ svs.all (lendOk ρ) = true then (match cons ρ svs with
  | some ds => match g (.box (.obj C [] []) :: ds.map .fz) with
    | some (.ok (.fz .non) (.box (.obj C' fs es) :: _)) => if C' = C ∧ nolists es = true then some (.ok (.box (.obj C fs es)) ρ) else none
    | some (.er e _) => if nolists (e.fs.map (·.2)) = true then some (.er e ρ) else none
    | _ => none
  | none => none) else none
def mMake (C : Str) (n : Nat) (g : Fn) (ma : M (List SV)) : M SV := ma.bnd (makF C n g)
theorem own_box1 {d : D} {x : Addr} {ds : List D} {vs : List V} : Own (asP (.box d :: ds.map .fz) (.ref x :: vs)) = [x] := by
  show Own ((SV.box d, some (V.ref x)) :: asP (ds.map .fz) vs) = [x]
  rw [own_cons_box, own_fz]
theorem makeP_at {g : Fn} {n : Nat} {K : PySem.W.Frag} {svs : List SV} {vs : List V} {ρ1 : List SV} {H1 : Hp} {k0 x dx : Addr} (hK : c.K = K) {Q : VK} (hl : svs.length = vs.length) (R2 : R c σ ρ1 (svs.zip vs ++ ts) H1)
    (hC : ClsA K C k0) (hx : H1 x = none) (hdx : H1 dx = none) (hne : dx ≠ x) (q : PostE c W σ ts Q (makF C n g svs ρ1)) :
    spD K (n + 1) g (.ref x :: vs) (upd (upd H1 dx (.own x)) x (.ins k0 dx [])) (fun v H2 => v = .non ∧ Q (.ref x) H2) (fun cls od H' => W cls od σ H') := by
  subst hK
  unfold makF at q
  split at q
  case isFalse => exact q.elim
  rename_i hn2
  obtain ⟨hn', hal⟩ := hn2
  cases e : cons ρ1 svs with
  | none => rw [e] at q; exact q.elim
  | some ds =>
    rw [e] at q
    simp only at q
    have rr := r_cons R2 (fun t ht => List.mem_append_left _ ht) hl e
    have T0 : ∀ a, (Avr c σ ρ1 (svs.zip vs ++ ts) a ∧ V.ref a ∉ vs) → Avr c σ ρ1 (svs.zip vs ++ ts) a := fun a z => z.1
    have ext0 : ∀ a o, H1 a = some o → upd (upd H1 dx (.own x)) x (.ins k0 dx []) a = some o := fun a o h => by
      have n1 : a ≠ x := fun z => by rw [z, hx] at h; cases h
      have n2 : a ≠ dx := fun z => by rw [z, hdx] at h; cases h
      rw [upd_ne n1, upd_ne n2]; exact h
    have g0 : G { K := c.K, T := fun a => Avr c σ ρ1 (svs.zip vs ++ ts) a ∧ V.ref a ∉ vs, H0 := upd (upd H1 dx (.own x)) x (.ins k0 dx []), W := fun a => a ∈ Own (asP (SV.box (.obj C [] []) :: ds.map .fz) (.ref x :: vs)), cv := fun _ => false, pin := fun _ => none } [] (asP (SV.box (.obj C [] []) :: ds.map .fz) (.ref x :: vs)) (upd (upd H1 dx (.own x)) x (.ins k0 dx [])) := by
      have own1 : Own (asP (SV.box (.obj C [] []) :: ds.map .fz) (.ref x :: vs)) = [x] := own_box1
      refine ⟨fun y hy => ?_, by rw [own1]; exact List.nodup_cons.mpr ⟨List.not_mem_nil, List.nodup_nil⟩, fun a o h _ => h, fun a h => .inl h, fun a h => ⟨fun z => ?_, fun w => ?_⟩, fun i v e => by cases e⟩
      · rcases List.mem_cons.mp (show y ∈ (SV.box (.obj C [] []), some (V.ref x)) :: asP (ds.map .fz) vs from hy) with rfl | hy
        · exact ⟨x, rfl, k0, dx, [], hC, by rw [upd_same]; rfl, rfl, RepL.nil⟩
        · obtain ⟨d, v, rfl, r⟩ := rs_fz (A' := fun a => Avr c σ ρ1 (svs.zip vs ++ ts) a ∧ V.ref a ∉ vs) (us := vs) T0 (cons_noDic R2 (fun t ht => List.mem_append_left _ ht) hl e hal) rr (fun v z => z) (fun a z => z.2) y hy
          refine ⟨v, rfl, ?_⟩
          have r1 : Rep c.K (fun a => (Avr c σ ρ1 (svs.zip vs ++ ts) a ∧ V.ref a ∉ vs) ∨ a = x) H1 d v := r.less fun a y => by
            rcases y with y | rfl
            · exact .inl y
            · exact .inr hx
          refine (r1.ext ext0).less fun a y => .inl ?_
          rcases y with y | y
          · exact .inl y
          · rw [own1] at y
            exact .inr (List.mem_singleton.mp y)
      · have := R2.g.hold h.1
        cases z1 : H1 a with
        | none => exact this z1
        | some o => exact nomatch (ext0 a o z1).symm.trans z
      · have w' : a ∈ Own (asP (SV.box (.obj C [] []) :: ds.map .fz) (.ref x :: vs)) := w
        rw [own1] at w'
        exact R2.g.hold h.1 (by rw [List.mem_singleton.mp w']; exact hx)
    have lv : vs.length = n := by omega
    have ld := repRL_len rr
    have R5 := R.pops _ R2
    cases eg : g (.box (.obj C [] []) :: ds.map .fz) with
    | none => rw [eg] at q; exact q.elim
    | some y =>
      rw [eg] at q
      have ext : ∀ {P : Pl} {H' : Hp}, G { K := c.K, T := fun a => Avr c σ ρ1 (svs.zip vs ++ ts) a ∧ V.ref a ∉ vs, H0 := upd (upd H1 dx (.own x)) x (.ins k0 dx []), W := fun a => a ∈ Own (asP (SV.box (.obj C [] []) :: ds.map .fz) (.ref x :: vs)), cv := fun _ => false, pin := fun _ => none } [] P H' → ∀ a o, H1 a = some o → H' a = some o := fun g' a o z => g'.fr a o (ext0 a o z) fun w => by
        have w' : a ∈ Own (asP (SV.box (.obj C [] []) :: ds.map .fz) (.ref x :: vs)) := w
        rw [own_box1] at w'
        rw [List.mem_singleton.mp w', hx] at z
        cases z
      cases y with
      | er y outs =>
        simp only at q
        split at q
        · rename_i hc
          refine ⟨_, .box (.obj C [] []) :: ds.map .fz, by simp; omega, by simp [lv], g0, ?_⟩
          rw [eg]
          intro cls od H' g' z
          refine q cls od H' (R5.ext (ext g')) ⟨z.1, ?_⟩
          have z2 := z.2
          cases y with
          | mk cl fs =>
          cases fs with
          | nil => trivial
          | cons f fs =>
            obtain ⟨d, vs, e1, e2, r⟩ := z2
            exact ⟨d, vs, e1, e2, RepL.any hc r⟩
        · exact q.elim
      | ok rv outs =>
        split at q
        · rename_i y C' fs es os ez
          cases ez
          split at q
          · rename_i hc
            obtain ⟨rfl, hc⟩ := hc
            refine ⟨_, .box (.obj C' [] []) :: ds.map .fz, by simp; omega, by simp [lv], g0, ?_⟩
            rw [eg]
            intro v H' g'
            obtain ⟨w, e2, r⟩ := g'.rs _ List.mem_cons_self
            cases e2
            simp only [Rep] at r
            refine ⟨r, ?_⟩
            obtain ⟨p, e3, r3⟩ := g'.rs (SV.box (.obj C' fs es), some (V.ref x)) (List.mem_cons_of_mem _ List.mem_cons_self)
            cases e3
            obtain ⟨k, dx', us, hk, hi, hlen, hr⟩ := r3
            exact q _ H' (R5.push_box hx (ext g') fun A => ⟨k, dx', us, hk, hi, hlen, RepL.any hc hr⟩)
          · exact q.elim
        · rename_i y e' z ez
          cases ez
        · exact q.elim
theorem pd_make {CX : CXT} {k j : Nat} {n : Nat} {g : Fn} {x : Str} {p' pos : Pos} {es : List Expr} {ma : M (List SV)} (F : MakD X.prog X.w X.K X.mg X.base CX k x C n g) (hr : Room j X.A) (hk : k + 1 ≤ j) (hx : ∀ σ, Passes CX X (fun cls od H' => W cls od σ H'))
    (hg : Gl X x) (ha : PA X (e :: es) (tDA c W ma)) (hK : c.K = X.K := by rfl)
    (hdb : (x == ("__debug__" : Str)) = false := by decide) (he : starEach (e :: es) X.env = (false, eval e X.env) :: starEach es X.env := by rfl) (hpl : (backTo pos (starEach es X.env)).any (·.1) = false := by rfl) :
    PE X (.Call (.Name x p') (e :: es) [] pos) (tDE c W (mMake C n g ma)) := by
  obtain ⟨k0, f, fd, ps, g1, g2, g3, g4, g5⟩ := F.ex
  refine ⟨fun pins s σ H Q I ⟨ρ, ts, r, q⟩ => ?_⟩
  refine (pe_make (E := fun cls od H' => W cls od σ H') (dvs := []) (ds := []) g2 g4 (hr.mono hk) hg g3 g5 .nil (hx σ) ha hdb he hpl).run pins s σ H Q I ?_
  refine bindA (α := SV) r q fun svs vs ρ1 H1 hl r1 q1 => ?_
  intro x dx h1 h2 h3
  rw [List.append_nil]
  exact makeP_at hK hl r1 (hK ▸ g1) h1 h2 h3 q1
end
end DL

set_option Elab.async false
set_option linter.all false
set_option maxRecDepth 100000
/-! The data layer: walking an instance whose __iter__ hands out the iterator of a tuple field. -/
namespace DL
open PySem PySem.Spec PyProof.Rows L2
/-- at it an iterator over the tuple at l, at its start -/
def ItT (l it : Addr) : HO := .ext fun h => h.get? it = some { cls := .type "tuple_iterator", data := .fields #[.ref l, .int 0 0] }
theorem itT_ok {P : Program} {w : World} {H : Hp} {h : Heap} {l it : Addr} (e : h.get? it = some { cls := .type "tuple_iterator", data := .fields #[.ref l, .int 0 0] }) : ObjOk P w H h it (ItT l it) := ⟨e, ⟨_, e⟩, fun h1 h2 q k => k _ q⟩
section
variable {prog : Program} {w : World} {A : Around} {E : Value → Shared → Prop} {s : Shared} {l : Addr} {items : Array Value}
theorem call_iterT {Q : Value → Shared → Prop} (hl : s.heap.IsTuple l items) (h : Q (.ref s.heap.objs.size) { s with heap := s.heap.push { cls := .type "tuple_iterator", data := .fields #[.ref l, .int 0 0] } }) : wpAny (model prog w) A (call (.builtin "iter") [.ref l]) Q E s := by
  refine Calls.call_function_entry (by decide +kernel) (by decide +kernel) PySem.W.kdk_entry_iter (PySem.W.kdk_args_iter _) ?_
  unfold Builtin.«iter»
  refine wpAny_bind (m := someArgs "iter" 1 2 _) (wpAny_of_eq (a := [Value.ref l]) (by first | rfl | kernel_rfl!) ?_)
  show wpAny _ _ (pyIter (.ref l) >>= _) _ _ _
  refine wpAny_bind (wpAny_pyIter_tuple hl ?_)
  exact wpAny_pure ⟨_, rfl, h⟩
end
def rIterT (K : PySem.W.Frag) (n : Nat) : List V → Hp → VK → Prop := fun xs H Q => ∃ (l : Addr) (zs : List V), xs = [.ref l] ∧ SqT K H l zs ∧ ∀ it, H it = Option.none → n ≤ it → Q (.ref it) (upd H it (ItT l it))
section
variable {X : Cx}
theorem call_iterTN : CallR X (.builtin "iter") (rIterT X.K X.s_0.heap.objs.size) := by
  intro pins s σ H xs us Q I r h
  obtain ⟨l, zs, rfl, hq, q⟩ := h
  obtain ⟨u, rfl, ru⟩ := vals1 r
  cases ru
  obtain ⟨its, rv, pl, hz⟩ := I.tuple hq
  refine call_iterT (show s.heap.IsTuple l its.toArray from pl) ?_
  exact ⟨.ref s.heap.objs.size, _, I.laid (t' := s.toks) (fun b u e => Heap.get?_push_of_some _ e) (Nat.le_refl _) (itT_ok (Heap.get?_push_size _ rfl)), rfl, q _ (I.hok.fresh (Nat.le_refl _)) I.sz⟩
end
/-- one run of a def -/
theorem run_of {CX : CXT} {P : Program} {w : World} {K : PySem.W.Frag} {mg : Str → Option Value} {base : Heap} {k : Nat} {f : Addr} {name qual : Str} {params : Arguments} {body : List Stmt} {scope : Scope} {dV kV doc pm cdv ct oc : Value} {an od : Option Addr}
    {osl : Array (Option Value)} {N ps : List Str} (lk : K.lookup f = some ⟨oc, od, .func (PySem.W.fnOf name qual params body scope dV kV doc pm an cdv ct), osl⟩) (hcd : PySem.W.codeIn K cdv qual = true) (S : FnScope N ps scope)
    {A : Around} {outer : List Env} {s : Shared} {H : Hp} {args : Args} {us : List Value} {vs : List V} {Q : VK} {E : XK} (hl : vs.length = ps.length) (hr : Room (k + 1) A) (e0 : Env0 P w K mg base A outer s H) (hb : BindsTo s (PySem.W.fnOf name qual params body scope dV kV doc pm an cdv ct) args (ps.zip us)) (r : Vals vs us)
    (hbody : Room k (A.deeper (envOfC qual scope s.heap.objs.size f cdv)) → ∃ t, PSs (cxOf CX P w K mg base N qual scope f cdv A outer s H E) body t ∧ t { nx := fun _ H' => Q .non H', rt := Q } (start N vs) H) :
    codeAny (model P w) A (.call (.ref f) args) (CR CX outer P w H s Q E) s := by
  have KX : K.In s.heap := e0.mod.kin.keeps fun b o e => (e0.bs b o e).1
  have lim : s.heap.NoLimit := e0.mod.nolimit.keeps fun b o e => (e0.bs b o e).1
  have hkind : ∀ y ∈ ps.zip us, scope.names.lookup y.1 = some .local ∨ (scope.names.lookup y.1 = some .cell ∧ ((cellsFrom (s.heap.objs.size + 1) scope.names []).lookup y.1).isSome = true) := fun ⟨n, v⟩ hy => by
    rcases S.par n (List.of_mem_zip hy).1 with q | q
    · exact .inl q
    · exact .inr ⟨q, PySem.W.cellsFrom_some _ _ _ (.inl q)⟩
  refine codeAny_call_function hr.depth (KX _ _ lk) rfl S.co S.gen rfl (PySem.W.codeRec_of KX hcd) (hb _ _ _ _ ?_)
  refine wpAny_newFunctionEnv_cells S.kind hkind fun env he s1 x => ?_
  subst he
  refine ⟨lim.keeps x.toInCall.keep, codeAny_func ?_⟩
  obtain ⟨t, ht, hq⟩ := hbody (hr.deeper _)
  have I : Inv (cxOf CX P w K mg base N qual scope f cdv A outer s H E) [] (start N vs) H s1 := inv_start S hr.hd e0 hl r x
  refine wpAny_mono (ht.run [] s1 (start N vs) H _ I hq) (fun fl s' hs => ?_) fun e s' hs => hs
  have fin : ∀ {σ' : L2.St} {H' : Hp} {v : V} {u : Value}, Inv (cxOf CX P w K mg base N qual scope f cdv A outer s H E) [] σ' H' s' → RelV v u → Q v H' → CE outer P w H s Q u s' :=
    fun {σ' H' v u} J rv q => ⟨v, H', J.os, J.bare, J.base, J.hok, rv, q⟩
  cases fl with
  | ret u =>
    obtain ⟨v, σ', H', J, rv, q⟩ := hs
    exact fin J rv q
  | next =>
    obtain ⟨σ', H', J, q⟩ := hs
    exact fin (v := V.non) (u := Value.none) J rfl q
  | brk =>
    obtain ⟨_, _, _, q⟩ := hs
    exact False.elim q
  | cont =>
    obtain ⟨_, _, _, q⟩ := hs
    exact False.elim q
/-- a class whose __iter__ is «return iter(self.f)» -/
structure ItrD (K : PySem.W.Frag) (mg : Str → Option Value) (C f : Str) : Prop where
  ex : ∃ (c fi : Addr) (fd : FuncData) (st : Stmt) (qual : Str), ClsA K C c ∧ Cls K c ∧ NoAttr K c f ∧ PySem.W.findIn K (.ref c) "__iter__" = some (some (.ref fi)) ∧ PySem.W.isFn K (.ref fi) = true ∧ Fun K "__iter__" qual st fi fd ∧ Binds K fd ["self"] [] ∧
    FnScope ["self"] ["self"] (defScope st) ∧ (∃ p0 p1 p2 p3 p4, defBody st = [.Return (some (.Call (.Name "iter" p0) [.Attribute (.Name "self" p1) f p2] [] p3)) p4]) ∧ mg "iter" = none ∧ (∀ cdv : Value, ∀ (A : Around) (outer : List Env) (P : Program) (w : World) (base : Heap) (s : Shared) (H : Hp), Gl (cxOf CX0 P w K mg base ["self"] qual (defScope st) fi cdv A outer s H E0) "iter")
/-- x is such a thing: the walk of its tuple -/
def iOwn (K : PySem.W.Frag) (C f : Str) (tl : TE) : TI := fun σ H R => tl σ H fun x H1 => ∃ a c dx fs t, x = .ref a ∧ ClsA K C c ∧ H1 a = some (.ins c dx fs) ∧ fs.lookup f = some (.ref t) ∧ (∃ xs, SqT K H1 t xs) ∧ R (Itt K t) H1
theorem pi_own {X : Cx} {tg l : Expr} {tl : TE} {C f : Str} {j : Nat} (F : ItrD X.K X.mg C f) (hr : Room j X.A) (hj : 3 ≤ j) (hl : PE X l tl) : PI X tg l (iOwn X.K C f tl) := by
  refine ⟨fun pins s σ H R I h => ?_⟩
  refine thn (hl.run pins s σ H _ I h) fun v s1 ⟨x, H1, I1, r1, q1⟩ => ?_
  obtain ⟨a, c, dx, fs, t, rfl, hc, ha, hf, ⟨xs, hq⟩, q⟩ := q1
  obtain ⟨c', fi, fd, st, qual, g1, g2, g3, g4, g5, F1, F2, S, ⟨p0, p1, p2, p3, p4, hb⟩, hmg, hsc⟩ := F.ex
  obtain rfl := clsA_fn hc g1
  cases r1
  obtain ⟨mA, J, _⟩ := ins_get I1.hok ha
  obtain ⟨od, J, _⟩ := J.look
  obtain ⟨m0, hF⟩ := I1.fr
  obtain ⟨oc, od1, kV, doc, pm, an, cdv, ct, osl, rfl, lk, hcd⟩ := F1.ex
  refine PySem.W.owit_iter hF I1.ok.mod.kin J g4 g5 ?_
  have r2 : Vals [V.ref a] [Value.ref a] := .cons rfl .nil
  refine wpAny_call (codeAny_mono (run_of (CX := CX0) (k := 2) (H := H1) (Q := fun v H' => ∃ it, v = .ref it ∧ H1 it = none ∧ s1.heap.objs.size ≤ it ∧ H' = upd H1 it (ItT t it)) (E := E0) (N := ["self"]) (ps := ["self"]) (vs := [.ref a]) (us := [.ref a]) (args := ⟨[.ref a], []⟩) lk hcd S rfl (hr.mono hj) I1.env0 (by
    have := F2 s1 [.ref a] I1.kIn rfl
    simpa using this) r2 fun hr2 => ?_) fun r s' hq' => ?_)
  · rw [hb]
    refine ⟨_, pss_one (ps_ret (pe_callB call_iterTN (hsc ..) hmg (by first | rfl | decide +kernel) (pa_cons (pe_fld (pe_var (i := 0) rfl ((S.par "self" (List.Mem.head _)).elim (fun z => .inl z) (fun z => .inr (.inl z)))) rfl) pa_nil))), ?_⟩
    exact ⟨.ref a, rfl, a, c, dx, fs, .ref t, rfl, ha, g2, g3, hf, t, xs, rfl, hq, fun it h1 h2 => ⟨it, rfl, h1, h2, rfl⟩⟩
  · cases r with
    | error e => exact False.elim hq'
    | ok fl =>
      cases fl with
      | next => exact False.elim hq'
      | brk => exact False.elim hq'
      | cont => exact False.elim hq'
      | ret u =>
        obtain ⟨v, H', I', rv, it, ev, h1, h2, eH⟩ := I1.after hq'
        subst ev eH
        cases rv
        have hi : upd H1 it (ItT t it) it = some (ItT t it) := upd_same
        have hg : s'.heap.get? it = some { cls := .type "tuple_iterator", data := .fields #[.ref t, .int 0 0] } := (I'.hok it _ hi).1
        show PySem.W.OwitIt _ _ _ _ _ _
        unfold PySem.W.OwitIt
        have hT : s'.TypeIs (.ref it) "tuple_iterator" := ⟨_, hg, rfl⟩
        refine wpAny_specialOf (name := Str.ofString "__next__") hT PySem.F.slot_tuple_iterator_next.lookup ?_
        have hd : ItX.dropH (upd H1 it (ItT t it)) it = H1 := ItX.dropH_upd h1
        refine ⟨it, [it], _, _, H1, rfl, hd ▸ ItX.inv_drop I' hi, turn_tuple t it, ⟨_, hg, rfl, rfl⟩, fun b hb => ?_, q⟩
        have e : b = it := by simpa using hb
        subst e
        exact hd ▸ ItX.inv_fp I' hi (Nat.le_trans I1.sz h2)
def itO (C f : Str) : D → Option (List D)
  | .obj C' fs ds => if C' = C then (match (fs.zip ds).lookup f with
    | some (.tup es) => some es
    | _ => none) else none
  | _ => none
def mItemsO (C f : Str) (m : M SV) : M (List D) := m.bnd fun s => fun ρ => match con ρ s with
  | some d => (itO C f d).map fun es => .ok es ρ
  | none => none
theorem pd_own {X : Cx} {c : Fc} {W : WX} {tg l : Expr} {m : M SV} {C f : Str} {j : Nat} (F : ItrD X.K X.mg C f) (hr : Room j X.A) (hj : 3 ≤ j) (hl : PE X l (tDE c W m)) (hK : c.K = X.K := by rfl) : PI X tg l (tDI c W (mItemsO C f m)) := by
  refine pi_imp (pi_own F hr hj hl) fun σ H Q ⟨ρ, ts, r, q⟩ => bindI r q fun sv v ρ1 H1 r1 q1 => ?_
  cases e : con ρ1 sv with
  | none => rw [e] at q1; exact q1.elim
  | some d =>
    rw [e] at q1
    have t := r1.con List.mem_cons_self e
    cases d with
    | obj C' fs ds =>
      simp only [itO] at q1
      split at q1
      · rename_i hc
        subst hc
        split at q1
        · rename_i es he
          obtain ⟨a, k, dx, us, rfl, h1, h2, h3, h4⟩ := obj_at t
          obtain ⟨w, e2, e3⟩ := zip_look h4 he
          have e3' := e3
          simp only [Rep] at e3'
          obtain ⟨a', vs, rfl, e5, rl⟩ := e3'
          exact ⟨a, k, dx, _, a', rfl, hK ▸ h1, h2, e2, ⟨vs, hK ▸ e5⟩, q1 _ _ [_] (r1.pop.push_fz (e3.less fun a h => .inl (avr_sub a h))) noLoc1 (hK ▸ jd_tup)⟩
        · exact q1.elim
      · exact q1.elim
    | _ => exact q1.elim
end DL

set_option Elab.async false
set_option linter.all false
set_option maxRecDepth 100000
/-! The data layer: constants of the module, chains, texts, subscripts of dicts, clear, [::-1]. -/
namespace DL
open PySem PySem.Spec PyProof.Rows L2
/-! a dict's subscript -/
def rIxN (K : PySem.W.Frag) : R2 := fun x y H Q => ∃ a w xs nk b q u, x = .ref a ∧ y = .ref b ∧ H a = some (dN a w xs) ∧ (∀ x ∈ xs, NkAt K H x.1 x.2.1) ∧ NkAt K H nk b ∧ atKey xs nk = some q ∧ RelV u q.2 ∧ Q u H
theorem ix_dN {X : Cx} (hu : X.A.units + 64 < cLine) : IxR X (rIxN X.K) := by
  intro value slice pins s σ H x y v u Q I rx ry h hs
  obtain ⟨a, w, xs, nk, b, q, z, rfl, rfl, e1, e2, e3, e4, e5, q1⟩ := h
  obtain rfl : v = Value.ref a := rx
  obtain rfl : u = Value.ref b := ry
  obtain ⟨hd, dd⟩ := dn_of I e1 e2
  exact tail_any dd.typeIs slot_dict_getitem.lookup (wpAny_getItem_heap (room8 hu) (e3.is I) dd e4 ⟨z, H, I.tok _, e5, q1⟩) hs
def fIxX (d e : D) : Option BR := match d with
  | .dic ks vs => match dGet ks vs e with
    | some (some d) => some (.imm d)
    | _ => none
  | d => fIx d e
theorem opB_ixX {K : PySem.W.Frag} : OpB K (fun x y H Q => rIx K x y H Q ∨ rIxN K x y H Q) fIxX := by
  intro A H d1 d2 v1 v2 b Q h1 h2 e q
  cases d1 with
  | dic ks vs =>
    simp only [fIxX] at e
    split at e
    · rename_i d eg
      cases e
      obtain ⟨a, rfl, hd⟩ := h1
      obtain ⟨w, xs, nk, b, rfl, e1, e2, e3, y, u, e5, e6, e7⟩ := dic_at hd (keyRep eg h2) eg
      exact .inr ⟨a, w, xs, nk, b, y, u, rfl, rfl, e1, e2, e3, e5, e6, q _ e7⟩
    · cases e
  | _ => exact .inl (opB_ix A H _ d2 v1 v2 b Q h1 h2 (by simpa only [fIxX] using e) q)
section
variable {X : Cx} {c : Fc} {W : WX} {pos : Pos} {σ : L2.St} {ρ : List SV} {ts : Ts} {H : Hp} {Q : VK} {i j : Nat} {sv : SV} {v u w : V} {p : Addr}
theorem pd_ixX {a b : Expr} {ma mb : M SV} {pos : Pos} (hu : X.A.units + 64 < cLine) (ha : PE X a (tDE c W ma)) (hb : PE X b (tDE c W mb)) (hs : PlainIx b := by exact fun _ _ => rfl) (hK : c.K = X.K := by rfl) : PE X (.Subscript a b pos) (tDE c W (mBin (lift2 fIxX) ma mb)) :=
  pe_imp (pe_ix (ix_seq.or (ix_dN hu)) ha hb hs) fun σ H Q h => read2 (r := fun x y H Q => rIx X.K x y H Q ∨ rIxN X.K x y H Q) (opS_of (hK ▸ opB_ixX)) h
/-! constants of the module -/
theorem pd_gint {x : Str} {k : Int} (hm : ∃ t, X.mg x = some (.int k t)) (hg : Gl X x := by rfl) (hd : (x == ("__debug__" : Str)) = false := by decide) : PE X (.Name x pos) (tDE c W (mC (.int k))) := by
  obtain ⟨t, hm⟩ := hm
  exact pe_imp (pe_glob (v := .int k) hg hm ⟨t, rfl⟩ hd) fun σ H Q ⟨ρ, ts, r, q⟩ => fin_fz r (rep_int _) q
theorem pd_gstr {x : Str} {k : Str} (hm : ∃ t, X.mg x = some (.str k t)) (hg : Gl X x := by rfl) (hd : (x == ("__debug__" : Str)) = false := by decide) : PE X (.Name x pos) (tDE c W (mC (.str k))) := by
  obtain ⟨t, hm⟩ := hm
  exact pe_imp (pe_glob (v := .str k) hg hm ⟨t, rfl⟩ hd) fun σ H Q ⟨ρ, ts, r, q⟩ => fin_fz r (rep_str _) q
/-! chains -/
def chK (f : D → D → Option BR) (s1 s2 : SV) (no yes : M SV) : M SV := fun ρ => match con ρ s1, con ρ s2 with
  | some d1, some d2 => match f d1 d2 with
    | some (.imm (.bl true)) => yes ρ
    | some (.imm (.bl false)) => no ρ
    | _ => none
  | _, _ => none
def mChain (f f' : D → D → Option BR) (ma mb mc : M SV) : M SV := ma.bnd fun s1 => mb.bnd fun s2 => chK f s1 s2 (ret (.fz (.bl false))) (mc.bnd fun s3 => lift2 f' s2 s3)
theorem readChain {K : PySem.W.Frag} {r r' : R2} {f f' : D → D → Option BR} {ma mb mc : M SV} (hs : OpB K r f) (hs' : OpB K r' f') (hK : c.K = K) (h : tDE c W (mChain f f' ma mb mc) σ H Q) : tChain r r' (tDE c W ma) (tDE c W mb) (tDE c W mc) σ H Q := by
  subst hK
  obtain ⟨ρ, ts, R0, q⟩ := h
  refine bindE R0 q fun s1 v1 ρ1 H1 R1 q1 => ?_
  refine bindE1 R1 q1 fun s2 v2 ρ2 H2 R2 q2 => ?_
  unfold chK at q2
  split at q2
  · rename_i d1 d2 e1 e2
    have h1 := R2.con (List.mem_cons_of_mem _ List.mem_cons_self) e1
    have h2 := R2.con List.mem_cons_self e2
    split at q2
    · rename_i e3
      refine hs _ H2 d1 d2 v1 v2 _ _ h1 h2 e3 fun v rv => ?_
      simp only [Rep] at rv
      refine ⟨true, rv, ?_⟩
      rw [if_pos rfl]
      have R3 : R c σ ρ2 ((s2, v2) :: ts) H2 := (R2.perm (List.Perm.swap _ _ _)).pop
      refine bindE1 R3 q2 fun s3 v3 ρ3 H3 R4 q3 => ?_
      exact opS_of hs' c W σ ρ3 ts H3 s2 s3 v2 v3 Q rfl R4 q3
    · rename_i e3
      refine hs _ H2 d1 d2 v1 v2 _ _ h1 h2 e3 fun v rv => ?_
      simp only [Rep] at rv
      refine ⟨false, rv, ?_⟩
      rw [if_neg (by decide)]
      exact fin_fz R2.pop.pop (rep_bl _) q2
    · exact q2.elim
  · exact q2.elim
theorem pd_chain {a b d : Expr} {op op' : CmpOp} {r r' : R2} {f f' : D → D → Option BR} {ma mb mc : M SV} (ho : OpR X (compareOp op) r) (ho' : OpR X (compareOp op') r') (hs : OpB X.K r f) (hs' : OpB X.K r' f') (ha : PE X a (tDE c W ma)) (hb : PE X b (tDE c W mb)) (hc : PE X d (tDE c W mc)) (hK : c.K = X.K := by rfl)
    (hm : lastMarks [op, op'] [b, d] = false := by with_unfolding_all rfl) : PE X (.Compare a [op, op'] [b, d] pos) (tDE c W (mChain f f' ma mb mc)) :=
  pe_imp (pe_chain ho ho' ha hb hc hm) fun σ H Q h => readChain hs hs' hK h
theorem pt_dchain {a b d : Expr} {op op' : CmpOp} {r r' : R2} {f f' : D → D → Option BR} {ma mb mc : M SV} (ho : OpR X (compareOp op) r) (ho' : OpR X (compareOp op') r') (hs : OpB X.K r f) (hs' : OpB X.K r' f') (ha : PE X a (tDE c W ma)) (hb : PE X b (tDE c W mb)) (hc : PE X d (tDE c W mc)) (hK : c.K = X.K := by rfl)
    (hm : lastMarks [op, op'] [b, d] = false := by with_unfolding_all rfl) : PT X (.Compare a [op, op'] [b, d] pos) (tDT c W (mTest (mChain f f' ma mb mc))) := by
  refine pt_imp (pt_chain ho ho' ha hb hc hm) fun σ H Q ⟨ρ, ts, R0, q⟩ => ?_
  show tChain r r' (tDE c W ma) (tDE c W mb) (tDE c W mc) σ H _
  refine readChain hs hs' hK ⟨ρ, ts, R0, ?_⟩
  cases e : mChain f f' ma mb mc ρ with
  | none => unfold mTest at q; rw [bnd_none e] at q; exact q.elim
  | some x =>
    cases x with
    | er x ρ' => unfold mTest at q; rw [bnd_er e] at q; exact q
    | ok sv ρ' =>
      unfold mTest at q; rw [bnd_some e] at q
      intro v H' R'
      split at q
      · exact ⟨_, top_bl R', q H' R'.pop⟩
      · exact q.elim
/-! texts: their signs -/
def chD (z : Str) : List D := z.cps.toList.map fun c => .str ⟨#[c]⟩
def mItemsS (m : M SV) : M (List D) := m.bnd fun s => fun ρ => match con ρ s with
  | some (.str z) => some (.ok (chD z) ρ)
  | _ => none
theorem jd_str {z : Str} : JD c (Its z) (chD z) [] := by
  intro σ ρ ts H i r ht
  have hl : (chD z).length = z.cps.size := by simp [chD]
  refine ⟨fun h => by rw [hl] at h; exact h, fun d hd => ?_⟩
  unfold chD at hd
  rw [List.getElem?_map, Option.map_eq_some_iff] at hd
  obtain ⟨x, hx, rfl⟩ := hd
  have hi : i < z.cps.size := by
    have := (List.getElem?_eq_some_iff.mp hx).1
    simpa using this
  refine ⟨hi, fun y H' ⟨eH, x', e2, e3⟩ => ?_⟩
  subst eH e3
  have : x' = x := by
    rw [Array.getElem?_toList] at hx
    rw [hx] at e2
    exact (Option.some.inj e2).symm
  subst this
  exact r.push_fz (rep_str _)
theorem pd_strIt {tg l : Expr} {m : M SV} (hl : PE X l (tDE c W m)) : PI X tg l (tDI c W (mItemsS m)) := by
  refine pi_imp (pi_str hl) fun σ H Q ⟨ρ, ts, r, q⟩ => bindI r q fun sv v ρ1 H1 r1 q1 => ?_
  cases e : con ρ1 sv with
  | none => rw [e] at q1; exact q1.elim
  | some d =>
    rw [e] at q1
    cases d with
    | str z => exact ⟨z, repR_str (r1.con List.mem_cons_self e), q1 _ _ [] r1.pop (fun i u h => by simp at h) jd_str⟩
    | _ => exact q1.elim
/-! .. one sign in a text -/
def rInT (neg : Bool) : R2 := fun x y H Q => ∃ (c : Nat) (z : Str), x = .str ⟨#[c]⟩ ∧ y = .str z ∧ Q (.bl (if neg then !decide (c ∈ z.cps.toList) else decide (c ∈ z.cps.toList))) H
theorem op_inT : OpR X (compareOp .In) (rInT false) := op_in_sign
theorem op_notInT : OpR X (compareOp .NotIn) (rInT true) := op_notIn_sign
def fInA (neg : Bool) (d e : D) : Option BR := match e with
  | .str z => match d with
    | .str x => match x.cps.toList with
      | [c] => some (.imm (.bl (if neg then !decide (c ∈ z.cps.toList) else decide (c ∈ z.cps.toList))))
      | _ => none
    | _ => none
  | e => fInX neg d e
theorem opB_inA {K : PySem.W.Frag} {neg : Bool} : OpB K (fun x y H Q => (rIn K neg x y H Q ∨ rNIn K neg x y H Q) ∨ rInT neg x y H Q) (fInA neg) := by
  intro A H d1 d2 v1 v2 b Q h1 h2 e q
  cases d2 with
  | str z =>
    simp only [fInA] at e
    split at e
    · rename_i x
      split at e
      · rename_i cc hx
        cases e
        refine .inr ⟨cc, z, ?_, repR_str h2, q _ (rep_bl _)⟩
        rw [repR_str h1]
        have : x = ⟨#[cc]⟩ := by
          cases x with
          | mk cps =>
            have : cps = #[cc] := by
              apply Array.toList_inj.mp
              exact hx
            rw [this]
        rw [this]
      · cases e
    · cases e
  | _ => exact .inl (opB_inX A H d1 _ v1 v2 b Q h1 h2 (by simpa only [fInA] using e) q)
theorem opR_inA (hu : X.A.units + 64 < cLine) : OpR X (compareOp .In) (fun x y H Q => (rIn X.K false x y H Q ∨ rNIn X.K false x y H Q) ∨ rInT false x y H Q) := OpR.or (opR_inX hu) op_inT
theorem opR_notInA (hu : X.A.units + 64 < cLine) : OpR X (compareOp .NotIn) (fun x y H Q => (rIn X.K true x y H Q ∨ rNIn X.K true x y H Q) ∨ rInT true x y H Q) := OpR.or (opR_notInX hu) op_notInT
/-! .. slices -/
def fSlA (lo hi : Option Int) (d : D) : Option BR := match d with
  | .str z => if z.length ≤ sizeLine then some (.imm (.str (cutS z lo hi))) else none
  | d => fSl lo hi d
def rSlX (K : PySem.W.Frag) : V → Option Int → Option Int → Hp → VK → Prop := fun x lo hi H Q => rSl' K x lo hi H Q ∨ rSlS x lo hi H Q
theorem slRX : SlR X (rSlX X.K) := SlR.or slR' sl_str
theorem unB_slX {K : PySem.W.Frag} {lo hi : Option Int} : UnB K (fun x H Q => rSlX K x lo hi H Q) (fSlA lo hi) := by
  intro A H d1 v1 b Q h1 e q
  cases d1 with
  | str z =>
    simp only [fSlA] at e
    split at e
    · rename_i hz
      cases e
      exact .inr ⟨z, repR_str h1, hz, q _ (rep_str _)⟩
    · cases e
  | _ => exact .inl (unB_sl A H _ v1 b Q h1 (by simpa only [fSlA] using e) q)
def mSlA (m : M SV) (ml mh : M (Option Int)) : M SV := m.bnd fun s => ml.bnd fun lo => mh.bnd fun hi => lift1 (fSlA lo hi) s
theorem pd_sliceA {e : Expr} {lo hi : Option Expr} {m : M SV} {ml mh : M (Option Int)} {pos p2 : Pos} (he : PE X e (tDE c W m)) (hl : PO X lo (tDO c W ml)) (hh : PO X hi (tDO c W mh)) (hK : c.K = X.K := by rfl) :
    PE X (.Subscript e (.Slice lo hi none p2) pos) (tDE c W (mSlA m ml mh)) := by
  refine pe_imp (pe_slice slRX he hl hh) fun σ H Q ⟨ρ, ts, R1, q⟩ => ?_
  refine bindE R1 q fun s v ρ1 H1 R2 q1 => ?_
  refine ⟨ρ1, (s, v) :: ts, R2, ?_⟩
  cases e1 : ml ρ1 with
  | none => rw [bnd_none e1] at q1; exact q1.elim
  | some x =>
    cases x with
    | er x ρ' => rw [bnd_er e1] at q1; exact fun cls od H' r' z => q1 cls od H' r'.pop (z.less avr_sub)
    | ok lo ρ2 =>
      rw [bnd_some e1] at q1
      intro H2 R3
      refine ⟨ρ2, (s, v) :: ts, R3, ?_⟩
      cases e2 : mh ρ2 with
      | none => rw [bnd_none e2] at q1; exact q1.elim
      | some x =>
        cases x with
        | er x ρ' => rw [bnd_er e2] at q1; exact fun cls od H' r' z => q1 cls od H' r'.pop (z.less avr_sub)
        | ok hi ρ3 =>
          rw [bnd_some e2] at q1
          intro H3 R4
          unfold lift1 at q1
          cases e3 : con ρ3 s with
          | none => rw [e3] at q1; exact q1.elim
          | some d =>
            rw [e3] at q1
            simp only at q1
            cases e4 : fSlA lo hi d with
            | none => rw [e4] at q1; exact q1.elim
            | some b =>
              rw [e4] at q1
              exact unB_slX (K := X.K) _ H3 d v b Q (hK ▸ R4.con List.mem_cons_self e3) e4 (hK ▸ fin_br (us := [(s, v)]) R4 q1)
/-! .. join -/
def strsOf : List D → Option (List Str)
  | [] => some []
  | .str z :: ds => (strsOf ds).map (z :: ·)
  | _ :: _ => none
theorem strs_rep {K : PySem.W.Frag} {A : Addr → Prop} : ∀ {ds : List D} {vs : List V} {zs : List Str}, strsOf ds = some zs → RepL K A H ds vs → vs = zs.map V.str
  | [], vs, zs, e, r => by
    simp only [strsOf, Option.some.injEq] at e
    subst e
    simp only [RepL] at r
    exact r
  | d :: ds, vs, zs, e, r => by
    cases d with
    | str z =>
      simp only [strsOf, Option.map_eq_some_iff] at e
      obtain ⟨zs', e, rfl⟩ := e
      simp only [RepL] at r
      obtain ⟨v, vs', rfl, r1, r2⟩ := r
      simp only [Rep] at r1
      rw [r1, strs_rep e r2]
      rfl
    | _ => simp [strsOf] at e
def joinOf (a : Str) (ds : List D) : Option BR := match strsOf ds with
  | some zs => if (zs.map (·.length)).sum + zs.length * a.length ≤ 16777216 then some (.imm (.str (Txt.join a zs))) else none
  | none => none
def fJoin (x y : D) : Option BR := match x, y with
  | .str a, .lst ds => joinOf a ds
  | .str a, .tup ds => joinOf a ds
  | .str a, .seq ds => joinOf a ds
  | _, _ => none
def strK (m : M SV) : M SV := m.bnd fun s => match s with
  | .fz (.str z) => ret (.fz (.str z))
  | _ => fun _ => none
def mJoin (ma mb : M SV) : M SV := mBin (lift2 fJoin) (strK ma) mb
theorem pd_join {o e : Expr} {ma mb : M SV} {apos : Pos} (ho : PE X o (tDE c W ma)) (he : PE X e (tDE c W mb)) (hs : starEach [e] X.env = [(false, eval e X.env)] := by rfl) (hbase : attributeBase o "join" X.env (eval o X.env) = eval o X.env := by rfl) (hline : (apos.endLine == pos.line) = true := by rfl) (hK : c.K = X.K := by rfl) :
    PE X (.Call (.Attribute o "join" apos) [e] [] pos) (tDE c W (mJoin ma mb)) := by
  refine pe_imp (pe_join ho he hs hbase hline) fun σ H Q ⟨ρ, ts, R0, q⟩ => ?_
  unfold mJoin mBin strK at q
  have q0 : PostE c W σ ts Q ((M.bnd ma fun s => M.bnd (match s with | .fz (.str z) => ret (.fz (.str z)) | _ => fun _ => none) fun x => M.bnd mb fun y => lift2 fJoin x y) ρ) := by
    have e0 : ∀ (k : SV → M SV) (f : SV → M SV), ((ma.bnd k).bnd f) ρ = (ma.bnd fun s => (k s).bnd f) ρ := fun k f => by
      unfold M.bnd
      cases ma ρ with
      | none => rfl
      | some x => cases x <;> rfl
    rw [← e0]; exact q
  refine bindE R0 q0 fun s1 v1 ρ1 H1 R1 q1 => ?_
  split at q1
  · rename_i z
    have t := R1.top_fz
    simp only [Rep] at t
    subst t
    refine ⟨⟨z, rfl⟩, ?_⟩
    rw [bnd_some (show ret (SV.fz (.str z)) ρ1 = some (.ok (.fz (.str z)) ρ1) from rfl)] at q1
    refine bindE1 R1 q1 fun s2 v2 ρ2 H2 R2 q2 => ?_
    unfold lift2 at q2
    have e1 : con ρ2 (.fz (.str z)) = some (.str z) := rfl
    rw [e1] at q2
    cases e2 : con ρ2 s2 with
    | none => rw [e2] at q2; exact q2.elim
    | some d2 =>
      rw [e2] at q2
      have h2 := R2.con List.mem_cons_self e2
      have fin : ∀ {ds : List D} {a : Addr} {vs : List V}, v2 = .ref a → (SqL X.K H2 a vs ∨ SqT X.K H2 a vs) → RepL c.K (Avr c σ ρ2 ((s2, v2) :: (SV.fz (D.str z), V.str z) :: ts)) H2 ds vs → PostE c W σ ts Q (bres (joinOf z ds) ρ2) →
          ∃ a p, ∃ ys : List Str, V.str z = .str a ∧ [v2] = [V.ref p] ∧ (SqL X.K H2 p (ys.map V.str) ∨ SqT X.K H2 p (ys.map V.str)) ∧ (ys.map (·.length)).sum + ys.length * a.length ≤ 16777216 ∧ Q (.str (Txt.join a ys)) H2 := by
        intro ds a vs ev hv hr hq
        unfold joinOf at hq
        cases ez : strsOf ds with
        | none => rw [ez] at hq; exact hq.elim
        | some zs =>
          rw [ez] at hq
          simp only at hq
          split at hq
          · rename_i hc
            rw [ev]
            obtain rfl := strs_rep ez hr
            exact ⟨z, a, zs, rfl, rfl, hv, hc, fin_fz R2.pop.pop (rep_str _) hq⟩
          · exact hq.elim
      cases d2 with
      | lst ds =>
        obtain ⟨a, us, e5, e6, e7⟩ := repR_lst h2
        exact fin e5 (.inl (SqL.of e6)) e7 q2
      | tup ds =>
        obtain ⟨a, us, e5, e6, e7⟩ := repR_tup h2
        exact fin e5 (.inr (hK ▸ e6)) e7 q2
      | seq ds =>
        obtain ⟨a, us, e5, e6, e7⟩ := repR_seq h2
        exact fin e5 (.inl (hK ▸ e6.sq)) e7 q2
      | _ => exact q2.elim
  · exact q1.elim
/-! clear -/
def kClear (j : Nat) (svs : List SV) : M SV := fun ρ => match svs with
  | [] => match ρ[j]? with
    | some (.own (.lst _)) => some (.ok (.fz .non) (ρ.set j (.own (.lst []))))
    | _ => none
  | _ => none
theorem mtS_clear {K : PySem.W.Frag} : MtS K rClear j (kClear j) := by
  intro c W σ ρ ts H svs vs w Q hK hl r hw q
  unfold kClear at q
  split at q
  case h_2 => exact q.elim
  have : vs = [] := List.length_eq_zero_iff.mp hl.symm
  subst this
  cases e2 : ρ[j]? with
  | none => rw [e2] at q; exact q.elim
  | some s2 =>
    rw [e2] at q
    cases s2 with
    | own d2 =>
      cases d2 with
      | lst ds =>
        have r0 : R c σ ρ ts H := r
        obtain ⟨p, ds', us, e4, e5, e6, rl⟩ := r0.slot_own e2
        cases e5
        rw [hw] at e4; cases e4
        refine ⟨p, us, rfl, rfl, e6, ?_⟩
        exact q _ _ ((r0.write e2 hw RepL.nil upd_same fun a o ha h => by rw [upd_ne ha]; exact h).push_fz rep_non)
      | _ => exact q.elim
    | _ => exact q.elim
/-! xs[::-1] -/
def fRev : D → Option BR
  | .lst ds => some (.newL ds.reverse)
  | .seq ds => some (.newL ds.reverse)
  | _ => none
theorem unB_rev {K : PySem.W.Frag} : UnB K (fun x H Q => ∃ a xs, x = .ref a ∧ SqL K H a xs ∧ ∀ p, H p = none → Q (.ref p) (upd H p (.lst xs.reverse))) fRev := by
  intro A H d1 v1 b Q h1 e q
  unfold fRev at e
  split at e
  · cases e
    obtain ⟨a, vs, e1, e2, r⟩ := repR_lst h1
    exact ⟨a, vs, e1, SqL.of e2, fun p hp => q _ p r.rev hp⟩
  · cases e
    obtain ⟨a, vs, e1, e2, r⟩ := repR_seq h1
    exact ⟨a, vs, e1, e2.sq, fun p hp => q _ p r.rev hp⟩
  · cases e
theorem pd_rev {e : Expr} {m : M SV} {k : Nat} {p1 p2 p3 : Pos} (he : PE X e (tDE c W m)) (hK : c.K = X.K := by rfl) : PE X (.Subscript e (.Slice none none (some (.UnaryOp .USub (.Constant (.int 1) k p1) p2)) p3) pos) (tDE c W (mUn fRev m)) :=
  pe_imp (pe_revL he) fun σ H Q h => read1 (r := fun x H Q => ∃ a xs, x = .ref a ∧ SqL X.K H a xs ∧ ∀ p, H p = none → Q (.ref p) (upd H p (.lst xs.reverse))) (hK ▸ unB_rev) h
/-! what is never reached -/
def mNever : MS := fun _ => none
theorem pd_never {st : Stmt} : PS X st (tDS c W mNever) := ⟨fun pins s D σ H I ⟨ρ, ts, r, n, q⟩ => q.elim⟩
end
end DL

set_option Elab.async false
set_option linter.all false
set_option maxRecDepth 100000
/-! The data layer: what is wanted, the newer constructs. -/
namespace DL
open PySem PySem.Spec PyProof.Rows L2
section
variable {α β : Type} {ρ : List SV} {Q : α → List SV → Prop} {X : Ex → List SV → Prop} {K : SR → Prop} {QS : SV → List SV → Prop}
def blK (d : D) (A : Bool → Prop) : Prop := match d with
  | .bl b => A b
  | _ => False
theorem bk_bl {b : Bool} {A : Bool → Prop} : blK (.bl b) A = A b := rfl
theorem v_chK {f : D → D → Option BR} {s1 s2 : SV} {no yes : M SV} : WpE (chK f s1 s2 no yes) ρ QS X = WpO (con ρ s1) fun d1 => WpO (con ρ s2) fun d2 => immK (f d1 d2) fun d => blK d fun b => brB b (WpE yes ρ QS X) (WpE no ρ QS X) := by
  unfold WpE chK
  cases con ρ s1 with
  | none => rfl
  | some d1 =>
    cases con ρ s2 with
    | none => rfl
    | some d2 =>
      simp only [WpO]
      cases f d1 d2 with
      | none => rfl
      | some b =>
        cases b with
        | imm d =>
          cases d with
          | bl b => cases b <;> simp [immK, blK, brB]
          | _ => rfl
        | _ => rfl
theorem v_chain {f f' : D → D → Option BR} {ma mb mc : M SV} : WpE (mChain f f' ma mb mc) ρ QS X = WpE ma ρ (fun s1 ρ1 => WpE mb ρ1 (fun s2 ρ2 => WpO (con ρ2 s1) fun d1 => WpO (con ρ2 s2) fun d2 => immK (f d1 d2) fun d => blK d fun b =>
    brB b (WpE mc ρ2 (fun s3 ρ3 => WpE (lift2 f' s2 s3) ρ3 QS X) X) (QS (.fz (.bl false)) ρ2)) X) X := by
  unfold mChain; rw [v_bnd]; simp only [v_bnd, v_chK, v_ret]
def chO (d : D) : Option (List D) := match d with
  | .str z => some (chD z)
  | _ => none
theorem v_itemsS {m : M SV} {Q : List D → List SV → Prop} : WpE (mItemsS m) ρ Q X = WpE m ρ (fun s ρ1 => WpO (con ρ1 s) fun d => WpO (chO d) fun ds => Q ds ρ1) X := by
  unfold mItemsS; rw [v_bnd]; congr 1; funext s ρ'
  unfold WpE
  dsimp only
  cases con ρ' s with
  | none => rfl
  | some d => cases d <;> rfl
theorem v_itemsO {C f : Str} {m : M SV} {Q : List D → List SV → Prop} : WpE (mItemsO C f m) ρ Q X = WpE m ρ (fun s ρ1 => WpO (con ρ1 s) fun d => WpO (itO C f d) fun ds => Q ds ρ1) X := by
  unfold mItemsO; rw [v_bnd]; congr 1; funext s ρ'
  unfold WpE
  dsimp only
  cases con ρ' s with
  | none => rfl
  | some d =>
    dsimp only [WpO]
    cases itO C f d <;> rfl
theorem v_slA {m : M SV} {ml mh : M (Option Int)} : WpE (mSlA m ml mh) ρ QS X = WpE m ρ (fun s ρ1 => WpE ml ρ1 (fun lo ρ2 => WpE mh ρ2 (fun hi ρ3 => WpO (con ρ3 s) fun d => WpB (fSlA lo hi d) ρ3 QS) X) X) X := by
  unfold mSlA; rw [v_bnd]; simp only [v_bnd, v_lift1]
def txtK (s : SV) (A : Str → Prop) : Prop := match s with
  | .fz (.str z) => A z
  | _ => False
theorem tx_str {z : Str} {A : Str → Prop} : txtK (.fz (.str z)) A = A z := rfl
theorem v_strK {m : M SV} : WpE (strK m) ρ QS X = WpE m ρ (fun s ρ1 => txtK s fun z => QS (.fz (.str z)) ρ1) X := by
  unfold strK; rw [v_bnd]; congr 1; funext s ρ1
  unfold txtK
  split <;> simp_all [WpE, WpR, ret]
theorem v_join {ma mb : M SV} : WpE (mJoin ma mb) ρ QS X = WpE ma ρ (fun s ρ1 => txtK s fun z => WpE mb ρ1 (fun s2 ρ2 => WpO (con ρ2 s2) fun d => WpB (fJoin (.str z) d) ρ2 QS) X) X := by
  unfold mJoin; rw [v_bin, v_strK]; simp only [v_lift2, con_fz, wo_some]
theorem v_clear {j : Nat} : WpE (kClear j []) ρ QS X = lstAt ρ[j]? fun _ => QS (.fz .non) (ρ.set j (.own (.lst []))) := by
  unfold WpE kClear
  simp only []
  cases ρ[j]? with
  | none => rfl
  | some s =>
    cases s with
    | own d2 => cases d2 <;> rfl
    | _ => rfl
theorem v_dict0 : WpE mDict0 ρ QS X = QS (.box (.dic [] [])) ρ := rfl
def dicAt (o : Option SV) (A : List D → List D → Prop) : Prop := match o with
  | some (.box (.dic ks vs)) => A ks vs
  | _ => False
theorem da_dic {ks vs : List D} {A : List D → List D → Prop} : dicAt (some (.box (.dic ks vs))) A = A ks vs := rfl
def fzK (s : SV) (A : D → Prop) : Prop := match s with
  | .fz d => A d
  | _ => False
theorem fz_fz {d : D} {A : D → Prop} : fzK (.fz d) A = A d := rfl
theorem v_getK {j : Nat} {sk sx : SV} : WpE (getK j sk sx) ρ QS X = dicAt ρ[j]? fun ks vs => WpO (con ρ sk) fun k => fzK sx fun x => WpO (dGet ks vs k) fun o => QS (.fz (o.getD x)) ρ := by
  unfold WpE getK
  cases ρ[j]? with
  | none => rfl
  | some s =>
    cases s with
    | box d =>
      cases d with
      | dic ks vs =>
        simp only [dicAt]
        cases con ρ sk with
        | none => rfl
        | some k =>
          simp only [WpO]
          cases sx with
          | fz x =>
            simp only [fzK]
            cases dGet ks vs k with
            | none => rfl
            | some o => cases o <;> rfl
          | _ => rfl
      | _ => rfl
    | _ => rfl
theorem v_dget {j : Nat} {mk mx : M SV} : WpE (mDGet j mk mx) ρ QS X = dicAt ρ[j]? fun _ _ => WpE mk ρ (fun sk ρ1 => WpE mx ρ1 (fun sx ρ2 => WpE (getK j sk sx) ρ2 QS X) X) X := by
  unfold mDGet
  show WpR (match ρ[j]? with | some (.box (.dic _ _)) => _ | _ => none) QS X = _
  cases ρ[j]? with
  | none => rfl
  | some s =>
    cases s with
    | box d =>
      cases d with
      | dic ks vs =>
        simp only [dicAt]
        show WpE ((mk.bnd fun sk => mx.bnd fun sx => getK j sk sx)) ρ QS X = _
        rw [v_bnd]; simp only [v_bnd]
      | _ => rfl
    | _ => rfl
def boxAt (o : Option SV) (A : Prop) : Prop := match o with
  | some (.box _) => A
  | _ => False
theorem ba_box {d : D} {A : Prop} : boxAt (some (.box d)) A = A := rfl
theorem s_atBox {j : Nat} {m : MS} : WpS (atBox j m) ρ K = boxAt ρ[j]? (WpS m ρ K) := by
  unfold atBox
  show WpO (match ρ[j]? with | some (.box _) => _ | _ => none) K = _
  cases ρ[j]? with
  | none => rfl
  | some s => cases s <;> rfl
theorem s_putKD {j : Nat} {sk sv : SV} : WpS (putKD j sk sv) ρ K = WpO (con ρ sk) fun k => WpEsc sv ρ fun v ρ1 => dicAt ρ1[j]? fun ks vs => WpO (dPut ks vs k v) fun q => K (.nx (ρ1.set j (.box (.dic q.1 q.2)))) := by
  simp only [← v_esc (X := fun _ _ => False)]
  unfold WpS putKD
  cases con ρ sk with
  | none => rfl
  | some k =>
    simp only [WpO, WpE]
    cases h : esc sv ρ with
    | none => rfl
    | some r =>
      cases r with
      | er e ρ1 => exact absurd h esc_er
      | ok d ρ1 =>
        simp only [WpR]
        cases ρ1[j]? with
        | none => rfl
        | some s =>
          cases s with
          | box d2 =>
            cases d2 with
            | dic ks vs =>
              simp only [dicAt]
              cases dPut ks vs k d with
              | none => rfl
              | some q => rfl
            | _ => rfl
          | _ => rfl
theorem s_dput {j : Nat} {m mk : M SV} : WpS (mDPut j m mk) ρ K = WpE m ρ (fun sv ρ1 => boxAt ρ1[j]? (WpE mk ρ1 (fun sk ρ2 => WpS (putKD j sk sv) ρ2 K) (fun e ρ2 => K (.er e ρ2)))) (fun e ρ1 => K (.er e ρ1)) := by
  unfold mDPut; rw [s_e]; simp only [s_atBox, s_e]
theorem v_listKeys {j : Nat} : WpE (mListKeys j) ρ QS X = dicAt ρ[j]? fun ks _ => QS (.own (.lst ks)) ρ := by
  unfold WpE mListKeys
  cases ρ[j]? with
  | none => rfl
  | some s =>
    cases s with
    | box d => cases d <;> rfl
    | _ => rfl
def objIs (C : Str) (d : D) : Prop := match d with
  | .obj C' _ _ => C' = C
  | _ => False
theorem oi_obj {C C' : Str} {fs : List Str} {ds : List D} : objIs C (.obj C' fs ds) = (C' = C) := rfl
theorem v_prop {C : Str} {g : Fn} {m : M SV} : WpE (mProp C g m) ρ QS X = WpE m ρ (fun s ρ1 => WpO (con ρ1 s) fun d => objIs C d ∧ WpE (mCallP 1 g (ret [s])) ρ1 QS X) X := by
  unfold mProp; rw [v_bnd]; congr 1; funext s ρ'
  unfold WpE
  dsimp only
  cases con ρ' s with
  | none => rfl
  | some d =>
    cases d with
    | obj C' fs ds =>
      simp only [WpO, objIs]
      by_cases h : C' = C <;> simp [h, WpR]
    | _ => simp [WpO, objIs, WpR]
def mkK (C : Str) (rv : SV) (outs : List SV) (A : SV → Prop) : Prop := match rv, outs with
  | .fz .non, .box (.obj C' fs es) :: _ => (C' = C ∧ nolists es = true) ∧ A (.box (.obj C fs es))
  | _, _ => False
theorem mk_ok {C C' : Str} {fs : List Str} {es : List D} {o : List SV} {A : SV → Prop} : mkK C (.fz .non) (.box (.obj C' fs es) :: o) A = ((C' = C ∧ nolists es = true) ∧ A (.box (.obj C fs es))) := rfl
theorem v_make {C : Str} {n : Nat} {g : Fn} {ma : M (List SV)} : WpE (mMake C n g ma) ρ QS X = WpE ma ρ (fun svs ρ0 => (svs.length = n ∧ svs.all (lendOk ρ0) = true) ∧ WpO (cons ρ0 svs) fun ds => WpC g (.box (.obj C [] []) :: ds.map .fz)
    (fun rv outs => mkK C rv outs fun s => QS s ρ0) (fun e _ => nolists (e.fs.map (·.2)) = true ∧ X e ρ0)) X := by
  unfold mMake; rw [v_bnd]; congr 1; funext svs ρ0
  unfold WpE WpC makF
  by_cases hn : svs.length = n ∧ svs.all (lendOk ρ0) = true
  · rw [if_pos hn]
    simp only [hn, true_and, and_self]
    cases cons ρ0 svs with
    | none => rfl
    | some ds =>
      simp only [WpO]
      cases g (.box (.obj C [] []) :: ds.map .fz) with
      | none => rfl
      | some r =>
        cases r with
        | er e outs =>
          simp only []
          by_cases h : nolists (e.fs.map (·.2)) = true <;> simp [h, WpR]
        | ok rv outs =>
          cases rv with
          | fz d =>
            cases d with
            | non =>
              cases outs with
              | nil => rfl
              | cons o os =>
                cases o with
                | box d =>
                  cases d with
                  | obj C' fs es =>
                    simp only [mkK]
                    by_cases h : C' = C ∧ nolists es = true
                    · rw [if_pos h]; simp [h, WpR]
                    · rw [if_neg h]; simp [h, WpR]
                  | _ => rfl
                | _ => rfl
            | _ => cases outs <;> rfl
          | _ => cases outs <;> rfl
  · rw [if_neg hn]
    simp only [hn, false_and]
    rfl
def objAt (C : Str) (o : Option SV) (A : List Str → List D → Prop) : Prop := match o with
  | some (.box (.obj C' fs ds)) => C' = C ∧ A fs ds
  | _ => False
theorem ob_obj {C C' : Str} {fs : List Str} {ds : List D} {A : List Str → List D → Prop} : objAt C (some (.box (.obj C' fs ds))) A = (C' = C ∧ A fs ds) := rfl
theorem s_setFD {C f : Str} {j : Nat} {sv : SV} : WpS (setFD C f j sv) ρ K = WpEsc sv ρ fun d ρ1 => objAt C ρ1[j]? fun fs ds => fs.length < 900 ∧ K (.nx (ρ1.set j (.box (.obj C (putN f fs) (putV f d fs ds))))) := by
  simp only [← v_esc (X := fun _ _ => False)]
  unfold WpS setFD WpE
  cases h : esc sv ρ with
  | none => rfl
  | some r =>
    cases r with
    | er e ρ1 => exact absurd h esc_er
    | ok d ρ1 =>
      simp only [WpR]
      cases ρ1[j]? with
      | none => rfl
      | some s =>
        cases s with
        | box d2 =>
          cases d2 with
          | obj C' fs ds =>
            simp only [objAt]
            by_cases h1 : C' = C
            · subst h1
              by_cases h2 : fs.length < 900 <;> simp [h2, WpO]
            · simp [h1, WpO]
          | _ => rfl
        | _ => rfl
theorem s_setFld {C f : Str} {j : Nat} {m : M SV} : WpS (mSetFld C f j m) ρ K = WpE m ρ (fun sv ρ1 => WpS (setFD C f j sv) ρ1 K) (fun e ρ1 => K (.er e ρ1)) := s_e
end
end DL

set_option Elab.async false
set_option linter.all false
set_option maxRecDepth 100000
/-! The data layer: the newer rules at the head alone, what the newer built-ins say of data. -/
namespace DL
open PySem PySem.Spec PyProof.Rows L2
section
variable {α β : Type} {ρ : List SV} {Q : α → List SV → Prop} {X : Ex → List SV → Prop} {K : SR → Prop} {QS : SV → List SV → Prop}
theorem gbk_bl {b : Bool} {A : Bool → Prop} : Go (blK (.bl b) A) = Go (A b) := congrArg Go bk_bl
theorem gv_chK {f : D → D → Option BR} {s1 s2 : SV} {no yes : M SV} : Go (WpE (chK f s1 s2 no yes) ρ QS X) = Go (WpO (con ρ s1) fun d1 => WpO (con ρ s2) fun d2 => immK (f d1 d2) fun d => blK d fun b => brB b (WpE yes ρ QS X) (WpE no ρ QS X)) := congrArg Go v_chK
theorem gv_chain {f f' : D → D → Option BR} {ma mb mc : M SV} : Go (WpE (mChain f f' ma mb mc) ρ QS X) = Go (WpE ma ρ (fun s1 ρ1 => WpE mb ρ1 (fun s2 ρ2 => WpO (con ρ2 s1) fun d1 => WpO (con ρ2 s2) fun d2 => immK (f d1 d2) fun d => blK d fun b =>
    brB b (WpE mc ρ2 (fun s3 ρ3 => WpE (lift2 f' s2 s3) ρ3 QS X) X) (QS (.fz (.bl false)) ρ2)) X) X) := congrArg Go v_chain
theorem gv_itemsS {m : M SV} {Q : List D → List SV → Prop} : Go (WpE (mItemsS m) ρ Q X) = Go (WpE m ρ (fun s ρ1 => WpO (con ρ1 s) fun d => WpO (chO d) fun ds => Q ds ρ1) X) := congrArg Go v_itemsS
theorem gv_itemsO {C f : Str} {m : M SV} {Q : List D → List SV → Prop} : Go (WpE (mItemsO C f m) ρ Q X) = Go (WpE m ρ (fun s ρ1 => WpO (con ρ1 s) fun d => WpO (itO C f d) fun ds => Q ds ρ1) X) := congrArg Go v_itemsO
theorem gv_slA {m : M SV} {ml mh : M (Option Int)} : Go (WpE (mSlA m ml mh) ρ QS X) = Go (WpE m ρ (fun s ρ1 => WpE ml ρ1 (fun lo ρ2 => WpE mh ρ2 (fun hi ρ3 => WpO (con ρ3 s) fun d => WpB (fSlA lo hi d) ρ3 QS) X) X) X) := congrArg Go v_slA
theorem gtx_str {z : Str} {A : Str → Prop} : Go (txtK (.fz (.str z)) A) = Go (A z) := congrArg Go tx_str
theorem gv_strK {m : M SV} : Go (WpE (strK m) ρ QS X) = Go (WpE m ρ (fun s ρ1 => txtK s fun z => QS (.fz (.str z)) ρ1) X) := congrArg Go v_strK
theorem gv_join {ma mb : M SV} : Go (WpE (mJoin ma mb) ρ QS X) = Go (WpE ma ρ (fun s ρ1 => txtK s fun z => WpE mb ρ1 (fun s2 ρ2 => WpO (con ρ2 s2) fun d => WpB (fJoin (.str z) d) ρ2 QS) X) X) := congrArg Go v_join
theorem gv_clear {j : Nat} : Go (WpE (kClear j []) ρ QS X) = Go (lstAt ρ[j]? fun _ => QS (.fz .non) (ρ.set j (.own (.lst [])))) := congrArg Go v_clear
theorem gv_dict0 : Go (WpE mDict0 ρ QS X) = Go (QS (.box (.dic [] [])) ρ) := congrArg Go v_dict0
theorem gda_dic {ks vs : List D} {A : List D → List D → Prop} : Go (dicAt (some (.box (.dic ks vs))) A) = Go (A ks vs) := congrArg Go da_dic
theorem gfz_fz {d : D} {A : D → Prop} : Go (fzK (.fz d) A) = Go (A d) := congrArg Go fz_fz
theorem gv_getK {j : Nat} {sk sx : SV} : Go (WpE (getK j sk sx) ρ QS X) = Go (dicAt ρ[j]? fun ks vs => WpO (con ρ sk) fun k => fzK sx fun x => WpO (dGet ks vs k) fun o => QS (.fz (o.getD x)) ρ) := congrArg Go v_getK
theorem gv_dget {j : Nat} {mk mx : M SV} : Go (WpE (mDGet j mk mx) ρ QS X) = Go (dicAt ρ[j]? fun _ _ => WpE mk ρ (fun sk ρ1 => WpE mx ρ1 (fun sx ρ2 => WpE (getK j sk sx) ρ2 QS X) X) X) := congrArg Go v_dget
theorem gba_box {d : D} {A : Prop} : Go (boxAt (some (.box d)) A) = Go (A) := congrArg Go ba_box
theorem gs_atBox {j : Nat} {m : MS} : Go (WpS (atBox j m) ρ K) = Go (boxAt ρ[j]? (WpS m ρ K)) := congrArg Go s_atBox
theorem gs_putKD {j : Nat} {sk sv : SV} : Go (WpS (putKD j sk sv) ρ K) = Go (WpO (con ρ sk) fun k => WpEsc sv ρ fun v ρ1 => dicAt ρ1[j]? fun ks vs => WpO (dPut ks vs k v) fun q => K (.nx (ρ1.set j (.box (.dic q.1 q.2))))) := congrArg Go s_putKD
theorem gs_dput {j : Nat} {m mk : M SV} : Go (WpS (mDPut j m mk) ρ K) = Go (WpE m ρ (fun sv ρ1 => boxAt ρ1[j]? (WpE mk ρ1 (fun sk ρ2 => WpS (putKD j sk sv) ρ2 K) (fun e ρ2 => K (.er e ρ2)))) (fun e ρ1 => K (.er e ρ1))) := congrArg Go s_dput
theorem gv_listKeys {j : Nat} : Go (WpE (mListKeys j) ρ QS X) = Go (dicAt ρ[j]? fun ks _ => QS (.own (.lst ks)) ρ) := congrArg Go v_listKeys
theorem gv_prop {C : Str} {g : Fn} {m : M SV} : Go (WpE (mProp C g m) ρ QS X) = Go (WpE m ρ (fun s ρ1 => WpO (con ρ1 s) fun d => objIs C d ∧ WpE (mCallP 1 g (ret [s])) ρ1 QS X) X) := congrArg Go v_prop
theorem gmk_ok {C C' : Str} {fs : List Str} {es : List D} {o : List SV} {A : SV → Prop} : Go (mkK C (.fz .non) (.box (.obj C' fs es) :: o) A) = Go (((C' = C ∧ nolists es = true) ∧ A (.box (.obj C fs es)))) := congrArg Go mk_ok
theorem gv_make {C : Str} {n : Nat} {g : Fn} {ma : M (List SV)} : Go (WpE (mMake C n g ma) ρ QS X) = Go (WpE ma ρ (fun svs ρ0 => (svs.length = n ∧ svs.all (lendOk ρ0) = true) ∧ WpO (cons ρ0 svs) fun ds => WpC g (.box (.obj C [] []) :: ds.map .fz)
    (fun rv outs => mkK C rv outs fun s => QS s ρ0) (fun e _ => nolists (e.fs.map (·.2)) = true ∧ X e ρ0)) X) := congrArg Go v_make
theorem gob_obj {C C' : Str} {fs : List Str} {ds : List D} {A : List Str → List D → Prop} : Go (objAt C (some (.box (.obj C' fs ds))) A) = Go ((C' = C ∧ A fs ds)) := congrArg Go ob_obj
theorem gs_setFD {C f : Str} {j : Nat} {sv : SV} : Go (WpS (setFD C f j sv) ρ K) = Go (WpEsc sv ρ fun d ρ1 => objAt C ρ1[j]? fun fs ds => fs.length < 900 ∧ K (.nx (ρ1.set j (.box (.obj C (putN f fs) (putV f d fs ds)))))) := congrArg Go s_setFD
theorem gs_setFld {C f : Str} {j : Nat} {m : M SV} : Go (WpS (mSetFld C f j m) ρ K) = Go (WpE m ρ (fun sv ρ1 => WpS (setFD C f j sv) ρ1 K) (fun e ρ1 => K (.er e ρ1))) := congrArg Go s_setFld
end
section
variable {ρ : List SV} {d e : D} {ds es ks vs : List D} {i j k : Int} {s t z : Str} {b c : Bool} {n : Nat} {ns : List Int} {zs : List Str} {lo hi : Option Int} {cc : Nat}
theorem eIxXL : fIxX (.lst ds) (.int k) = (atI ds k).map .imm := rfl
theorem eIxXT : fIxX (.tup ds) (.int k) = (atI ds k).map .imm := rfl
theorem eIxXQ : fIxX (.seq ds) (.int k) = (atI ds k).map .imm := rfl
theorem eIxXS : fIxX (.str s) (.int k) = if s.length ≤ sizeLine then (atI s.cps.toList k).map fun c => .imm (.str ⟨#[c]⟩) else none := rfl
def dixK (o : Option (Option D)) : Option BR := match o with
  | some (some d) => some (.imm d)
  | _ => none
theorem eIxXD : fIxX (.dic ks vs) d = dixK (dGet ks vs d) := rfl
theorem dk_some : dixK (some (some d)) = some (.imm d) := rfl
theorem eInAL : fInA false d (.lst ds) = (inD d (.lst ds)).map fun b => .imm (.bl b) := rfl
theorem eInAT : fInA false d (.tup ds) = (inD d (.tup ds)).map fun b => .imm (.bl b) := rfl
theorem eInAQ : fInA false d (.seq ds) = (inD d (.seq ds)).map fun b => .imm (.bl b) := rfl
theorem eInALn : fInA true d (.lst ds) = (inD d (.lst ds)).map fun b => .imm (.bl (!b)) := rfl
theorem eInATn : fInA true d (.tup ds) = (inD d (.tup ds)).map fun b => .imm (.bl (!b)) := rfl
theorem eInAQn : fInA true d (.seq ds) = (inD d (.seq ds)).map fun b => .imm (.bl (!b)) := rfl
theorem eInAD : fInA false d (.dic ks vs) = (dGet ks vs d).map fun o => .imm (.bl o.isSome) := rfl
theorem eInADn : fInA true d (.dic ks vs) = (dGet ks vs d).map fun o => .imm (.bl (!o.isSome)) := rfl
theorem eInAS : fInA false (.str ⟨#[cc]⟩) (.str z) = some (.imm (.bl (decide (cc ∈ z.cps.toList)))) := rfl
theorem eInASn : fInA true (.str ⟨#[cc]⟩) (.str z) = some (.imm (.bl (!decide (cc ∈ z.cps.toList)))) := rfl
theorem any_int : ∀ {ns : List Int}, ((ns.map D.int).any fun e => eqF e (.int i)) = decide (i ∈ ns)
  | [] => by simp
  | n :: ns => by
    rw [List.map_cons, List.any_cons, any_int]
    by_cases h : n = i
    · subst h; simp [eqF]
    · have h' : i ≠ n := fun z => h z.symm
      simp [eqF, h, h']
theorem any_str : ∀ {zs : List Str}, ((zs.map D.str).any fun e => eqF e (.str z)) = decide (z ∈ zs)
  | [] => by simp
  | n :: ns => by
    rw [List.map_cons, List.any_cons, any_str]
    by_cases h : n = z
    · subst h; simp [eqF]
    · have h' : z ≠ n := fun y => h y.symm
      simp [eqF, h, h']
theorem flat_ints : (ns.map D.int).all flatD = true := by rw [List.all_eq_true]; intro x hx; obtain ⟨n, _, rfl⟩ := List.mem_map.mp hx; rfl
theorem flat_strs : (zs.map D.str).all flatD = true := by rw [List.all_eq_true]; intro x hx; obtain ⟨n, _, rfl⟩ := List.mem_map.mp hx; rfl
theorem inD_LI : inD (.int i) (.lst (ns.map .int)) = some (decide (i ∈ ns)) := by unfold inD; dsimp only; rw [if_pos ⟨rfl, flat_ints⟩, any_int]
theorem inD_TI : inD (.int i) (.tup (ns.map .int)) = some (decide (i ∈ ns)) := by unfold inD; dsimp only; rw [if_pos ⟨rfl, flat_ints⟩, any_int]
theorem inD_LS : inD (.str z) (.lst (zs.map .str)) = some (decide (z ∈ zs)) := by unfold inD; dsimp only; rw [if_pos ⟨rfl, flat_strs⟩, any_str]
theorem inD_TS : inD (.str z) (.tup (zs.map .str)) = some (decide (z ∈ zs)) := by unfold inD; dsimp only; rw [if_pos ⟨rfl, flat_strs⟩, any_str]
theorem eSlAL : fSlA lo hi (.lst ds) = some (.newL (cutD ds lo hi)) := rfl
theorem eSlAT : fSlA lo hi (.tup ds) = some (.anyT (cutD ds lo hi)) := rfl
theorem eSlAQ : fSlA lo hi (.seq ds) = some (.newL (cutD ds lo hi)) := rfl
theorem eSlAS : fSlA lo hi (.str z) = if z.length ≤ sizeLine then some (.imm (.str (cutS z lo hi))) else none := rfl
theorem eSortGI : fSortG [.lst (ns.map .int)] = some (.newL ((sortI ns).map .int)) := by unfold fSortG; dsimp only; rw [intsOf_map]
theorem eSortGD (h : sortOk ks = true) : fSortG [.dic ks vs] = some (.newL (sortD ks)) := by unfold fSortG; dsimp only; rw [if_pos h]
theorem eRevL : fRev (.lst ds) = some (.newL ds.reverse) := rfl
theorem eRevQ : fRev (.seq ds) = some (.newL ds.reverse) := rfl
theorem strsOf_map : ∀ {zs : List Str}, strsOf (zs.map .str) = some zs
  | [] => rfl
  | z :: zs => by rw [List.map_cons, strsOf, strsOf_map]; rfl
theorem eJoinL : fJoin (.str s) (.lst (zs.map .str)) = if (zs.map (·.length)).sum + zs.length * s.length ≤ 16777216 then some (.imm (.str (Txt.join s zs))) else none := by show joinOf _ _ = _; unfold joinOf; rw [strsOf_map]
theorem eJoinT : fJoin (.str s) (.tup (zs.map .str)) = if (zs.map (·.length)).sum + zs.length * s.length ≤ 16777216 then some (.imm (.str (Txt.join s zs))) else none := by show joinOf _ _ = _; unfold joinOf; rw [strsOf_map]
theorem cO_str : chO (.str z) = some (chD z) := rfl
theorem oi_eq {C C' : Str} {fs : List Str} : objIs C (.obj C' fs ds) = (C' = C) := rfl
 theorem eFld {C f : Str} {fs : List Str} : fFld C f (.obj C fs ds) = ((fs.zip ds).lookup f).map .imm := if_pos rfl
end
end DL

set_option Elab.async false
set_option linter.all false
set_option maxRecDepth 100000
/-! The data layer: defs with defaults. -/
namespace DL
open PySem PySem.Spec PyProof.Rows L2
theorem passM0 {X : Cx} {E : XK} : Passes CX0 X E := fun _ _ _ _ _ _ _ h => h.elim
structure FunA (K : PySem.W.Frag) (x qual : Str) (st : Stmt) (f : Addr) (fd : FuncData) : Prop where
  ex : ∃ (oc : Value) (od : Option Addr) (dV kV doc pm : Value) (an : Option Addr) (cdv ct : Value) (osl : Array (Option Value)),
    fd = PySem.W.fnOf x qual (defArgs st) (defBody st) (defScope st) dV kV doc pm an cdv ct ∧ K.lookup f = some ⟨oc, od, .func fd, osl⟩ ∧ PySem.W.codeIn K cdv qual = true
theorem fn_ok0A {P : Program} {w : World} {K : PySem.W.Frag} {mg : Str → Option Value} {base : Heap} {x qual : Str} {st : Stmt} {f : Addr} {fd : FuncData} {N ps : List Str} {k n : Nat} {g : Fn} {m : MS} (cv : Nat → Bool) (io : List Bool) (F : FunA K x qual st f fd) (S : FnScope N ps (defScope st))
    (hp : ps.length = n) (hio : io.length = n) (hN : n ≤ N.length)
    (hb : ∀ (cdv : Value) (A : Around) (outer : List Env) (s : Shared) (H : Hp) (E : XK) (T : Addr → Prop) (as : List SV) (vs : List V), Room k (A.deeper (envOfC qual (defScope st) s.heap.objs.size f cdv)) →
      PSs (cxOf CX0 P w K mg base N qual (defScope st) f cdv A outer s H E).nox (defBody st) (tDS (cxD K T H as vs cv io) W0 m))
    (hm : ∀ as r, as.length = n → g as = some r → fin0 io (m (as ++ List.replicate (N.length - n) .un)) = some r) : FnOk P w K mg base CX0 (k + 1) f fd ps (spD K n g) := by
  obtain ⟨oc, od, dV, kV, doc, pm, an, cdv, ct, osl, rfl, lk, hcd⟩ := F.ex
  refine fn_of lk hcd S (fun vs H Q E h => ?_) fun A outer s H vs Q E hr h => ?_
  · obtain ⟨T, as, _, lv, _⟩ := h
    rw [hp]; exact lv
  · obtain ⟨T, as, la, lv, t⟩ := body_ok (cv := cv) (We := W0) (N := N) hio hN (fun as r la eg => fin0_fin (hm as r la eg)) (fun e ρ as em la hg cls od σ H' z => by
      cases eg : g as with
      | none => exact absurd eg hg
      | some r =>
        have := hm as r la eg
        rw [em] at this
        cases this) h
    exact ⟨_, (hb cdv A outer s H E T as vs hr).nox, t⟩
theorem fn_okXA {P : Program} {w : World} {K : PySem.W.Frag} {mg : Str → Option Value} {base : Heap} {x qual : Str} {st : Stmt} {f : Addr} {fd : FuncData} {N ps : List Str} {k n : Nat} {g : Fn} {m : MS} (cv : Nat → Bool) (io : List Bool) (F : FunA K x qual st f fd) (S : FnScope N ps (defScope st))
    (hp : ps.length = n) (hio : io.length = n) (hN : n ≤ N.length)
    (hb : ∀ (cdv : Value) (A : Around) (outer : List Env) (s : Shared) (H : Hp) (E : XK) (T : Addr → Prop) (as : List SV) (vs : List V), Room k (A.deeper (envOfC qual (defScope st) s.heap.objs.size f cdv)) →
      PSs (cxOf (L2.CX P w) P w K mg base N qual (defScope st) f cdv A outer s H E) (defBody st) (tDS (cxD K T H as vs cv io) (fun cls od _ H => E cls od H) m))
    (hm : ∀ as r, as.length = n → g as = some r → fin io (m (as ++ List.replicate (N.length - n) .un)) = some r) : FnOk P w K mg base (L2.CX P w) (k + 1) f fd ps (spD K n g) := by
  obtain ⟨oc, od, dV, kV, doc, pm, an, cdv, ct, osl, rfl, lk, hcd⟩ := F.ex
  refine fn_of lk hcd S (fun vs H Q E h => ?_) fun A outer s H vs Q E hr h => ?_
  · obtain ⟨T, as, _, lv, _⟩ := h
    rw [hp]; exact lv
  · obtain ⟨T, as, la, lv, t⟩ := body_ok (cv := cv) (We := fun cls od _ H => E cls od H) (N := N) hio hN hm (fun e ρ as em la hg cls od σ H' z => z) h
    exact ⟨_, hb cdv A outer s H E T as vs hr, t⟩
/-- one default, the last parameter, all of them given -/
theorem binds_d1 {K : PySem.W.Frag} {x qual : Str} {st : Stmt} {ps : List Str} {T : Addr} {o : Obj} {u : Value} {n : Nat} {doc pm kV cdv ct : Value} {an : Option Addr}
    (lT : K.lookup T = some o) (oT : o.data = .seq #[u] n)
    (h : ∀ us : List Value, us.length = ps.length → ∃ k, bindArgs (PySem.W.fnOf x qual (defArgs st) (defBody st) (defScope st) (.ref T) kV doc pm an cdv ct) ⟨us, []⟩ = seqItems? (.ref T) >>= k ∧ k (some #[u]) = pure (ps.zip us)) :
    Binds K (PySem.W.fnOf x qual (defArgs st) (defBody st) (defScope st) (.ref T) kV doc pm an cdv ct) ps [] := fun s us X hlen => by
  rw [List.append_nil] at hlen ⊢
  obtain ⟨k, e1, e2⟩ := h us hlen
  refine BindsTo.of_looks fun M => ?_
  rw [e1]
  exact looks_items X lT oT (.of_pure e2)
end DL

set_option Elab.async false
set_option linter.all false
set_option maxRecDepth 100000
/-! The data layer: a loop over a slot that stays owned. -/
namespace DL
open PySem PySem.Spec PyProof.Rows L2
def pinAt (c : Fc) (j : Nat) (v : V) : Fc := { c with pin := fun i => bif Nat.beq i j then some v else c.pin i }
def lstS : SV → Option (List D)
  | .own (.lst ds) => some ds
  | _ => none
def atS (ρ : List SV) (j : Nat) : Option (List D) := match ρ[j]? with
  | some s => lstS s
  | none => none
open Classical in
noncomputable def lpV (j : Nat) (d0 : List D) (g : SV → List SV → Option (List SV)) (b : MS) : List D → MS
  | [], ρ => if atS ρ j = some d0 then some (.nx ρ) else none
  | d :: ds, ρ => if atS ρ j = some d0 then (match g (.fz d) ρ with
    | some ρ1 => match b ρ1 with
      | some (.nx ρ2) => lpV j d0 g b ds ρ2
      | some (.ct ρ2) => lpV j d0 g b ds ρ2
      | some (.bk ρ2) => some (.nx ρ2)
      | r => r
    | none => none) else none
noncomputable def mForV (cv : Nat → Bool) (j : Nat) (g : SV → List SV → Option (List SV)) (b : MS) : MS := fun ρ => match atS ρ j with
  | some ds => if cv j = false then lpV j ds g b ds ρ else none
  | none => none
section
variable {c : Fc} {W : WX} {X : Cx} {pos : Pos} {ρ : List SV} {ts : Ts} {σ : L2.St} {H : Hp} {Q : VK} {j : Nat} {v : V}
theorem nbeq {i j : Nat} (h : ¬ i = j) : Nat.beq i j = false := by
  cases e : Nat.beq i j with
  | false => rfl
  | true => exact absurd (Nat.eq_of_beq_eq_true e) h
theorem R.pinTo (r : R c σ ρ ts H) (h : σ[j]? = some (some v)) : R (pinAt c j v) σ ρ ts H := by
  refine ⟨r.len, r.nl, ⟨r.g.rs, r.g.nd, r.g.fr, r.g.new, r.g.tt, fun i u e => ?_⟩⟩
  by_cases hi : i = j
  · subst hi
    have : (pinAt c i v).pin i = some v := by show (bif Nat.beq i i then some v else c.pin i) = _; rw [Nat.beq_refl]; rfl
    rw [this] at e
    cases e
    exact h
  · have : (pinAt c j v).pin i = c.pin i := by
      show (bif Nat.beq i j then some v else c.pin i) = _
      rw [show Nat.beq i j = false from nbeq hi]
      rfl
    rw [this] at e
    exact r.g.pn i u e
theorem R.pinned (r : R (pinAt c j v) σ ρ ts H) : σ[j]? = some (some v) := r.g.pn j v (by show (bif Nat.beq j j then some v else c.pin j) = _; rw [Nat.beq_refl]; rfl)
theorem R.unpin (r : R (pinAt c j v) σ ρ ts H) (h : ∀ u, c.pin j = some u → u = v) : R c σ ρ ts H := by
  refine ⟨r.len, r.nl, ⟨r.g.rs, r.g.nd, r.g.fr, r.g.new, r.g.tt, fun i u e => ?_⟩⟩
  by_cases hi : i = j
  · subst hi
    rw [h u e]
    exact r.pinned
  · refine r.g.pn i u ?_
    show (bif Nat.beq i j then some v else c.pin i) = _
    rw [show Nat.beq i j = false from nbeq hi]
    exact e
theorem at_lst {ds : List D} (r : R c σ ρ ts H) (h : atS ρ j = some ds) : ρ[j]? = some (.own (.lst ds)) ∧ ∃ a us, σ[j]? = some (some (.ref a)) ∧ SqL c.K H a us ∧ RepL c.K (Avr c σ ρ ts) H ds us := by
  unfold atS at h
  cases e : ρ[j]? with
  | none => rw [e] at h; cases h
  | some s =>
    rw [e] at h
    cases s with
    | own d =>
      cases d with
      | lst es =>
        simp only [lstS, Option.some.injEq] at h
        subst h
        obtain ⟨a, ds', us, ea, e0, eH, rl⟩ := r.slot_own e
        cases e0
        exact ⟨rfl, a, us, ea, SqL.of eH, rl⟩
      | _ => cases h
    | _ => cases h
theorem pss_ex {α : Type} {body : List Stmt} {t : α → TS} (h : ∀ a, PSs X body (t a)) : PSs X body (fun D σ H => ∃ a, t a D σ H) := ⟨fun pins s σ H D I ⟨a, q⟩ => (h a).run pins s σ H D I q⟩
theorem pg_ex {α : Type} {tg : Expr} {t : α → TG} (h : ∀ a, PG X tg (t a)) : PG X tg (fun v σ H Q => ∃ a, t a v σ H Q) := ⟨fun pins s σ H v u Q I r ⟨a, q⟩ => (h a).run pins s σ H v u Q I r q⟩
theorem pd_forV {tg iter : Expr} {body : List Stmt} {g : SV → List SV → Option (List SV)} {b : MS} (hp : PassesOwn (model X.prog X.w) X.A X.env X.xe) (hc : X.calm = true) (hl : PE X iter (tDE c W (mVar c.cv j))) (hg : ∀ v, PG X tg (tDG (pinAt c j v) g)) (hb : ∀ v, PSs X body (tDS (pinAt c j v) W b))
    (hK : c.K = X.K := by rfl) (hs : ∀ x, foldedSetIterable iter X.env x = pure x := by intro _; rfl) : PS X (.For tg iter body [] pos) (tDS c W (mForV c.cv j g b)) := by
  refine ps_imp (ps_for hp hc (pi_seq hl) (pg_ex hg) (pss_ex hb) hs) fun D σ H ⟨ρ, ts, r, n, q⟩ => ?_
  unfold mForV at q
  cases ea : atS ρ j with
  | none => rw [ea] at q; exact q.elim
  | some ds =>
    rw [ea] at q
    simp only at q
    split at q
    case isFalse => exact q.elim
    rename_i hcv
    obtain ⟨eo, _⟩ := at_lst r ea
    refine ⟨ρ, ts, r, ?_⟩
    have em : mVar c.cv j ρ = some (.ok (.loc j) ρ) := by
      unfold mVar
      rw [eo]
      simp only [hcv, if_true]
    rw [em]
    intro v H1 r1
    have hv := r1.loc_at
    have r0 := r1.pop
    obtain ⟨_, a, us, e1, e2, _⟩ := at_lst r0 ea
    rw [hv] at e1
    cases e1
    have pinU : ∀ u, c.pin j = some u → u = .ref a := fun u e => by
      have := r0.g.pn j u e
      rw [hv] at this
      cases this
      rfl
    refine ⟨a, rfl, .inl ⟨⟨us, hK ▸ e2⟩, ?_⟩⟩
    refine ⟨fun i m σ H => m = ds.length - i ∧ i ≤ ds.length ∧ ∃ ρ, R (pinAt c j (.ref a)) σ ρ ts H ∧ PostS c W ts D (lpV j ds g b (ds.drop i) ρ), ⟨ds.length, rfl, Nat.zero_le _, ρ, r0.pinTo hv, q⟩, ?_⟩
    rintro i m σ2 H2 ⟨rfl, hi, ρ2, r2, q2⟩
    have chk : atS ρ2 j = some ds := by
      cases ed : ds.drop i with
      | nil => rw [ed] at q2; simp only [lpV] at q2; split at q2 <;> first | assumption | exact q2.elim
      | cons _ _ => rw [ed] at q2; simp only [lpV] at q2; split at q2 <;> first | assumption | exact q2.elim
    obtain ⟨_, a', us', f1, f2, f3⟩ := at_lst r2 chk
    rw [r2.pinned] at f1
    cases f1
    by_cases hlt : i < ds.length
    · have ed : ds.drop i = ds[i] :: ds.drop (i + 1) := List.drop_eq_getElem_cons hlt
      rw [ed] at q2
      simp only [lpV, if_pos chk] at q2
      obtain ⟨x, hx, rx⟩ := f3.get (show ds[i]? = some ds[i] by simp [hlt])
      refine .inr ⟨⟨us', x, hK ▸ f2, hx⟩, fun σ' H' => i + 1 ≤ ds.length ∧ ∃ ρ, R (pinAt c j (.ref a)) σ' ρ ts H' ∧ PostS c W ts D (lpV j ds g b (ds.drop (i + 1)) ρ), fun σ' H' z => ⟨ds.length - (i + 1), by omega, rfl, z⟩, fun x' H3 y => ?_⟩
      obtain ⟨eH3, hy⟩ := y
      have e4 := hy us' (hK ▸ f2)
      rw [hx] at e4
      cases e4
      subst eH3
      refine ⟨.ref a, ρ2, ts, .fz ds[i], r2.push_fz rx, n, ?_⟩
      cases eg : g (.fz ds[i]) ρ2 with
      | none => rw [eg] at q2; exact q2.elim
      | some ρ3 =>
        rw [eg] at q2
        simp only at q2
        intro σ4 H4 r4
        refine ⟨.ref a, ρ3, ts, r4, n, ?_⟩
        cases eb : b ρ3 with
        | none => rw [eb] at q2; exact q2.elim
        | some y =>
          rw [eb] at q2
          cases y with
          | nx ρ5 => exact fun σ5 H5 r5 => ⟨hlt, ρ5, r5, q2⟩
          | ct ρ5 => exact fun σ5 H5 r5 => ⟨hlt, ρ5, r5, q2⟩
          | bk ρ5 => exact fun σ5 H5 r5 => q2 σ5 H5 (r5.unpin pinU)
          | rt sv ρ5 => exact fun σ5 v5 H5 r5 => q2 σ5 v5 H5 (r5.unpin pinU)
          | er e ρ5 => exact fun σ5 cls od H5 r5 z => q2 σ5 cls od H5 (r5.unpin pinU) z
    · have ei : i = ds.length := by omega
      subst ei
      rw [List.drop_length] at q2
      simp only [lpV, if_pos chk] at q2
      exact .inl ⟨⟨us', hK ▸ f2, by rw [f3.length]; exact Nat.le_refl _⟩, q2 σ2 H2 (r2.unpin pinU)⟩
end
/-! what is wanted -/
def WpLV (j : Nat) (d0 : List D) (g : SV → List SV → Option (List SV)) (b : MS) (ds : List D) (ρ : List SV) (K : SR → Prop) : Prop := WpO (lpV j d0 g b ds ρ) K
section
variable {ρ : List SV} {K : SR → Prop}
theorem s_forV {cv : Nat → Bool} {j : Nat} {g : SV → List SV → Option (List SV)} {b : MS} : WpS (mForV cv j g b) ρ K = lstAt ρ[j]? fun ds => cv j = false ∧ WpLV j ds g b ds ρ K := by
  unfold mForV
  show WpO (match atS ρ j with | some ds => _ | none => none) K = _
  unfold atS
  cases ρ[j]? with
  | none => rfl
  | some s =>
    cases s with
    | own d =>
      cases d with
      | lst ds => by_cases h : cv j = false <;> simp [h, lstS, lstAt, WpO, WpLV]
      | _ => rfl
    | _ => rfl
theorem gs_forV {cv : Nat → Bool} {j : Nat} {g : SV → List SV → Option (List SV)} {b : MS} : Go (WpS (mForV cv j g b) ρ K) = Go (lstAt ρ[j]? fun ds => cv j = false ∧ WpLV j ds g b ds ρ K) := congrArg Go s_forV
theorem lv_inv {j : Nat} {g : SV → List SV → Option (List SV)} {b : MS} {ds : List D} (I : Nat → List SV → Prop) (h0 : I 0 ρ) (hj : ∀ i ρ, i ≤ ds.length → I i ρ → ρ[j]? = some (.own (.lst ds)))
    (hs : ∀ i d ρ, ds[i]? = some d → I i ρ → WpO (g (.fz d) ρ) fun ρ1 => WpS b ρ1 (turnK (I (i + 1)) K)) (hd : ∀ ρ, I ds.length ρ → K (.nx ρ)) : WpLV j ds g b ds ρ K := by
  have at_ : ∀ i ρ, i ≤ ds.length → I i ρ → atS ρ j = some ds := fun i ρ hi h => by
    unfold atS
    rw [hj i ρ hi h]
    rfl
  have key : ∀ (n i : Nat) (ρ : List SV), ds.length - i = n → i ≤ ds.length → I i ρ → WpO (lpV j ds g b (ds.drop i) ρ) K := by
    intro n
    induction n with
    | zero =>
      intro i ρ h1 h2 h3
      have : i = ds.length := by omega
      subst this
      rw [List.drop_length]
      simp only [lpV, at_ _ _ h2 h3, if_true]
      exact hd ρ h3
    | succ n ih =>
      intro i ρ h1 h2 h3
      have hlt : i < ds.length := by omega
      rw [List.drop_eq_getElem_cons hlt]
      simp only [lpV, at_ _ _ h2 h3, if_true]
      have q := hs i ds[i] ρ (by simp [hlt]) h3
      cases eg : g (.fz ds[i]) ρ with
      | none => rw [eg] at q; exact q
      | some ρ1 =>
        rw [eg] at q
        simp only [WpO, WpS] at q ⊢
        cases eb : b ρ1 with
        | none => rw [eb] at q; exact q
        | some r =>
          rw [eb] at q
          cases r with
          | nx ρ2 => exact ih (i + 1) ρ2 (by omega) (by omega) q
          | ct ρ2 => exact ih (i + 1) ρ2 (by omega) (by omega) q
          | _ => exact q
  have := key ds.length 0 ρ rfl (Nat.zero_le _) h0
  rwa [List.drop_zero] at this
end
end DL

set_option Elab.async false
set_option linter.all false
set_option maxRecDepth 100000
/-! The data layer: what is wanted of a comprehension over a slot that stays owned. -/
namespace DL
open PySem PySem.Spec PyProof.Rows L2
section
variable {ρ : List SV} {X : Ex → List SV → Prop} {QS : SV → List SV → Prop}
def lcvAt (o : Option SV) (A : List D → Prop) (B : Prop) : Prop := match o with
  | some (.own (.lst ds)) => A ds
  | _ => B
theorem lcv_own {ds : List D} {A : List D → Prop} {B : Prop} : lcvAt (some (.own (.lst ds))) A B = A ds := rfl
theorem lcv_fz {d : D} {A : List D → Prop} {B : Prop} : lcvAt (some (.fz d)) A B = B := rfl
theorem v_lcV {ns : List Nat} {cv : Nat → Bool} {j : Nat} {g : SV → List SV → Option (List SV)} {t : M Bool} {e : M SV} : WpE (mLcV ns cv j g t e) ρ QS X = lcvAt ρ[j]? (fun ds => cv j = false ∧ WpMV ns j ds g t e ds (wipeD ρ ns) [] fun acc ρ2 => QS (.own (.lst acc)) ρ2) (WpE (mLc ns (mItems (mVar cv j)) g t e) ρ QS X) := by
  unfold mLcV
  show WpR (match ρ[j]? with | some (.own (.lst ds)) => _ | _ => _) QS X = _
  cases hρ : ρ[j]? with
  | none => rfl
  | some s =>
    cases s with
    | own d =>
      cases d with
      | lst ds =>
        simp only [lcvAt]
        by_cases h : cv j = false
        · simp only [h, if_true, true_and]
          unfold WpMV
          cases lcLoopV ns j ds g t e ds (wipeD ρ ns) [] with
          | none => rfl
          | some q => rfl
        · rw [if_neg h]
          simp [h, WpR]
      | _ => rfl
    | _ => rfl
theorem gv_lcV {ns : List Nat} {cv : Nat → Bool} {j : Nat} {g : SV → List SV → Option (List SV)} {t : M Bool} {e : M SV} : Go (WpE (mLcV ns cv j g t e) ρ QS X) = Go (lcvAt ρ[j]? (fun ds => cv j = false ∧ WpMV ns j ds g t e ds (wipeD ρ ns) [] fun acc ρ2 => QS (.own (.lst acc)) ρ2) (WpE (mLc ns (mItems (mVar cv j)) g t e) ρ QS X)) := congrArg Go v_lcV
theorem glcv_own {ds : List D} {A : List D → Prop} {B : Prop} : Go (lcvAt (some (.own (.lst ds))) A B) = Go (A ds) := rfl
theorem glcv_fz {d : D} {A : List D → Prop} {B : Prop} : Go (lcvAt (some (.fz d)) A B) = Go B := rfl
theorem mv_nil {ns : List Nat} {j : Nat} {d0 : List D} {g : SV → List SV → Option (List SV)} {t : M Bool} {e : M SV} {acc : List D} {Q : List D → List SV → Prop} (hj : ρ[j]? = some (.own (.lst d0))) (h : Q acc ρ) : WpMV ns j d0 g t e [] ρ acc Q := by
  unfold WpMV lcLoopV
  simp only [hj, if_true]
  exact h
theorem mv_cons {ns : List Nat} {j : Nat} {d0 : List D} {g : SV → List SV → Option (List SV)} {t : M Bool} {e : M SV} {d : D} {ds acc : List D} {Q : List D → List SV → Prop} (hj : ρ[j]? = some (.own (.lst d0))) (h : WpO (g (.fz d) ρ) fun ρ1 => WpE t ρ1 (fun c ρ2 => brB c
      (WpE e ρ2 (fun s ρ3 => WpEsc s ρ3 fun y ρ4 => acc.length < sizeLine ∧ WpMV ns j d0 g t e ds (wipeD ρ4 ns) (acc ++ [y]) Q) (fun _ _ => False)) (WpMV ns j d0 g t e ds (wipeD ρ2 ns) acc Q)) (fun _ _ => False)) : WpMV ns j d0 g t e (d :: ds) ρ acc Q := by
  unfold WpMV lcLoopV
  unfold WpMV at h
  simp only [hj, if_true]
  cases eg : g (.fz d) ρ with
  | none => rw [eg] at h; exact h
  | some ρ1 =>
    rw [eg] at h
    simp only [WpO, WpE] at h
    simp only []
    cases et : t ρ1 with
    | none => rw [et] at h; exact h.elim
    | some r =>
      rw [et] at h
      cases r with
      | er x ρ2 => exact h.elim
      | ok c ρ2 =>
        cases c with
        | false => simpa [WpR, brB] using h
        | true =>
          simp only [WpR, br_true] at h
          simp only []
          cases ee : e ρ2 with
          | none => rw [ee] at h; exact h.elim
          | some r =>
            rw [ee] at h
            cases r with
            | er x ρ2 => exact h.elim
            | ok s ρ3 =>
              simp only [] at h
              rw [← v_esc (X := fun _ _ => False)] at h
              unfold WpE at h
              dsimp only at h ⊢
              cases es : esc s ρ3 with
              | none => rw [es] at h; exact h.elim
              | some r =>
                rw [es] at h
                cases r with
                | er x ρ2 => exact h.elim
                | ok y ρ4 =>
                  simp only [WpR] at h
                  dsimp only
                  rw [if_pos h.1]
                  exact h.2
theorem mv_inv {ns : List Nat} {j : Nat} {g : SV → List SV → Option (List SV)} {t : M Bool} {e : M SV} {ds : List D} {Q : List D → List SV → Prop} (I : Nat → List D → List SV → Prop) {acc : List D} (h0 : I 0 acc ρ) (hj : ∀ i acc ρ, i ≤ ds.length → I i acc ρ → ρ[j]? = some (.own (.lst ds))) (hs : ∀ i d acc ρ, ds[i]? = some d → I i acc ρ →
      WpO (g (.fz d) ρ) fun ρ1 => WpE t ρ1 (fun c ρ2 => brB c (WpE e ρ2 (fun s ρ3 => WpEsc s ρ3 fun y ρ4 => acc.length < sizeLine ∧ I (i + 1) (acc ++ [y]) (wipeD ρ4 ns)) (fun _ _ => False)) (I (i + 1) acc (wipeD ρ2 ns))) (fun _ _ => False))
    (hd : ∀ acc ρ, I ds.length acc ρ → Q acc ρ) : WpMV ns j ds g t e ds ρ acc Q := by
  have key : ∀ (n i : Nat) (acc : List D) (ρ : List SV), ds.length - i = n → i ≤ ds.length → I i acc ρ → WpMV ns j ds g t e (ds.drop i) ρ acc Q := by
    intro n
    induction n with
    | zero =>
      intro i acc ρ h1 h2 h3
      have : i = ds.length := by omega
      subst this
      rw [List.drop_length]
      exact mv_nil (hj _ _ _ h2 h3) (hd acc ρ h3)
    | succ n ih =>
      intro i acc ρ h1 h2 h3
      have hlt : i < ds.length := by omega
      rw [List.drop_eq_getElem_cons hlt]
      refine mv_cons (hj _ _ _ h2 h3) ?_
      have q := hs i ds[i] acc ρ (by simp [hlt]) h3
      revert q
      have up : ∀ acc ρ, I (i + 1) acc ρ → WpMV ns j ds g t e (ds.drop (i + 1)) ρ acc Q := fun acc ρ z => ih (i + 1) acc ρ (by omega) (by omega) z
      cases eg : g (.fz ds[i]) ρ with
      | none => exact id
      | some ρ1 =>
        simp only [WpO, WpE]
        cases et : t ρ1 with
        | none => exact id
        | some r =>
          cases r with
          | er x ρ2 => exact id
          | ok c ρ2 =>
            cases c with
            | false => simpa [WpR, brB] using up acc _
            | true =>
              simp only [WpR, br_true]
              cases ee : e ρ2 with
              | none => exact id
              | some r =>
                cases r with
                | er x ρ2 => exact id
                | ok s ρ3 =>
                  simp only [← v_esc (X := fun _ _ => False)]
                  unfold WpE
                  cases es : esc s ρ3 with
                  | none => exact id
                  | some r =>
                    cases r with
                    | er x ρ2 => exact id
                    | ok y ρ4 => exact fun z => ⟨z.1, up _ _ z.2⟩
  have := key ds.length 0 acc ρ rfl (Nat.zero_le _) h0
  rwa [List.drop_zero] at this
end
end DL

set_option Elab.async false
set_option linter.all false
set_option maxRecDepth 100000
/-! The data layer: comprehensions of two for. -/
namespace DL
open PySem PySem.Spec PyProof.Rows L2
/-- the outer loop; the inner one is lcLoop over the second source -/
def lcLoop2 (ns ns1 : List Nat) (g : SV → List SV → Option (List SV)) (t : M Bool) (mi1 : M (List D)) (g1 : SV → List SV → Option (List SV)) (t1 : M Bool) (e : M SV) : List D → List SV → List D → Option (List D × List SV)
  | [], ρ, acc => some (acc, ρ)
  | d :: ds, ρ, acc => match g (.fz d) ρ with
    | some ρ1 => match t ρ1 with
      | some (.ok true ρ2) => match mi1 ρ2 with
        | some (.ok ds1 ρ3) => match lcLoop ns1 g1 t1 e ds1 (wipeD ρ3 ns1) acc with
          | some (acc', ρ4) => lcLoop2 ns ns1 g t mi1 g1 t1 e ds (wipeD ρ4 ns) acc'
          | none => none
        | _ => none
      | some (.ok false ρ2) => lcLoop2 ns ns1 g t mi1 g1 t1 e ds (wipeD ρ2 ns) acc
      | _ => none
    | none => none
def mLc2 (ns ns1 : List Nat) (mi : M (List D)) (g : SV → List SV → Option (List SV)) (t : M Bool) (mi1 : M (List D)) (g1 : SV → List SV → Option (List SV)) (t1 : M Bool) (e : M SV) : M SV := fun ρ => match mi ρ with
  | some (.ok ds ρ1) => match lcLoop2 ns ns1 g t mi1 g1 t1 e ds (wipeD ρ1 ns) [] with
    | some (acc, ρ2) => some (.ok (.own (.lst acc)) ρ2)
    | none => none
  | some (.er e ρ1) => some (.er e ρ1)
  | none => none
section
variable {X : Cx} {c : Fc} {W : WX} {pos : Pos}
theorem wipe_wipe {σ : L2.St} {ns : List Nat} : wipe (wipe σ ns) ns = wipe σ ns := by
  apply List.ext_getElem?
  intro j
  by_cases hj : j ∈ ns
  · cases ej : (wipe (wipe σ ns) ns)[j]? with
    | none =>
      have := List.getElem?_eq_none_iff.mp ej
      rw [wipe_length] at this
      rw [List.getElem?_eq_none this]
    | some o =>
      have hlj : j < σ.length := by
        have := (List.getElem?_eq_some_iff.mp ej).1
        rwa [wipe_length, wipe_length] at this
      cases o with
      | some u => exact absurd hj (wipe_some ej).2
      | none =>
        cases ej2 : (wipe σ ns)[j]? with
        | none => have := List.getElem?_eq_none_iff.mp ej2; rw [wipe_length] at this; omega
        | some o =>
          cases o with
          | some u => exact absurd hj (wipe_some ej2).2
          | none => rfl
  · rw [wipe_get hj]
theorem wipe_sub {σ : L2.St} {ns : List Nat} : ∀ {vs : List Nat}, (∀ i ∈ vs, i ∈ ns) → wipe (wipe σ vs) ns = wipe σ ns
  | [], _ => rfl
  | v :: vs, h => by
    show wipe ((wipe σ vs).set v none) ns = _
    rw [wipe_comm (h v List.mem_cons_self), wipe_sub fun i hi => h i (List.mem_cons_of_mem _ hi)]
theorem read_lc2 {own : List (Str × Nat)} {vs1 : List Nat} {mi mi1 : M (List D)} {t t1 : TG} {g g1 : SV → List SV → Option (List SV)} {mt mt1 : M Bool} {me : M SV}
    (hv : ∀ i ∈ own.map (·.2), c.cv i = true ∧ c.pin i = none) (hv1 : ∀ i ∈ vs1, i ∈ own.map (·.2)) (cg : CG c (own.map (·.2)) t g) (cg1 : CG c vs1 t1 g1) {σ : L2.St} {H : Hp} {Q : VK} (h : tDE c W (mLc2 (own.map (·.2)) vs1 mi g mt mi1 g1 mt1 me) σ H Q) :
    tLc2 (tDI c W mi) t (tDT c W0 mt) (tDI c W0 mi1) t1 (tDT c W0 mt1) (tDE c W0 me) (own.map (·.2)) vs1 σ H Q := by
  have hvv : ∀ i ∈ vs1, c.cv i = true ∧ c.pin i = none := fun i hi => hv i (hv1 i hi)
  obtain ⟨ρ, ts, r, q⟩ := h
  refine ⟨ρ, ts, r, ?_⟩
  unfold mLc2 at q
  cases e : mi ρ with
  | none => rw [e] at q; exact q
  | some x =>
  rw [e] at q
  cases x with
  | er x ρ' => exact q
  | ok ds ρ1 =>
  simp only at q
  cases el : lcLoop2 (own.map (·.2)) vs1 g mt mi1 g1 mt1 me ds (wipeD ρ1 (own.map (·.2))) [] with
  | none => rw [el] at q; exact q.elim
  | some res =>
  obtain ⟨accF, ρF⟩ := res
  rw [el] at q
  simp only at q
  intro J H1 tt r1 nt jd D hD
  have r2 : R c σ ρ1 ((.own (.lst []), .ref D) :: (tt ++ ts)) (upd H1 D (.lst [])) := r1.push_new hD upd_same (ext_new hD) RepL.nil
  refine ⟨fun i m H => m = ds.length - i ∧ i ≤ ds.length ∧ ∃ ρ acc, R c (wipe σ (own.map (·.2))) ρ ((.own (.lst acc), .ref D) :: (tt ++ ts)) H ∧ Wiped (own.map (·.2)) ρ ∧ lcLoop2 (own.map (·.2)) vs1 g mt mi1 g1 mt1 me (ds.drop i) ρ acc = some (accF, ρF),
    ⟨ds.length, rfl, Nat.zero_le _, _, [], r_wipe r2 hv, wipeD_wiped, el⟩, ?_⟩
  rintro i m H2 ⟨rfl, hi, ρ2, acc, r3, w3, e3⟩
  obtain ⟨j1, j2⟩ := jd (wipe σ (own.map (·.2))) ρ2 ((.own (.lst acc), .ref D) :: (tt ++ ts)) H2 i r3 fun t h => List.mem_cons_of_mem _ (List.mem_append_left _ h)
  by_cases hlt : i < ds.length
  · have hd : ds[i]? = some ds[i] := by simp [hlt]
    obtain ⟨j3, j4⟩ := j2 _ hd
    rw [List.drop_eq_getElem_cons hlt] at e3
    simp only [lcLoop2] at e3
    refine .inr ⟨j3, fun H => i + 1 ≤ ds.length ∧ ∃ ρ acc, R c (wipe σ (own.map (·.2))) ρ ((.own (.lst acc), .ref D) :: (tt ++ ts)) H ∧ Wiped (own.map (·.2)) ρ ∧ lcLoop2 (own.map (·.2)) vs1 g mt mi1 g1 mt1 me (ds.drop (i + 1)) ρ acc = some (accF, ρF), fun H' z => ⟨ds.length - (i + 1), by omega, rfl, z⟩, fun x H3 y => ?_⟩
    have r4 := j4 x H3 y
    cases eg : g (.fz ds[i]) ρ2 with
    | none => rw [eg] at e3; cases e3
    | some ρ4 =>
    rw [eg] at e3
    simp only at e3
    refine cg.go _ _ _ _ _ _ _ _ r4 eg fun σ5 hs5 r5 => ?_
    rw [wipe_wipe] at hs5
    refine ⟨hs5, ρ4, _, r5, ?_⟩
    cases et : mt ρ4 with
    | none => rw [et] at e3; cases e3
    | some yt =>
    rw [et] at e3
    cases yt with
    | er _ _ => cases e3
    | ok bb ρ5 =>
    cases bb with
    | false =>
      simp only at e3
      intro H6 r6
      exact ⟨hlt, _, acc, r_rewipe hv hs5 r6, wipeD_wiped, e3⟩
    | true =>
      simp only at e3
      intro H6 r6
      refine ⟨ρ5, _, r6, ?_⟩
      cases em : mi1 ρ5 with
      | none => rw [em] at e3; cases e3
      | some ym =>
      rw [em] at e3
      cases ym with
      | er _ _ => cases e3
      | ok ds1 ρ6 =>
      simp only at e3
      cases el1 : lcLoop vs1 g1 mt1 me ds1 (wipeD ρ6 vs1) acc with
      | none => rw [el1] at e3; cases e3
      | some res1 =>
      obtain ⟨acc1, ρ7⟩ := res1
      rw [el1] at e3
      simp only at e3
      intro J1 H7 tt1 r7 nt1 jd1
      have r8 := r7.perm (List.perm_middle (l₁ := tt1) (l₂ := tt ++ ts) (a := (SV.own (.lst acc), V.ref D)))
      refine ⟨fun j k H => k = ds1.length - j ∧ j ≤ ds1.length ∧ ∃ ρ acc, R c (wipe σ5 vs1) ρ ((.own (.lst acc), .ref D) :: (tt1 ++ (tt ++ ts))) H ∧ Wiped vs1 ρ ∧ lcLoop vs1 g1 mt1 me (ds1.drop j) ρ acc = some (acc1, ρ7),
        ⟨ds1.length, rfl, Nat.zero_le _, _, acc, r_wipe r8 hvv, wipeD_wiped, el1⟩, ?_⟩
      rintro j k H8 ⟨rfl, hj, ρ8, acc8, r9, w9, e9⟩
      obtain ⟨i1, i2⟩ := jd1 (wipe σ5 vs1) ρ8 ((.own (.lst acc8), .ref D) :: (tt1 ++ (tt ++ ts))) H8 j r9 fun t h => List.mem_cons_of_mem _ (List.mem_append_left _ h)
      by_cases hl1 : j < ds1.length
      · have hd1 : ds1[j]? = some ds1[j] := by simp [hl1]
        obtain ⟨i3, i4⟩ := i2 _ hd1
        rw [List.drop_eq_getElem_cons hl1] at e9
        simp only [lcLoop] at e9
        refine .inr ⟨i3, fun H => j + 1 ≤ ds1.length ∧ ∃ ρ acc, R c (wipe σ5 vs1) ρ ((.own (.lst acc), .ref D) :: (tt1 ++ (tt ++ ts))) H ∧ Wiped vs1 ρ ∧ lcLoop vs1 g1 mt1 me (ds1.drop (j + 1)) ρ acc = some (acc1, ρ7), fun H' z => ⟨ds1.length - (j + 1), by omega, rfl, z⟩, fun x1 H9 y1 => ?_⟩
        have r10 := i4 x1 H9 y1
        cases eg1 : g1 (.fz ds1[j]) ρ8 with
        | none => rw [eg1] at e9; cases e9
        | some ρ10 =>
        rw [eg1] at e9
        simp only at e9
        refine cg1.go _ _ _ _ _ _ _ _ r10 eg1 fun σ11 hs11 r11 => ?_
        rw [wipe_wipe] at hs11
        refine ⟨hs11, ρ10, _, r11, ?_⟩
        cases et1 : mt1 ρ10 with
        | none => rw [et1] at e9; cases e9
        | some yt =>
        rw [et1] at e9
        cases yt with
        | er _ _ => cases e9
        | ok bb ρ12 =>
        cases bb with
        | false =>
          simp only at e9
          intro H12 r12
          exact ⟨hl1, _, acc8, r_rewipe hvv hs11 r12, wipeD_wiped, e9⟩
        | true =>
          simp only at e9
          intro H12 r12
          refine ⟨ρ12, _, r12, ?_⟩
          cases ee : me ρ12 with
          | none => rw [ee] at e9; cases e9
          | some ye =>
          rw [ee] at e9
          cases ye with
          | er _ _ => cases e9
          | ok sv ρ13 =>
          simp only at e9
          intro yv H13 r13
          cases es : esc sv ρ13 with
          | none => rw [es] at e9; cases e9
          | some z =>
          rw [es] at e9
          cases z with
          | er _ _ => cases e9
          | ok yd ρ14 =>
          simp only at e9
          split at e9
          · rename_i hz
            obtain ⟨xs, h1, h2, r14⟩ := r_grow (r_esc r13 es)
            exact ⟨xs, h1, by rw [h2]; exact hz, hl1, _, _, r_rewipe hvv hs11 r14, wipeD_wiped, e9⟩
          · cases e9
      · have ej : j = ds1.length := by omega
        subst ej
        rw [List.drop_length] at e9
        simp only [lcLoop, Option.some.injEq, Prod.mk.injEq] at e9
        obtain ⟨rfl, rfl⟩ := e9
        refine .inl ⟨i1 (Nat.le_refl _), hlt, _, acc8, ?_, wipeD_wiped, e3⟩
        have r15 := R.pops tt1 (r9.perm List.perm_middle.symm)
        exact r_rewipe hv ((wipe_sub hv1).trans hs5) r15
  · have ei : i = ds.length := by omega
    subst ei
    rw [List.drop_length] at e3
    simp only [lcLoop2, Option.some.injEq, Prod.mk.injEq] at e3
    obtain ⟨rfl, rfl⟩ := e3
    refine .inl ⟨j1 (Nat.le_refl _), q _ _ ?_⟩
    exact R.pops tt ((r_unwipe hv w3 r3).perm List.perm_middle.symm)
theorem pd_lc2 {elt tg iter tg1 iter1 : Expr} {ifs ifs1 : List Expr} {scope : Scope} {own : List (Str × Nat)} {vs1 : List Nat} {mi mi1 : M (List D)} {t t1 : TG} {g g1 : SV → List SV → Option (List SV)} {mt mt1 : M Bool} {me : M SV} (hc : X.calm = true) (hN : X.N.Nodup) (hi : PI X tg iter (tDI c W mi)) (ok : BlkOk X.N X.env.scope scope own)
    (hv : ∀ i ∈ own.map (·.2), c.cv i = true ∧ c.pin i = none) (hv1 : ∀ i ∈ vs1, i ∈ own.map (·.2))
    (hg : ∀ (s : Shared) (H : Hp) (C : Addr) (cl : List (Str × Addr)) (fp : List Addr), PG (X.blk s H scope (compEnvC scope cl C X.env) fp) tg t) (cg : CG c (own.map (·.2)) t g)
    (ht : ∀ (s : Shared) (H : Hp) (C : Addr) (cl : List (Str × Addr)) (fp : List Addr), PTs (X.blk s H scope (compEnvC scope cl C X.env) fp) ifs (tDT c W0 mt))
    (hi1 : ∀ (s : Shared) (H : Hp) (C : Addr) (cl : List (Str × Addr)) (fp : List Addr), PI (X.blk s H scope (compEnvC scope cl C X.env) fp) tg1 iter1 (tDI c W0 mi1))
    (hg1 : ∀ (s : Shared) (H : Hp) (C : Addr) (cl : List (Str × Addr)) (fp : List Addr), PG (X.blk s H scope (compEnvC scope cl C X.env) fp) tg1 t1) (cg1 : CG c vs1 t1 g1)
    (ht1 : ∀ (s : Shared) (H : Hp) (C : Addr) (cl : List (Str × Addr)) (fp : List Addr), PTs (X.blk s H scope (compEnvC scope cl C X.env) fp) ifs1 (tDT c W0 mt1))
    (he : ∀ (s : Shared) (H : Hp) (C : Addr) (cl : List (Str × Addr)) (fp : List Addr), PE (X.blk s H scope (compEnvC scope cl C X.env) fp) elt (tDE c W0 me))
    (hs : ∀ x, foldedSetIterable iter X.env x = pure x := by intro _; rfl) (hs1 : ∀ env x, foldedSetIterable iter1 env x = pure x := by intro _ _; rfl) :
    PE X (.ListComp elt [⟨tg, iter, ifs, 0⟩, ⟨tg1, iter1, ifs1, 0⟩] scope pos) (tDE c W (mLc2 (own.map (·.2)) vs1 mi g mt mi1 g1 mt1 me)) :=
  pe_imp (pe_lc2 hc hN hi ok hv1 hg ht hi1 hg1 ht1 he hs hs1) fun σ H Q h => read_lc2 hv hv1 cg cg1 h
theorem pd_setLc2 {i : Nat} {y : Str} {py spos : Pos} {elt tg iter tg1 iter1 : Expr} {ifs ifs1 : List Expr} {scope : Scope} {own : List (Str × Nat)} {vs1 : List Nat} {mi mi1 : M (List D)} {t t1 : TG} {g g1 : SV → List SV → Option (List SV)} {mt mt1 : M Bool} {me : M SV} (hc : X.calm = true) (hN : X.N.Nodup)
    (hy : X.N[i]? = some y) (hyl : X.env.scope.names.lookup y = some .local) (hsw : swapsWith (.ListComp elt [⟨tg, iter, ifs, 0⟩, ⟨tg1, iter1, ifs1, 0⟩] scope pos) (some (.Name y py)) spos.line X.env = pure true)
    (hi : PI X tg iter (tDI c W mi)) (ok : BlkOk X.N X.env.scope scope own)
    (hv : ∀ i ∈ own.map (·.2), c.cv i = true ∧ c.pin i = none) (hv1 : ∀ i ∈ vs1, i ∈ own.map (·.2))
    (hg : ∀ (s : Shared) (H : Hp) (C : Addr) (cl : List (Str × Addr)) (fp : List Addr), PG (X.blk s H scope (compEnvC scope cl C X.env) fp) tg t) (cg : CG c (own.map (·.2)) t g)
    (ht : ∀ (s : Shared) (H : Hp) (C : Addr) (cl : List (Str × Addr)) (fp : List Addr), PTs (X.blk s H scope (compEnvC scope cl C X.env) fp) ifs (tDT c W0 mt))
    (hi1 : ∀ (s : Shared) (H : Hp) (C : Addr) (cl : List (Str × Addr)) (fp : List Addr), PI (X.blk s H scope (compEnvC scope cl C X.env) fp) tg1 iter1 (tDI c W0 mi1))
    (hg1 : ∀ (s : Shared) (H : Hp) (C : Addr) (cl : List (Str × Addr)) (fp : List Addr), PG (X.blk s H scope (compEnvC scope cl C X.env) fp) tg1 t1) (cg1 : CG c vs1 t1 g1)
    (ht1 : ∀ (s : Shared) (H : Hp) (C : Addr) (cl : List (Str × Addr)) (fp : List Addr), PTs (X.blk s H scope (compEnvC scope cl C X.env) fp) ifs1 (tDT c W0 mt1))
    (he : ∀ (s : Shared) (H : Hp) (C : Addr) (cl : List (Str × Addr)) (fp : List Addr), PE (X.blk s H scope (compEnvC scope cl C X.env) fp) elt (tDE c W0 me)) (hp : c.pin i = none := by rfl)
    (hs : ∀ x, foldedSetIterable iter X.env x = pure x := by intro _; rfl) (hs1 : ∀ env x, foldedSetIterable iter1 env x = pure x := by intro _ _; rfl) :
    PS X (.Assign [.Name y py] (.ListComp elt [⟨tg, iter, ifs, 0⟩, ⟨tg1, iter1, ifs1, 0⟩] scope pos) spos) (tDS c W (mSet i (mLc2 (own.map (·.2)) vs1 mi g mt mi1 g1 mt1 me))) :=
  pd_setR (ps_setLc2 hc hN hy hyl hsw hi ok hv1 hg ht hi1 hg1 ht1 he hs hs1) (fun σ H Q h => read_lc2 hv hv1 cg cg1 h) hp
end
end DL

set_option Elab.async false
set_option linter.all false
set_option maxRecDepth 100000
/-! The data layer: what is wanted of a comprehension of two for. -/
namespace DL
open PySem PySem.Spec PyProof.Rows L2
section
variable {ρ : List SV} {X : Ex → List SV → Prop} {QS : SV → List SV → Prop}
variable {ns ns1 : List Nat} {mi mi1 : M (List D)} {g g1 : SV → List SV → Option (List SV)} {t t1 : M Bool} {e : M SV}
def WpM2 (ns ns1 : List Nat) (g : SV → List SV → Option (List SV)) (t : M Bool) (mi1 : M (List D)) (g1 : SV → List SV → Option (List SV)) (t1 : M Bool) (e : M SV) (ds : List D) (ρ : List SV) (acc : List D) (Q : List D → List SV → Prop) : Prop := match lcLoop2 ns ns1 g t mi1 g1 t1 e ds ρ acc with
  | some (ds, ρ') => Q ds ρ'
  | none => False
theorem v_lc2 : WpE (mLc2 ns ns1 mi g t mi1 g1 t1 e) ρ QS X = WpE mi ρ (fun ds ρ1 => WpM2 ns ns1 g t mi1 g1 t1 e ds (wipeD ρ1 ns) [] fun acc ρ2 => QS (.own (.lst acc)) ρ2) X := by
  unfold WpE mLc2
  cases mi ρ with
  | none => rfl
  | some r =>
    cases r with
    | er e ρ1 => rfl
    | ok ds ρ1 =>
      simp only [WpR]
      unfold WpM2
      cases lcLoop2 ns ns1 g t mi1 g1 t1 e ds (wipeD ρ1 ns) [] with
      | none => rfl
      | some x => rfl
theorem gv_lc2 : Go (WpE (mLc2 ns ns1 mi g t mi1 g1 t1 e) ρ QS X) = Go (WpE mi ρ (fun ds ρ1 => WpM2 ns ns1 g t mi1 g1 t1 e ds (wipeD ρ1 ns) [] fun acc ρ2 => QS (.own (.lst acc)) ρ2) X) := congrArg Go v_lc2
theorem m2_cons {d : D} {ds acc : List D} {Q : List D → List SV → Prop} (h : WpO (g (.fz d) ρ) fun ρ1 => WpE t ρ1 (fun c ρ2 => brB c
      (WpE mi1 ρ2 (fun ds1 ρ3 => WpM ns1 g1 t1 e ds1 (wipeD ρ3 ns1) acc fun acc' ρ4 => WpM2 ns ns1 g t mi1 g1 t1 e ds (wipeD ρ4 ns) acc' Q) (fun _ _ => False)) (WpM2 ns ns1 g t mi1 g1 t1 e ds (wipeD ρ2 ns) acc Q)) (fun _ _ => False)) : WpM2 ns ns1 g t mi1 g1 t1 e (d :: ds) ρ acc Q := by
  unfold WpM2 lcLoop2
  unfold WpM2 WpM at h
  cases eg : g (.fz d) ρ with
  | none => rw [eg] at h; exact h
  | some ρ1 =>
    rw [eg] at h
    simp only [WpO, WpE] at h
    simp only []
    cases et : t ρ1 with
    | none => rw [et] at h; exact h.elim
    | some r =>
      rw [et] at h
      cases r with
      | er x ρ2 => exact h.elim
      | ok c ρ2 =>
        cases c with
        | false => simpa [WpR, brB] using h
        | true =>
          simp only [WpR, br_true] at h
          simp only []
          cases ee : mi1 ρ2 with
          | none => rw [ee] at h; exact h.elim
          | some r =>
            rw [ee] at h
            cases r with
            | er x ρ2 => exact h.elim
            | ok ds1 ρ3 =>
              simp only [] at h ⊢
              cases el : lcLoop ns1 g1 t1 e ds1 (wipeD ρ3 ns1) acc with
              | none => rw [el] at h; exact h.elim
              | some z => rw [el] at h; exact h
theorem m2_inv {ds : List D} {Q : List D → List SV → Prop} (I : Nat → List D → List SV → Prop) {acc : List D} (h0 : I 0 acc ρ) (hs : ∀ i d acc ρ, ds[i]? = some d → I i acc ρ →
      WpO (g (.fz d) ρ) fun ρ1 => WpE t ρ1 (fun c ρ2 => brB c (WpE mi1 ρ2 (fun ds1 ρ3 => WpM ns1 g1 t1 e ds1 (wipeD ρ3 ns1) acc fun acc' ρ4 => I (i + 1) acc' (wipeD ρ4 ns)) (fun _ _ => False)) (I (i + 1) acc (wipeD ρ2 ns))) (fun _ _ => False))
    (hd : ∀ acc ρ, I ds.length acc ρ → Q acc ρ) : WpM2 ns ns1 g t mi1 g1 t1 e ds ρ acc Q := by
  have key : ∀ (n i : Nat) (acc : List D) (ρ : List SV), ds.length - i = n → i ≤ ds.length → I i acc ρ → WpM2 ns ns1 g t mi1 g1 t1 e (ds.drop i) ρ acc Q := by
    intro n
    induction n with
    | zero =>
      intro i acc ρ h1 h2 h3
      obtain rfl : i = ds.length := by omega
      rw [List.drop_length]
      exact hd acc ρ h3
    | succ n ih =>
      intro i acc ρ h1 h2 h3
      have hlt : i < ds.length := by omega
      rw [List.drop_eq_getElem_cons hlt]
      have hk := fun acc ρ z => ih (i + 1) acc ρ (by omega) (by omega) z
      have st := hs i ds[i] acc ρ (by simp [hlt]) h3
      refine m2_cons ?_
      revert st
      unfold WpO
      cases g (.fz ds[i]) ρ with
      | none => exact id
      | some ρ1 =>
        simp only [WpE]
        cases t ρ1 with
        | none => exact id
        | some r =>
          cases r with
          | er x ρ2 => exact id
          | ok c ρ2 =>
            cases c with
            | false => exact fun z => ⟨fun q => Bool.noConfusion q, fun _ => hk _ _ (z.2 rfl)⟩
            | true =>
              simp only [WpR, br_true]
              cases mi1 ρ2 with
              | none => exact id
              | some r =>
                cases r with
                | er x ρ2 => exact id
                | ok ds1 ρ3 =>
                  simp only [WpM]
                  cases lcLoop ns1 g1 t1 e ds1 (wipeD ρ3 ns1) acc with
                  | none => exact id
                  | some z => exact fun q => hk _ _ q
  exact key ds.length 0 acc ρ (by omega) (Nat.zero_le _) h0
end
end DL

set_option Elab.async false
set_option linter.all false
set_option maxRecDepth 100000
/-! The data layer: f([.., x, ..], [y, ..]): lists laid for the call alone, of slots that stay owned. -/
namespace DL
open PySem PySem.Spec PyProof.Rows L2
section
variable {X : Cx} {c : Fc} {W : WX} {σ : L2.St} {ρ : List SV} {ts : Ts} {H H' : Hp} {d : D} {ds : List D} {v : V} {vs : List V} {Q : VK} {sv : SV} {pos : Pos}
theorem repRL_view {K : PySem.W.Frag} {A : Addr → Prop} : ∀ {ds : List D} {vs : List V}, (∀ d ∈ ds, noDic d = true) → RepRL K A H ds vs → RepL K NoA H ds vs
  | [], vs, _, h => by rw [show vs = [] from h]; exact RepL.nil
  | d :: ds, vs, hd, h => by
    obtain ⟨v, vs', rfl, r, rs⟩ := h
    exact RepL.cons (repR_lend (hd d List.mem_cons_self) r (fun a z => z.elim) fun a _ z => z) (repRL_view (fun d z => hd d (List.mem_cons_of_mem _ z)) rs)
/-- the data in the slots of these numbers -/
def viewJ (ρ : List SV) : List Nat → Option (List D)
  | [] => some []
  | j :: js => match ρ[j]?, viewJ ρ js with
    | some (.fz d), some ds => some (d :: ds)
    | some (.own d), some ds => some (d :: ds)
    | _, _ => none
def tVars : List Nat → TA
  | [] => tNil
  | j :: js => tCons (tVar j) (tVars js)
theorem view_vars (r : R c σ ρ ts H) : ∀ {js : List Nat} {ds : List D}, viewJ ρ js = some ds → ∃ us, RepL c.K NoA H ds us ∧ ∀ (H' : Hp) (Q : List V → Hp → Prop), Q us H' → tVars js σ H' Q
  | [], ds, h => by
    simp only [viewJ, Option.some.injEq] at h
    subst h
    exact ⟨[], RepL.nil, fun H' Q q => q⟩
  | j :: js, ds, h => by
    simp only [viewJ] at h
    split at h
    · rename_i d ds' e1 e2
      cases h
      obtain ⟨us, r1, k⟩ := view_vars r e2
      obtain ⟨v, e3, q⟩ := r.slot_fz e1
      exact ⟨v :: us, RepL.cons (q.top_fz.less fun a y => y.elim) r1, fun H' Q z => ⟨v, e3, k H' _ z⟩⟩
    · rename_i d ds' e1 e2
      cases h
      obtain ⟨us, r1, k⟩ := view_vars r e2
      obtain ⟨p, es, vs, e3, rfl, e4, r2⟩ := r.slot_own e1
      refine ⟨.ref p :: us, RepL.cons ?_ r1, fun H' Q z => ⟨_, e3, k H' _ z⟩⟩
      simp only [Rep]
      exact ⟨p, vs, rfl, ⟨e4, fun z => z⟩, r2.less fun a y => y.elim⟩
    · cases h
/-- the call: the first list by any items, the second of names alone -/
def mCallV (g : Fn) (ma : M (List SV)) (js : List Nat) : M SV := ma.bnd fun svs => fun ρ => if svs.all (lendOk ρ) = true then (match cons ρ svs, viewJ ρ js with
  | some ds, some es => if ds.length ≤ sizeLine ∧ es.length ≤ sizeLine then (match g [.fz (.lst ds), .fz (.lst es)] with
    | some (.ok (.fz d) _) => if nolist d = true then some (.ok (.fz d) ρ) else none
    | _ => none) else none
  | _, _ => none) else none
theorem readCallV {g : Fn} {ma : M (List SV)} {js : List Nat} {K : PySem.W.Frag} (hK : c.K = K) (h : tDE c W (mCallV g ma js) σ H Q) :
    tCons (tLst (tDA c W ma)) (tCons (tLst (tVars js)) tNil) σ H fun vs H1 => spD K 2 g vs H1 Q (fun cls od H' => W cls od σ H') := by
  subst hK
  obtain ⟨ρ, ts, R1, q⟩ := h
  refine ⟨ρ, ts, R1, ?_⟩
  unfold mCallV at q
  cases em : ma ρ with
  | none => rw [bnd_none em] at q; exact q
  | some x =>
  cases x with
  | er x ρ' => rw [bnd_er em] at q; exact q
  | ok svs ρ1 =>
  rw [bnd_some em] at q
  intro vs H1 hl R2
  split at q
  case isFalse => exact q.elim
  rename_i hal
  cases e1 : cons ρ1 svs with
  | none => rw [e1] at q; exact q.elim
  | some ds =>
  cases e2 : viewJ ρ1 js with
  | none => rw [e1, e2] at q; exact q.elim
  | some es =>
  rw [e1, e2] at q
  simp only at q
  split at q
  case isFalse => exact q.elim
  rename_i hz
  have r1 := repRL_view (cons_noDic R2 (fun t ht => List.mem_append_left _ ht) hl e1 hal) (r_cons R2 (fun t ht => List.mem_append_left _ ht) hl e1)
  obtain ⟨us, r2, hv⟩ := view_vars R2 e2
  refine ⟨by rw [r1.length]; exact hz.1, fun p1 h1 => ?_⟩
  refine hv _ _ ⟨by rw [r2.length]; exact hz.2, fun p2 h2 => ?_⟩
  have hne : p1 ≠ p2 := fun z => by rw [← z, upd_same] at h2; cases h2
  have x1 : ∀ a o, H1 a = some o → (upd (upd H1 p1 (.lst vs)) p2 (.lst us)) a = some o := fun a o e => by
    rw [upd_ne (fun z => by rw [z] at e; rw [upd_ne (fun w => hne w.symm)] at h2; rw [h2] at e; cases e), upd_ne (fun z => by rw [z, h1] at e; cases e)]
    exact e
  have a1 : Rep c.K NoA (upd (upd H1 p1 (.lst vs)) p2 (.lst us)) (.lst ds) (.ref p1) := by
    simp only [Rep]
    exact ⟨p1, vs, rfl, ⟨by rw [upd_ne hne, upd_same], fun z => z⟩, r1.ext x1⟩
  have a2 : Rep c.K NoA (upd (upd H1 p1 (.lst vs)) p2 (.lst us)) (.lst es) (.ref p2) := by
    simp only [Rep]
    exact ⟨p2, us, rfl, ⟨upd_same, fun z => z⟩, r2.ext x1⟩
  have no : ∀ a, ¬ Av { K := c.K, T := NoA, H0 := (upd (upd H1 p1 (.lst vs)) p2 (.lst us)), W := fun a => a ∈ Own (asP [.fz (.lst ds), .fz (.lst es)] [.ref p1, .ref p2]), cv := fun _ => false, pin := fun _ => none } (asP [.fz (.lst ds), .fz (.lst es)] [.ref p1, .ref p2]) a := fun a z => by
    rcases z with z | z
    · exact z
    · cases z
  refine ⟨NoA, [.fz (.lst ds), .fz (.lst es)], rfl, rfl, ⟨fun x hx => ?_, List.nodup_nil, fun a o e _ => e, fun a h => (nomatch h), fun a h => h.elim, fun i v e => by cases e⟩, ?_⟩
  · rcases List.mem_cons.mp hx with rfl | hx
    · exact ⟨_, rfl, a1.less fun a y => (no a y).elim⟩
    · rcases List.mem_cons.mp hx with rfl | hx
      · exact ⟨_, rfl, a2.less fun a y => (no a y).elim⟩
      · cases hx
  · cases eg : g [.fz (.lst ds), .fz (.lst es)] with
    | none => rw [eg] at q; exact q.elim
    | some y =>
      rw [eg] at q
      cases y with
      | er x outs => exact q.elim
      | ok rv outs =>
        cases rv with
        | fz d =>
          simp only at q
          split at q
          · rename_i hc
            intro v H' g'
            obtain ⟨w, e3, r⟩ := g'.rs _ List.mem_cons_self
            cases e3
            exact q v H' (((R.pops _ R2).ext fun a o z => g'.fr a o (x1 a o z) fun w => nomatch w).push_fz (Rep.any hc r))
          · exact q.elim
        | _ => exact q.elim
theorem pd_callV {CX : CXT} {k j : Nat} {g : Fn} {x : Str} {p' pos pa pb : Pos} {es fs : List Expr} {ma : M (List SV)} {js : List Nat} (F : CalD X.prog X.w X.K X.mg X.base CX k x 2 g) (hr : Room j X.A) (hk : k ≤ j) (hx : ∀ σ, PassesAt CX X σ (WE W σ))
    (hg : Gl X x) (ha : PA X es (tDA c W ma)) (hb : PA X fs (tVars js)) (hK : c.K = X.K := by rfl)
    (hdb : (x == ("__debug__" : Str)) = false := by decide) (he : starEach (.List es pa :: [.List fs pb]) X.env = (false, eval (.List es pa) X.env) :: starEach [.List fs pb] X.env := by rfl) (he2 : starEach (.List fs pb :: []) X.env = (false, eval (.List fs pb) X.env) :: starEach [] X.env := by rfl)
    (hpl : (backTo pos (starEach [.List fs pb] X.env)).any (·.1) = false := by rfl) :
    PE X (.Call (.Name x p') [.List es pa, .List fs pb] [] pos) (tDE c W (mCallV g ma js)) := by
  obtain ⟨f, fd, ps, F1, hm, kp, b⟩ := F.ex
  exact pe_imp (pe_callS (E := WE W) F1 (hr.mono hk) hg hm kp b hx (pa_cons (pe_lst ha) (pa_cons (pe_lst hb) pa_nil he2) he) hdb he hpl) fun σ H Q h => readCallV hK h
end
end DL

set_option Elab.async false
set_option linter.all false
set_option maxRecDepth 100000
/-! The data layer: what is wanted of mCallV. -/
namespace DL
open PySem PySem.Spec PyProof.Rows L2
section
variable {ρ : List SV} {X : Ex → List SV → Prop} {QS : SV → List SV → Prop}
def immV (rv : SV) (P : SV → Prop) : Prop := match rv with
  | .fz d => nolist d = true ∧ P (.fz d)
  | _ => False
def slotV (o : Option SV) (F : D → Prop) : Prop := match o with
  | some (.fz d) => F d
  | some (.own d) => F d
  | _ => False
theorem iv_fz {d : D} {P : SV → Prop} : immV (.fz d) P = (nolist d = true ∧ P (.fz d)) := rfl
theorem sv_fz {d : D} {F : D → Prop} : slotV (some (.fz d)) F = F d := rfl
theorem sv_own {d : D} {F : D → Prop} : slotV (some (.own d)) F = F d := rfl
theorem vj_nil {F : List D → Prop} : WpO (viewJ ρ []) F = F [] := rfl
theorem vj_cons {j : Nat} {js : List Nat} {F : List D → Prop} : WpO (viewJ ρ (j :: js)) F = slotV ρ[j]? (fun d => WpO (viewJ ρ js) fun ds => F (d :: ds)) := by
  show WpO (match ρ[j]?, viewJ ρ js with
    | some (.fz d), some ds => some (d :: ds)
    | some (.own d), some ds => some (d :: ds)
    | _, _ => none) F = _
  cases ρ[j]? with
  | none => cases viewJ ρ js <;> rfl
  | some s => cases s <;> cases viewJ ρ js <;> rfl
theorem v_callV {g : Fn} {ma : M (List SV)} {js : List Nat} : WpE (mCallV g ma js) ρ QS X = WpE ma ρ (fun svs ρ1 => svs.all (lendOk ρ1) = true ∧ WpO (cons ρ1 svs) fun ds => WpO (viewJ ρ1 js) fun es => (ds.length ≤ sizeLine ∧ es.length ≤ sizeLine) ∧
    WpC g [.fz (.lst ds), .fz (.lst es)] (fun rv _ => immV rv fun s => QS s ρ1) (fun _ _ => False)) X := by
  unfold mCallV
  rw [v_bnd]
  congr 1
  funext svs ρ1
  unfold WpE
  dsimp only []
  by_cases h : svs.all (lendOk ρ1) = true
  · rw [if_pos h]
    cases cons ρ1 svs with
    | none => simp [WpR, WpO]
    | some ds =>
      cases viewJ ρ1 js with
      | none => simp [WpR, WpO]
      | some es =>
        simp only [WpO, h, true_and]
        by_cases hz : ds.length ≤ sizeLine ∧ es.length ≤ sizeLine
        · rw [if_pos hz]
          simp only [hz, and_self, true_and]
          unfold WpC
          cases g [.fz (.lst ds), .fz (.lst es)] with
          | none => rfl
          | some r =>
            cases r with
            | er _ _ => rfl
            | ok rv o =>
              cases rv with
              | fz d =>
                simp only [immV]
                by_cases hn : nolist d = true
                · rw [if_pos hn]; simp [WpR, hn]
                · rw [if_neg hn]; simp [WpR, hn]
              | _ => rfl
        · rw [if_neg hz]
          simp only [hz, false_and]
          rfl
  · rw [if_neg h]
    exact propext ⟨fun z => z.elim, fun z => (h z.1).elim⟩
theorem giv_fz {d : D} {P : SV → Prop} : Go (immV (.fz d) P) = (nolist d = true ∧ Go (P (.fz d))) := rfl
theorem gsv_fz {d : D} {F : D → Prop} : Go (slotV (some (.fz d)) F) = Go (F d) := rfl
theorem gsv_own {d : D} {F : D → Prop} : Go (slotV (some (.own d)) F) = Go (F d) := rfl
theorem gvj_nil {F : List D → Prop} : Go (WpO (viewJ ρ []) F) = Go (F []) := rfl
theorem gvj_cons {j : Nat} {js : List Nat} {F : List D → Prop} : Go (WpO (viewJ ρ (j :: js)) F) = Go (slotV ρ[j]? (fun d => WpO (viewJ ρ js) fun ds => F (d :: ds))) := congrArg Go vj_cons
theorem gv_callV {g : Fn} {ma : M (List SV)} {js : List Nat} : Go (WpE (mCallV g ma js) ρ QS X) = Go (WpE ma ρ (fun svs ρ1 => svs.all (lendOk ρ1) = true ∧ WpO (cons ρ1 svs) fun ds => WpO (viewJ ρ1 js) fun es => (ds.length ≤ sizeLine ∧ es.length ≤ sizeLine) ∧
    WpC g [.fz (.lst ds), .fz (.lst es)] (fun rv _ => immV rv fun s => QS s ρ1) (fun _ _ => False)) X) := congrArg Go v_callV
end
end DL

set_option Elab.async false
set_option linter.all false
set_option maxRecDepth 100000
/-! The data layer: what is wanted of l.index(x). -/
namespace DL
open PySem PySem.Spec PyProof.Rows L2
section
variable {ρ : List SV} {X : Ex → List SV → Prop} {QS : SV → List SV → Prop}
theorem v_index {mo : M SV} {ma : M (List SV)} : WpE (mIndex mo ma) ρ QS X = WpE mo ρ (fun s ρ1 => WpO (con ρ1 s) fun d => isL d = true ∧ WpE ma ρ1 (fun ss ρ2 => WpO (con ρ2 s) fun d2 => WpO (cons ρ2 ss) fun es => WpB (fIndex d2 es) ρ2 QS) X) X := by
  unfold mIndex
  rw [v_bnd]
  congr 1
  funext s ρ1
  unfold WpE
  dsimp only []
  cases con ρ1 s with
  | none => rfl
  | some d =>
    simp only [WpO]
    by_cases h : isL d = true
    · rw [if_pos h]
      show WpE (ma.bnd (idx2 s)) ρ1 QS X = _
      rw [v_bnd]
      simp only [h, true_and]
      unfold WpE
      congr 1
      funext ss ρ2
      unfold idx2
      cases con ρ2 s with
      | none => rfl
      | some d2 =>
        cases cons ρ2 ss with
        | none => rfl
        | some es => exact wb_bres
    · rw [if_neg h]
      exact propext ⟨fun z => z.elim, fun z => (h z.1).elim⟩
theorem gv_index {mo : M SV} {ma : M (List SV)} : Go (WpE (mIndex mo ma) ρ QS X) = Go (WpE mo ρ (fun s ρ1 => WpO (con ρ1 s) fun d => isL d = true ∧ WpE ma ρ1 (fun ss ρ2 => WpO (con ρ2 s) fun d2 => WpO (cons ρ2 ss) fun es => WpB (fIndex d2 es) ρ2 QS) X) X) := congrArg Go v_index
theorem v_pop {j : Nat} : WpE (kPop j []) ρ QS X = lstAt ρ[j]? fun ds => WpO ds[ds.length - 1]? fun d => QS (.fz d) (ρ.set j (.own (.lst ds.dropLast))) := by
  unfold WpE kPop
  dsimp only
  cases ρ[j]? with
  | none => rfl
  | some s =>
    cases s with
    | own d =>
      cases d with
      | lst ds =>
        simp only [lstAt]
        cases ds[ds.length - 1]? <;> rfl
      | _ => rfl
    | _ => rfl
theorem gv_pop {j : Nat} : Go (WpE (kPop j []) ρ QS X) = Go (lstAt ρ[j]? fun ds => WpO ds[ds.length - 1]? fun d => QS (.fz d) (ρ.set j (.own (.lst ds.dropLast)))) := congrArg Go v_pop
theorem pop_last {ds : List D} {d : D} : (ds ++ [d])[(ds ++ [d]).length - 1]? = some d := by simp
theorem drop_last {ds : List D} {d : D} : (ds ++ [d]).dropLast = ds := by simp
theorem isLL {ds : List D} : isL (.lst ds) = true := rfl
theorem isLQ {ds : List D} : isL (.seq ds) = true := rfl
theorem idxF_int {ns : List Int} {x : Int} (h : x ∈ ns) : idxF (.int x) (ns.map .int) = some (ns.idxOf x) := by
  induction ns with
  | nil => cases h
  | cons a ns ih =>
    rw [List.map_cons, idxF]
    by_cases e : a = x
    · subst e
      simp [eqF]
    · rw [if_neg (by simpa [eqF] using e)]
      rcases List.mem_cons.mp h with h | h
      · exact (e h.symm).elim
      · rw [ih h, List.idxOf_cons]
        have : (a == x) = false := by simpa using e
        rw [this]
        rfl
theorem eIndexI {ns : List Int} {x : Int} (h : x ∈ ns) : fIndex (.lst (ns.map .int)) [.int x] = some (.imm (.int (ns.idxOf x : Nat))) := by
  unfold fIndex
  dsimp only
  rw [if_pos ⟨rfl, flat_ints⟩, idxF_int h]
  rfl
end
end DL

set_option Elab.async false
set_option linter.all false
set_option maxRecDepth 100000
namespace Lw
open PySem PySem.Spec PyProof.Rows L2 DL
noncomputable section
def N__law_mix : List Str := ["one", "two", "summed", "squared", "turned"]
def m__law_mix : MS := (mSeq (mSet 2 (mBin (lift2 fMod) (mBin (lift2 fAdd) (mBin (lift2 fAdd) (mBin (lift2 fMul) (mCallB fInt (mCons (mVar (cvL []) 0) mNil)) (mC (.int 48271))) (mBin (lift2 fMul) (mCallB fInt (mCons (mVar (cvL []) 1) mNil)) (mC (.int 69621)))) (mC (.int 9973))) (mC (.int 2147483647))))
    (mSeq (mSet 3 (mBin (lift2 fMod) (mBin (lift2 fAdd) (mBin (lift2 fAdd) (mBin (lift2 fMul) (mVar (cvL []) 2) (mVar (cvL []) 2)) (mBin (lift2 fMul) (mCallB fInt (mCons (mVar (cvL []) 1) mNil)) (mC (.int 40692)))) (mC (.int 7))) (mC (.int 2147483629))))
    (mSeq (mSet 4 (mBin (lift2 fAdd) (mBin (lift2 fDiv) (mVar (cvL []) 3) (mC (.int 46337))) (mBin (lift2 fMul) (mBin (lift2 fMod) (mVar (cvL []) 3) (mC (.int 46337))) (mC (.int 46349)))))
    (mRet (mBin (lift2 fMod) (mBin (lift2 fMul) (mVar (cvL []) 4) (mC (.int 16807))) (mC (.int 2147483587)))))))
def st__law_mix_0 : MS := (mSet 2 (mBin (lift2 fMod) (mBin (lift2 fAdd) (mBin (lift2 fAdd) (mBin (lift2 fMul) (mCallB fInt (mCons (mVar (cvL []) 0) mNil)) (mC (.int 48271))) (mBin (lift2 fMul) (mCallB fInt (mCons (mVar (cvL []) 1) mNil)) (mC (.int 69621)))) (mC (.int 9973))) (mC (.int 2147483647))))
def st__law_mix_1 : MS := (mSet 3 (mBin (lift2 fMod) (mBin (lift2 fAdd) (mBin (lift2 fAdd) (mBin (lift2 fMul) (mVar (cvL []) 2) (mVar (cvL []) 2)) (mBin (lift2 fMul) (mCallB fInt (mCons (mVar (cvL []) 1) mNil)) (mC (.int 40692)))) (mC (.int 7))) (mC (.int 2147483629))))
def st__law_mix_2 : MS := (mSet 4 (mBin (lift2 fAdd) (mBin (lift2 fDiv) (mVar (cvL []) 3) (mC (.int 46337))) (mBin (lift2 fMul) (mBin (lift2 fMod) (mVar (cvL []) 3) (mC (.int 46337))) (mC (.int 46349)))))
def st__law_mix_3 : MS := (mRet (mBin (lift2 fMod) (mBin (lift2 fMul) (mVar (cvL []) 4) (mC (.int 16807))) (mC (.int 2147483587))))
theorem m__law_mix_eq : m__law_mix = (mSeq (st__law_mix_0) (mSeq (st__law_mix_1) (mSeq (st__law_mix_2) (st__law_mix_3)))) := rfl
def g__law_mix : Fn := fun as => fin0 [false, false] (m__law_mix (as ++ List.replicate 3 .un))

def N__law_store : List Str := ["script", "wide", "cells", "digest", "cell", "small"]
def mb__law_store_0 : MS := (mSeq (mSet 5 (mBin (lift2 fMod) (mCallB fAbs (mCons (mCallB fInt (mCons (mVar (cvL []) 4) mNil)) mNil)) (mVar (cvL []) 1)))
    (mSeq (mIf (mTest (mBin (lift2 fLt) (mVar (cvL []) 4) (mC (.int 0)))) (mSet 3 (mBin (lift2 fAdd) (mVar (cvL []) 3) (mC (.int 5)))) mNext)
    (mSeq (mSet 3 (mCallP 2 g__law_mix (mCons (mVar (cvL []) 3) (mCons (mVar (cvL []) 5) mNil))))
    (mExpr (mMeth 2 (mCons (mVar (cvL []) 5) mNil) (kAppend 2))))))
def m__law_store : MS := (mSeq (mSet 1 (mBin (lift2 fPow) (mC (.int 10)) (mC (.int 60))))
    (mSeq (mSet 1 (mBin (lift2 fMul) (mBin (lift2 fMul) (mBin (lift2 fMul) (mBin (lift2 fMul) (mVar (cvL []) 1) (mVar (cvL []) 1)) (mVar (cvL []) 1)) (mVar (cvL []) 1)) (mVar (cvL []) 1)))
    (mSeq (mSet 2 (mLst mNil))
    (mSeq (mSet 3 (mC (.int 17)))
    (mSeq (mFor (mItems (mSlA (mVar (cvL []) 0) mNoPart (mPart (mC (.int 63))))) (sto 4) mb__law_store_0)
    (mRet (mLst (mCons (mVar (cvL []) 2) (mCons (mC (.int 0)) (mCons (mC (.int 0)) (mCons (mC (.int 0)) (mCons (mC (.int 0)) (mCons (mC (.int 0)) (mCons (mVar (cvL []) 3) mNil))))))))))))))
def sb__law_store_0_0 : MS := (mSet 5 (mBin (lift2 fMod) (mCallB fAbs (mCons (mCallB fInt (mCons (mVar (cvL []) 4) mNil)) mNil)) (mVar (cvL []) 1)))
def sb__law_store_0_1 : MS := (mIf (mTest (mBin (lift2 fLt) (mVar (cvL []) 4) (mC (.int 0)))) (mSet 3 (mBin (lift2 fAdd) (mVar (cvL []) 3) (mC (.int 5)))) mNext)
def sb__law_store_0_2 : MS := (mSet 3 (mCallP 2 g__law_mix (mCons (mVar (cvL []) 3) (mCons (mVar (cvL []) 5) mNil))))
def sb__law_store_0_3 : MS := (mExpr (mMeth 2 (mCons (mVar (cvL []) 5) mNil) (kAppend 2)))
theorem mb__law_store_0_eq : mb__law_store_0 = (mSeq (sb__law_store_0_0) (mSeq (sb__law_store_0_1) (mSeq (sb__law_store_0_2) (sb__law_store_0_3)))) := rfl
def st__law_store_0 : MS := (mSet 1 (mBin (lift2 fPow) (mC (.int 10)) (mC (.int 60))))
def st__law_store_1 : MS := (mSet 1 (mBin (lift2 fMul) (mBin (lift2 fMul) (mBin (lift2 fMul) (mBin (lift2 fMul) (mVar (cvL []) 1) (mVar (cvL []) 1)) (mVar (cvL []) 1)) (mVar (cvL []) 1)) (mVar (cvL []) 1)))
def st__law_store_2 : MS := (mSet 2 (mLst mNil))
def st__law_store_3 : MS := (mSet 3 (mC (.int 17)))
def st__law_store_4 : MS := (mFor (mItems (mSlA (mVar (cvL []) 0) mNoPart (mPart (mC (.int 63))))) (sto 4) mb__law_store_0)
def st__law_store_5 : MS := (mRet (mLst (mCons (mVar (cvL []) 2) (mCons (mC (.int 0)) (mCons (mC (.int 0)) (mCons (mC (.int 0)) (mCons (mC (.int 0)) (mCons (mC (.int 0)) (mCons (mVar (cvL []) 3) mNil)))))))))
theorem m__law_store_eq : m__law_store = (mSeq (st__law_store_0) (mSeq (st__law_store_1) (mSeq (st__law_store_2) (mSeq (st__law_store_3) (mSeq (st__law_store_4) (st__law_store_5)))))) := rfl
def g__law_store : Fn := fun as => fin0 [false] (m__law_store (as ++ List.replicate 5 .un))

def N__law_next : List Str := ["store", "cells", "cell"]
def m__law_next : MS := (mSeq (mSetAt 0 (mC (.int 0)) (mC (.int 2)))
    (mSeq (mSetAt 0 (mC (.int 1000000)) (mC (.int 3)))
    (mSeq (mSetAt 0 (mBin (lift2 fIxX) (mVar (cvL []) 0) (mC (.int 6))) (mC (.int 5)))
    (mIf (mTest (mBin (lift2 fLt) (mBin (lift2 fIxX) (mVar (cvL []) 0) (mC (.int 1))) (mCallB fLen (mCons (mBin (lift2 fIxX) (mVar (cvL []) 0) (mC (.int 0))) mNil)))) (mSeq (mSet 1 (mBin (lift2 fIxX) (mVar (cvL []) 0) (mC (.int 0))))
    (mSeq (mSet 2 (mBin (lift2 fIxX) (mVar (cvL []) 1) (mBin (lift2 fIxX) (mVar (cvL []) 0) (mC (.int 1)))))
    (mSeq (mSetAt 0 (mCallP 2 g__law_mix (mCons (mBin (lift2 fAdd) (mBin (lift2 fIxX) (mVar (cvL []) 0) (mC (.int 6))) (mBin (lift2 fIxX) (mVar (cvL []) 0) (mC (.int 1)))) (mCons (mVar (cvL []) 2) mNil))) (mC (.int 5)))
    (mSeq (mSetAt 0 (mC (.int 3)) (mC (.int 3)))
    (mSeq (mIf (mTest (mBin (lift2 fGe) (mVar (cvL []) 2) (mBin (lift2 fPow) (mC (.int 10)) (mC (.int 18))))) (mSeq (mSetAt 0 (mVar (cvL []) 2) (mC (.int 2)))
    (mSetAt 0 (mC (.int 0)) (mC (.int 3)))) mNext)
    (mSetAt 0 (mBin (lift2 fAdd) (mBin (lift2 fIxX) (mVar (cvL []) 0) (mC (.int 1))) (mC (.int 1))) (mC (.int 1)))))))) mNext))))
def st__law_next_0 : MS := (mSetAt 0 (mC (.int 0)) (mC (.int 2)))
def st__law_next_1 : MS := (mSetAt 0 (mC (.int 1000000)) (mC (.int 3)))
def st__law_next_2 : MS := (mSetAt 0 (mBin (lift2 fIxX) (mVar (cvL []) 0) (mC (.int 6))) (mC (.int 5)))
def st__law_next_3 : MS := (mIf (mTest (mBin (lift2 fLt) (mBin (lift2 fIxX) (mVar (cvL []) 0) (mC (.int 1))) (mCallB fLen (mCons (mBin (lift2 fIxX) (mVar (cvL []) 0) (mC (.int 0))) mNil)))) (mSeq (mSet 1 (mBin (lift2 fIxX) (mVar (cvL []) 0) (mC (.int 0))))
    (mSeq (mSet 2 (mBin (lift2 fIxX) (mVar (cvL []) 1) (mBin (lift2 fIxX) (mVar (cvL []) 0) (mC (.int 1)))))
    (mSeq (mSetAt 0 (mCallP 2 g__law_mix (mCons (mBin (lift2 fAdd) (mBin (lift2 fIxX) (mVar (cvL []) 0) (mC (.int 6))) (mBin (lift2 fIxX) (mVar (cvL []) 0) (mC (.int 1)))) (mCons (mVar (cvL []) 2) mNil))) (mC (.int 5)))
    (mSeq (mSetAt 0 (mC (.int 3)) (mC (.int 3)))
    (mSeq (mIf (mTest (mBin (lift2 fGe) (mVar (cvL []) 2) (mBin (lift2 fPow) (mC (.int 10)) (mC (.int 18))))) (mSeq (mSetAt 0 (mVar (cvL []) 2) (mC (.int 2)))
    (mSetAt 0 (mC (.int 0)) (mC (.int 3)))) mNext)
    (mSetAt 0 (mBin (lift2 fAdd) (mBin (lift2 fIxX) (mVar (cvL []) 0) (mC (.int 1))) (mC (.int 1))) (mC (.int 1)))))))) mNext)
theorem m__law_next_eq : m__law_next = (mSeq (st__law_next_0) (mSeq (st__law_next_1) (mSeq (st__law_next_2) (st__law_next_3)))) := rfl
def g__law_next : Fn := fun as => fin0 [true] (m__law_next (as ++ List.replicate 2 .un))

def N__law_take : List Str := ["store", "many", "digit", "value", "reach", "k"]
def mb__law_take_0 : MS := (mIf (mTest (mBin (lift2 fLt) (mVar (cvL []) 4) (mBin (lift2 fMul) (mVar (cvL []) 1) (mC (.int 1000))))) (mSeq (mSet 3 (mBin (lift2 fAdd) (mBin (lift2 fMul) (mVar (cvL []) 3) (mC (.int 2147483587))) (mCallP 2 g__law_mix (mCons (mVar (cvL []) 3) (mCons (mBin (lift2 fAdd) (mBin (lift2 fMul) (mBin (lift2 fIxX) (mVar (cvL []) 0) (mC (.int 4))) (mC (.int 12))) (mVar (cvL []) 5)) mNil)))))
    (mSet 4 (mBin (lift2 fMul) (mVar (cvL []) 4) (mC (.int 2147483587))))) mNext)
def m__law_take : MS := (mSeq (mIf (mTest (mBin (lift2 fLt) (mVar (cvL []) 1) (mC (.int 2)))) (mRet (mC (.int 0))) mNext)
    (mSeq (mIf (mAnd (mTest (mBin (lift2 fLt) (mBin (lift2 fIxX) (mVar (cvL []) 0) (mC (.int 2))) (mC (.int 2)))) (mTest (mBin (lift2 fLt) (mBin (lift2 fIxX) (mVar (cvL []) 0) (mC (.int 3))) (mC (.int 1))))) (mExpr (mCall [true] g__law_next (mCons (mVar (cvL []) 0) mNil))) mNext)
    (mSeq (mIf (mTest (mBin (lift2 fGt) (mBin (lift2 fIxX) (mVar (cvL []) 0) (mC (.int 2))) (mC (.int 1)))) (mSeq (mSet 2 (mBin (lift2 fMod) (mCallB fInt (mCons (mBin (lift2 fIxX) (mVar (cvL []) 0) (mC (.int 2))) mNil)) (mVar (cvL []) 1)))
    (mSeq (mSetAt 0 (mBin (lift2 fDiv) (mBin (lift2 fIxX) (mVar (cvL []) 0) (mC (.int 2))) (mVar (cvL []) 1)) (mC (.int 2)))
    (mRet (mVar (cvL []) 2)))) mNext)
    (mSeq (mSetAt 0 (mBin (lift2 fSub) (mBin (lift2 fIxX) (mVar (cvL []) 0) (mC (.int 3))) (mC (.int 1))) (mC (.int 3)))
    (mSeq (mSetAt 0 (mBin (lift2 fAdd) (mBin (lift2 fIxX) (mVar (cvL []) 0) (mC (.int 4))) (mC (.int 1))) (mC (.int 4)))
    (mSeq (mSet 3 (mCallP 2 g__law_mix (mCons (mCallP 2 g__law_mix (mCons (mBin (lift2 fIxX) (mVar (cvL []) 0) (mC (.int 5))) (mCons (mBin (lift2 fIxX) (mVar (cvL []) 0) (mC (.int 4))) mNil))) (mCons (mBin (lift2 fAdd) (mBin (lift2 fIxX) (mVar (cvL []) 0) (mC (.int 4))) (mC (.int 3))) mNil))))
    (mSeq (mSet 4 (mC (.int 2147483587)))
    (mSeq (mFor (mRange1 (mC (.int 12))) (sto 5) mb__law_take_0)
    (mRet (mBin (lift2 fMod) (mCallB fInt (mCons (mVar (cvL []) 3) mNil)) (mVar (cvL []) 1)))))))))))
def st__law_take_0 : MS := (mIf (mTest (mBin (lift2 fLt) (mVar (cvL []) 1) (mC (.int 2)))) (mRet (mC (.int 0))) mNext)
def st__law_take_1 : MS := (mIf (mAnd (mTest (mBin (lift2 fLt) (mBin (lift2 fIxX) (mVar (cvL []) 0) (mC (.int 2))) (mC (.int 2)))) (mTest (mBin (lift2 fLt) (mBin (lift2 fIxX) (mVar (cvL []) 0) (mC (.int 3))) (mC (.int 1))))) (mExpr (mCall [true] g__law_next (mCons (mVar (cvL []) 0) mNil))) mNext)
def st__law_take_2 : MS := (mIf (mTest (mBin (lift2 fGt) (mBin (lift2 fIxX) (mVar (cvL []) 0) (mC (.int 2))) (mC (.int 1)))) (mSeq (mSet 2 (mBin (lift2 fMod) (mCallB fInt (mCons (mBin (lift2 fIxX) (mVar (cvL []) 0) (mC (.int 2))) mNil)) (mVar (cvL []) 1)))
    (mSeq (mSetAt 0 (mBin (lift2 fDiv) (mBin (lift2 fIxX) (mVar (cvL []) 0) (mC (.int 2))) (mVar (cvL []) 1)) (mC (.int 2)))
    (mRet (mVar (cvL []) 2)))) mNext)
def st__law_take_3 : MS := (mSetAt 0 (mBin (lift2 fSub) (mBin (lift2 fIxX) (mVar (cvL []) 0) (mC (.int 3))) (mC (.int 1))) (mC (.int 3)))
def st__law_take_4 : MS := (mSetAt 0 (mBin (lift2 fAdd) (mBin (lift2 fIxX) (mVar (cvL []) 0) (mC (.int 4))) (mC (.int 1))) (mC (.int 4)))
def st__law_take_5 : MS := (mSet 3 (mCallP 2 g__law_mix (mCons (mCallP 2 g__law_mix (mCons (mBin (lift2 fIxX) (mVar (cvL []) 0) (mC (.int 5))) (mCons (mBin (lift2 fIxX) (mVar (cvL []) 0) (mC (.int 4))) mNil))) (mCons (mBin (lift2 fAdd) (mBin (lift2 fIxX) (mVar (cvL []) 0) (mC (.int 4))) (mC (.int 3))) mNil))))
def st__law_take_6 : MS := (mSet 4 (mC (.int 2147483587)))
def st__law_take_7 : MS := (mFor (mRange1 (mC (.int 12))) (sto 5) mb__law_take_0)
def st__law_take_8 : MS := (mRet (mBin (lift2 fMod) (mCallB fInt (mCons (mVar (cvL []) 3) mNil)) (mVar (cvL []) 1)))
theorem m__law_take_eq : m__law_take = (mSeq (st__law_take_0) (mSeq (st__law_take_1) (mSeq (st__law_take_2) (mSeq (st__law_take_3) (mSeq (st__law_take_4) (mSeq (st__law_take_5) (mSeq (st__law_take_6) (mSeq (st__law_take_7) (st__law_take_8))))))))) := rfl
def g__law_take : Fn := fun as => fin0 [true, false] (m__law_take (as ++ List.replicate 4 .un))

def N__law_rare : List Str := ["store", "many"]
def m__law_rare : MS := (mRet (mBin (lift2 fEq) (mCall [true, false] g__law_take (mCons (mVar (cvL []) 0) (mCons (mVar (cvL []) 1) mNil))) (mC (.int 0))))
def g__law_rare : Fn := fun as => fin0 [true, false] (m__law_rare (as ++ List.replicate 0 .un))

def N__law_size : List Str := ["store", "usual", "great"]
def m__law_size : MS := (mSeq (mIf (mAnd (mTest (mBin (lift2 fGt) (mVar (cvL []) 2) (mVar (cvL []) 1))) (mTru (mCall [true, false] g__law_rare (mCons (mVar (cvL []) 0) (mCons (mC (.int 6)) mNil))))) (mRet (mBin (lift2 fAdd) (mBin (lift2 fAdd) (mVar (cvL []) 1) (mC (.int 1))) (mCall [true, false] g__law_take (mCons (mVar (cvL []) 0) (mCons (mBin (lift2 fSub) (mVar (cvL []) 2) (mVar (cvL []) 1)) mNil))))) mNext)
    (mRet (mCallB fMin (mCons (mVar (cvL []) 1) (mCons (mBin (lift2 fAdd) (mC (.int 1)) (mCall [true, false] g__law_take (mCons (mVar (cvL []) 0) (mCons (mBin (lift2 fMul) (mC (.int 2)) (mVar (cvL []) 1)) mNil)))) mNil)))))
def st__law_size_0 : MS := (mIf (mAnd (mTest (mBin (lift2 fGt) (mVar (cvL []) 2) (mVar (cvL []) 1))) (mTru (mCall [true, false] g__law_rare (mCons (mVar (cvL []) 0) (mCons (mC (.int 6)) mNil))))) (mRet (mBin (lift2 fAdd) (mBin (lift2 fAdd) (mVar (cvL []) 1) (mC (.int 1))) (mCall [true, false] g__law_take (mCons (mVar (cvL []) 0) (mCons (mBin (lift2 fSub) (mVar (cvL []) 2) (mVar (cvL []) 1)) mNil))))) mNext)
def st__law_size_1 : MS := (mRet (mCallB fMin (mCons (mVar (cvL []) 1) (mCons (mBin (lift2 fAdd) (mC (.int 1)) (mCall [true, false] g__law_take (mCons (mVar (cvL []) 0) (mCons (mBin (lift2 fMul) (mC (.int 2)) (mVar (cvL []) 1)) mNil)))) mNil))))
theorem m__law_size_eq : m__law_size = (mSeq (st__law_size_0) (st__law_size_1)) := rfl
def g__law_size : Fn := fun as => fin0 [true, false, false] (m__law_size (as ++ List.replicate 0 .un))

def N__law_order : List Str := ["store", "size", "rest", "way", "k", "found"]
def me__law_order_0 : M SV := (mBin (lift2 fSub) (mBin (lift2 fSub) (mVar (cvL [4]) 1) (mC (.int 1))) (mVar (cvL [4]) 4))
def mb__law_order_1 : MS := (mExpr (mMeth 5 (mCons (mMeth 2 (mCons (mCall [true, false] g__law_take (mCons (mVar (cvL [4]) 0) (mCons (mCallB fLen (mCons (mVar (cvL [4]) 2) mNil)) mNil))) mNil) (kPopAt 2)) mNil) (kAppend 5)))
def m__law_order : MS := (mSeq (mSet 2 (mListRg1 (mVar (cvL [4]) 1)))
    (mSeq (mSet 3 (mCall [true, false] g__law_take (mCons (mVar (cvL [4]) 0) (mCons (mC (.int 6)) mNil))))
    (mSeq (mIf (mTest (mBin (lift2 fEq) (mVar (cvL [4]) 3) (mC (.int 0)))) (mRet (mVar (cvL [4]) 2)) mNext)
    (mSeq (mIf (mTest (mBin (lift2 fEq) (mVar (cvL [4]) 3) (mC (.int 1)))) (mRet (mLc [4] (mRange1 (mVar (cvL [4]) 1)) (sto 4) (DL.ret true) me__law_order_0)) mNext)
    (mSeq (mSet 5 (mLst mNil))
    (mSeq (mFor (mRange1 (mVar (cvL [4]) 1)) (sto 4) mb__law_order_1)
    (mRet (mVar (cvL [4]) 5))))))))
def st__law_order_0 : MS := (mSet 2 (mListRg1 (mVar (cvL [4]) 1)))
def st__law_order_1 : MS := (mSet 3 (mCall [true, false] g__law_take (mCons (mVar (cvL [4]) 0) (mCons (mC (.int 6)) mNil))))
def st__law_order_2 : MS := (mIf (mTest (mBin (lift2 fEq) (mVar (cvL [4]) 3) (mC (.int 0)))) (mRet (mVar (cvL [4]) 2)) mNext)
def st__law_order_3 : MS := (mIf (mTest (mBin (lift2 fEq) (mVar (cvL [4]) 3) (mC (.int 1)))) (mRet (mLc [4] (mRange1 (mVar (cvL [4]) 1)) (sto 4) (DL.ret true) me__law_order_0)) mNext)
def st__law_order_4 : MS := (mSet 5 (mLst mNil))
def st__law_order_5 : MS := (mFor (mRange1 (mVar (cvL [4]) 1)) (sto 4) mb__law_order_1)
def st__law_order_6 : MS := (mRet (mVar (cvL [4]) 5))
theorem m__law_order_eq : m__law_order = (mSeq (st__law_order_0) (mSeq (st__law_order_1) (mSeq (st__law_order_2) (mSeq (st__law_order_3) (mSeq (st__law_order_4) (mSeq (st__law_order_5) (st__law_order_6))))))) := rfl
def g__law_order : Fn := fun as => fin0 [true, false] (m__law_order (as ++ List.replicate 4 .un))

def N__law_moved : List Str := ["store", "order", "row", "toward", "moved", "k", "at", "pair"]
def mb__law_moved_0 : MS := (mSeq (mSet 6 (mCall [true, false] g__law_take (mCons (mVar (cvL []) 0) (mCons (mCallB fMax (mCons (mC (.int 1)) (mCons (mBin (lift2 fSub) (mCallB fLen (mCons (mVar (cvL []) 4) mNil)) (mC (.int 1))) mNil))) mNil))))
    (mSeq (mSet 7 (mSlA (mVar (cvL []) 4) (mPart (mVar (cvL []) 6)) (mPart (mBin (lift2 fAdd) (mVar (cvL []) 6) (mC (.int 2))))))
    (mIf (mAnd (mTest (mBin (lift2 fEq) (mCallB fLen (mCons (mVar (cvL []) 7) mNil)) (mC (.int 2)))) (mTest (mBin (lift2 fEq) (mBin (lift2 fGt) (mIndex (mVar (cvL []) 2) (mCons (mBin (lift2 fIxX) (mVar (cvL []) 7) (mC (.int 0))) mNil)) (mIndex (mVar (cvL []) 2) (mCons (mBin (lift2 fIxX) (mVar (cvL []) 7) (mC (.int 1))) mNil))) (mVar (cvL []) 3)))) (mSet 4 (mBin (lift2 fAdd) (mBin (lift2 fAdd) (mSlA (mVar (cvL []) 4) mNoPart (mPart (mVar (cvL []) 6))) (mUn fRev (mVar (cvL []) 7))) (mSlA (mVar (cvL []) 4) (mPart (mBin (lift2 fAdd) (mVar (cvL []) 6) (mC (.int 2)))) mNoPart))) mNext)))
def m__law_moved : MS := (mSeq (mSet 4 (mCallB fList (mCons (mVar (cvL []) 1) mNil)))
    (mSeq (mFor (mRange1 (mCall [true, false] g__law_take (mCons (mVar (cvL []) 0) (mCons (mC (.int 4)) mNil)))) (sto 5) mb__law_moved_0)
    (mRet (mVar (cvL []) 4))))
def sb__law_moved_0_0 : MS := (mSet 6 (mCall [true, false] g__law_take (mCons (mVar (cvL []) 0) (mCons (mCallB fMax (mCons (mC (.int 1)) (mCons (mBin (lift2 fSub) (mCallB fLen (mCons (mVar (cvL []) 4) mNil)) (mC (.int 1))) mNil))) mNil))))
def sb__law_moved_0_1 : MS := (mSet 7 (mSlA (mVar (cvL []) 4) (mPart (mVar (cvL []) 6)) (mPart (mBin (lift2 fAdd) (mVar (cvL []) 6) (mC (.int 2))))))
def sb__law_moved_0_2 : MS := (mIf (mAnd (mTest (mBin (lift2 fEq) (mCallB fLen (mCons (mVar (cvL []) 7) mNil)) (mC (.int 2)))) (mTest (mBin (lift2 fEq) (mBin (lift2 fGt) (mIndex (mVar (cvL []) 2) (mCons (mBin (lift2 fIxX) (mVar (cvL []) 7) (mC (.int 0))) mNil)) (mIndex (mVar (cvL []) 2) (mCons (mBin (lift2 fIxX) (mVar (cvL []) 7) (mC (.int 1))) mNil))) (mVar (cvL []) 3)))) (mSet 4 (mBin (lift2 fAdd) (mBin (lift2 fAdd) (mSlA (mVar (cvL []) 4) mNoPart (mPart (mVar (cvL []) 6))) (mUn fRev (mVar (cvL []) 7))) (mSlA (mVar (cvL []) 4) (mPart (mBin (lift2 fAdd) (mVar (cvL []) 6) (mC (.int 2)))) mNoPart))) mNext)
theorem mb__law_moved_0_eq : mb__law_moved_0 = (mSeq (sb__law_moved_0_0) (mSeq (sb__law_moved_0_1) (sb__law_moved_0_2))) := rfl
def st__law_moved_0 : MS := (mSet 4 (mCallB fList (mCons (mVar (cvL []) 1) mNil)))
def st__law_moved_1 : MS := (mFor (mRange1 (mCall [true, false] g__law_take (mCons (mVar (cvL []) 0) (mCons (mC (.int 4)) mNil)))) (sto 5) mb__law_moved_0)
def st__law_moved_2 : MS := (mRet (mVar (cvL []) 4))
theorem m__law_moved_eq : m__law_moved = (mSeq (st__law_moved_0) (mSeq (st__law_moved_1) (st__law_moved_2))) := rfl
def g__law_moved : Fn := fun as => fin0 [true, false, false, false] (m__law_moved (as ++ List.replicate 4 .un))

def N__law_copy : List Str := ["value", "form", "parts", "part"]
def me__law_copy_0 (g__law_copy : Fn) : M SV := (mCallP 2 g__law_copy (mCons (mVar (cvL [3]) 3) (mCons (mVar (cvL [3]) 1) mNil)))
def m__law_copy (g__law_copy : Fn) : MS := (mSeq (mIf (mNot (mTru (mIsi [.lst, .tup] (mVar (cvL [3]) 0)))) (mRet (mVar (cvL [3]) 0)) mNext)
    (mSeq (mSet 2 (mLc [3] (mItems (mVar (cvL [3]) 0)) (sto 3) (DL.ret true) (me__law_copy_0 g__law_copy)))
    (mSeq (mIf (mOr (mTest (mBin (lift2 fEq) (mVar (cvL [3]) 1) (mC (.int 2)))) (mAnd (mTest (mBin (lift2 fEq) (mVar (cvL [3]) 1) (mC (.int 0)))) (mTru (mIsi [.tup] (mVar (cvL [3]) 0))))) (mRet (mCallB fTuple (mCons (mVar (cvL [3]) 2) mNil))) mNext)
    (mRet (mVar (cvL [3]) 2)))))
def st__law_copy_0 (g__law_copy : Fn) : MS := (mIf (mNot (mTru (mIsi [.lst, .tup] (mVar (cvL [3]) 0)))) (mRet (mVar (cvL [3]) 0)) mNext)
def st__law_copy_1 (g__law_copy : Fn) : MS := (mSet 2 (mLc [3] (mItems (mVar (cvL [3]) 0)) (sto 3) (DL.ret true) (me__law_copy_0 g__law_copy)))
def st__law_copy_2 (g__law_copy : Fn) : MS := (mIf (mOr (mTest (mBin (lift2 fEq) (mVar (cvL [3]) 1) (mC (.int 2)))) (mAnd (mTest (mBin (lift2 fEq) (mVar (cvL [3]) 1) (mC (.int 0)))) (mTru (mIsi [.tup] (mVar (cvL [3]) 0))))) (mRet (mCallB fTuple (mCons (mVar (cvL [3]) 2) mNil))) mNext)
def st__law_copy_3 (g__law_copy : Fn) : MS := (mRet (mVar (cvL [3]) 2))
theorem m__law_copy_eq (g__law_copy : Fn) : m__law_copy g__law_copy = (mSeq (st__law_copy_0 g__law_copy) (mSeq (st__law_copy_1 g__law_copy) (mSeq (st__law_copy_2 g__law_copy) (st__law_copy_3 g__law_copy)))) := rfl
def gN__law_copy : Nat → Fn
  | 0 => fun _ => none
  | k + 1 => fun as => fin0 [false, false] (m__law_copy (gN__law_copy k) (as ++ List.replicate 2 .un))
def g__law_copy : Fn := gN__law_copy 4

def N__law_pairs : List Str := ["order", "row", "found", "late", "early", "h", "i"]
def mb__law_pairs_0 : MS := (mSeq (mSet 5 (mIndex (mVar (cvL []) 1) (mCons (mBin (lift2 fIxX) (mVar (cvL []) 0) (mVar (cvL []) 4)) mNil)))
    (mSeq (mSet 6 (mIndex (mVar (cvL []) 1) (mCons (mBin (lift2 fIxX) (mVar (cvL []) 0) (mVar (cvL []) 3)) mNil)))
    (mIf (mTest (mBin (lift2 fLt) (mVar (cvL []) 5) (mVar (cvL []) 6))) (mExpr (mMeth 2 (mCons (mTup (mCons (mVar (cvL []) 5) (mCons (mVar (cvL []) 6) mNil))) mNil) (kAppend 2))) mNext)))
def mb__law_pairs_1 : MS := (mFor (mRange1 (mVar (cvL []) 3)) (sto 4) mb__law_pairs_0)
def m__law_pairs : MS := (mSeq (mSet 2 (mLst mNil))
    (mSeq (mFor (mRange1 (mCallB fLen (mCons (mVar (cvL []) 0) mNil))) (sto 3) mb__law_pairs_1)
    (mRet (mCallB fSortG (mCons (mVar (cvL []) 2) mNil)))))
def sb__law_pairs_0_0 : MS := (mSet 5 (mIndex (mVar (cvL []) 1) (mCons (mBin (lift2 fIxX) (mVar (cvL []) 0) (mVar (cvL []) 4)) mNil)))
def sb__law_pairs_0_1 : MS := (mSet 6 (mIndex (mVar (cvL []) 1) (mCons (mBin (lift2 fIxX) (mVar (cvL []) 0) (mVar (cvL []) 3)) mNil)))
def sb__law_pairs_0_2 : MS := (mIf (mTest (mBin (lift2 fLt) (mVar (cvL []) 5) (mVar (cvL []) 6))) (mExpr (mMeth 2 (mCons (mTup (mCons (mVar (cvL []) 5) (mCons (mVar (cvL []) 6) mNil))) mNil) (kAppend 2))) mNext)
theorem mb__law_pairs_0_eq : mb__law_pairs_0 = (mSeq (sb__law_pairs_0_0) (mSeq (sb__law_pairs_0_1) (sb__law_pairs_0_2))) := rfl
def st__law_pairs_0 : MS := (mSet 2 (mLst mNil))
def st__law_pairs_1 : MS := (mFor (mRange1 (mCallB fLen (mCons (mVar (cvL []) 0) mNil))) (sto 3) mb__law_pairs_1)
def st__law_pairs_2 : MS := (mRet (mCallB fSortG (mCons (mVar (cvL []) 2) mNil)))
theorem m__law_pairs_eq : m__law_pairs = (mSeq (st__law_pairs_0) (mSeq (st__law_pairs_1) (st__law_pairs_2))) := rfl
def g__law_pairs : Fn := fun as => fin0 [false, false] (m__law_pairs (as ++ List.replicate 5 .un))

def N_places_in : List Str := ["order", "places", "at", "number"]
def mb_places_in_0 : MS := (mSetAt 1 (mVar (cvL []) 2) (mVar (cvL []) 3))
def m_places_in : MS := (mSeq (mSet 1 (mBin (lift2 fMul) (mLst (mCons (mC (.int 0)) mNil)) (mCallB fLen (mCons (mVar (cvL []) 0) mNil))))
    (mSeq (mFor (mEnum (mVar (cvL []) 0)) (gTupD 2 (gsCons (sto 2) (gsCons (sto 3) gsNil))) mb_places_in_0)
    (mRet (mVar (cvL []) 1))))
def st_places_in_0 : MS := (mSet 1 (mBin (lift2 fMul) (mLst (mCons (mC (.int 0)) mNil)) (mCallB fLen (mCons (mVar (cvL []) 0) mNil))))
def st_places_in_1 : MS := (mFor (mEnum (mVar (cvL []) 0)) (gTupD 2 (gsCons (sto 2) (gsCons (sto 3) gsNil))) mb_places_in_0)
def st_places_in_2 : MS := (mRet (mVar (cvL []) 1))
theorem m_places_in_eq : m_places_in = (mSeq (st_places_in_0) (mSeq (st_places_in_1) (st_places_in_2))) := rfl
def g_places_in : Fn := fun as => fin0 [false] (m_places_in (as ++ List.replicate 3 .un))

def N_agreeing_pairs : List Str := ["order", "row", "places", "size", "h", "i"]
def me_agreeing_pairs_0 : M SV := (mTup (mCons (mVar (cvL [4, 5]) 4) (mCons (mVar (cvL [4, 5]) 5) mNil)))
def mi_agreeing_pairs_1 : M (List D) := (mRange2 (mBin (lift2 fAdd) (mVar (cvL [4, 5]) 4) (mC (.int 1))) (mVar (cvL [4, 5]) 3))
def mt_agreeing_pairs_2 : M Bool := (mTest (mBin (lift2 fLt) (mBin (lift2 fIxX) (mVar (cvL [4, 5]) 2) (mBin (lift2 fIxX) (mVar (cvL [4, 5]) 1) (mVar (cvL [4, 5]) 4))) (mBin (lift2 fIxX) (mVar (cvL [4, 5]) 2) (mBin (lift2 fIxX) (mVar (cvL [4, 5]) 1) (mVar (cvL [4, 5]) 5)))))
def m_agreeing_pairs : MS := (mSeq (mSet 2 (mCallP 1 g_places_in (mCons (mVar (cvL [4, 5]) 0) mNil)))
    (mSeq (mSet 3 (mCallB fLen (mCons (mVar (cvL [4, 5]) 1) mNil)))
    (mRet (mLc2 [4, 5] [5] (mRange1 (mVar (cvL [4, 5]) 3)) (sto 4) (DL.ret true) mi_agreeing_pairs_1 (sto 5) mt_agreeing_pairs_2 me_agreeing_pairs_0))))
def st_agreeing_pairs_0 : MS := (mSet 2 (mCallP 1 g_places_in (mCons (mVar (cvL [4, 5]) 0) mNil)))
def st_agreeing_pairs_1 : MS := (mSet 3 (mCallB fLen (mCons (mVar (cvL [4, 5]) 1) mNil)))
def st_agreeing_pairs_2 : MS := (mRet (mLc2 [4, 5] [5] (mRange1 (mVar (cvL [4, 5]) 3)) (sto 4) (DL.ret true) mi_agreeing_pairs_1 (sto 5) mt_agreeing_pairs_2 me_agreeing_pairs_0))
theorem m_agreeing_pairs_eq : m_agreeing_pairs = (mSeq (st_agreeing_pairs_0) (mSeq (st_agreeing_pairs_1) (st_agreeing_pairs_2))) := rfl
def g_agreeing_pairs : Fn := fun as => fin0 [false, false] (m_agreeing_pairs (as ++ List.replicate 4 .un))

def N__law_equal : List Str := ["one", "two", "pairs", "k", "pair", "left", "right", "look", "at"]
def mb__law_equal_0 : MS := (mExpr (mMeth 2 (mCons (mTup (mCons (mBin (lift2 fIxX) (mVar (cvL []) 5) (mVar (cvL []) 8)) (mCons (mBin (lift2 fIxX) (mVar (cvL []) 6) (mVar (cvL []) 8)) mNil))) mNil) (kAppend 2)))
def mb__law_equal_1 : MS := (mSeq (mIf (mTest (mBin (lift2 fEq) (mCallB fLen (mCons (mVar (cvL []) 2) mNil)) (mC (.int 0)))) (mRet (mC (.bl true))) mNext)
    (mSeq (mSet 4 (mMeth 2 mNil (kPop 2)))
    (mSeq (mSet 5 (mBin (lift2 fIxX) (mVar (cvL []) 4) (mC (.int 0))))
    (mSeq (mSet 6 (mBin (lift2 fIxX) (mVar (cvL []) 4) (mC (.int 1))))
    (mSeq (mSet 7 (mTup (mCons (mIsi [.bl] (mVar (cvL []) 5)) (mCons (mIsi [.int] (mVar (cvL []) 5)) (mCons (mIsi [.str] (mVar (cvL []) 5)) (mCons (mIsi [.lst] (mVar (cvL []) 5)) mNil))))))
    (mSeq (mIf (mTest (mBin (lift2 fNe) (mVar (cvL []) 7) (mTup (mCons (mIsi [.bl] (mVar (cvL []) 6)) (mCons (mIsi [.int] (mVar (cvL []) 6)) (mCons (mIsi [.str] (mVar (cvL []) 6)) (mCons (mIsi [.lst] (mVar (cvL []) 6)) mNil))))))) (mRet (mC (.bl false))) mNext)
    (mIf (mTru (mIsi [.lst, .tup] (mVar (cvL []) 5))) (mSeq (mIf (mOr (mNot (mTru (mIsi [.lst, .tup] (mVar (cvL []) 6)))) (mTest (mBin (lift2 fNe) (mCallB fLen (mCons (mVar (cvL []) 5) mNil)) (mCallB fLen (mCons (mVar (cvL []) 6) mNil))))) (mRet (mC (.bl false))) mNext)
    (mFor (mRange1 (mCallB fLen (mCons (mVar (cvL []) 5) mNil))) (sto 8) mb__law_equal_0)) (mIf (mOr (mTest (mBin (lift2 (fIs false)) (mVar (cvL []) 5) (mC .non))) (mTest (mBin (lift2 (fIs false)) (mVar (cvL []) 6) (mC .non)))) (mIf (mOr (mTest (mBin (lift2 (fIs true)) (mVar (cvL []) 5) (mC .non))) (mTest (mBin (lift2 (fIs true)) (mVar (cvL []) 6) (mC .non)))) (mRet (mC (.bl false))) mNext) (mIf (mOr (mNot (mTru (mIsi [.int, .str] (mVar (cvL []) 5)))) (mTest (mBin (lift2 fNe) (mVar (cvL []) 5) (mVar (cvL []) 6)))) (mRet (mC (.bl false))) mNext)))))))))
def m__law_equal : MS := (mSeq (mSet 2 (mLst (mCons (mTup (mCons (mVar (cvL []) 0) (mCons (mVar (cvL []) 1) mNil))) mNil)))
    (mSeq (mFor (mRange1 (mC (.int 200000))) (sto 3) mb__law_equal_1)
    (mRet (mC (.bl false)))))
def sb__law_equal_1_0 : MS := (mIf (mTest (mBin (lift2 fEq) (mCallB fLen (mCons (mVar (cvL []) 2) mNil)) (mC (.int 0)))) (mRet (mC (.bl true))) mNext)
def sb__law_equal_1_1 : MS := (mSet 4 (mMeth 2 mNil (kPop 2)))
def sb__law_equal_1_2 : MS := (mSet 5 (mBin (lift2 fIxX) (mVar (cvL []) 4) (mC (.int 0))))
def sb__law_equal_1_3 : MS := (mSet 6 (mBin (lift2 fIxX) (mVar (cvL []) 4) (mC (.int 1))))
def sb__law_equal_1_4 : MS := (mSet 7 (mTup (mCons (mIsi [.bl] (mVar (cvL []) 5)) (mCons (mIsi [.int] (mVar (cvL []) 5)) (mCons (mIsi [.str] (mVar (cvL []) 5)) (mCons (mIsi [.lst] (mVar (cvL []) 5)) mNil))))))
def sb__law_equal_1_5 : MS := (mIf (mTest (mBin (lift2 fNe) (mVar (cvL []) 7) (mTup (mCons (mIsi [.bl] (mVar (cvL []) 6)) (mCons (mIsi [.int] (mVar (cvL []) 6)) (mCons (mIsi [.str] (mVar (cvL []) 6)) (mCons (mIsi [.lst] (mVar (cvL []) 6)) mNil))))))) (mRet (mC (.bl false))) mNext)
def sb__law_equal_1_6 : MS := (mIf (mTru (mIsi [.lst, .tup] (mVar (cvL []) 5))) (mSeq (mIf (mOr (mNot (mTru (mIsi [.lst, .tup] (mVar (cvL []) 6)))) (mTest (mBin (lift2 fNe) (mCallB fLen (mCons (mVar (cvL []) 5) mNil)) (mCallB fLen (mCons (mVar (cvL []) 6) mNil))))) (mRet (mC (.bl false))) mNext)
    (mFor (mRange1 (mCallB fLen (mCons (mVar (cvL []) 5) mNil))) (sto 8) mb__law_equal_0)) (mIf (mOr (mTest (mBin (lift2 (fIs false)) (mVar (cvL []) 5) (mC .non))) (mTest (mBin (lift2 (fIs false)) (mVar (cvL []) 6) (mC .non)))) (mIf (mOr (mTest (mBin (lift2 (fIs true)) (mVar (cvL []) 5) (mC .non))) (mTest (mBin (lift2 (fIs true)) (mVar (cvL []) 6) (mC .non)))) (mRet (mC (.bl false))) mNext) (mIf (mOr (mNot (mTru (mIsi [.int, .str] (mVar (cvL []) 5)))) (mTest (mBin (lift2 fNe) (mVar (cvL []) 5) (mVar (cvL []) 6)))) (mRet (mC (.bl false))) mNext)))
theorem mb__law_equal_1_eq : mb__law_equal_1 = (mSeq (sb__law_equal_1_0) (mSeq (sb__law_equal_1_1) (mSeq (sb__law_equal_1_2) (mSeq (sb__law_equal_1_3) (mSeq (sb__law_equal_1_4) (mSeq (sb__law_equal_1_5) (sb__law_equal_1_6))))))) := rfl
def st__law_equal_0 : MS := (mSet 2 (mLst (mCons (mTup (mCons (mVar (cvL []) 0) (mCons (mVar (cvL []) 1) mNil))) mNil)))
def st__law_equal_1 : MS := (mFor (mRange1 (mC (.int 200000))) (sto 3) mb__law_equal_1)
def st__law_equal_2 : MS := (mRet (mC (.bl false)))
theorem m__law_equal_eq : m__law_equal = (mSeq (st__law_equal_0) (mSeq (st__law_equal_1) (st__law_equal_2))) := rfl
def g__law_equal : Fn := fun as => fin0 [false, false] (m__law_equal (as ++ List.replicate 7 .un))

def N_is_kinder : List Str := ["order", "other", "row", "places", "h", "i"]
def mb_is_kinder_0 : MS := (mIf (mTest (mBin (lift2 fGt) (mBin (lift2 fIxX) (mVar (cvL []) 3) (mBin (lift2 fIxX) (mVar (cvL []) 2) (mVar (cvL []) 4))) (mBin (lift2 fIxX) (mVar (cvL []) 3) (mBin (lift2 fIxX) (mVar (cvL []) 2) (mVar (cvL []) 5))))) (mRet (mC (.bl false))) mNext)
def m_is_kinder : MS := (mSeq (mSet 3 (mCallP 1 g_places_in (mCons (mVar (cvL []) 0) mNil)))
    (mSeq (mFor (mItems (mCallP 2 g_agreeing_pairs (mCons (mVar (cvL []) 1) (mCons (mVar (cvL []) 2) mNil)))) (gTupD 2 (gsCons (sto 4) (gsCons (sto 5) gsNil))) mb_is_kinder_0)
    (mRet (mC (.bl true)))))
def st_is_kinder_0 : MS := (mSet 3 (mCallP 1 g_places_in (mCons (mVar (cvL []) 0) mNil)))
def st_is_kinder_1 : MS := (mFor (mItems (mCallP 2 g_agreeing_pairs (mCons (mVar (cvL []) 1) (mCons (mVar (cvL []) 2) mNil)))) (gTupD 2 (gsCons (sto 4) (gsCons (sto 5) gsNil))) mb_is_kinder_0)
def st_is_kinder_2 : MS := (mRet (mC (.bl true)))
theorem m_is_kinder_eq : m_is_kinder = (mSeq (st_is_kinder_0) (mSeq (st_is_kinder_1) (st_is_kinder_2))) := rfl
def g_is_kinder : Fn := fun as => fin0 [false, false, false] (m_is_kinder (as ++ List.replicate 3 .un))

def N__law_right : List Str := ["one", "two", "row", "kept", "pairs", "others", "table", "pair", "kinder", "turn", "answer", "back"]
def mb__law_right_0 : MS := (mDPut 6 (mC (.bl true)) (mVar (cvL [7]) 7))
def me__law_right_1 : M SV := (mVar (cvL [7]) 7)
def mt__law_right_2 : M Bool := (mTest (mBin (lift2 (fInA true)) (mVar (cvL [7]) 7) (mVar (cvL [7]) 6)))
def mb__law_right_3 : MS := (mSeq (mSet 10 (mCallP 2 g_agreeing_pairs (mCons (mVar (cvL [7]) 0) (mCons (mVar (cvL [7]) 2) mNil))))
    (mSeq (mIf (mNot (mTru (mCallV g__law_equal (mCons (mVar (cvL [7]) 10) (mCons (mCallP 3 g_is_kinder (mCons (mVar (cvL [7]) 0) (mCons (mVar (cvL [7]) 1) (mCons (mVar (cvL [7]) 2) mNil)))) mNil)) [4, 8]))) (mRet (mC (.bl false))) mNext)
    (mSeq (mExpr (mMeth 10 (mCons (mTup (mCons (mC (.int 0)) (mCons (mC (.int 0)) mNil))) mNil) (kAppend 10)))
    (mExpr (mMeth 10 mNil (kReverse 10))))))
def me__law_right_4 : M SV := (mVar (cvL [7]) 7)
def mt__law_right_5 : M Bool := (mTest (mBin (lift2 (fInA false)) (mVar (cvL [7]) 7) (mVar (cvL [7]) 6)))
def m__law_right : MS := (mSeq (mSet 3 (mCallP 2 g__law_copy (mCons (mLst (mCons (mVar (cvL [7]) 0) (mCons (mVar (cvL [7]) 1) (mCons (mVar (cvL [7]) 2) mNil)))) (mCons (mC (.int 0)) mNil))))
    (mSeq (mSet 4 (mCallP 2 g__law_pairs (mCons (mCallB fList (mCons (mVar (cvL [7]) 0) mNil)) (mCons (mCallB fList (mCons (mVar (cvL [7]) 2) mNil)) mNil))))
    (mSeq (mSet 5 (mCallP 2 g__law_pairs (mCons (mCallB fList (mCons (mVar (cvL [7]) 1) mNil)) (mCons (mCallB fList (mCons (mVar (cvL [7]) 2) mNil)) mNil))))
    (mSeq (mSet 6 mDict0)
    (mSeq (mFor (mItems (mVar (cvL [7]) 4)) (sto 7) mb__law_right_0)
    (mSeq (mSet 8 (mBin (lift2 fEq) (mCallB fLen (mCons (mLcV [7] (cvL [7]) 5 (sto 7) mt__law_right_2 me__law_right_1) mNil)) (mC (.int 0))))
    (mSeq (mFor (mRange1 (mC (.int 2))) (sto 9) mb__law_right_3)
    (mSeq (mSet 11 (mBin (lift2 fEq) (mCallB fLen (mCons (mLcV [7] (cvL [7]) 5 (sto 7) mt__law_right_5 me__law_right_4) mNil)) (mCallB fLen (mCons (mVar (cvL [7]) 4) mNil))))
    (mSeq (mIf (mNot (mTru (mCallV g__law_equal (mCons (mCallP 2 g_agreeing_pairs (mCons (mVar (cvL [7]) 1) (mCons (mVar (cvL [7]) 2) mNil))) (mCons (mCallP 3 g_is_kinder (mCons (mVar (cvL [7]) 1) (mCons (mVar (cvL [7]) 0) (mCons (mVar (cvL [7]) 2) mNil)))) mNil)) [5, 11]))) (mRet (mC (.bl false))) mNext)
    (mRet (mCallP 2 g__law_equal (mCons (mLst (mCons (mVar (cvL [7]) 0) (mCons (mVar (cvL [7]) 1) (mCons (mVar (cvL [7]) 2) mNil)))) (mCons (mVar (cvL [7]) 3) mNil)))))))))))))
def sb__law_right_3_0 : MS := (mSet 10 (mCallP 2 g_agreeing_pairs (mCons (mVar (cvL [7]) 0) (mCons (mVar (cvL [7]) 2) mNil))))
def sb__law_right_3_1 : MS := (mIf (mNot (mTru (mCallV g__law_equal (mCons (mVar (cvL [7]) 10) (mCons (mCallP 3 g_is_kinder (mCons (mVar (cvL [7]) 0) (mCons (mVar (cvL [7]) 1) (mCons (mVar (cvL [7]) 2) mNil)))) mNil)) [4, 8]))) (mRet (mC (.bl false))) mNext)
def sb__law_right_3_2 : MS := (mExpr (mMeth 10 (mCons (mTup (mCons (mC (.int 0)) (mCons (mC (.int 0)) mNil))) mNil) (kAppend 10)))
def sb__law_right_3_3 : MS := (mExpr (mMeth 10 mNil (kReverse 10)))
theorem mb__law_right_3_eq : mb__law_right_3 = (mSeq (sb__law_right_3_0) (mSeq (sb__law_right_3_1) (mSeq (sb__law_right_3_2) (sb__law_right_3_3)))) := rfl
def st__law_right_0 : MS := (mSet 3 (mCallP 2 g__law_copy (mCons (mLst (mCons (mVar (cvL [7]) 0) (mCons (mVar (cvL [7]) 1) (mCons (mVar (cvL [7]) 2) mNil)))) (mCons (mC (.int 0)) mNil))))
def st__law_right_1 : MS := (mSet 4 (mCallP 2 g__law_pairs (mCons (mCallB fList (mCons (mVar (cvL [7]) 0) mNil)) (mCons (mCallB fList (mCons (mVar (cvL [7]) 2) mNil)) mNil))))
def st__law_right_2 : MS := (mSet 5 (mCallP 2 g__law_pairs (mCons (mCallB fList (mCons (mVar (cvL [7]) 1) mNil)) (mCons (mCallB fList (mCons (mVar (cvL [7]) 2) mNil)) mNil))))
def st__law_right_3 : MS := (mSet 6 mDict0)
def st__law_right_4 : MS := (mFor (mItems (mVar (cvL [7]) 4)) (sto 7) mb__law_right_0)
def st__law_right_5 : MS := (mSet 8 (mBin (lift2 fEq) (mCallB fLen (mCons (mLcV [7] (cvL [7]) 5 (sto 7) mt__law_right_2 me__law_right_1) mNil)) (mC (.int 0))))
def st__law_right_6 : MS := (mFor (mRange1 (mC (.int 2))) (sto 9) mb__law_right_3)
def st__law_right_7 : MS := (mSet 11 (mBin (lift2 fEq) (mCallB fLen (mCons (mLcV [7] (cvL [7]) 5 (sto 7) mt__law_right_5 me__law_right_4) mNil)) (mCallB fLen (mCons (mVar (cvL [7]) 4) mNil))))
def st__law_right_8 : MS := (mIf (mNot (mTru (mCallV g__law_equal (mCons (mCallP 2 g_agreeing_pairs (mCons (mVar (cvL [7]) 1) (mCons (mVar (cvL [7]) 2) mNil))) (mCons (mCallP 3 g_is_kinder (mCons (mVar (cvL [7]) 1) (mCons (mVar (cvL [7]) 0) (mCons (mVar (cvL [7]) 2) mNil)))) mNil)) [5, 11]))) (mRet (mC (.bl false))) mNext)
def st__law_right_9 : MS := (mRet (mCallP 2 g__law_equal (mCons (mLst (mCons (mVar (cvL [7]) 0) (mCons (mVar (cvL [7]) 1) (mCons (mVar (cvL [7]) 2) mNil)))) (mCons (mVar (cvL [7]) 3) mNil))))
theorem m__law_right_eq : m__law_right = (mSeq (st__law_right_0) (mSeq (st__law_right_1) (mSeq (st__law_right_2) (mSeq (st__law_right_3) (mSeq (st__law_right_4) (mSeq (st__law_right_5) (mSeq (st__law_right_6) (mSeq (st__law_right_7) (mSeq (st__law_right_8) (st__law_right_9)))))))))) := rfl
def g__law_right : Fn := fun as => fin0 [false, false, false] (m__law_right (as ++ List.replicate 9 .un))

def N__law_mixed : List Str := ["store", "value", "parts", "part"]
def me__law_mixed_0 (g__law_mixed : Fn) : M SV := (mCall [true, false] g__law_mixed (mCons (mVar (cvL [3]) 0) (mCons (mVar (cvL [3]) 3) mNil)))
def m__law_mixed (g__law_mixed : Fn) : MS := (mSeq (mIf (mNot (mTru (mIsi [.lst, .tup] (mVar (cvL [3]) 1)))) (mRet (mVar (cvL [3]) 1)) mNext)
    (mSeq (mSet 2 (mLc [3] (mItems (mVar (cvL [3]) 1)) (sto 3) (DL.ret true) (me__law_mixed_0 g__law_mixed)))
    (mSeq (mIf (mTru (mCall [true, false] g__law_rare (mCons (mVar (cvL [3]) 0) (mCons (mC (.int 2)) mNil)))) (mRet (mCallB fTuple (mCons (mVar (cvL [3]) 2) mNil))) mNext)
    (mRet (mVar (cvL [3]) 2)))))
def st__law_mixed_0 (g__law_mixed : Fn) : MS := (mIf (mNot (mTru (mIsi [.lst, .tup] (mVar (cvL [3]) 1)))) (mRet (mVar (cvL [3]) 1)) mNext)
def st__law_mixed_1 (g__law_mixed : Fn) : MS := (mSet 2 (mLc [3] (mItems (mVar (cvL [3]) 1)) (sto 3) (DL.ret true) (me__law_mixed_0 g__law_mixed)))
def st__law_mixed_2 (g__law_mixed : Fn) : MS := (mIf (mTru (mCall [true, false] g__law_rare (mCons (mVar (cvL [3]) 0) (mCons (mC (.int 2)) mNil)))) (mRet (mCallB fTuple (mCons (mVar (cvL [3]) 2) mNil))) mNext)
def st__law_mixed_3 (g__law_mixed : Fn) : MS := (mRet (mVar (cvL [3]) 2))
theorem m__law_mixed_eq (g__law_mixed : Fn) : m__law_mixed g__law_mixed = (mSeq (st__law_mixed_0 g__law_mixed) (mSeq (st__law_mixed_1 g__law_mixed) (mSeq (st__law_mixed_2 g__law_mixed) (st__law_mixed_3 g__law_mixed)))) := rfl
def gN__law_mixed : Nat → Fn
  | 0 => fun _ => none
  | k + 1 => fun as => fin0 [true, false] (m__law_mixed (gN__law_mixed k) (as ++ List.replicate 2 .un))
def g__law_mixed : Fn := gN__law_mixed 4

def N_law : List Str := ["script", "store", "turn", "size", "row", "order", "other", "kinder", "crueler", "mixed", "cases", "case", "given"]
def mb_law_0 : MS := (mIf (mNot (mTru (mCallP 3 g__law_right (mCons (mCall [true, false] g__law_mixed (mCons (mVar (cvL []) 1) (mCons (mBin (lift2 fIxX) (mVar (cvL []) 11) (mC (.int 0))) mNil))) (mCons (mCall [true, false] g__law_mixed (mCons (mVar (cvL []) 1) (mCons (mBin (lift2 fIxX) (mVar (cvL []) 11) (mC (.int 1))) mNil))) (mCons (mCall [true, false] g__law_mixed (mCons (mVar (cvL []) 1) (mCons (mVar (cvL []) 4) mNil))) mNil)))))) (mRet (mC (.bl false))) mNext)
def mb_law_1 : MS := (mSeq (mSet 3 (mCall [true, false, false] g__law_size (mCons (mVar (cvL []) 1) (mCons (mC (.int 6)) (mCons (mC (.int 20)) mNil)))))
    (mSeq (mSet 4 (mCall [true, false] g__law_order (mCons (mVar (cvL []) 1) (mCons (mVar (cvL []) 3) mNil))))
    (mSeq (mSet 5 (mCall [true, false] g__law_order (mCons (mVar (cvL []) 1) (mCons (mVar (cvL []) 3) mNil))))
    (mSeq (mSet 6 (mCall [true, false] g__law_order (mCons (mVar (cvL []) 1) (mCons (mVar (cvL []) 3) mNil))))
    (mSeq (mSet 7 (mCall [true, false, false, false] g__law_moved (mCons (mVar (cvL []) 1) (mCons (mVar (cvL []) 5) (mCons (mVar (cvL []) 4) (mCons (mC (.bl true)) mNil))))))
    (mSeq (mSet 8 (mCall [true, false, false, false] g__law_moved (mCons (mVar (cvL []) 1) (mCons (mVar (cvL []) 5) (mCons (mVar (cvL []) 4) (mCons (mC (.bl false)) mNil))))))
    (mSeq (mSet 9 (mCall [true, false, false, false] g__law_moved (mCons (mVar (cvL []) 1) (mCons (mVar (cvL []) 7) (mCons (mVar (cvL []) 4) (mCons (mC (.bl false)) mNil))))))
    (mSeq (mSet 10 (mLst (mCons (mLst (mCons (mVar (cvL []) 7) (mCons (mVar (cvL []) 5) mNil))) (mCons (mLst (mCons (mVar (cvL []) 8) (mCons (mVar (cvL []) 5) mNil))) (mCons (mLst (mCons (mVar (cvL []) 7) (mCons (mVar (cvL []) 8) mNil))) (mCons (mLst (mCons (mVar (cvL []) 9) (mCons (mVar (cvL []) 5) mNil))) (mCons (mLst (mCons (mVar (cvL []) 5) (mCons (mVar (cvL []) 6) mNil))) (mCons (mLst (mCons (mVar (cvL []) 4) (mCons (mVar (cvL []) 5) mNil))) mNil))))))))
    (mSeq (mSet 10 (mBin (lift2 fAdd) (mVar (cvL []) 10) (mLst (mCons (mLst (mCons (mUn fRev (mVar (cvL []) 4)) (mCons (mVar (cvL []) 6) mNil))) (mCons (mLst (mCons (mVar (cvL []) 5) (mCons (mVar (cvL []) 5) mNil))) (mCons (mLst (mCons (mVar (cvL []) 4) (mCons (mUn fRev (mVar (cvL []) 4)) mNil))) mNil))))))
    (mSeq (mFor (mItems (mVar (cvL []) 10)) (sto 11) mb_law_0)
    (mSeq (mSet 12 (mCallB fList (mCons (mVar (cvL []) 5) mNil)))
    (mSeq (mIf (mNot (mTru (mCallP 3 g__law_right (mCons (mVar (cvL []) 12) (mCons (mVar (cvL []) 6) (mCons (mVar (cvL []) 4) mNil)))))) (mRet (mC (.bl false))) mNext)
    (mSeq (mExpr (mMeth 12 mNil (kReverse 12)))
    (mIf (mOr (mNot (mTru (mCallP 3 g__law_right (mCons (mVar (cvL []) 12) (mCons (mVar (cvL []) 6) (mCons (mVar (cvL []) 4) mNil)))))) (mNot (mTru (mCallP 3 g__law_right (mCons (mVar (cvL []) 5) (mCons (mVar (cvL []) 6) (mCons (mUn fRev (mVar (cvL []) 4)) mNil))))))) (mRet (mC (.bl false))) mNext))))))))))))))
def m_law : MS := (mSeq (mSet 1 (mCallP 1 g__law_store (mCons (mVar (cvL []) 0) mNil)))
    (mSeq (mFor (mRange1 (mC (.int 2))) (sto 2) mb_law_1)
    (mRet (mC (.bl true)))))
def sb_law_1_0 : MS := (mSet 3 (mCall [true, false, false] g__law_size (mCons (mVar (cvL []) 1) (mCons (mC (.int 6)) (mCons (mC (.int 20)) mNil)))))
def sb_law_1_1 : MS := (mSet 4 (mCall [true, false] g__law_order (mCons (mVar (cvL []) 1) (mCons (mVar (cvL []) 3) mNil))))
def sb_law_1_2 : MS := (mSet 5 (mCall [true, false] g__law_order (mCons (mVar (cvL []) 1) (mCons (mVar (cvL []) 3) mNil))))
def sb_law_1_3 : MS := (mSet 6 (mCall [true, false] g__law_order (mCons (mVar (cvL []) 1) (mCons (mVar (cvL []) 3) mNil))))
def sb_law_1_4 : MS := (mSet 7 (mCall [true, false, false, false] g__law_moved (mCons (mVar (cvL []) 1) (mCons (mVar (cvL []) 5) (mCons (mVar (cvL []) 4) (mCons (mC (.bl true)) mNil))))))
def sb_law_1_5 : MS := (mSet 8 (mCall [true, false, false, false] g__law_moved (mCons (mVar (cvL []) 1) (mCons (mVar (cvL []) 5) (mCons (mVar (cvL []) 4) (mCons (mC (.bl false)) mNil))))))
def sb_law_1_6 : MS := (mSet 9 (mCall [true, false, false, false] g__law_moved (mCons (mVar (cvL []) 1) (mCons (mVar (cvL []) 7) (mCons (mVar (cvL []) 4) (mCons (mC (.bl false)) mNil))))))
def sb_law_1_7 : MS := (mSet 10 (mLst (mCons (mLst (mCons (mVar (cvL []) 7) (mCons (mVar (cvL []) 5) mNil))) (mCons (mLst (mCons (mVar (cvL []) 8) (mCons (mVar (cvL []) 5) mNil))) (mCons (mLst (mCons (mVar (cvL []) 7) (mCons (mVar (cvL []) 8) mNil))) (mCons (mLst (mCons (mVar (cvL []) 9) (mCons (mVar (cvL []) 5) mNil))) (mCons (mLst (mCons (mVar (cvL []) 5) (mCons (mVar (cvL []) 6) mNil))) (mCons (mLst (mCons (mVar (cvL []) 4) (mCons (mVar (cvL []) 5) mNil))) mNil))))))))
def sb_law_1_8 : MS := (mSet 10 (mBin (lift2 fAdd) (mVar (cvL []) 10) (mLst (mCons (mLst (mCons (mUn fRev (mVar (cvL []) 4)) (mCons (mVar (cvL []) 6) mNil))) (mCons (mLst (mCons (mVar (cvL []) 5) (mCons (mVar (cvL []) 5) mNil))) (mCons (mLst (mCons (mVar (cvL []) 4) (mCons (mUn fRev (mVar (cvL []) 4)) mNil))) mNil))))))
def sb_law_1_9 : MS := (mFor (mItems (mVar (cvL []) 10)) (sto 11) mb_law_0)
def sb_law_1_10 : MS := (mSet 12 (mCallB fList (mCons (mVar (cvL []) 5) mNil)))
def sb_law_1_11 : MS := (mIf (mNot (mTru (mCallP 3 g__law_right (mCons (mVar (cvL []) 12) (mCons (mVar (cvL []) 6) (mCons (mVar (cvL []) 4) mNil)))))) (mRet (mC (.bl false))) mNext)
def sb_law_1_12 : MS := (mExpr (mMeth 12 mNil (kReverse 12)))
def sb_law_1_13 : MS := (mIf (mOr (mNot (mTru (mCallP 3 g__law_right (mCons (mVar (cvL []) 12) (mCons (mVar (cvL []) 6) (mCons (mVar (cvL []) 4) mNil)))))) (mNot (mTru (mCallP 3 g__law_right (mCons (mVar (cvL []) 5) (mCons (mVar (cvL []) 6) (mCons (mUn fRev (mVar (cvL []) 4)) mNil))))))) (mRet (mC (.bl false))) mNext)
theorem mb_law_1_eq : mb_law_1 = (mSeq (sb_law_1_0) (mSeq (sb_law_1_1) (mSeq (sb_law_1_2) (mSeq (sb_law_1_3) (mSeq (sb_law_1_4) (mSeq (sb_law_1_5) (mSeq (sb_law_1_6) (mSeq (sb_law_1_7) (mSeq (sb_law_1_8) (mSeq (sb_law_1_9) (mSeq (sb_law_1_10) (mSeq (sb_law_1_11) (mSeq (sb_law_1_12) (sb_law_1_13)))))))))))))) := rfl
def st_law_0 : MS := (mSet 1 (mCallP 1 g__law_store (mCons (mVar (cvL []) 0) mNil)))
def st_law_1 : MS := (mFor (mRange1 (mC (.int 2))) (sto 2) mb_law_1)
def st_law_2 : MS := (mRet (mC (.bl true)))
theorem m_law_eq : m_law = (mSeq (st_law_0) (mSeq (st_law_1) (st_law_2))) := rfl
def g_law : Fn := fun as => fin0 [false] (m_law (as ++ List.replicate 12 .un))

end
section
local macro_rules | `(tactic| walk_at "vc") => `(tactic| ((first | (with_reducible change DL.Go _) | refine DL.go ?_); simp (maxSteps := 400000) only [↓DL.g_and, ↓DL.g_imp, ↓DL.g_true, ↓DL.g_dec, ↓DL.g_iteT, ↓DL.g_iteTT, ↓DL.g_iteFF, ↓DL.gwo_some, ↓DL.gwo_none, ↓DL.gwo_ite, ↓DL.gwo_map, ↓DL.gwb_imm, ↓DL.gwb_newL, ↓DL.gwb_newT, ↓DL.gwb_anyT, ↓DL.gwb_ite, ↓DL.gwb_map, ↓DL.gv_bnd, ↓DL.gv_ret, ↓DL.gv_c, ↓DL.gv_var, ↓DL.gwv_fz, ↓DL.gwv_own, ↓DL.gwv_box, ↓DL.gv_bin, ↓DL.gwb_bres, ↓DL.gv_lift1, ↓DL.gv_lift2, ↓DL.gv_liftN, ↓DL.gv_un, ↓DL.gv_callB, ↓DL.gv_nil, ↓DL.gv_cons, ↓DL.gts_bl, ↓DL.gv_test, ↓DL.gv_tru, ↓DL.gv_not, ↓DL.gbr_true, ↓DL.gbr_false, ↓DL.gbr_dec, ↓DL.gbr_not, ↓DL.gv_and, ↓DL.gv_or, ↓DL.gv_andV, ↓DL.gv_orV, ↓DL.gv_notV, ↓DL.gv_ifE, ↓DL.gv_tup, ↓DL.gv_lst, ↓DL.gwe_box, ↓DL.gwel_box, ↓DL.gwe_fz, ↓DL.gwe_own, ↓DL.gwe_loc, ↓DL.gwel_own, ↓DL.gwel_fz, ↓DL.gv_esc, ↓DL.gv_escs_nil, ↓DL.gv_escs_cons, ↓DL.gpi_int, ↓DL.gv_part, ↓DL.gv_noPart, ↓DL.gv_sl, ↓DL.gv_isi, ↓DL.grv_box, ↓DL.grv_fz, ↓DL.grv_own, ↓DL.gv_callT, ↓DL.gv_call, ↓DL.gv_prep_nil, ↓DL.gp1_box, ↓DL.gpl_box, ↓DL.gp1_fz, ↓DL.gp1_ownT, ↓DL.gp1_ownF, ↓DL.gp1_loc, ↓DL.gpl_ownT, ↓DL.gpl_ownF, ↓DL.gpl_fzF, ↓DL.gv_prep1, ↓DL.gv_prep_cons, ↓DL.glk_fz, ↓DL.glk_own, ↓DL.gv_callP, ↓DL.gs_seq, ↓DL.gs_next, ↓DL.gs_pass, ↓DL.gs_brk, ↓DL.gs_cnt, ↓DL.gs_e, ↓DL.gs_expr, ↓DL.gs_ret, ↓DL.gs_retN, ↓DL.gs_if, ↓DL.gs_to, ↓DL.gsto_fz, ↓DL.gsto_box, ↓DL.gsto_own, ↓DL.gsto_loc, ↓DL.gsl_own, ↓DL.gsl_fz, ↓DL.gtk_tup, ↓DL.gtk_lst, ↓DL.gwo_gtup, ↓DL.gwo_gsnil, ↓DL.gwo_gscons, ↓DL.goa_own, ↓DL.gs_atOwn, ↓DL.gla_lst, ↓DL.gs_putAt, ↓DL.gs_setAt, ↓DL.gim_imm, ↓DL.gim_ite, ↓DL.gfa_fz, ↓DL.gs_aug, ↓DL.gs_augAt2, ↓DL.gs_augAt, ↓DL.gv_meth, ↓DL.gv_append, ↓DL.gv_reverse, ↓DL.gv_popAt, ↓DL.gv_rg1, ↓DL.gv_items, ↓DL.gv_enum, ↓DL.gv_range1, ↓DL.gv_range2, ↓DL.gs_for, ↓DL.gs_while, ↓DL.gl_nil, ↓DL.gtu_nx, ↓DL.gtu_ct, ↓DL.gtu_bk, ↓DL.gtu_rt, ↓DL.gtu_er, ↓DL.gv_lc, ↓DL.gm_nil, ↓DL.gfk_box, ↓DL.gfl_box, ↓DL.gfk_fz, ↓DL.gfk_own, ↓DL.gfk_loc, ↓DL.gfl_own, ↓DL.gfl_fz, ↓DL.gfk_nx, ↓DL.gfk_er, ↓DL.gbk_bl, ↓DL.gv_chK, ↓DL.gv_chain, ↓DL.gv_itemsS, ↓DL.gv_itemsO, ↓DL.gv_slA, ↓DL.gtx_str, ↓DL.gv_strK, ↓DL.gv_join, ↓DL.gv_clear, ↓DL.gv_dict0, ↓DL.gda_dic, ↓DL.gfz_fz, ↓DL.gv_getK, ↓DL.gv_dget, ↓DL.gba_box, ↓DL.gs_atBox, ↓DL.gs_putKD, ↓DL.gs_dput, ↓DL.gv_listKeys, ↓DL.gv_prop, ↓DL.gmk_ok, ↓DL.gv_make, ↓DL.gob_obj, ↓DL.gs_setFD, ↓DL.gs_setFld, ↓DL.gs_forV, ↓DL.gv_lcV, ↓DL.glcv_own, ↓DL.glcv_fz, ↓DL.gv_lc2, ↓DL.giv_fz, ↓DL.gsv_fz, ↓DL.gsv_own, ↓DL.gvj_nil, ↓DL.gvj_cons, ↓DL.gv_callV, ↓DL.gv_index, ↓DL.gv_pop, DL.con_fz, DL.con_own, DL.con_box, DL.cl_box, DL.con_loc, DL.cl_own, DL.cl_fz, DL.cons_nil, DL.cons_cons, DL.cs_some, DL.eInt, DL.eIntB, DL.eAbs, DL.eMax, DL.eMin, DL.eMaxL, DL.eMinL, DL.eLenL, DL.eLenT, DL.eLenQ, DL.eLenS, DL.eListL, DL.eListT, DL.eListQ, DL.eTupL, DL.eTupT, DL.eTupQ, DL.eMul, DL.eMulL, DL.eAdd, DL.eAddS, DL.eAddL, DL.eAddT, DL.eSub, DL.eDiv, DL.eMod, DL.ePow, DL.eAddI, DL.eSubI, DL.eNeg, DL.eCmp, DL.eLt, DL.eLtT, DL.eLtT2, DL.eEqI, DL.eEqS, DL.eEqB, DL.eNeI, DL.eNeS, DL.eNeB, DL.eIs, DL.eIsN, DL.inN, DL.inI, DL.inB, DL.inS, DL.inL, DL.inT, DL.eIn, DL.eInN, DL.eIxL, DL.eIxT, DL.eIxQ, DL.eIxS, DL.eSlL, DL.eSlT, DL.eSlQ, DL.tyN, DL.tyB, DL.tyI, DL.tyS, DL.tyL, DL.tyQ, DL.tyT, DL.trN, DL.trB, DL.trI, DL.trL, DL.trT, DL.itL, DL.itT, DL.itQ, DL.eSum, DL.eAll, DL.eAny, DL.eSortI, DL.nlI, DL.nlB, DL.nlS, DL.nlN, DL.nlT, DL.nlL, DL.nsN, DL.nsC, DL.nsI, DL.nsS, DL.gvN, DL.gvF, DL.gvT, DL.gvTo, DL.gvX, DL.gvXo, DL.loF, DL.loO, DL.loX, DL.loL, DL.llF, DL.llO, DL.llX, DL.gl_un, DL.wN, DL.wC, DL.eIxXL, DL.eIxXT, DL.eIxXQ, DL.eIxXS, DL.eIxXD, DL.dk_some, DL.eInAL, DL.eInAT, DL.eInAQ, DL.eInALn, DL.eInATn, DL.eInAQn, DL.eInAD, DL.eInADn, DL.eInAS, DL.eInASn, DL.any_int, DL.any_str, DL.flat_ints, DL.flat_strs, DL.inD_LI, DL.inD_TI, DL.inD_LS, DL.inD_TS, DL.eSlAL, DL.eSlAT, DL.eSlAQ, DL.eSlAS, DL.eSortGI, DL.eSortGD, DL.eRevL, DL.eRevQ, DL.strsOf_map, DL.eJoinL, DL.eJoinT, DL.cO_str, DL.oi_eq, DL.oo_nil, DL.oo_T, DL.oo_X, DL.oo_F, DL.isLL, DL.isLQ, DL.wo_some, DL.wb_imm,
  DL.ixN_lit, DL.atI_lit, DL.cast_lit, DL.size_le, DL.size_lt, DL.cvL_nil, DL.cvL_cons, DL.rgOk_of, DL.mulOk_big, DL.powOk_of, DL.modOk_r, DL.divOk_r, DL.mulOk_r, DL.mulOk_l, DL.isT, List.length_map, Nat.reduceBEq, Nat.reduceAdd, List.length_cons, List.length_nil, List.cons_append, List.nil_append, List.replicate, List.getElem?_cons_zero, List.getElem?_cons_succ, List.set_cons_zero, List.set_cons_succ, List.map_cons, List.map_nil, List.any_cons, List.any_nil, List.all_cons, List.all_nil, Option.map_some, Option.map_none, Bool.or_false, Bool.or_true, Bool.false_or, Bool.true_or, Bool.and_true, Bool.true_and, Bool.false_and, Bool.and_false, Bool.not_true, Bool.not_false, if_true, if_false, ite_true, ite_false, reduceIte, Bool.false_eq_true, decide_true, decide_false, decide_eq_true_eq, Bool.true_eq_false, ne_eq, not_true_eq_false, not_false_eq_true, reduceCtorEq, Int.reduceNeg, Int.reduceLT, Int.reduceLE, Int.reduceAdd, Int.reduceSub, Int.reduceMul, Int.reducePow, Int.reduceToNat, Int.reduceEq, Nat.reduceAdd, Nat.reduceSub, Nat.reduceLT, Nat.reduceLeDiff, Nat.reduceEqDiff, Nat.reduceMul, Int.toNat_natCast, bne_iff_ne, Bool.not_eq_true, true_and, and_true, true_implies, forall_const, and_self, implies_true]))

/-! the draws -/
structure Sto where
  cells : List Int
  pos : Int
  big : Int
  left : Int
  cnt : Int
  dig : Int
  seed : Int
def Sto.d (s : Sto) : D := .lst [.lst (s.cells.map .int), .int s.pos, .int s.big, .int s.left, .int s.cnt, .int s.dig, .int s.seed]
def Sto.ok (s : Sto) : Prop := 0 ≤ s.pos
set_option maxHeartbeats 1000000
theorem mix_wp (a b : Int) {Q X} (h : ∀ r, Q (.fz (.int r)) [.un, .un]) : WpC g__law_mix [.fz (.int a), .fz (.int b)] Q X := by
  refine c_fin0 (un := List.replicate 3 .un) rfl ?_
  unfold m__law_mix
  walk_at "vc"
  refine ⟨?_, h _⟩
  exact mulOk_r (by omega) (by omega)
theorem at_ints {l : List Int} {k : Int} (h0 : 0 ≤ k) (h1 : k < l.length) : atI (l.map D.int) k = some (.int (l.getD k.toNat 0)) := by
  rw [atI_of h0, List.getElem?_map]
  have : k.toNat < l.length := by omega
  simp [this]
theorem next_wp (s : Sto) (hs : s.ok) {Q X} (h : ∀ s' : Sto, s'.ok → Q (.fz .non) [.own s'.d]) : WpC g__law_next [.own s.d] Q X := by
  obtain ⟨cells, pos, big, left, cnt, dig, seed⟩ := s
  have hp : 0 ≤ pos := hs
  refine c_fin0 (un := List.replicate 2 .un) rfl ?_
  unfold m__law_next Sto.d
  walk_at "vc"
  refine ⟨fun h1 => ?_, fun _ => h ⟨cells, pos, 0, 1000000, cnt, seed, seed⟩ hp⟩
  rw [at_ints hp h1]
  walk_at "vc"
  refine mix_wp _ _ fun r => ?_
  walk_at "vc"
  exact ⟨fun _ => h ⟨cells, pos + 1, _, 0, cnt, r, seed⟩ (show 0 ≤ pos + 1 by omega), fun _ => h ⟨cells, pos + 1, 0, 3, cnt, r, seed⟩ (show 0 ≤ pos + 1 by omega)⟩
def manyOk (m : Int) : Prop := m.natAbs.log2 < 9000
theorem divOk_many {i m : Int} (h : 0 < m) (h2 : manyOk m) : divOk i m = true := by
  unfold divOk
  rw [decide_eq_true h, nlt_iff.mpr (show m.natAbs.log2 < 9000 from h2)]
  simp
theorem modOk_many {i m : Int} (h : 0 < m) (h2 : manyOk m) : modOk i m = true := by unfold modOk; exact decide_eq_true h
theorem manyOk_small {m : Int} (h0 : 0 ≤ m) (h : m < 2 ^ 200) : manyOk m := by
  unfold manyOk
  by_cases hz : m.natAbs = 0
  · rw [hz]; decide
  · have h1 : m.natAbs < 2 ^ 200 := by omega
    have := (Nat.log2_lt hz).mpr h1
    omega
def takeR : MS := mSeq st__law_take_2 (mSeq st__law_take_3 (mSeq st__law_take_4 (mSeq st__law_take_5 (mSeq st__law_take_6 (mSeq st__law_take_7 st__law_take_8)))))
theorem take_rest (s : Sto) (hs : s.ok) (m : Int) (hm : manyOk m) (h2 : 2 ≤ m) {Q X} (h : ∀ (s' : Sto) r, s'.ok → 0 ≤ r → r < m → Q (.fz (.int r)) [.own s'.d, .un]) : WpS takeR [.own s.d, .fz (.int m), .un, .un, .un, .un] (finK [true, false] Q X) := by
  obtain ⟨cells, pos, big, left, cnt, dig, seed⟩ := s
  unfold takeR st__law_take_2 st__law_take_3 st__law_take_4 st__law_take_5 st__law_take_6 st__law_take_7 st__law_take_8 Sto.d
  have hm0 : 0 < m := by omega
  walk_at "vc"
  refine ⟨fun h1 => ⟨modOk_many hm0 hm, divOk_many hm0 hm, h ⟨_, _, _, _, _, _, _⟩ _ hs (Int.emod_nonneg _ (by omega)) (Int.emod_lt_of_pos _ hm0)⟩, fun h1 => ?_⟩
  refine mix_wp _ _ fun r1 => ?_
  walk_at "vc"
  refine mix_wp _ _ fun r2 => ?_
  walk_at "vc"
  refine l_inv (fun _ ρ => ∃ v r kk, ρ = [.own (.lst [.lst (cells.map .int), .int pos, .int big, .int (left - 1), .int (cnt + 1), .int dig, .int seed]), .fz (.int m), .un, .fz (.int v), .fz (.int r), kk]) ⟨_, _, _, rfl⟩ ?_ ?_
  · rintro i d ρ hd ⟨v, r, kk, rfl⟩
    obtain ⟨k, rfl⟩ : ∃ k, d = .int k := by
      rw [rgD_get] at hd
      split at hd
      · cases hd; exact ⟨_, rfl⟩
      · cases hd
    unfold mb__law_take_0
    walk_at "vc"
    refine ⟨fun _ => mix_wp _ _ fun r3 => ?_, fun _ => ⟨_, _, _, rfl⟩⟩
    walk_at "vc"
    exact ⟨_, _, _, rfl⟩
  · rintro ρ ⟨v, r, kk, rfl⟩
    walk_at "vc"
    exact ⟨modOk_many hm0 hm, h ⟨_, _, _, _, _, _, _⟩ _ hs (Int.emod_nonneg _ (by omega)) (Int.emod_lt_of_pos _ hm0)⟩
theorem take_wp (s : Sto) (hs : s.ok) (m : Int) (hm : manyOk m) {Q X} (h : ∀ (s' : Sto) r, s'.ok → 0 ≤ r → (2 ≤ m → r < m) → (m < 2 → r = 0) → Q (.fz (.int r)) [.own s'.d, .un]) : WpC g__law_take [.own s.d, .fz (.int m)] Q X := by
  obtain ⟨cells, pos, big, left, cnt, dig, seed⟩ := s
  refine c_fin0 (un := List.replicate 4 .un) rfl ?_
  rw [show m__law_take = mSeq st__law_take_0 (mSeq st__law_take_1 takeR) from rfl]
  unfold st__law_take_0 st__law_take_1 Sto.d
  walk_at "vc"
  have go : ∀ s : Sto, s.ok → ¬ m < 2 → WpS takeR [.own s.d, .fz (.int m), .un, .un, .un, .un] (finK [true, false] Q fun _ _ => False) := fun s hs h2 => take_rest s hs m hm (by omega) fun s' r a b c => h s' r a b (fun _ => c) fun h => absurd h h2
  refine ⟨fun h2 => h ⟨cells, pos, big, left, cnt, dig, seed⟩ 0 hs (Int.le_refl _) (fun z => by omega) fun _ => rfl, fun h2 => ⟨fun _ => ⟨fun _ => ?_, fun _ => go ⟨cells, pos, big, left, cnt, dig, seed⟩ hs h2⟩, fun _ => go ⟨cells, pos, big, left, cnt, dig, seed⟩ hs h2⟩⟩
  refine next_wp ⟨cells, pos, big, left, cnt, dig, seed⟩ hs fun s' hs' => ?_
  walk_at "vc"
  exact go s' hs' h2

theorem rare_wp (s : Sto) (hs : s.ok) (m : Int) (hm : manyOk m) {Q X} (h : ∀ (s' : Sto) b, s'.ok → Q (.fz (.bl b)) [.own s'.d, .un]) : WpC g__law_rare [.own s.d, .fz (.int m)] Q X := by
  refine c_fin0 (un := List.replicate 0 .un) rfl ?_
  unfold m__law_rare
  walk_at "vc"
  refine take_wp s hs m hm fun s' r h1 h2 h3 h4 => ?_
  walk_at "vc"
  exact h s' _ h1

theorem cut_ints (ns : List Int) (lo hi : Option Int) : ∃ ms : List Int, DL.cutD (ns.map D.int) lo hi = ms.map .int ∧ ms.length ≤ ns.length := by
  unfold DL.cutD
  rw [← List.map_drop, ← List.map_take]
  exact ⟨_, rfl, by rw [List.length_take, List.length_drop]; omega⟩
theorem int_of {ms : List Int} {i : Nat} {d : D} (h : (ms.map D.int)[i]? = some d) : ∃ k, d = .int k ∧ ms[i]? = some k := by
  rw [List.getElem?_map, Option.map_eq_some_iff] at h
  obtain ⟨k, h1, rfl⟩ := h
  exact ⟨k, rfl, h1⟩
theorem rg_of {lo : Int} {n i : Nat} {d : D} (h : (rgD lo n)[i]? = some d) : i < n ∧ d = .int (lo + (i : Nat)) := by
  rw [rgD_get] at h
  split at h
  · cases h; exact ⟨by assumption, rfl⟩
  · cases h
theorem rgD_len (lo : Int) (n : Nat) : (rgD lo n).length = n := by simp [rgD]
theorem store_loop (ms : List Int) (hl : ms.length ≤ 63) (d0 : SV) (wide : Int) (hw : 0 < wide) (hw2 : manyOk wide) {K : SR → Prop} (h : ∀ (cs : List Int) (dg : Int) c sm, K (.nx [d0, .fz (.int wide), .own (.lst (cs.map .int)), .fz (.int dg), c, sm])) :
    WpL (sto 4) mb__law_store_0 (ms.map .int) [d0, .fz (.int wide), .own (.lst []), .fz (.int 17), .un, .un] K := by
  refine l_inv (fun i ρ => ∃ (cs : List Int) (dg : Int) (c sm : SV), cs.length = i ∧ ρ = [d0, .fz (.int wide), .own (.lst (cs.map .int)), .fz (.int dg), c, sm]) ⟨[], 17, .un, .un, rfl, rfl⟩ ?_ ?_
  · rintro i d ρ hd ⟨cs, dg, c, sm, hc, rfl⟩
    obtain ⟨k, rfl, hk⟩ := int_of hd
    have hi : i < ms.length := (List.getElem?_eq_some_iff.mp hk).1
    unfold mb__law_store_0
    walk_at "vc"
    have fin : ∀ (x : Int) (r : Int), ∃ (cs' : List Int) (dg' : Int) (c' sm' : SV), cs'.length = i + 1 ∧ [d0, SV.fz (.int wide), .own (.lst (cs.map D.int ++ [.int x])), .fz (.int r), .fz (.int k), .fz (.int x)] = [d0, .fz (.int wide), .own (.lst (cs'.map .int)), .fz (.int dg'), c', sm'] := fun x r => ⟨cs ++ [x], r, .fz (.int k), .fz (.int x), by simp [hc], by simp⟩
    have hsz : cs.length < sizeLine := Nat.lt_of_lt_of_le (by omega : cs.length < 1000) (by decide)
    refine ⟨modOk_many hw hw2, fun _ => mix_wp _ _ fun r => ?_, fun _ => mix_wp _ _ fun r => ?_⟩
    · walk_at "vc"
      exact ⟨hsz, fin _ _⟩
    · walk_at "vc"
      exact ⟨hsz, fin _ _⟩
  · rintro ρ ⟨cs, dg, c, sm, hc, rfl⟩
    exact h cs dg c sm
theorem store_wp (ns : List Int) (hl : ns.length ≤ 63) (d : D) (hd : d = .lst (ns.map .int) ∨ d = .seq (ns.map .int)) {Q X} (h : ∀ s : Sto, s.ok → Q (.own s.d) [.un]) : WpC g__law_store [.fz d] Q X := by
  refine c_fin0 (un := List.replicate 5 .un) rfl ?_
  unfold m__law_store
  obtain ⟨ms, hm, hml⟩ := cut_ints ns none (some 63)
  rcases hd with rfl | rfl
  all_goals
    walk_at "vc"
    rw [hm]
    refine store_loop ms (by omega) _ _ (by decide +kernel) (by unfold manyOk; decide +kernel) fun cs dg c sm => ?_
    walk_at "vc"
    exact h ⟨cs, 0, 0, 0, 0, 0, dg⟩ (Int.le_refl 0)
theorem size_wp (s : Sto) (hs : s.ok) (u g : Int) (hu : 1 ≤ u) (hug : u ≤ g) (hg : g < 1000000) {Q X} (h : ∀ (s' : Sto) r, s'.ok → 1 ≤ r → r ≤ g → Q (.fz (.int r)) [.own s'.d, .un, .un]) : WpC g__law_size [.own s.d, .fz (.int u), .fz (.int g)] Q X := by
  have rest : ∀ s : Sto, s.ok → WpS st__law_size_1 [.own s.d, .fz (.int u), .fz (.int g)] (finK [true, false, false] Q fun _ _ => False) := fun s hs => by
    unfold st__law_size_1
    walk_at "vc"
    refine take_wp s hs _ (manyOk_small (by omega) (by omega)) fun s' r h1 h2 h3 h4 => ?_
    walk_at "vc"
    refine h s' _ h1 ?_ ?_ <;> (split <;> omega)
  refine c_fin0 (un := List.replicate 0 .un) rfl ?_
  rw [m__law_size_eq]
  unfold st__law_size_0
  walk_at "vc"
  refine ⟨fun hu2 => rare_wp s hs 6 (by unfold manyOk; decide +kernel) fun s' b h1 => ?_, fun _ => rest s hs⟩
  walk_at "vc"
  cases b
  · walk_at "vc"
    exact rest s' h1
  · walk_at "vc"
    refine take_wp s' h1 _ (manyOk_small (by omega) (by omega)) fun s2 r h1 h2 h3 h4 => ?_
    walk_at "vc"
    exact h s2 _ h1 (by omega) (by omega)
theorem map_erase {α β : Type} (f : α → β) : ∀ (l : List α) (k : Nat), (l.map f).eraseIdx k = (l.eraseIdx k).map f
  | [], k => rfl
  | a :: l, 0 => rfl
  | a :: l, k + 1 => by simp only [List.map_cons, List.eraseIdx_cons_succ, map_erase f l k]
theorem erase_perm {α : Type} : ∀ {l : List α} {k : Nat} {x : α}, l[k]? = some x → (x :: l.eraseIdx k).Perm l
  | [], k, x, h => by simp at h
  | a :: l, 0, x, h => by
    simp at h
    subst h
    exact List.Perm.refl _
  | a :: l, k + 1, x, h => by
    simp only [List.getElem?_cons_succ] at h
    simp only [List.eraseIdx_cons_succ]
    exact (List.Perm.swap _ _ _).trans ((erase_perm h).cons a)
theorem pop_perm {rest found : List Int} {n : Nat} {x : Int} (h : rest[n]? = some x) : (rest.eraseIdx n ++ (found ++ [x])).Perm (rest ++ found) := by
  have hn : n < rest.length := (List.getElem?_eq_some_iff.mp h).1
  have hx : rest[n] = x := (List.getElem?_eq_some_iff.mp h).2
  have p1 : (x :: rest.eraseIdx n).Perm rest := erase_perm h
  have p2 : (rest.eraseIdx n ++ (found ++ [x])).Perm (x :: rest.eraseIdx n ++ found) := by
    rw [← List.append_assoc]
    exact (List.perm_append_singleton _ _).trans (by rw [List.cons_append])
  exact p2.trans (p1.append_right found)
theorem rgI_mem {lo k : Int} {n : Nat} (h : k ∈ rgI lo n) : lo ≤ k ∧ k < lo + n := by
  unfold rgI at h
  rw [List.mem_map] at h
  obtain ⟨a, h1, rfl⟩ := h
  have := List.mem_range.mp h1
  omega
theorem rgI_nodup (lo : Int) (n : Nat) : (rgI lo n).Nodup := by
  unfold rgI
  rw [List.nodup_iff_pairwise_ne, List.pairwise_map]
  exact List.nodup_range.imp fun h e => h (by omega)
theorem order_loop (n : Nat) (hz : n ≤ 1000) (s : Sto) (hs : s.ok) (a b : SV) {K : SR → Prop}
    (h : ∀ (s' : Sto) (ks : List Int) kk rest, s'.ok → ks.Perm (rgI 0 n) → K (.nx [.own s'.d, .fz (.int n), rest, b, kk, .own (.lst (ks.map .int))])) :
    WpL (sto 4) mb__law_order_1 (rgD 0 n) [.own s.d, .fz (.int n), .own (.lst (rgD 0 n)), b, .un, .own (.lst [])] K := by
  refine l_inv (fun i ρ => ∃ (s' : Sto) (rest ks : List Int) (kk : SV), s'.ok ∧ (rest ++ ks).Perm (rgI 0 n) ∧ ks.length = i ∧ ρ = [.own s'.d, .fz (.int n), .own (.lst (rest.map .int)), b, kk, .own (.lst (ks.map .int))])
    ⟨s, rgI 0 n, [], .un, hs, by simp, rfl, by rw [← rgD_map]; rfl⟩ ?_ ?_
  · rintro i d ρ hd ⟨s', rest, ks, kk, h1, hp, hk, rfl⟩
    obtain ⟨hi, rfl⟩ := rg_of hd
    have hlen : rest.length + ks.length = n := by
      have := hp.length_eq
      rw [List.length_append] at this
      rw [this]; simp [rgI]
    unfold mb__law_order_1
    walk_at "vc"
    refine take_wp s' h1 _ (manyOk_small (by omega) (by omega)) fun s2 r h2 r0 r1 r2 => ?_
    have hr : r.toNat < rest.length := by
      by_cases h : (rest.length : Int) < 2
      · rw [r2 h]; show 0 < rest.length; omega
      · have := r1 (by omega); omega
    walk_at "vc"
    rw [ixN_of r0 (by omega)]
    walk_at "vc"
    have hg : (rest.map D.int)[r.toNat]? = some (.int (rest.getD r.toNat 0)) := by simp [hr]
    rw [hg]
    walk_at "vc"
    have hz1 : ks.length < sizeLine := Nat.lt_of_lt_of_le (by omega : ks.length < 1001) (by decide)
    have hz0 : 1001 < sizeLine := by decide
    refine ⟨rgOk_of (by omega) (by omega), hz1, s2, rest.eraseIdx r.toNat, ks ++ [rest.getD r.toNat 0], .fz (.int (0 + (i : Int))), h2, (pop_perm (by simp [hr])).trans hp, by simp [hk], ?_⟩
    rw [map_erase, List.map_append]
    rfl
  · rintro ρ ⟨s', rest, ks, kk, h1, hp, hk, rfl⟩
    rw [rgD_len] at hk
    refine h s' ks kk _ h1 ?_
    have hl := hp.length_eq
    rw [List.length_append] at hl
    have e : rest = [] := List.eq_nil_of_length_eq_zero (by simp [rgI] at hl; omega)
    rw [e] at hp
    exact hp
theorem rgl_ok {n : Nat} (h : n ≤ 1000000) : (rgOk (n : Int) && nlt ((n : Int) - 0).toNat (2 ^ 24 + 1)) = true := by
  rw [rgOk_of (by omega) (by omega), nlt_iff.mpr (show ((n : Int) - 0).toNat < 2 ^ 24 + 1 by omega)]
  rfl
theorem order_wp (s : Sto) (hs : s.ok) (n : Nat) (hz : n ≤ 1000) {Q X} (h : ∀ (s' : Sto) (os : List Int), s'.ok → os.Perm (rgI 0 n) → Q (.own (.lst (os.map .int))) [.own s'.d, .un]) :
    WpC g__law_order [.own s.d, .fz (.int n)] Q X := by
  refine c_fin0 (un := List.replicate 4 .un) rfl ?_
  unfold m__law_order
  walk_at "vc"
  have hz0 : 1001 < sizeLine := by decide
  refine ⟨rgl_ok (by omega), ?_⟩
  refine take_wp s hs _ (manyOk_small (by omega) (by omega)) fun s1 w h1 w0 w1 w2 => ?_
  walk_at "vc"
  have e0 : rgD 0 ((n : Int) - 0).toNat = rgD 0 n := by rw [Int.sub_zero, Int.toNat_natCast]
  rw [e0]
  refine ⟨fun _ => ?_, fun _ => ⟨fun _ => ⟨rgOk_of (by omega) (by omega), ?_⟩, fun _ => ⟨rgOk_of (by omega) (by omega), ?_⟩⟩⟩
  · show Q _ _
    rw [rgD_map]
    exact h s1 _ h1 (List.Perm.refl _)
  · refine m_inv (fun i acc ρ => acc = (List.range i).map (fun k : Nat => D.int ((n : Int) - 1 - k)) ∧ ∃ kk, ρ = [.own s1.d, .fz (.int n), .own (.lst (rgD 0 n)), .fz (.int w), kk, .un]) ⟨rfl, .un, rfl⟩ ?_ ?_
    · rintro i d acc ρ hd ⟨rfl, kk, rfl⟩
      obtain ⟨hi, rfl⟩ := rg_of hd
      unfold me__law_order_0
      walk_at "vc"
      refine ⟨by simp; omega, ?_, _, rfl⟩
      rw [List.range_succ, List.map_append]
      simp
    · rintro acc ρ ⟨rfl, kk, rfl⟩
      rw [rgD_len]
      walk_at "vc"
      have e1 : (List.range n).map (fun k : Nat => D.int ((n : Int) - 1 - k)) = ((List.range n).map (fun k : Nat => (n : Int) - 1 - k)).map D.int := by simp
      rw [e1]
      refine h s1 _ h1 ?_
      have e2 : (List.range n).map (fun k : Nat => (n : Int) - 1 - k) = (rgI 0 n).reverse := by
        apply List.ext_getElem
        · simp [rgI]
        · intro i h1 h2
          simp [rgI] at h1 h2 ⊢
          omega
      rw [e2]
      exact List.reverse_perm _
  · refine order_loop n hz s1 h1 .un (.fz (.int w)) fun s' ks kk rest h2 hp => ?_
    walk_at "vc"
    exact h s' ks h2 hp

/-! mixed lists and tuples -/
def Shal : Nat → D → Prop
  | 0, _ => False
  | n + 1, .lst ds => ds.length < 1000 ∧ ∀ x ∈ ds, Shal n x
  | n + 1, .tup ds => ds.length < 1000 ∧ ∀ x ∈ ds, Shal n x
  | _ + 1, .int _ => True
  | _ + 1, .bl _ => True
  | _ + 1, .str _ => True
  | _ + 1, .non => True
  | _ + 1, _ => False
def MixL (R : D → D → Prop) (ds es : List D) : Prop := es.length = ds.length ∧ ∀ (i : Nat) x y, ds[i]? = some x → es[i]? = some y → R x y
def MixR : Nat → D → D → Prop
  | 0, _, _ => False
  | n + 1, .lst ds, e => ∃ es, MixL (MixR n) ds es ∧ (e = .lst es ∨ e = .tup es)
  | n + 1, .tup ds, e => ∃ es, MixL (MixR n) ds es ∧ (e = .lst es ∨ e = .tup es)
  | _ + 1, d, e => e = d
def MixSV (n : Nat) (d : D) (sv : SV) : Prop := ∃ e, MixR n d e ∧ (sv = .fz e ∨ (sv = .own e ∧ ∃ es, e = .lst es))
theorem mix_loop (n : Nat) (g : Fn) (ds : List D) (hl : ds.length < 1000) (ih : ∀ d ∈ ds, ∀ (s : Sto), s.ok → ∀ {Q : SV → List SV → Prop} {X : Ex → List SV → Prop}, (∀ (s' : Sto) sv, s'.ok → MixSV n d sv → Q sv [.own s'.d, .un]) → WpC g [.own s.d, .fz d] Q X) (s : Sto) (hs : s.ok) (a b : SV) {Q : List D → List SV → Prop}
    (h : ∀ (s' : Sto) es, s'.ok → MixL (MixR n) ds es → Q es [.own s'.d, a, b, .un]) : WpM [3] (sto 3) (DL.ret true) (me__law_mixed_0 g) ds [.own s.d, a, b, .un] [] Q := by
  refine m_inv (fun i acc ρ => ∃ (s' : Sto), s'.ok ∧ MixL (MixR n) (ds.take i) acc ∧ ρ = [.own s'.d, a, b, .un]) ⟨s, hs, ⟨rfl, fun i x y h => by simp at h⟩, rfl⟩ ?_ ?_
  · rintro i d acc ρ hd ⟨s1, h1, hm, rfl⟩
    have hi := (List.getElem?_eq_some_iff.mp hd).1
    have et : ds.take (i + 1) = ds.take i ++ [d] := by rw [List.take_add_one, hd]; rfl
    have hal : acc.length = i := by rw [hm.1, List.length_take]; omega
    unfold me__law_mixed_0
    walk_at "vc"
    refine ih d (List.mem_of_getElem? hd) s1 h1 fun s2 sv h2 hsv => ?_
    have fin : ∀ e, MixR n d e → MixL (MixR n) (ds.take (i + 1)) (acc ++ [e]) := fun e he => by
      rw [et]
      refine ⟨by rw [List.length_append, List.length_append, hm.1]; rfl, fun j x y hx hy => ?_⟩
      rw [List.getElem?_append] at hx hy
      have hj : (ds.take i).length = acc.length := hm.1.symm
      rw [hj] at hx
      split at hx
      · rename_i hlt
        rw [if_pos hlt] at hy
        exact hm.2 j x y hx hy
      · rename_i hlt
        rw [if_neg hlt] at hy
        have : j - acc.length = 0 := by
          have := (List.getElem?_eq_some_iff.mp hx).1
          simp at this
          omega
        rw [this] at hx hy
        simp at hx hy
        subst hx hy
        exact he
    obtain ⟨e, he, hs2⟩ := hsv
    rcases hs2 with rfl | ⟨rfl, es, rfl⟩
    · walk_at "vc"
      exact ⟨Nat.lt_of_lt_of_le (by omega : acc.length < 1000) (by decide), s2, h2, fin e he, rfl⟩
    · walk_at "vc"
      exact ⟨Nat.lt_of_lt_of_le (by omega : acc.length < 1000) (by decide), s2, h2, fin _ he, rfl⟩
  · rintro acc ρ ⟨s1, h1, hm, rfl⟩
    rw [List.take_length] at hm
    exact h s1 acc h1 hm
theorem mixed_seq (n : Nat) (ds : List D) (d : D) (hd : d = .lst ds ∨ d = .tup ds) (hl : ds.length < 1000) (ih : ∀ d ∈ ds, ∀ (s : Sto), s.ok → ∀ {Q : SV → List SV → Prop} {X : Ex → List SV → Prop}, (∀ (s' : Sto) sv, s'.ok → MixSV n d sv → Q sv [.own s'.d, .un]) → WpC (gN__law_mixed n) [.own s.d, .fz d] Q X) (s : Sto) (hs : s.ok) {Q X}
    (h : ∀ (s' : Sto) sv, s'.ok → MixSV (n + 1) d sv → Q sv [.own s'.d, .un]) : WpC (gN__law_mixed (n + 1)) [.own s.d, .fz d] Q X := by
  have mk : ∀ es, MixL (MixR n) ds es → MixR (n + 1) d (.lst es) ∧ MixR (n + 1) d (.tup es) := fun es he => by
    rcases hd with rfl | rfl
    · exact ⟨⟨es, he, .inl rfl⟩, ⟨es, he, .inr rfl⟩⟩
    · exact ⟨⟨es, he, .inl rfl⟩, ⟨es, he, .inr rfl⟩⟩
  refine c_fin0 (un := List.replicate 2 .un) rfl ?_
  unfold m__law_mixed
  rcases hd with rfl | rfl
  all_goals
    walk_at "vc"
    refine mix_loop n _ ds hl ih s hs _ _ fun s1 es h1 he => ?_
    walk_at "vc"
    refine rare_wp s1 h1 2 (by unfold manyOk; decide +kernel) fun s2 b h2 => ?_
    walk_at "vc"
    cases b
    · walk_at "vc"
      exact h s2 _ h2 ⟨_, (mk es he).1, .inr ⟨rfl, _, rfl⟩⟩
    · walk_at "vc"
      exact h s2 _ h2 ⟨_, (mk es he).2, .inl rfl⟩
theorem mixed_atom (n : Nat) (d : D) (hd : (∃ i, d = .int i) ∨ (∃ b, d = .bl b) ∨ (∃ z, d = .str z) ∨ d = .non) (s : Sto) (hs : s.ok) {Q X} (h : Q (.fz d) [.own s.d, .un]) : WpC (gN__law_mixed (n + 1)) [.own s.d, .fz d] Q X := by
  refine c_fin0 (un := List.replicate 2 .un) rfl ?_
  unfold m__law_mixed
  rcases hd with ⟨i, rfl⟩ | ⟨i, rfl⟩ | ⟨i, rfl⟩ | rfl
  all_goals
    walk_at "vc"
    exact h
theorem mixed_wp : ∀ (n : Nat) (d : D), Shal n d → ∀ (s : Sto), s.ok → ∀ {Q : SV → List SV → Prop} {X : Ex → List SV → Prop}, (∀ (s' : Sto) sv, s'.ok → MixSV n d sv → Q sv [.own s'.d, .un]) → WpC (gN__law_mixed n) [.own s.d, .fz d] Q X
  | 0, d, hd, _, _, _, _, _ => hd.elim
  | n + 1, .lst ds, hd, s, hs, Q, X, h => mixed_seq n ds _ (.inl rfl) hd.1 (fun d hm => mixed_wp n d (hd.2 d hm)) s hs h
  | n + 1, .tup ds, hd, s, hs, Q, X, h => mixed_seq n ds _ (.inr rfl) hd.1 (fun d hm => mixed_wp n d (hd.2 d hm)) s hs h
  | n + 1, .int i, hd, s, hs, Q, X, h => mixed_atom n _ (.inl ⟨_, rfl⟩) s hs (h s _ hs ⟨_, rfl, .inl rfl⟩)
  | n + 1, .bl i, hd, s, hs, Q, X, h => mixed_atom n _ (.inr (.inl ⟨_, rfl⟩)) s hs (h s _ hs ⟨_, rfl, .inl rfl⟩)
  | n + 1, .str i, hd, s, hs, Q, X, h => mixed_atom n _ (.inr (.inr (.inl ⟨_, rfl⟩))) s hs (h s _ hs ⟨_, rfl, .inl rfl⟩)
  | n + 1, .non, hd, s, hs, Q, X, h => mixed_atom n _ (.inr (.inr (.inr rfl))) s hs (h s _ hs ⟨_, rfl, .inl rfl⟩)
  | _ + 1, .seq _, hd, _, _, _, _, _ => hd.elim
  | _ + 1, .obj _ _ _, hd, _, _, _, _, _ => hd.elim
  | _ + 1, .dic _ _, hd, _, _, _, _, _ => hd.elim
/-! copies -/
def CpSV (d : D) (sv : SV) : Prop := (sv = .fz d ∧ ∀ ds, d ≠ .lst ds) ∨ ∃ ds, d = .lst ds ∧ sv = .own d
theorem copy_loop (g : Fn) (ds : List D) (hl : ds.length < 1000) (hn : ∀ d ∈ ds, (nolist d = true ∧ ∀ es, d ≠ .lst es) ∨ ∃ es, d = .lst es ∧ nolists es = true) (ih : ∀ d ∈ ds, ∀ {Q : SV → List SV → Prop} {X : Ex → List SV → Prop}, (∀ sv, CpSV d sv → Q sv [.un, .un]) → WpC g [.fz d, .fz (.int 0)] Q X) (a b : SV) {Q : List D → List SV → Prop}
    (h : Q ds [a, .fz (.int 0), b, .un]) : WpM [3] (sto 3) (DL.ret true) (me__law_copy_0 g) ds [a, .fz (.int 0), b, .un] [] Q := by
  refine m_inv (fun i acc ρ => acc = ds.take i ∧ ρ = [a, .fz (.int 0), b, .un]) ⟨rfl, rfl⟩ ?_ ?_
  · rintro i d acc ρ hd ⟨rfl, rfl⟩
    have hi := (List.getElem?_eq_some_iff.mp hd).1
    have et : ds.take (i + 1) = ds.take i ++ [d] := by rw [List.take_add_one, hd]; rfl
    have hz : (ds.take i).length < sizeLine := Nat.lt_of_lt_of_le (by rw [List.length_take]; omega : (ds.take i).length < 1000) (by decide)
    unfold me__law_copy_0
    walk_at "vc"
    have hm := List.mem_of_getElem? hd
    refine ih d hm fun sv hsv => ?_
    rcases hsv with ⟨rfl, h1⟩ | ⟨es, rfl, rfl⟩
    · have h2 : nolist d = true := by
        rcases hn d hm with h | ⟨es, h, _⟩
        · exact h.1
        · exact absurd h (h1 es)
      walk_at "vc"
      simp only [h2, if_true]
      walk_at "vc"
      exact ⟨hz, et.symm⟩
    · have h2 : nolists es = true := by
        rcases hn _ hm with h | ⟨es', h, h3⟩
        · exact absurd rfl (h.2 es)
        · cases h; exact h3
      walk_at "vc"
      simp only [h2, if_true]
      walk_at "vc"
      exact ⟨hz, et.symm⟩
  · rintro acc ρ ⟨rfl, rfl⟩
    rw [List.take_length]
    exact h
theorem copy_seq (n : Nat) (ds : List D) (hl : ds.length < 1000) (hn : ∀ d ∈ ds, (nolist d = true ∧ ∀ es, d ≠ .lst es) ∨ ∃ es, d = .lst es ∧ nolists es = true) (ih : ∀ d ∈ ds, ∀ {Q : SV → List SV → Prop} {X : Ex → List SV → Prop}, (∀ sv, CpSV d sv → Q sv [.un, .un]) → WpC (gN__law_copy n) [.fz d, .fz (.int 0)] Q X) {Q X} :
    (Q (.own (.lst ds)) [.un, .un] → WpC (gN__law_copy (n + 1)) [.fz (.lst ds), .fz (.int 0)] Q X) ∧ (Q (.fz (.tup ds)) [.un, .un] → WpC (gN__law_copy (n + 1)) [.fz (.tup ds), .fz (.int 0)] Q X) := by
  constructor
  all_goals
    intro h
    refine c_fin0 (un := List.replicate 2 .un) rfl ?_
    unfold m__law_copy
    walk_at "vc"
    refine copy_loop _ ds hl hn ih _ _ ?_
    walk_at "vc"
    exact h
theorem copy_atom (n : Nat) (d : D) (hd : ∃ i, d = .int i) {Q X} (h : Q (.fz d) [.un, .un]) : WpC (gN__law_copy (n + 1)) [.fz d, .fz (.int 0)] Q X := by
  refine c_fin0 (io := [false, false]) (m := m__law_copy (gN__law_copy n)) (un := List.replicate 2 .un) rfl ?_
  unfold m__law_copy
  obtain ⟨i, rfl⟩ := hd
  walk_at "vc"
  exact h

/-- a list or tuple of numbers -/
def IntsD (ns : List Int) (d : D) : Prop := d = .lst (ns.map .int) ∨ d = .tup (ns.map .int)
theorem nolists_ints {ns : List Int} : nolists (ns.map D.int) = true := by
  induction ns with
  | nil => rfl
  | cons a ns ih => simpa [nolists, nolist] using ih
theorem ints_cut {ns : List Int} : ∀ d ∈ ns.map D.int, (nolist d = true ∧ ∀ es, d ≠ .lst es) ∨ ∃ es, d = .lst es ∧ nolists es = true := fun d hd => by
  rw [List.mem_map] at hd
  obtain ⟨i, _, rfl⟩ := hd
  exact .inl ⟨rfl, fun es e => by cases e⟩
theorem ints_one {ns : List Int} {d : D} (h : IntsD ns d) : (nolist d = true ∧ ∀ es, d ≠ .lst es) ∨ ∃ es, d = .lst es ∧ nolists es = true := by
  rcases h with rfl | rfl
  · exact .inr ⟨_, rfl, nolists_ints⟩
  · exact .inl ⟨by simpa [nolist] using nolists_ints, fun es e => by cases e⟩
theorem copy_ints (n : Nat) (ns : List Int) (hl : ns.length < 1000) (d : D) (hd : IntsD ns d) {Q X} (h : ∀ sv, CpSV d sv → Q sv [.un, .un]) : WpC (gN__law_copy (n + 2)) [.fz d, .fz (.int 0)] Q X := by
  have key := copy_seq (n + 1) (ns.map D.int) (by simpa using hl) ints_cut (fun d hd Q X h => by
    rw [List.mem_map] at hd
    obtain ⟨i, _, rfl⟩ := hd
    exact copy_atom n _ ⟨i, rfl⟩ (h _ (.inl ⟨rfl, fun es e => by cases e⟩))) (Q := Q) (X := X)
  rcases hd with rfl | rfl
  · exact key.1 (h _ (.inr ⟨_, rfl, rfl⟩))
  · exact key.2 (h _ (.inl ⟨rfl, fun es e => by cases e⟩))
theorem copy_three {a b c : D} {as bs cs : List Int} (ha : IntsD as a) (hb : IntsD bs b) (hc : IntsD cs c) (la : as.length < 1000) (lb : bs.length < 1000) (lc : cs.length < 1000) {Q X} (h : Q (.own (.lst [a, b, c])) [.un, .un]) :
    WpC g__law_copy [.fz (.lst [a, b, c]), .fz (.int 0)] Q X := by
  refine (copy_seq 3 [a, b, c] (by simp) (fun d hd => ?_) (fun d hd Q2 X2 h2 => ?_)).1 h
  · rcases List.mem_cons.mp hd with rfl | hd
    · exact ints_one ha
    rcases List.mem_cons.mp hd with rfl | hd
    · exact ints_one hb
    rcases List.mem_cons.mp hd with rfl | hd
    · exact ints_one hc
    · cases hd
  · rcases List.mem_cons.mp hd with rfl | hd
    · exact copy_ints 1 _ la _ ha h2
    rcases List.mem_cons.mp hd with rfl | hd
    · exact copy_ints 1 _ lb _ hb h2
    rcases List.mem_cons.mp hd with rfl | hd
    · exact copy_ints 1 _ lc _ hc h2
    · cases hd

/-! pairs of indexes -/
def rowP (c : Nat → Nat → Bool) (n h : Nat) : List (Nat × Nat) := ((List.range' (h + 1) (n - (h + 1))).filter (c h)).map fun i => (h, i)
def agP (c : Nat → Nat → Bool) (n : Nat) : List (Nat × Nat) := (List.range n).flatMap (rowP c n)
theorem mem_rowP {c : Nat → Nat → Bool} {n h : Nat} {p : Nat × Nat} : p ∈ rowP c n h ↔ p.1 = h ∧ h < p.2 ∧ p.2 < n ∧ c h p.2 = true := by
  unfold rowP
  rw [List.mem_map]
  constructor
  · rintro ⟨i, hi, rfl⟩
    rw [List.mem_filter, List.mem_range'_1] at hi
    exact ⟨rfl, by omega, by show i < n; omega, hi.2⟩
  · rintro ⟨rfl, h1, h2, h3⟩
    exact ⟨p.2, by rw [List.mem_filter, List.mem_range'_1]; exact ⟨by omega, h3⟩, rfl⟩
theorem mem_agP {c : Nat → Nat → Bool} {n : Nat} {p : Nat × Nat} : p ∈ agP c n ↔ p.1 < p.2 ∧ p.2 < n ∧ c p.1 p.2 = true := by
  unfold agP
  rw [List.mem_flatMap]
  constructor
  · rintro ⟨h, h1, h2⟩
    obtain ⟨rfl, h3⟩ := mem_rowP.mp h2
    exact h3
  · rintro ⟨h1, h2, h3⟩
    exact ⟨p.1, List.mem_range.mpr (by omega), mem_rowP.mpr ⟨rfl, h1, h2, h3⟩⟩
def lexP (p q : Nat × Nat) : Prop := p.1 < q.1 ∨ (p.1 = q.1 ∧ p.2 < q.2)
theorem agP_sorted (c : Nat → Nat → Bool) (n : Nat) : (agP c n).Pairwise lexP := by
  unfold agP
  rw [List.pairwise_flatMap]
  refine ⟨fun h _ => ?_, ?_⟩
  · unfold rowP
    rw [List.pairwise_map]
    refine List.Pairwise.filter _ ?_
    exact (List.pairwise_lt_range' (s := h + 1) (n := n - (h + 1)) (step := 1)).imp fun z => .inr ⟨rfl, z⟩
  · refine List.pairwise_lt_range.imp fun z p hp q hq => ?_
    have h1 := (mem_rowP.mp hp).1
    have h2 := (mem_rowP.mp hq).1
    exact .inl (by omega)
theorem agP_nodup (c : Nat → Nat → Bool) (n : Nat) : (agP c n).Nodup := (agP_sorted c n).imp fun {p q} z e => by
  subst e
  rcases z with z | z <;> omega
/-- the law's way: pairs of the order, late to early -/
def colF (r : Nat → Nat) (l : Nat) : List (Nat × Nat) := ((List.range l).filter fun e => decide (r e < r l)).map fun e => (r e, r l)
def fdP (r : Nat → Nat) (n : Nat) : List (Nat × Nat) := (List.range n).flatMap (colF r)
theorem mem_colF {r : Nat → Nat} {l : Nat} {p : Nat × Nat} : p ∈ colF r l ↔ ∃ e, e < l ∧ r e < r l ∧ p = (r e, r l) := by
  unfold colF
  rw [List.mem_map]
  constructor
  · rintro ⟨e, he, rfl⟩
    rw [List.mem_filter, List.mem_range] at he
    exact ⟨e, he.1, of_decide_eq_true he.2, rfl⟩
  · rintro ⟨e, h1, h2, rfl⟩
    exact ⟨e, by rw [List.mem_filter, List.mem_range]; exact ⟨h1, decide_eq_true h2⟩, rfl⟩
theorem mem_fdP {r : Nat → Nat} {n : Nat} {p : Nat × Nat} : p ∈ fdP r n ↔ ∃ l e, l < n ∧ e < l ∧ r e < r l ∧ p = (r e, r l) := by
  unfold fdP
  rw [List.mem_flatMap]
  constructor
  · rintro ⟨l, h1, h2⟩
    obtain ⟨e, h3⟩ := mem_colF.mp h2
    exact ⟨l, e, List.mem_range.mp h1, h3⟩
  · rintro ⟨l, e, h1, h3⟩
    exact ⟨l, List.mem_range.mpr h1, mem_colF.mpr ⟨e, h3⟩⟩
theorem fdP_nodup {r : Nat → Nat} {n : Nat} (hi : ∀ a b, a < n → b < n → r a = r b → a = b) : (fdP r n).Nodup := by
  unfold fdP
  rw [List.nodup_iff_pairwise_ne, List.pairwise_flatMap]
  refine ⟨fun l hl => ?_, ?_⟩
  · unfold colF
    rw [List.pairwise_map, List.pairwise_filter]
    refine List.Pairwise.imp_of_mem ?_ List.nodup_range
    intro a b ha hb z _ _ e
    rw [List.mem_range] at hl ha hb
    exact z (hi a b (by omega) (by omega) (congrArg Prod.fst e))
  · refine List.Pairwise.imp_of_mem ?_ List.nodup_range
    intro a b ha hb z p hp q hq e
    rw [List.mem_range] at ha hb
    obtain ⟨e1, h1, h2, rfl⟩ := mem_colF.mp hp
    obtain ⟨e2, h3, h4, rfl⟩ := mem_colF.mp hq
    exact z (hi a b ha hb (congrArg Prod.snd e))
/-- r takes the order's places to the row's, s the row's to the order's -/
theorem fdP_perm {r s : Nat → Nat} {n : Nat} (hr : ∀ a, a < n → r a < n) (hs : ∀ a, a < n → s a < n) (hrs : ∀ a, a < n → s (r a) = a) (hsr : ∀ a, a < n → r (s a) = a) : (fdP r n).Perm (agP (fun h i => decide (s h < s i)) n) := by
  have hi : ∀ a b, a < n → b < n → r a = r b → a = b := fun a b ha hb e => by rw [← hrs a ha, ← hrs b hb, e]
  refine (List.perm_ext_iff_of_nodup (fdP_nodup hi) (agP_nodup _ _)).mpr fun p => ?_
  rw [mem_fdP, mem_agP]
  constructor
  · rintro ⟨l, e, h1, h2, h3, rfl⟩
    refine ⟨h3, hr l h1, decide_eq_true ?_⟩
    show s (r e) < s (r l)
    rw [hrs e (by omega), hrs l h1]
    exact h2
  · rintro ⟨h1, h2, h3⟩
    have h3 := of_decide_eq_true h3
    refine ⟨s p.2, s p.1, hs _ h2, h3, ?_, ?_⟩
    · rw [hsr _ h2, hsr _ (by omega)]; exact h1
    · rw [hsr _ h2, hsr _ (by omega)]
theorem filter_mem_len {a b : List (Nat × Nat)} (ha : a.Nodup) (hb : b.Nodup) : (a.filter fun p => decide (p ∈ b)).length = b.length ↔ ∀ p ∈ b, p ∈ a := by
  have e : (a.filter fun p => decide (p ∈ b)).Perm (b.filter fun p => decide (p ∈ a)) := by
    refine (List.perm_ext_iff_of_nodup (ha.filter _) (hb.filter _)).mpr fun p => ?_
    rw [List.mem_filter, List.mem_filter]
    simp [and_comm]
  rw [e.length_eq, List.length_filter_eq_length_iff]
  exact ⟨fun h p hp => of_decide_eq_true (h p hp), fun h p hp => decide_eq_true (h p hp)⟩
/-! places -/
def ixOf (os : List Int) (x : Int) : Nat := os.idxOf x
theorem ixOf_lt {os : List Int} {x : Int} (h : x ∈ os) : ixOf os x < os.length := List.idxOf_lt_length_of_mem h
theorem ixOf_at {os : List Int} (hn : os.Nodup) {k : Nat} {x : Int} (h : os[k]? = some x) : ixOf os x = k := by
  have hk := (List.getElem?_eq_some_iff.mp h).1
  have e := (List.getElem?_eq_some_iff.mp h).2
  rw [← e]
  exact hn.idxOf_getElem k hk
theorem at_ixOf {os : List Int} {x : Int} (h : x ∈ os) : os[ixOf os x]? = some x := by
  exact (List.getElem?_eq_getElem (ixOf_lt h)).trans (congrArg some (List.getElem_idxOf (ixOf_lt h)))
/-! sorted lists of pairs -/
def pd (p : Nat × Nat) : D := .tup [.int p.1, .int p.2]
theorem dle_pd (p q : Nat × Nat) : PySem.W.dataLe false py (pd p) (pd q) = decide (p.1 < q.1 ∨ (p.1 = q.1 ∧ p.2 ≤ q.2)) := by
  have e : ∀ p : Nat × Nat, PySem.W.keyToks (py (pd p)) = [.inl 1, .inl (p.1 : Int), .inl 1, .inl (p.2 : Int), .inl 0] := fun p => by
    simp [pd, py, pys, PySem.W.keyToks, PySem.W.keyToksAll]
  show (!PyProof.Rows.lexLt PyProof.Rows.itemOrd (PySem.W.keyToks (py (pd q))) (PySem.W.keyToks (py (pd p)))) = _
  rw [e, e]
  simp only [PyProof.Rows.lexLt, PyProof.Rows.itemOrd, PyProof.Rows.itemLt]
  rw [Bool.eq_iff_iff]
  simp
  omega
def leP (p q : Nat × Nat) : Bool := PySem.W.dataLe false py (pd p) (pd q)
theorem leP_iff {p q : Nat × Nat} : leP p q = true ↔ (p.1 < q.1 ∨ (p.1 = q.1 ∧ p.2 ≤ q.2)) := by unfold leP; rw [dle_pd, decide_eq_true_eq]
theorem sortD_pd {ps L : List (Nat × Nat)} (h : ps.Perm L) (hL : L.Pairwise lexP) : sortD (ps.map pd) = L.map pd := by
  have e : sortD (ps.map pd) = (ps.mergeSort leP).map pd := by
    unfold sortD
    rw [List.map_mergeSort (r := leP) (s := PySem.W.dataLe false py) (f := pd)]
    intro a _ b _
    rfl
  rw [e]
  congr 1
  refine List.Perm.eq_of_pairwise (le := fun p q => leP p q = true) (fun p q _ _ h1 h2 => ?_) (List.pairwise_mergeSort (fun a b c h1 h2 => ?_) (fun a b => ?_) ps) (hL.imp fun {a b} z => ?_) ((List.mergeSort_perm _ _).trans h)
  · rw [leP_iff] at h1 h2
    exact Prod.ext (by omega) (by omega)
  · rw [leP_iff] at h1 h2 ⊢
    omega
  · rw [Bool.or_eq_true, leP_iff, leP_iff]
    omega
  · rw [leP_iff]
    rcases z with z | z
    · exact .inl z
    · exact .inr (by omega)
theorem nsPd : ∀ {ps : List (Nat × Nat)}, nolists (ps.map pd) = true
  | [] => nsN
  | p :: ps => by rw [List.map_cons, nsC, nsPd]; simp only [pd, nlT, nsC, nlI, nsN]; rfl
theorem plainsPd : ∀ {ps : List (Nat × Nat)}, plains (ps.map pd) = true
  | [] => by simp [plains]
  | p :: ps => by rw [List.map_cons, plains, plainsPd]; simp [pd, plains, DL.plain]
theorem sortOk_pd (ps : List (Nat × Nat)) : sortOk (ps.map pd) = true := by
  have key : ∀ p, py (pd p) = .tuple [.int p.1, .int p.2] := fun p => by simp [pd, py, pys]
  unfold sortOk
  rw [plainsPd, nsPd]
  simp only [Bool.true_and, Bool.and_eq_true, List.all_eq_true, Bool.or_eq_true]
  refine ⟨⟨fun d hd e he => ?_, .inl fun d hd => ?_⟩, fun d hd => ?_⟩
  · obtain ⟨a, _, rfl⟩ := List.mem_map.mp hd
    obtain ⟨b, _, rfl⟩ := List.mem_map.mp he
    rw [key, key]
    simp [PySem.W.alike, PySem.W.alikeAll]
  · obtain ⟨a, _, rfl⟩ := List.mem_map.mp hd
    rfl
  · obtain ⟨a, _, rfl⟩ := List.mem_map.mp hd
    rw [key]
    refine nlt_iff.mpr ?_
    simp [PyData.depth, PyData.depthAll]
theorem eSortGP {ps L : List (Nat × Nat)} (h : ps.Perm L) (hL : L.Pairwise lexP) : fSortG [.lst (ps.map pd)] = some (.newL (L.map pd)) := by
  cases ps with
  | nil =>
    have : L = [] := List.nil_perm.mp h
    subst this
    show fSortG [.lst (([] : List Int).map .int)] = _
    rw [eSortGI]
    unfold sortI
    simp
  | cons p ps =>
    have e1 : intsOf ((p :: ps).map pd) = none := rfl
    have e2 := sortOk_pd (p :: ps)
    have e3 := sortD_pd h hL
    unfold fSortG
    dsimp only
    rw [e1, if_pos e2, e3]

/-! orders of 0 to n - 1 -/
def Ord (n : Nat) (os : List Int) : Prop := os.Perm (rgI 0 n)
theorem Ord.len {n : Nat} {os : List Int} (h : Ord n os) : os.length = n := by rw [h.length_eq]; simp [rgI]
theorem Ord.nd {n : Nat} {os : List Int} (h : Ord n os) : os.Nodup := (h.nodup_iff).mpr (rgI_nodup _ _)
theorem Ord.mem {n : Nat} {os : List Int} (h : Ord n os) {x : Int} : x ∈ os ↔ 0 ≤ x ∧ x < n := by
  rw [h.mem_iff]
  constructor
  · intro z
    have := rgI_mem z
    omega
  · intro z
    unfold rgI
    rw [List.mem_map]
    exact ⟨x.toNat, List.mem_range.mpr (by omega), by omega⟩
theorem Ord.at {n : Nat} {os : List Int} (h : Ord n os) {k : Nat} (hk : k < n) : ∃ x, os[k]? = some x ∧ os.getD k 0 = x ∧ 0 ≤ x ∧ x < n := by
  have hl := h.len
  refine ⟨os[k]'(by omega), by simp [hl, hk], by simp [hl, hk], ?_⟩
  exact h.mem.mp (List.getElem_mem _)
/-- the place of x -/
def pl (os : List Int) (x : Int) : Nat := ixOf os x
theorem Ord.pl_lt {n : Nat} {os : List Int} (h : Ord n os) {x : Int} (h0 : 0 ≤ x) (h1 : x < n) : pl os x < n := by
  have := ixOf_lt (h.mem.mpr ⟨h0, h1⟩)
  rw [h.len] at this
  exact this
/-- the list of places, when the first i of the order are told -/
def plD (os : List Int) (n i : Nat) : List D := (List.range n).map fun (x : Nat) => .int (if pl os x < i then (pl os x : Int) else 0)
theorem plD_at {os : List Int} {n i : Nat} {x : Int} (h0 : 0 ≤ x) (h1 : x < n) (h : pl os x < i) : atI (plD os n i) x = some (.int (pl os x : Nat)) := by
  rw [atI_of h0]
  unfold plD
  rw [List.getElem?_map, List.getElem?_range (by omega)]
  simp [Int.toNat_of_nonneg h0, h]
theorem plD_len {os : List Int} {n i : Nat} : (plD os n i).length = n := by simp [plD]
theorem plD_set {os : List Int} {n i : Nat} (h : Ord n os) {x : Int} (hx : os[i]? = some x) (h0 : 0 ≤ x) (h1 : x < n) : (plD os n i).set x.toNat (.int (i : Nat)) = plD os n (i + 1) := by
  have hp : pl os x = i := ixOf_at h.nd hx
  have g : ∀ i j, j < n → (plD os n i)[j]? = some (.int (if pl os (j : Nat) < i then (pl os (j : Nat) : Int) else 0)) := fun i j hj => by
    unfold plD
    rw [List.getElem?_map, List.getElem?_range hj]
    rfl
  refine List.ext_getElem? fun j => ?_
  rw [List.getElem?_set, plD_len]
  by_cases hj : j < n
  · rw [g _ j hj, g _ j hj]
    split
    · rename_i e
      subst e
      rw [Int.toNat_of_nonneg h0, hp, if_pos hj, if_pos (by omega)]
    · rename_i e
      have hne : pl os (j : Nat) ≠ i := fun z => by
        have hm : ((j : Nat) : Int) ∈ os := h.mem.mpr ⟨by omega, by omega⟩
        have hj := at_ixOf hm
        have e2 : ixOf os (j : Nat) = i := z
        rw [e2, hx] at hj
        cases hj
        simp at e
      have : (pl os (j : Nat) < i + 1) ↔ pl os (j : Nat) < i := by omega
      simp [this]
  · rw [List.getElem?_eq_none (by rw [plD_len]; omega), List.getElem?_eq_none (by rw [plD_len]; omega), if_neg (by omega)]
theorem plD_nil {os : List Int} (n : Nat) : repD [.int 0] (n : Int) = plD os n 0 := by
  unfold repD plD
  simp [List.map_const']
theorem enum_of {ds : List D} {i : Nat} {d : D} (h : (enumD 0 ds)[i]? = some d) : ∃ x, ds[i]? = some x ∧ d = .tup [.int (i : Nat), x] := by
  rw [enumD_get, Option.map_eq_some_iff] at h
  obtain ⟨x, h1, rfl⟩ := h
  exact ⟨x, h1, by rw [Nat.zero_add]⟩
theorem places_loop (os : List Int) (n : Nat) (ho : Ord n os) (d : SV) {K : SR → Prop} (h : ∀ x y, K (.nx [d, .own (.lst (plD os n n)), x, y])) :
    WpL (gTupD 2 (gsCons (sto 2) (gsCons (sto 3) gsNil))) mb_places_in_0 (enumD 0 (os.map .int)) [d, .own (.lst (plD os n 0)), .un, .un] K := by
  refine l_inv (fun i ρ => ∃ x y, ρ = [d, .own (.lst (plD os n i)), x, y]) ⟨.un, .un, rfl⟩ ?_ ?_
  · rintro i e ρ hd ⟨x, y, rfl⟩
    obtain ⟨d2, h1, rfl⟩ := enum_of hd
    obtain ⟨k, rfl, h2⟩ := int_of h1
    have hi : i < os.length := (List.getElem?_eq_some_iff.mp h2).1
    obtain ⟨k0, k1⟩ := ho.mem.mp (List.mem_of_getElem? h2)
    unfold mb_places_in_0
    walk_at "vc"
    rw [plD_len, ixN_of k0 k1]
    walk_at "vc"
    rw [plD_set ho h2 k0 k1]
    exact ⟨_, _, rfl⟩
  · rintro ρ ⟨x, y, rfl⟩
    rw [enumD_len, List.length_map, ho.len]
    exact h x y
theorem rep_ok1 {k : Int} (h0 : 0 ≤ k) (h : k < 1000) : repOk k 1 = true := by
  unfold repOk
  rw [Bool.and_eq_true]
  exact ⟨nlt_iff.mpr (by omega), nlt_iff.mpr (Nat.lt_of_lt_of_le (by omega : 1 * k.toNat < 1000) (by decide))⟩
theorem places_wp (os : List Int) (n : Nat) (hn : n ≤ 100) (ho : Ord n os) (d : D) (hd : IntsD os d) {Q X} (h : Q (.own (.lst (plD os n n))) [.un]) : WpC g_places_in [.fz d] Q X := by
  refine c_fin0 (un := List.replicate 3 .un) rfl ?_
  unfold m_places_in
  rcases hd with rfl | rfl
  all_goals
    walk_at "vc"
    rw [ho.len]
    refine ⟨rep_ok1 (by omega) (by omega), ?_⟩
    rw [plD_nil (os := os)]
    refine places_loop os n ho _ fun x y => ?_
    walk_at "vc"
    exact h

/-! the agreeing pairs -/
def less (os rs : List Int) (h i : Nat) : Bool := decide (pl os (rs.getD h 0) < pl os (rs.getD i 0))
def rowK (c : Nat → Nat → Bool) (h k : Nat) : List (Nat × Nat) := ((List.range' (h + 1) k).filter (c h)).map fun i => (h, i)
def agK (c : Nat → Nat → Bool) (n h : Nat) : List (Nat × Nat) := (List.range h).flatMap (rowP c n)
theorem rowK_succ (c : Nat → Nat → Bool) (h k : Nat) : rowK c h (k + 1) = rowK c h k ++ (if c h (h + 1 + k) = true then [(h, h + 1 + k)] else []) := by
  unfold rowK
  rw [List.range'_1_concat, List.filter_append, List.map_append]
  congr 1
  by_cases e : c h (h + 1 + k) = true <;> simp [e]
theorem rowK_len (c : Nat → Nat → Bool) (h k : Nat) : (rowK c h k).length ≤ k := by
  unfold rowK
  rw [List.length_map]
  refine Nat.le_trans (List.length_filter_le _ _) (by simp)
theorem agK_succ (c : Nat → Nat → Bool) (n h : Nat) : agK c n (h + 1) = agK c n h ++ rowK c h (n - (h + 1)) := by
  unfold agK
  rw [List.range_succ, List.flatMap_append]
  simp [rowP, rowK]
theorem agK_len (c : Nat → Nat → Bool) (n h : Nat) : (agK c n h).length ≤ h * n := by
  induction h with
  | zero => simp [agK]
  | succ h ih =>
    rw [agK_succ, List.length_append, Nat.succ_mul]
    have := rowK_len c h (n - (h + 1))
    omega
def agL (os rs : List Int) (n : Nat) : List (Nat × Nat) := agP (less os rs) n
theorem ints_at {rs : List Int} {n h : Nat} (hr : Ord n rs) (hh : h < n) : atI (rs.map D.int) (h : Int) = some (.int (rs.getD h 0)) := by
  rw [at_ints (Int.natCast_nonneg _) (by rw [hr.len]; omega)]
  simp
theorem pl_at {os rs : List Int} {n h : Nat} (ho : Ord n os) (hr : Ord n rs) (hh : h < n) : atI (plD os n n) (rs.getD h 0) = some (.int (pl os (rs.getD h 0) : Nat)) := by
  obtain ⟨x, _, e, h0, h1⟩ := hr.at hh
  rw [e]
  exact plD_at h0 h1 (ho.pl_lt h0 h1)
theorem sz_of {k : Nat} (h : k ≤ 20000) : k < sizeLine := Nat.lt_of_le_of_lt h (by decide)
theorem nsPl (os : List Int) (n i : Nat) : nolists (plD os n i) = true := by
  have : plD os n i = ((List.range n).map fun (x : Nat) => (if pl os x < i then (pl os x : Int) else 0)).map .int := by unfold plD; rw [List.map_map]; rfl
  rw [this]
  exact nsI
theorem agree_in (os rs : List Int) (n : Nat) (hn : n ≤ 100) (ho : Ord n os) (hr : Ord n rs) (d e : D) (he : IntsD rs e) (h : Nat) (hh : h < n) {Q : List D → List SV → Prop}
    (hq : ∀ x, Q ((agK (less os rs) n (h + 1)).map pd) [.fz d, .fz e, .own (.lst (plD os n n)), .fz (.int n), .fz (.int h), x]) :
    WpM [5] (sto 5) mt_agreeing_pairs_2 me_agreeing_pairs_0 (rgD ((h : Int) + 1) (n - (h + 1))) [.fz d, .fz e, .own (.lst (plD os n n)), .fz (.int n), .fz (.int h), .un] ((agK (less os rs) n h).map pd) Q := by
  refine m_inv (fun i acc ρ => acc = (agK (less os rs) n h ++ rowK (less os rs) h i).map pd ∧ ∃ x, ρ = [.fz d, .fz e, .own (.lst (plD os n n)), .fz (.int n), .fz (.int h), x]) ⟨by simp [rowK], _, rfl⟩ ?_ ?_
  · rintro i f acc ρ hf ⟨rfl, x, rfl⟩
    obtain ⟨hi, rfl⟩ := rg_of hf
    have hi2 : h + 1 + i < n := by omega
    have ei : ((h : Int) + 1 + (i : Nat)) = ((h + 1 + i : Nat) : Int) := by omega
    rw [ei, rowK_succ, ← List.append_assoc, List.map_append]
    have l1 := agK_len (less os rs) n h
    have l2 := rowK_len (less os rs) h i
    have l3 : h * n ≤ 100 * 100 := Nat.mul_le_mul (by omega) hn
    have lz : (agK (less os rs) n h ++ rowK (less os rs) h i).length < sizeLine := sz_of (by rw [List.length_append]; omega)
    unfold mt_agreeing_pairs_2 me_agreeing_pairs_0
    have eb : (decide (((pl os (rs.getD h 0) : Nat) : Int) < ((pl os (rs.getD (h + 1 + i) 0) : Nat) : Int))) = less os rs h (h + 1 + i) := by
      unfold less
      rw [decide_eq_decide]
      omega
    rcases he with rfl | rfl
    all_goals
      walk_at "vc"
      rw [ints_at hr hh]
      walk_at "vc"
      rw [pl_at ho hr hh]
      walk_at "vc"
      rw [ints_at hr hi2]
      walk_at "vc"
      rw [pl_at ho hr hi2]
      walk_at "vc"
      refine ⟨fun hc => ⟨by simpa using lz, ?_⟩, fun hc => ?_⟩
      · have hx : less os rs h (h + 1 + i) = true := by rw [← eb]; exact decide_eq_true hc
        rw [if_pos hx]
        exact ⟨by simp [pd], _, rfl⟩
      · have hx : less os rs h (h + 1 + i) = false := by rw [← eb]; exact decide_eq_false hc
        rw [hx]
        exact ⟨by simp, _, rfl⟩
  · rintro acc ρ ⟨rfl, x, rfl⟩
    rw [rgD_len, ← agK_succ]
    exact hq x
theorem agree_wp (os rs : List Int) (n : Nat) (hn : n ≤ 100) (ho : Ord n os) (hr : Ord n rs) (d e : D) (hd : IntsD os d) (he : IntsD rs e) {Q X} (h : Q (.own (.lst ((agL os rs n).map pd))) [.un, .un]) :
    WpC g_agreeing_pairs [.fz d, .fz e] Q X := by
  refine c_fin0 (un := List.replicate 4 .un) rfl ?_
  unfold m_agreeing_pairs
  walk_at "vc"
  refine places_wp os n hn ho d hd ?_
  walk_at "vc"
  rw [if_pos (nsPl os n n)]
  have he2 := he
  rcases he with rfl | rfl
  all_goals
    walk_at "vc"
    rw [hr.len]
    refine ⟨rgOk_of (by omega) (by omega), ?_⟩
    refine m2_inv (fun h acc ρ => acc = (agK (less os rs) n h).map pd ∧ ∃ x y, ρ = [.fz d, .fz _, .own (.lst (plD os n n)), .fz (.int n), x, y]) ⟨by simp [agK], _, _, rfl⟩ ?_ ?_
    · rintro h f acc ρ hf ⟨rfl, x, y, rfl⟩
      obtain ⟨hh, rfl⟩ := rg_of hf
      have e0 : (0 + (h : Int)) = (h : Int) := by omega
      rw [e0]
      unfold mi_agreeing_pairs_1
      walk_at "vc"
      refine ⟨by rw [rgOk_of (by omega) (by omega), rgOk_of (by omega) (by omega)]; rfl, ?_⟩
      rw [show ((n : Int) - ((h : Int) + 1)).toNat = n - (h + 1) by omega]
      exact agree_in os rs n hn ho hr d _ he2 h hh fun x => ⟨rfl, _, _, rfl⟩
    · rintro acc ρ ⟨rfl, x, y, rfl⟩
      rw [rgD_len]
      walk_at "vc"
      exact h

theorem Ord.pl_inj {n : Nat} {os : List Int} (h : Ord n os) {x y : Int} (hx : 0 ≤ x ∧ x < n) (hy : 0 ≤ y ∧ y < n) (e : pl os x = pl os y) : x = y := by
  have a := at_ixOf (h.mem.mpr hx)
  have b := at_ixOf (h.mem.mpr hy)
  have e2 : ixOf os x = ixOf os y := e
  rw [e2, b] at a
  cases a
  rfl
theorem Ord.get_inj {n : Nat} {rs : List Int} (h : Ord n rs) {i j : Nat} (hi : i < n) (hj : j < n) (e : rs.getD i 0 = rs.getD j 0) : i = j := by
  obtain ⟨x, a, a2, _⟩ := h.at hi
  obtain ⟨y, b, b2, _⟩ := h.at hj
  rw [a2, b2] at e
  subst e
  exact (ixOf_at h.nd a).symm.trans (ixOf_at h.nd b)
theorem agL_not {os rs : List Int} {n : Nat} (ho : Ord n os) (hr : Ord n rs) {p : Nat × Nat} (h1 : p.1 < p.2) (h2 : p.2 < n) : ¬ (pl os (rs.getD p.1 0) > pl os (rs.getD p.2 0)) ↔ p ∈ agL os rs n := by
  unfold agL
  rw [mem_agP]
  obtain ⟨x, a, a2, ax⟩ := hr.at (show p.1 < n by omega)
  obtain ⟨y, b, b2, bx⟩ := hr.at h2
  have hne : pl os (rs.getD p.1 0) ≠ pl os (rs.getD p.2 0) := fun z => by
    rw [a2, b2] at z
    have := ho.pl_inj ax bx z
    rw [← a2, ← b2] at this
    have := hr.get_inj (by omega) h2 this
    omega
  unfold less
  rw [decide_eq_true_eq]
  omega
theorem pd_of {ps : List (Nat × Nat)} {i : Nat} {d : D} (h : (ps.map pd)[i]? = some d) : ∃ p, ps[i]? = some p ∧ d = pd p := by
  rw [List.getElem?_map, Option.map_eq_some_iff] at h
  obtain ⟨p, h1, rfl⟩ := h
  exact ⟨p, h1, rfl⟩
theorem agL_len (os rs : List Int) (n : Nat) (hn : n ≤ 100) : (agL os rs n).length ≤ 10000 := by
  have h1 := agK_len (less os rs) n n
  have h2 : n * n ≤ 100 * 100 := Nat.mul_le_mul hn hn
  exact Nat.le_trans h1 h2
def kind (os ts rs : List Int) (n : Nat) : Bool := decide (∀ p ∈ agL ts rs n, p ∈ agL os rs n)
theorem kinder_loop (os ts rs : List Int) (n : Nat) (hn : n ≤ 100) (ho : Ord n os) (ht : Ord n ts) (hr : Ord n rs) (d e f : D) (hf : IntsD rs f) {Q : SV → List SV → Prop} {X} (h : Q (.fz (.bl (kind os ts rs n))) [.un, .un, .un]) :
    WpL (gTupD 2 (gsCons (sto 4) (gsCons (sto 5) gsNil))) mb_is_kinder_0 ((agL ts rs n).map pd) [.fz d, .fz e, .fz f, .own (.lst (plD os n n)), .un, .un] fun r => match r with
      | .nx ρ' => WpS (mRet (mC (.bl true))) ρ' (finK [false, false, false] Q X)
      | r => finK [false, false, false] Q X r := by
  refine l_inv (fun i ρ => (∀ p ∈ (agL ts rs n).take i, p ∈ agL os rs n) ∧ ∃ x y, ρ = [.fz d, .fz e, .fz f, .own (.lst (plD os n n)), x, y]) ⟨by simp, _, _, rfl⟩ ?_ ?_
  · rintro i g ρ hd ⟨hp, x, y, rfl⟩
    obtain ⟨p, h1, rfl⟩ := pd_of hd
    have hm := List.mem_of_getElem? h1
    obtain ⟨p1, p2, _⟩ := mem_agP.mp hm
    have key := agL_not ho hr p1 p2
    have h3 : p.1 < n := by omega
    unfold mb_is_kinder_0 pd
    rcases hf with rfl | rfl
    all_goals
      walk_at "vc"
      rw [ints_at hr h3]
      walk_at "vc"
      rw [pl_at ho hr h3]
      walk_at "vc"
      rw [ints_at hr p2]
      walk_at "vc"
      rw [pl_at ho hr p2]
      walk_at "vc"
      refine ⟨fun hc => ?_, fun hc => ⟨fun q hq => ?_, _, _, rfl⟩⟩
      · have : kind os ts rs n = false := decide_eq_false fun z => (key.mpr (z p hm)) (by omega)
        rw [← this]
        exact h
      · rw [List.take_add_one, h1] at hq
        rcases List.mem_append.mp hq with hq | hq
        · exact hp q hq
        · have : q = p := by simpa using hq
          rw [this]
          exact key.mp (by omega)
  · rintro ρ ⟨hp, x, y, rfl⟩
    rw [List.length_map, List.take_length] at hp
    walk_at "vc"
    have : kind os ts rs n = true := decide_eq_true hp
    rw [← this]
    exact h
theorem kinder_wp (os ts rs : List Int) (n : Nat) (hn : n ≤ 100) (ho : Ord n os) (ht : Ord n ts) (hr : Ord n rs) (d e f : D) (hd : IntsD os d) (he : IntsD ts e) (hf : IntsD rs f) {Q : SV → List SV → Prop} {X} (h : Q (.fz (.bl (kind os ts rs n))) [.un, .un, .un]) :
    WpC g_is_kinder [.fz d, .fz e, .fz f] Q X := by
  refine c_fin0 (un := List.replicate 3 .un) rfl ?_
  unfold m_is_kinder
  walk_at "vc"
  refine places_wp os n hn ho d hd ?_
  walk_at "vc"
  rw [if_pos (nsPl os n n)]
  walk_at "vc"
  refine agree_wp ts rs n hn ht hr e f he hf ?_
  walk_at "vc"
  rw [if_pos nsPd]
  walk_at "vc"
  exact kinder_loop os ts rs n hn ho ht hr d e f hf h

/-! the law's pairs -/
def colK (r : Nat → Nat) (l k : Nat) : List (Nat × Nat) := ((List.range k).filter fun e => decide (r e < r l)).map fun e => (r e, r l)
def fdK (r : Nat → Nat) (l : Nat) : List (Nat × Nat) := (List.range l).flatMap (colF r)
theorem colK_succ (r : Nat → Nat) (l k : Nat) : colK r l (k + 1) = colK r l k ++ (if r k < r l then [(r k, r l)] else []) := by
  unfold colK
  rw [List.range_succ, List.filter_append, List.map_append]
  congr 1
  by_cases e : r k < r l <;> simp [e]
theorem colK_len (r : Nat → Nat) (l k : Nat) : (colK r l k).length ≤ k := by
  unfold colK
  rw [List.length_map]
  refine Nat.le_trans (List.length_filter_le _ _) (by simp)
theorem fdK_succ (r : Nat → Nat) (l : Nat) : fdK r (l + 1) = fdK r l ++ colK r l l := by
  unfold fdK
  rw [List.range_succ, List.flatMap_append]
  simp [colF, colK]
theorem fdK_len (r : Nat → Nat) (n : Nat) : ∀ {l : Nat}, l ≤ n → (fdK r l).length ≤ l * n
  | 0, _ => by simp [fdK]
  | l + 1, h => by
    rw [fdK_succ, List.length_append, Nat.succ_mul]
    have := colK_len r l l
    have := fdK_len r n (l := l) (by omega)
    omega
theorem agL_perm {os rs : List Int} {n : Nat} (ho : Ord n os) (hr : Ord n rs) : (fdK (fun e => pl rs (os.getD e 0)) n).Perm (agL os rs n) := by
  have lt : ∀ {as bs : List Int}, Ord n as → Ord n bs → ∀ a, a < n → pl as (bs.getD a 0) < n := fun ha hb a h => by
    obtain ⟨x, _, e, h0, h1⟩ := hb.at h
    rw [e]
    exact ha.pl_lt h0 h1
  have bk : ∀ {as bs : List Int}, Ord n as → Ord n bs → ∀ a, a < n → pl bs (as.getD (pl as (bs.getD a 0)) 0) = a := fun ha hb a h => by
    obtain ⟨x, e1, e, h0, h1⟩ := hb.at h
    rw [e]
    have := at_ixOf (ha.mem.mpr ⟨h0, h1⟩)
    rw [List.getD_eq_getElem?_getD, show pl _ x = ixOf _ x from rfl, this]
    exact ixOf_at hb.nd e1
  exact fdP_perm (r := fun e => pl rs (os.getD e 0)) (s := fun h => pl os (rs.getD h 0)) (lt hr ho) (lt ho hr) (bk hr ho) (bk ho hr)
theorem pairs_in (os rs : List Int) (n : Nat) (hn : n ≤ 100) (ho : Ord n os) (hr : Ord n rs) (l : Nat) (hl : l < n) {K : SR → Prop}
    (hq : ∀ x y z, K (.nx [.fz (.lst (os.map .int)), .fz (.lst (rs.map .int)), .own (.lst ((fdK (fun e => pl rs (os.getD e 0)) (l + 1)).map pd)), .fz (.int l), x, y, z])) (x y z : SV) :
    WpL (sto 4) mb__law_pairs_0 (rgD 0 l) [.fz (.lst (os.map .int)), .fz (.lst (rs.map .int)), .own (.lst ((fdK (fun e => pl rs (os.getD e 0)) l).map pd)), .fz (.int l), x, y, z] K := by
  refine l_inv (fun i ρ => ∃ x y z, ρ = [.fz (.lst (os.map .int)), .fz (.lst (rs.map .int)), .own (.lst ((fdK (fun e => pl rs (os.getD e 0)) l ++ colK (fun e => pl rs (os.getD e 0)) l i).map pd)), .fz (.int l), x, y, z]) ⟨x, y, z, by simp [colK]⟩ ?_ ?_
  · rintro i f ρ hf ⟨x, y, z, rfl⟩
    obtain ⟨hi, rfl⟩ := rg_of hf
    have hi2 : i < n := by omega
    rw [show (0 + (i : Int)) = (i : Int) by omega]
    rw [colK_succ, ← List.append_assoc]
    have l1 := fdK_len (fun e => pl rs (os.getD e 0)) n (l := l) (by omega)
    have l2 := colK_len (fun e => pl rs (os.getD e 0)) l i
    have l3 : l * n ≤ 100 * 100 := Nat.mul_le_mul (by omega) hn
    have lz : (fdK (fun e => pl rs (os.getD e 0)) l ++ colK (fun e => pl rs (os.getD e 0)) l i).length < sizeLine := sz_of (by rw [List.length_append]; omega)
    have mem : ∀ a, a < n → os.getD a 0 ∈ rs := fun a h => by
      obtain ⟨x, _, e, h0, h1⟩ := ho.at h
      rw [e]
      exact hr.mem.mpr ⟨h0, h1⟩
    have ix : ∀ a, a < n → fIndex (.lst (rs.map .int)) [.int (os.getD a 0)] = some (.imm (.int (pl rs (os.getD a 0) : Nat))) := fun a h => eIndexI (mem a h)
    unfold mb__law_pairs_0
    walk_at "vc"
    rw [ints_at ho hi2]
    walk_at "vc"
    rw [ix _ hi2]
    walk_at "vc"
    rw [ints_at ho hl]
    walk_at "vc"
    rw [ix _ hl]
    walk_at "vc"
    refine ⟨fun hc => ⟨by simpa using lz, .fz (.int i), .fz (.int (pl rs (os.getD i 0) : Nat)), .fz (.int (pl rs (os.getD l 0) : Nat)), ?_⟩, fun hc => ⟨.fz (.int i), .fz (.int (pl rs (os.getD i 0) : Nat)), .fz (.int (pl rs (os.getD l 0) : Nat)), ?_⟩⟩
    · rw [if_pos (by omega)]
      simp [pd]
    · rw [if_neg (by omega), List.append_nil]
  · rintro ρ ⟨x, y, z, rfl⟩
    rw [rgD_len, ← fdK_succ]
    exact hq _ _ _
theorem pairs_wp (os rs : List Int) (n : Nat) (hn : n ≤ 100) (ho : Ord n os) (hr : Ord n rs) {Q X} (h : Q (.own (.lst ((agL os rs n).map pd))) [.un, .un]) :
    WpC g__law_pairs [.fz (.lst (os.map .int)), .fz (.lst (rs.map .int))] Q X := by
  refine c_fin0 (un := List.replicate 5 .un) rfl ?_
  unfold m__law_pairs
  walk_at "vc"
  rw [ho.len]
  refine ⟨rgOk_of (by omega) (by omega), ?_⟩
  refine l_inv (fun l ρ => ∃ a x y z, ρ = [.fz (.lst (os.map .int)), .fz (.lst (rs.map .int)), .own (.lst ((fdK (fun e => pl rs (os.getD e 0)) l).map pd)), a, x, y, z]) ⟨_, _, _, _, rfl⟩ ?_ ?_
  · rintro l f ρ hf ⟨a, x, y, z, rfl⟩
    obtain ⟨hl, rfl⟩ := rg_of hf
    rw [show (0 + (l : Int)) = (l : Int) by omega]
    unfold mb__law_pairs_1
    walk_at "vc"
    refine ⟨rgOk_of (by omega) (by omega), ?_⟩
    exact pairs_in os rs n hn ho hr l hl (fun x y z => ⟨_, _, _, _, rfl⟩) x y z
  · rintro ρ ⟨a, x, y, z, rfl⟩
    rw [rgD_len]
    walk_at "vc"
    rw [eSortGP (agL_perm ho hr) (agP_sorted _ _)]
    walk_at "vc"
    exact h

/-! equal values -/
mutual
def szD : D → Nat
  | .lst ds => 1 + szDs ds
  | .tup ds => 1 + szDs ds
  | _ => 1
def szDs : List D → Nat
  | [] => 0
  | d :: ds => szD d + szDs ds
end
mutual
def eqOk : D → Bool
  | .lst ds => eqOks ds
  | .tup ds => eqOks ds
  | .int _ => true
  | .bl _ => true
  | .str _ => true
  | .non => true
  | _ => false
def eqOks : List D → Bool
  | [] => true
  | d :: ds => eqOk d && eqOks ds
end
theorem szD_pos (d : D) : 1 ≤ szD d := by cases d <;> simp [szD]
theorem szDs_app : ∀ {as bs : List D}, szDs (as ++ bs) = szDs as + szDs bs
  | [], bs => by simp [szDs]
  | a :: as, bs => by simp [szDs, szDs_app (as := as), Nat.add_assoc]
theorem eqOks_app : ∀ {as bs : List D}, eqOks (as ++ bs) = (eqOks as && eqOks bs)
  | [], bs => by simp [eqOks]
  | a :: as, bs => by simp [eqOks, eqOks_app (as := as), Bool.and_assoc]
theorem szDs_len : ∀ {as : List D}, as.length ≤ szDs as
  | [] => by simp [szDs]
  | a :: as => by
    have := szDs_len (as := as)
    have := szD_pos a
    simp only [szDs, List.length_cons]
    omega
def two (x : D) : D := .tup [x, x]
theorem ne_look (x y z w : Bool) : fNe (.tup [.bl x, .bl y, .bl z, .bl w]) (.tup [.bl x, .bl y, .bl z, .bl w]) = some (.imm (.bl false)) := by
  unfold fNe eqD
  cases x <;> cases y <;> cases z <;> cases w <;> simp [DL.plain, DL.plains, SeqAt.shaped, py, pys, PyData.eqv, PyData.eqvAll]
  all_goals exact ⟨by decide, by decide⟩
theorem eq_atom (d : D) (hd : (∃ i, d = .int i) ∨ (∃ b, d = .bl b) ∨ (∃ z, d = .str z) ∨ d = .non) (st : List D) (a b c p l r k t : SV) {K : SR → Prop} (h : ∀ p l r k t, K (.nx [a, b, .own (.lst (st.map two)), c, p, l, r, k, t])) :
    WpS mb__law_equal_1 [a, b, .own (.lst ((st ++ [d]).map two)), c, p, l, r, k, t] K := by
  rw [mb__law_equal_1_eq]
  unfold sb__law_equal_1_0 sb__law_equal_1_1
  walk_at "vc"
  rw [List.map_append, List.map_cons, List.map_nil]
  refine ⟨fun z => by simp at z; omega, fun _ => ?_⟩
  have e1 : (st.map two ++ [two d])[(st ++ [d]).length - 1]? = some (two d) := by simp
  rw [e1, drop_last]
  unfold two sb__law_equal_1_2 sb__law_equal_1_3 sb__law_equal_1_4 sb__law_equal_1_5 sb__law_equal_1_6
  rcases hd with ⟨i, rfl⟩ | ⟨i, rfl⟩ | ⟨i, rfl⟩ | rfl
  all_goals
    walk_at "vc"
    rw [ne_look]
    walk_at "vc"
    exact h _ _ _ _ _
theorem eq_push (ds : List D) (d : D) (hd : d = .lst ds ∨ d = .tup ds) (st : List D) (hz : (st ++ ds).length ≤ 1000000) (a b c p k t : SV) {K : SR → Prop} (h : ∀ t, K (.nx [a, b, .own (.lst ((st ++ ds).map two)), c, p, .fz d, .fz d, k, t])) :
    WpL (sto 8) mb__law_equal_0 (rgD 0 ds.length) [a, b, .own (.lst (st.map two)), c, p, .fz d, .fz d, k, t] K := by
  refine l_inv (fun i ρ => ∃ t, ρ = [a, b, .own (.lst ((st ++ ds.take i).map two)), c, p, .fz d, .fz d, k, t]) ⟨t, by simp⟩ ?_ ?_
  · rintro i f ρ hf ⟨t, rfl⟩
    obtain ⟨hi, rfl⟩ := rg_of hf
    have ha : atI ds (0 + (i : Int)) = some ds[i] := by
      rw [show (0 : Int) + (i : Int) = (i : Int) by omega, atI_of (by omega)]
      simp [hi]
    have et : ds.take (i + 1) = ds.take i ++ [ds[i]] := by rw [List.take_add_one]; simp [hi]
    have lz : (st ++ ds.take i).length < sizeLine := by
      rw [List.length_append] at hz ⊢
      rw [List.length_take]
      exact Nat.lt_of_le_of_lt (show _ ≤ 1000000 by omega) (by decide)
    unfold mb__law_equal_0
    rcases hd with rfl | rfl
    all_goals
      walk_at "vc"
      rw [ha]
      walk_at "vc"
      rw [ha]
      walk_at "vc"
      refine ⟨by simpa using lz, .fz (.int (0 + (i : Int))), ?_⟩
      rw [et, ← List.append_assoc]
      simp only [List.map_append, List.map_cons, List.map_nil]
      rfl
  · rintro ρ ⟨t, rfl⟩
    rw [rgD_len, List.take_length]
    exact h t
theorem eq_seq (ds : List D) (d : D) (hd : d = .lst ds ∨ d = .tup ds) (st : List D) (hz : (st ++ ds).length ≤ 1000000) (a b c p l r k t : SV) {K : SR → Prop} (h : ∀ p l r k t, K (.nx [a, b, .own (.lst ((st ++ ds).map two)), c, p, l, r, k, t])) :
    WpS mb__law_equal_1 [a, b, .own (.lst ((st ++ [d]).map two)), c, p, l, r, k, t] K := by
  rw [mb__law_equal_1_eq]
  unfold sb__law_equal_1_0 sb__law_equal_1_1
  walk_at "vc"
  rw [List.map_append, List.map_cons, List.map_nil]
  refine ⟨fun z => by simp at z; omega, fun _ => ?_⟩
  have e1 : (st.map two ++ [two d])[(st ++ [d]).length - 1]? = some (two d) := by simp
  rw [e1, drop_last]
  have e2 : st.map two = st.map (fun x => .tup [x, x]) := rfl
  unfold two sb__law_equal_1_2 sb__law_equal_1_3 sb__law_equal_1_4 sb__law_equal_1_5 sb__law_equal_1_6
  rw [← e2]
  have hl : ds.length ≤ 1000000 := by rw [List.length_append] at hz; omega
  have go := fun p k => eq_push ds d hd st hz a b c p k t (K := K) fun t => h _ _ _ _ _
  rcases hd with rfl | rfl
  all_goals
    walk_at "vc"
    rw [ne_look]
    walk_at "vc"
    refine ⟨rgOk_of (by omega) (by omega), ?_⟩
    exact go _ _
theorem snoc_of {α : Type} : ∀ (l : List α), l ≠ [] → ∃ l' x, l = l' ++ [x] := fun l h => ⟨l.dropLast, l.getLast h, (List.dropLast_concat_getLast h).symm⟩
theorem equal_wp (d : D) (hd : eqOk d = true) (hz : szD d < 200000) {Q X} (h : Q (.fz (.bl true)) [.un, .un]) : WpC g__law_equal [.fz d, .fz d] Q X := by

  refine c_fin0 (io := [false, false]) (m := m__law_equal) (un := List.replicate 7 .un) rfl ?_
  unfold m__law_equal
  walk_at "vc"
  refine l_inv (fun i ρ => ∃ st c p l r k t, szDs st + i = szD d ∧ eqOks st = true ∧ ρ = [.fz d, .fz d, .own (.lst (st.map two)), c, p, l, r, k, t]) ⟨[d], _, _, _, _, _, _, by simp [szDs], by simp [eqOks, hd], rfl⟩ ?_ ?_
  · rintro i f ρ hf ⟨st, c, p, l, r, k, t, h1, h2, rfl⟩
    by_cases hs : st = []
    · subst hs
      rw [mb__law_equal_1_eq]
      unfold sb__law_equal_1_0
      walk_at "vc"
      exact h
    · obtain ⟨st, x, rfl⟩ := snoc_of st hs
      rw [szDs_app] at h1
      rw [eqOks_app, Bool.and_eq_true] at h2
      obtain ⟨h2, h3⟩ := h2
      simp only [eqOks, Bool.and_true] at h3
      simp only [szDs, Nat.add_zero] at h1
      have l1 := szDs_len (as := st)
      have atom : szD x = 1 → ((∃ i, x = .int i) ∨ (∃ b, x = .bl b) ∨ (∃ z, x = .str z) ∨ x = .non) → WpO (sto 3 (.fz f) [.fz d, .fz d, .own (.lst ((st ++ [x]).map two)), c, p, l, r, k, t]) fun ρ1 => WpS mb__law_equal_1 ρ1 (turnK (fun ρ => ∃ st c p l r k t, szDs st + (i + 1) = szD d ∧ eqOks st = true ∧ ρ = [.fz d, .fz d, .own (.lst (st.map two)), c, p, l, r, k, t]) (fun r => match r with
          | .nx ρ' => WpS (mRet (mC (.bl false))) ρ' (finK [false, false] Q fun _ _ => False)
          | r => finK [false, false] Q (fun _ _ => False) r)) := fun e hx => by
        walk_at "vc"
        exact eq_atom x hx st _ _ _ _ _ _ _ _ fun p l r k t => ⟨st, _, _, _, _, _, _, by omega, h2, rfl⟩
      have seq : ∀ ds, (x = .lst ds ∨ x = .tup ds) → szD x = 1 + szDs ds → eqOks ds = true → WpO (sto 3 (.fz f) [.fz d, .fz d, .own (.lst ((st ++ [x]).map two)), c, p, l, r, k, t]) fun ρ1 => WpS mb__law_equal_1 ρ1 (turnK (fun ρ => ∃ st c p l r k t, szDs st + (i + 1) = szD d ∧ eqOks st = true ∧ ρ = [.fz d, .fz d, .own (.lst (st.map two)), c, p, l, r, k, t]) (fun r => match r with
          | .nx ρ' => WpS (mRet (mC (.bl false))) ρ' (finK [false, false] Q fun _ _ => False)
          | r => finK [false, false] Q (fun _ _ => False) r)) := fun ds hx e he => by
        walk_at "vc"
        have l2 := szDs_len (as := ds)
        exact eq_seq ds x hx st (by rw [List.length_append]; omega) _ _ _ _ _ _ _ _ fun p l r k t => ⟨st ++ ds, _, _, _, _, _, _, by rw [szDs_app]; omega, by rw [eqOks_app, h2, he]; rfl, rfl⟩
      cases x with
      | int v => exact atom (by simp [szD]) (.inl ⟨_, rfl⟩)
      | bl v => exact atom (by simp [szD]) (.inr (.inl ⟨_, rfl⟩))
      | str v => exact atom (by simp [szD]) (.inr (.inr (.inl ⟨_, rfl⟩)))
      | non => exact atom (by simp [szD]) (.inr (.inr (.inr rfl)))
      | lst ds => exact seq ds (.inl rfl) (by simp [szD]) (by simpa [eqOk] using h3)
      | tup ds => exact seq ds (.inr rfl) (by simp [szD]) (by simpa [eqOk] using h3)
      | _ => simp [eqOk] at h3
  · rintro ρ ⟨st, c, p, l, r, k, t, h1, h2, rfl⟩
    rw [rgD_len] at h1
    omega

/-! orders with neighbours exchanged -/
theorem cut_mid (ms : List Int) (a : Nat) : cutD (ms.map D.int) (some (a : Int)) (some ((a : Int) + 2)) = ((ms.drop a).take 2).map .int := by
  unfold DL.cutD
  rw [show (a : Int) + 2 = ((a + 2 : Nat) : Int) by omega, HT.sIx_nat, HT.sIx_nat, List.map_take, List.map_drop, List.length_map]
  by_cases h : a ≤ ms.length
  · rw [Nat.min_eq_left h]
    by_cases h2 : a + 2 ≤ ms.length
    · rw [Nat.min_eq_left h2, Nat.add_sub_cancel_left]
    · rw [Nat.min_eq_right (by omega), List.take_of_length_le (by simp), List.take_of_length_le (by simp; omega)]
  · rw [List.drop_of_length_le (by simp; omega), List.drop_of_length_le (by simp; omega)]
    simp
theorem cut_from (ms : List Int) (a : Nat) : cutD (ms.map D.int) (some ((a : Int) + 2)) none = (ms.drop (a + 2)).map .int := by
  unfold DL.cutD
  rw [show (a : Int) + 2 = ((a + 2 : Nat) : Int) by omega, HT.sIx_nat, HT.sIx_none, List.map_drop, List.length_map]
  by_cases h : a + 2 ≤ ms.length
  · rw [Nat.min_eq_left h, List.take_of_length_le (by simp)]
  · rw [Nat.min_eq_right (by omega), List.drop_of_length_le (by simp), List.drop_of_length_le (by simp; omega)]
    simp
theorem cut_to (ms : List Int) (a : Nat) : cutD (ms.map D.int) none (some (a : Int)) = (ms.take a).map .int := by
  rw [cutD_take, List.map_take]
theorem swap_perm {ms : List Int} {a : Nat} {x y : Int} (h : (ms.drop a).take 2 = [x, y]) : (ms.take a ++ [y, x] ++ ms.drop (a + 2)).Perm ms := by
  have e : ms = ms.take a ++ [x, y] ++ ms.drop (a + 2) := by
    conv => lhs; rw [← List.take_append_drop a ms, ← List.take_append_drop 2 (ms.drop a), h, List.drop_drop]
    rw [List.append_assoc]
  have p : (ms.take a ++ [y, x] ++ ms.drop (a + 2)).Perm (ms.take a ++ [x, y] ++ ms.drop (a + 2)) :=
    ((List.Perm.swap x y []).append_left _).append_right _
  exact p.trans (List.Perm.of_eq e.symm)
theorem rev2 {x y : Int} : ([D.int x, D.int y] : List D).reverse = [.int y, .int x] := rfl
theorem moved_wp (s : Sto) (hs : s.ok) (os rs : List Int) (n : Nat) (hn : n ≤ 100) (ho : Ord n os) (hr : Ord n rs) (t : Bool) {Q X} (h : ∀ (s' : Sto) ms, s'.ok → Ord n ms → Q (.own (.lst (ms.map .int))) [.own s'.d, .un, .un, .un]) :
    WpC g__law_moved [.own s.d, .fz (.lst (os.map .int)), .fz (.lst (rs.map .int)), .fz (.bl t)] Q X := by
  refine c_fin0 (un := List.replicate 4 .un) rfl ?_
  unfold m__law_moved
  walk_at "vc"
  refine take_wp s hs 4 (manyOk_small (by omega) (by omega)) fun s1 r h1 r0 r1 r2 => ?_
  walk_at "vc"
  have r3 := r1 (by omega)
  refine ⟨rgOk_of (by omega) (by omega), ?_⟩
  refine l_inv (fun i ρ => ∃ (s' : Sto) (ms : List Int) (a b c : SV), s'.ok ∧ Ord n ms ∧ ρ = [.own s'.d, .fz (.lst (os.map .int)), .fz (.lst (rs.map .int)), .fz (.bl t), .own (.lst (ms.map .int)), a, b, c]) ⟨s1, os, _, _, _, h1, ho, rfl⟩ ?_ ?_
  · rintro i f ρ hf ⟨s2, ms, a, b, c, h2, hm, rfl⟩
    unfold mb__law_moved_0
    walk_at "vc"
    rw [hm.len]
    have big : (if (n : Int) - 1 > 1 then (n : Int) - 1 else 1) < 2 ^ 200 := by split <;> omega
    refine take_wp s2 h2 _ (manyOk_small (by split <;> omega) big) fun s3 w h3 v0 v1 v2 => ?_
    obtain ⟨a, rfl⟩ : ∃ a : Nat, w = (a : Int) := ⟨w.toNat, by omega⟩
    walk_at "vc"
    rw [cut_mid]
    have pl2 : ((ms.drop a).take 2).length ≤ 2 := by rw [List.length_take]; omega
    generalize hP : (ms.drop a).take 2 = P at pl2
    by_cases hc : P.length = 2
    · obtain ⟨x, y, rfl⟩ : ∃ x y, P = [x, y] := by
        match P, hc with
        | [x, y], _ => exact ⟨x, y, rfl⟩
      have hx : x ∈ rs := hr.mem.mpr (hm.mem.mp (List.mem_of_mem_drop (List.mem_of_mem_take (by rw [hP]; simp))))
      have hy : y ∈ rs := hr.mem.mpr (hm.mem.mp (List.mem_of_mem_drop (List.mem_of_mem_take (by rw [hP]; simp))))
      walk_at "vc"
      rw [eIndexI hx]
      walk_at "vc"
      rw [eIndexI hy]
      walk_at "vc"
      rw [cut_to, cut_from, rev2]
      have hz : 1000 ≤ sizeLine := by decide
      have hl := hm.len
      refine ⟨⟨fun _ => ⟨?_, ?_, s3, ms.take a ++ [y, x] ++ ms.drop (a + 2), .fz f, .fz (.int (a : Int)), .own (.lst [.int x, .int y]), h3, (swap_perm hP).trans hm, ?_⟩, fun _ => ⟨s3, ms, _, _, _, h3, hm, rfl⟩⟩, fun z => z.elim⟩
      · simp only [List.length_append, List.length_map, List.length_take, List.length_drop, List.length_cons, List.length_nil]
        omega
      · simp only [List.length_append, List.length_map, List.length_take, List.length_drop, List.length_cons, List.length_nil]
        omega
      · rw [List.map_append, List.map_append]
        rfl
    · walk_at "vc"
      refine ⟨fun z => ?_, fun _ => ⟨s3, ms, _, _, _, h3, hm, rfl⟩⟩
      exact absurd (by omega) hc
  · rintro ρ ⟨s2, ms, a, b, c, h2, hm, rfl⟩
    walk_at "vc"
    exact h s2 ms h2 hm

/-! both functions asked -/
def ansD (ps : List (Nat × Nat)) (b : Bool) : D := .lst [.lst (ps.map pd), .bl b]
theorem eqOks_ints : ∀ {ns : List Int}, eqOks (ns.map .int) = true
  | [] => by simp [eqOks]
  | n :: ns => by simp [eqOks, eqOk, eqOks_ints (ns := ns)]
theorem eqOks_pds : ∀ {ps : List (Nat × Nat)}, eqOks (ps.map pd) = true
  | [] => by simp [eqOks]
  | p :: ps => by simp [eqOks, eqOk, pd, eqOks_pds (ps := ps)]
theorem szDs_ints : ∀ {ns : List Int}, szDs (ns.map .int) = ns.length
  | [] => by simp [szDs]
  | n :: ns => by simp [szDs, szD, szDs_ints (ns := ns)]; omega
theorem szDs_pds : ∀ {ps : List (Nat × Nat)}, szDs (ps.map pd) = 3 * ps.length
  | [] => by simp [szDs]
  | p :: ps => by simp [szDs, szD, pd, szDs_pds (ps := ps)]; omega
def pnk (p : Nat × Nat) : NestedKey := .tup [.num p.1, .num p.2]
theorem key_pd (p : Nat × Nat) : keyOf (pd p) = some (pnk p) := by
  have e : nkOf (pd p) = some (pnk p) := by
    unfold pd pnk
    simp [nkOf, nksOf]
  show (nkOf (pd p)).bind (fun k => if k.depth ≤ 8 then some k else none) = _
  rw [e]
  show (if (pnk p).depth ≤ 8 then some (pnk p) else none) = _
  rw [if_pos]
  unfold pnk
  simp [NestedKey.depth, NestedKey.depthAll]
theorem pnk_iff {p q : Nat × Nat} : pnk p = pnk q ↔ p = q := by
  unfold pnk
  constructor
  · intro h
    simp only [NestedKey.tup.injEq, List.cons.injEq, and_true, NestedKey.num.injEq] at h
    exact Prod.ext (by omega) (by omega)
  · rintro rfl; rfl
def tr (n : Nat) : List D := List.replicate n (.bl true)
theorem dix_pd (p : Nat × Nat) : ∀ ps : List (Nat × Nat), ((dixF (pnk p) (ps.map pd)).bind fun i => (tr ps.length)[i]?) = if p ∈ ps then some (.bl true) else none
  | [] => by simp [dixF]
  | q :: ps => by
    simp only [List.map_cons, dixF, key_pd, Option.some.injEq, pnk_iff]
    by_cases h : q = p
    · subst h
      simp [tr, List.replicate_succ]
    · have ih := dix_pd p ps
      have h' : ¬ p = q := fun z => h z.symm
      rw [if_neg h]
      simp only [List.mem_cons, h', false_or]
      rw [← ih]
      cases dixF (pnk p) (ps.map pd) with
      | none => rfl
      | some i => simp [tr, List.replicate_succ]
theorem dget_pd (p : Nat × Nat) (ps : List (Nat × Nat)) : dGet (ps.map pd) (tr ps.length) (pd p) = some (if p ∈ ps then some (.bl true) else none) := by
  unfold dGet
  rw [key_pd]
  exact congrArg some (dix_pd p ps)
theorem dix_none {p : Nat × Nat} : ∀ {ps : List (Nat × Nat)}, p ∉ ps → dixF (pnk p) (ps.map pd) = none
  | [], _ => rfl
  | q :: ps, h => by
    rw [List.mem_cons, not_or] at h
    simp only [List.map_cons, dixF, key_pd, Option.some.injEq, pnk_iff]
    rw [if_neg (fun z => h.1 z.symm), dix_none h.2]
    rfl
theorem dput_pd {p : Nat × Nat} {ps : List (Nat × Nat)} (h : p ∉ ps) (hz : ps.length < sizeLine) : dPut (ps.map pd) (tr ps.length) (pd p) (.bl true) = some ((ps ++ [p]).map pd, tr (ps ++ [p]).length) := by
  unfold dPut
  rw [key_pd]
  simp only [dix_none h]
  rw [if_pos (by simpa using hz)]
  simp [tr, List.replicate_succ']
theorem eListN {ns : List Int} {d : D} (h : IntsD ns d) : fList [d] = some (.newL (ns.map .int)) := by
  rcases h with rfl | rfl <;> rfl
theorem table_loop (ps : List (Nat × Nat)) (hn : ps.Nodup) (hz : ps.length ≤ 10000) (a b c k p o x y z w v : SV) {K : SR → Prop} (h : ∀ q, K (.nx [a, b, c, k, p, o, .box (.dic (ps.map pd) (tr ps.length)), q, y, z, w, v])) :
    WpL (sto 7) mb__law_right_0 (ps.map pd) [a, b, c, k, p, o, .box (.dic [] []), x, y, z, w, v] K := by
  refine l_inv (fun i ρ => ∃ q, ρ = [a, b, c, k, p, o, .box (.dic ((ps.take i).map pd) (tr (ps.take i).length)), q, y, z, w, v]) ⟨x, rfl⟩ ?_ ?_
  · rintro i d ρ hd ⟨q, rfl⟩
    obtain ⟨r, h1, rfl⟩ := pd_of hd
    have hi := (List.getElem?_eq_some_iff.mp h1).1
    have hri := (List.getElem?_eq_some_iff.mp h1).2
    have et : ps.take (i + 1) = ps.take i ++ [r] := by rw [List.take_add_one, h1]; rfl
    have hnot : r ∉ ps.take i := fun hm => by
      obtain ⟨j, hj⟩ := List.getElem?_of_mem hm
      have hj2 : j < i := by
        have := (List.getElem?_eq_some_iff.mp hj).1
        rw [List.length_take] at this
        omega
      rw [List.getElem?_take_of_lt hj2] at hj
      have := List.pairwise_iff_getElem.mp hn j i (by omega) hi hj2
      rw [hri] at this
      exact this ((List.getElem?_eq_some_iff.mp hj).2)
    unfold mb__law_right_0
    walk_at "vc"
    rw [dput_pd hnot (sz_of (by rw [List.length_take]; omega))]
    walk_at "vc"
    rw [et]
    exact ⟨_, rfl⟩
  · rintro ρ ⟨q, rfl⟩
    rw [List.length_map, List.take_length]
    exact h q
theorem pick_snoc {ps : List (Nat × Nat)} {i : Nat} {r : Nat × Nat} (h : ps[i]? = some r) (c : Nat × Nat → Bool) : (ps.take (i + 1)).filter c = (ps.take i).filter c ++ (if c r = true then [r] else []) := by
  rw [List.take_add_one, h, List.filter_append]
  congr 1
  by_cases e : c r = true <;> simp [e]
theorem pick_len (ps : List (Nat × Nat)) (i : Nat) (hz : ps.length ≤ 10000) (c : Nat × Nat → Bool) : ((ps.take i).filter c).length < sizeLine := by
  have := List.length_filter_le c (ps.take i)
  rw [List.length_take] at this
  exact sz_of (by omega)
theorem pick_not (ps ts : List (Nat × Nat)) (hz : ps.length ≤ 10000) (a b c k p y z w v : SV) {Q : List D → List SV → Prop} (h : Q ((ps.filter fun p => !decide (p ∈ ts)).map pd) [a, b, c, k, p, .own (.lst (ps.map pd)), .box (.dic (ts.map pd) (tr ts.length)), .un, y, z, w, v]) :
    WpMV [7] 5 (ps.map pd) (sto 7) mt__law_right_2 me__law_right_1 (ps.map pd) [a, b, c, k, p, .own (.lst (ps.map pd)), .box (.dic (ts.map pd) (tr ts.length)), .un, y, z, w, v] [] Q := by
  refine mv_inv (fun i acc ρ => acc = ((ps.take i).filter fun p => !decide (p ∈ ts)).map pd ∧ ρ = [a, b, c, k, p, .own (.lst (ps.map pd)), .box (.dic (ts.map pd) (tr ts.length)), .un, y, z, w, v]) ⟨by simp, rfl⟩ ?_ ?_ ?_
  · rintro i acc ρ hi ⟨rfl, rfl⟩
    rfl
  · rintro i d acc ρ hd ⟨rfl, rfl⟩
    obtain ⟨r, h1, rfl⟩ := pd_of hd
    have hl := pick_len ps i hz (fun p => !decide (p ∈ ts))
    rw [pick_snoc h1, List.map_append]
    unfold mt__law_right_2 me__law_right_1
    walk_at "vc"
    rw [dget_pd]
    by_cases hm : r ∈ ts
    · rw [if_pos hm]
      simp only [DL.wo_some, Option.isSome_some, Bool.not_true]
      walk_at "vc"
      first
        | simpa [hm] using hl
        | simp [hm, DL.g_true]
    · rw [if_neg hm]
      simp only [DL.wo_some, Option.isSome_none, Bool.not_false]
      walk_at "vc"
      first
        | simpa [hm] using hl
        | simp [hm, DL.g_true]
  · rintro acc ρ ⟨rfl, rfl⟩
    rw [List.length_map, List.take_length]
    exact h
theorem pick_in (ps ts : List (Nat × Nat)) (hz : ps.length ≤ 10000) (a b c k p y z w v : SV) {Q : List D → List SV → Prop} (h : Q ((ps.filter fun p => decide (p ∈ ts)).map pd) [a, b, c, k, p, .own (.lst (ps.map pd)), .box (.dic (ts.map pd) (tr ts.length)), .un, y, z, w, v]) :
    WpMV [7] 5 (ps.map pd) (sto 7) mt__law_right_5 me__law_right_4 (ps.map pd) [a, b, c, k, p, .own (.lst (ps.map pd)), .box (.dic (ts.map pd) (tr ts.length)), .un, y, z, w, v] [] Q := by
  refine mv_inv (fun i acc ρ => acc = ((ps.take i).filter fun p => decide (p ∈ ts)).map pd ∧ ρ = [a, b, c, k, p, .own (.lst (ps.map pd)), .box (.dic (ts.map pd) (tr ts.length)), .un, y, z, w, v]) ⟨by simp, rfl⟩ ?_ ?_ ?_
  · rintro i acc ρ hi ⟨rfl, rfl⟩
    rfl
  · rintro i d acc ρ hd ⟨rfl, rfl⟩
    obtain ⟨r, h1, rfl⟩ := pd_of hd
    have hl := pick_len ps i hz (fun p => decide (p ∈ ts))
    rw [pick_snoc h1, List.map_append]
    unfold mt__law_right_5 me__law_right_4
    walk_at "vc"
    rw [dget_pd]
    by_cases hm : r ∈ ts
    · rw [if_pos hm]
      simp only [DL.wo_some, Option.isSome_some, Bool.not_true]
      walk_at "vc"
      first
        | simpa [hm] using hl
        | simp [hm, DL.g_true]
    · rw [if_neg hm]
      simp only [DL.wo_some, Option.isSome_none, Bool.not_false]
      walk_at "vc"
      first
        | simpa [hm] using hl
        | simp [hm, DL.g_true]
  · rintro acc ρ ⟨rfl, rfl⟩
    rw [List.length_map, List.take_length]
    exact h
theorem right_wp (os ts rs : List Int) (n : Nat) (hn : n ≤ 100) (ho : Ord n os) (ht : Ord n ts) (hr : Ord n rs) (d e f : D) (hd : IntsD os d) (he : IntsD ts e) (hf : IntsD rs f) {Q X} (h : Q (.fz (.bl true)) [.un, .un, .un]) :
    WpC g__law_right [.fz d, .fz e, .fz f] Q X := by
  refine c_fin0 (un := List.replicate 9 .un) rfl ?_
  rw [m__law_right_eq]
  unfold st__law_right_0
  walk_at "vc"
  have l0 := ho.len
  have l1 := ht.len
  have l2 := hr.len
  have cp := fun {Q X} => copy_three (Q := Q) (X := X) hd he hf (by omega) (by omega) (by omega)
  have rest : WpS (mSeq st__law_right_1 (mSeq st__law_right_2 (mSeq st__law_right_3 (mSeq st__law_right_4 (mSeq st__law_right_5 (mSeq st__law_right_6 (mSeq st__law_right_7 (mSeq st__law_right_8 st__law_right_9))))))))
      [.fz d, .fz e, .fz f, .own (.lst [d, e, f]), .un, .un, .un, .un, .un, .un, .un, .un] (finK [false, false, false] Q fun _ _ => False) := by
    unfold st__law_right_1 st__law_right_2
    walk_at "vc"
    rw [eListN hd]
    walk_at "vc"
    rw [eListN hf]
    walk_at "vc"
    refine pairs_wp os rs n hn ho hr ?_
    walk_at "vc"
    rw [if_pos nsPd]
    walk_at "vc"
    rw [eListN he]
    walk_at "vc"
    rw [eListN hf]
    walk_at "vc"
    refine pairs_wp ts rs n hn ht hr ?_
    walk_at "vc"
    rw [if_pos nsPd]
    unfold st__law_right_3 st__law_right_4
    walk_at "vc"
    refine table_loop _ (agP_nodup _ _) (agL_len os rs n hn) _ _ _ _ _ _ _ _ _ _ _ fun q => ?_
    unfold st__law_right_5
    walk_at "vc"
    refine pick_not (agL ts rs n) (agL os rs n) (agL_len ts rs n hn) _ _ _ _ _ _ _ _ _ ?_
    walk_at "vc"
    have ek : (decide ((((agL ts rs n).filter fun p => !decide (p ∈ agL os rs n)).length : Int) = 0)) = kind os ts rs n := by
      unfold kind
      rw [decide_eq_decide, show ((((agL ts rs n).filter fun p => !decide (p ∈ agL os rs n)).length : Int) = 0 ↔ ((agL ts rs n).filter fun p => !decide (p ∈ agL os rs n)).length = 0) by omega, List.length_eq_zero_iff, List.filter_eq_nil_iff]
      simp
    rw [ek]
    have s1 : (agL os rs n).length ≤ 10000 := agL_len os rs n hn
    have s2 : (agL ts rs n).length ≤ 10000 := agL_len ts rs n hn
    unfold st__law_right_6
    walk_at "vc"
    refine l_inv (fun i ρ => ∃ (x y : SV), ρ = [.fz d, .fz e, .fz f, .own (.lst [d, e, f]), .fz (.lst ((agL os rs n).map pd)), .own (.lst ((agL ts rs n).map pd)), .box (.dic ((agL os rs n).map pd) (tr (agL os rs n).length)), .un, .fz (.bl (kind os ts rs n)), x, y, .un]) ⟨_, _, rfl⟩ ?_ ?_
    · rintro i g ρ hg ⟨x, y, rfl⟩
      unfold mb__law_right_3
      walk_at "vc"
      refine agree_wp os rs n hn ho hr d f hd hf ?_
      walk_at "vc"
      rw [if_pos nsPd]
      walk_at "vc"
      refine kinder_wp os ts rs n hn ho ht hr d e f hd he hf ?_
      walk_at "vc"
      refine equal_wp _ (by simp [eqOk, eqOks, eqOks_pds]) (by simp [szD, szDs, szDs_pds]; omega) ?_
      walk_at "vc"
      exact ⟨sz_of (by omega), _, _, rfl⟩
    rintro ρ ⟨x, y, rfl⟩
    unfold st__law_right_7
    walk_at "vc"
    refine pick_in (agL ts rs n) (agL os rs n) s2 _ _ _ _ _ _ _ _ _ ?_
    walk_at "vc"
    have eb : (decide ((((agL ts rs n).filter fun p => decide (p ∈ agL os rs n)).length : Int) = ((agL os rs n).length : Nat))) = kind ts os rs n := by
      unfold kind
      rw [decide_eq_decide]
      have := filter_mem_len (a := agL ts rs n) (b := agL os rs n) (agP_nodup _ _) (agP_nodup _ _)
      rw [← this]
      omega
    rw [eb]
    unfold st__law_right_8 st__law_right_9
    walk_at "vc"
    refine agree_wp ts rs n hn ht hr e f he hf ?_
    walk_at "vc"
    rw [if_pos nsPd]
    walk_at "vc"
    refine kinder_wp ts os rs n hn ht ho hr e d f he hd hf ?_
    walk_at "vc"
    refine equal_wp _ (by simp [eqOk, eqOks, eqOks_pds]) (by simp [szD, szDs, szDs_pds]; omega) ?_
    walk_at "vc"
    have oks : ∀ {ns : List Int} {d : D}, IntsD ns d → eqOk d = true ∧ szD d = 1 + ns.length := fun h => by
      rcases h with rfl | rfl <;> simp [eqOk, eqOks_ints, szD, szDs_ints]
    obtain ⟨o1, z1⟩ := oks hd
    obtain ⟨o2, z2⟩ := oks he
    obtain ⟨o3, z3⟩ := oks hf
    refine equal_wp _ (by simp [eqOk, eqOks, o1, o2, o3]) (by simp [szD, szDs, z1, z2, z3]; omega) ?_
    walk_at "vc"
    exact h
  rw [s_seq] at rest
  refine cp ?_
  walk_at "vc"
  split
  · walk_at "vc"
    exact rest
  · walk_at "vc"
    refine cp ?_
    walk_at "vc"
    exact rest

/-! the law -/
theorem mixI_wp (ns : List Int) (hl : ns.length < 1000) (s : Sto) (hs : s.ok) {Q : SV → List SV → Prop} {X : Ex → List SV → Prop} (hf : ∀ (s' : Sto) e, s'.ok → IntsD ns e → Q (.fz e) [.own s'.d, .un]) (ho : ∀ (s' : Sto), s'.ok → Q (.own (.lst (ns.map .int))) [.own s'.d, .un]) :
    WpC g__law_mixed [.own s.d, .fz (.lst (ns.map .int))] Q X := by
  refine mixed_wp 4 (.lst (ns.map .int)) ⟨by simpa using hl, fun x hx => ?_⟩ s hs fun s' sv h1 ⟨e, he, hsv⟩ => ?_
  · obtain ⟨i, _, rfl⟩ := List.mem_map.mp hx
    trivial
  · obtain ⟨es, hm, hes⟩ := he
    have e1 : es = ns.map .int := by
      refine List.ext_getElem? fun i => ?_
      obtain ⟨m1, m2⟩ := hm
      by_cases hi : i < ns.length
      · have hi2 : i < es.length := by rw [m1]; simpa using hi
        have := m2 i (.int ns[i]) es[i] (by simp [hi]) (by simp [hi2])
        rw [List.getElem?_eq_getElem hi2, this]
        simp [hi]
      · rw [List.getElem?_eq_none (by rw [m1]; simp; omega), List.getElem?_eq_none (by simp; omega)]
    subst e1
    rcases hsv with rfl | ⟨rfl, ds, e2⟩
    · exact hf s' e h1 (by rcases hes with rfl | rfl; exact .inl rfl; exact .inr rfl)
    · rcases hes with rfl | rfl
      · exact ho s' h1
      · cases e2
def caD (c : List Int × List Int) : D := .lst [.lst (c.1.map .int), .lst (c.2.map .int)]
theorem ca_of {cs : List (List Int × List Int)} {i : Nat} {d : D} (h : (cs.map caD)[i]? = some d) : ∃ c, cs[i]? = some c ∧ d = caD c := by
  rw [List.getElem?_map, Option.map_eq_some_iff] at h
  obtain ⟨p, h1, rfl⟩ := h
  exact ⟨p, h1, rfl⟩
theorem law_case (n : Nat) (hn : n ≤ 20) (rs : List Int) (hr : Ord n rs) (cs : List (List Int × List Int)) (hc : ∀ c ∈ cs, Ord n c.1 ∧ Ord n c.2) (s : Sto) (hs : s.ok) (a b c e f g h i j k l : SV) {K : SR → Prop}
    (hk : ∀ (s' : Sto) x, s'.ok → K (.nx [a, .own s'.d, b, c, .fz (.lst (rs.map .int)), e, f, g, h, i, j, x, l])) :
    WpL (sto 11) mb_law_0 (cs.map caD) [a, .own s.d, b, c, .fz (.lst (rs.map .int)), e, f, g, h, i, j, k, l] K := by
  refine l_inv (fun _ ρ => ∃ (s' : Sto) (x : SV), s'.ok ∧ ρ = [a, .own s'.d, b, c, .fz (.lst (rs.map .int)), e, f, g, h, i, j, x, l]) ⟨s, k, hs, rfl⟩ ?_ ?_
  · rintro q d ρ hd ⟨s1, x, h1, rfl⟩
    obtain ⟨⟨os, ts⟩, h2, rfl⟩ := ca_of hd
    obtain ⟨ho, ht⟩ := hc _ (List.mem_of_getElem? h2)
    have ho : Ord n os := ho
    have ht : Ord n ts := ht
    have l0 := ho.len
    have l1 := ht.len
    have l2 := hr.len
    have fin : ∀ (s : Sto) (d e f : D) , s.ok → IntsD os d → IntsD ts e → IntsD rs f → ∀ {Q X}, Q (.fz (.bl true)) [.un, .un, .un] → WpC g__law_right [.fz d, .fz e, .fz f] Q X := fun s d e f _ hd he hf Q X z => right_wp os ts rs n (by omega) ho ht hr d e f hd he hf z
    unfold mb_law_0 caD
    walk_at "vc"
    refine mixI_wp os (by omega) s1 h1 (fun s2 d h2 hd => ?_) fun s2 h2 => ?_
    all_goals
      walk_at "vc"
      refine mixI_wp ts (by omega) s2 h2 (fun s3 e h3 he => ?_) fun s3 h3 => ?_
      all_goals
        walk_at "vc"
        refine mixI_wp rs (by omega) s3 h3 (fun s4 f h4 hf => ?_) fun s4 h4 => ?_
        all_goals
          walk_at "vc"
          refine fin s4 _ _ _ h4 (by first | assumption | exact .inl rfl) (by first | assumption | exact .inl rfl) (by first | assumption | exact .inl rfl) ?_
          walk_at "vc"
          exact ⟨s4, _, h4, rfl⟩
  · rintro ρ ⟨s1, x, h1, rfl⟩
    exact hk s1 x h1
theorem Ord.rev {n : Nat} {os : List Int} (h : Ord n os) : Ord n os.reverse := (List.reverse_perm _).trans h
theorem rev_ints {ns : List Int} : (ns.map D.int).reverse = ns.reverse.map .int := List.map_reverse.symm
theorem law_turn (s : Sto) (hs : s.ok) (a b c e f g h i j k l m n : SV) {K : SR → Prop} (hk : ∀ (s' : Sto) (b c e f g h i j k l m : SV), s'.ok → K (.nx [a, .own s'.d, b, c, e, f, g, h, i, j, k, l, m])) :
    WpS mb_law_1 [a, .own s.d, b, c, e, f, g, h, i, j, k, l, m] K := by
  rw [mb_law_1_eq]
  unfold sb_law_1_0 sb_law_1_1 sb_law_1_2 sb_law_1_3 sb_law_1_4 sb_law_1_5 sb_law_1_6
  walk_at "vc"
  refine size_wp s hs 6 20 (by omega) (by omega) (by omega) fun s1 r h1 r0 r1 => ?_
  obtain ⟨n, rfl⟩ : ∃ n : Nat, r = (n : Int) := ⟨r.toNat, by omega⟩
  walk_at "vc"
  refine order_wp s1 h1 n (by omega) fun s2 rs h2 hr => ?_
  walk_at "vc"
  refine order_wp s2 h2 n (by omega) fun s3 os h3 ho => ?_
  walk_at "vc"
  refine order_wp s3 h3 n (by omega) fun s4 ts h4 ht => ?_
  walk_at "vc"
  refine moved_wp s4 h4 os rs n (by omega) ho hr true fun s5 ks h5 hki => ?_
  walk_at "vc"
  refine moved_wp s5 h5 os rs n (by omega) ho hr false fun s6 us h6 hu => ?_
  walk_at "vc"
  refine moved_wp s6 h6 ks rs n (by omega) hki hr false fun s7 ms h7 hm => ?_
  unfold sb_law_1_7 sb_law_1_8 sb_law_1_9
  walk_at "vc"
  rw [rev_ints]
  have ho : Ord n os := ho
  have ht : Ord n ts := ht
  have hr : Ord n rs := hr
  refine law_case n (by omega) rs hr [(ks, os), (us, os), (ks, us), (ms, os), (os, ts), (rs, os), (rs.reverse, ts), (os, os), (rs, rs.reverse)] (fun c hc => ?_) s7 h7 _ _ _ _ _ _ _ _ _ _ _ fun s8 x h8 => ?_
  · simp only [List.mem_cons, List.not_mem_nil, or_false] at hc
    rcases hc with rfl | rfl | rfl | rfl | rfl | rfl | rfl | rfl | rfl
    · exact ⟨hki, ho⟩
    · exact ⟨hu, ho⟩
    · exact ⟨hki, hu⟩
    · exact ⟨hm, ho⟩
    · exact ⟨ho, ht⟩
    · exact ⟨hr, ho⟩
    · exact ⟨hr.rev, ht⟩
    · exact ⟨ho, ho⟩
    · exact ⟨hr, hr.rev⟩
  unfold sb_law_1_10 sb_law_1_11 sb_law_1_12 sb_law_1_13
  walk_at "vc"
  refine right_wp os ts rs n (by omega) ho ht hr _ _ _ (.inl rfl) (.inl rfl) (.inl rfl) ?_
  walk_at "vc"
  rw [rev_ints]
  refine right_wp os.reverse ts rs n (by omega) ho.rev ht hr _ _ _ (.inl rfl) (.inl rfl) (.inl rfl) ?_
  walk_at "vc"
  rw [rev_ints]
  refine right_wp os ts rs.reverse n (by omega) ho ht hr.rev _ _ _ (.inl rfl) (.inl rfl) (.inl rfl) ?_
  walk_at "vc"
  exact hk _ _ _ _ _ _ _ _ _ _ _ _ h8
theorem law_true (ns : List Int) (hl : ns.length ≤ 63) (d : D) (hd : d = .lst (ns.map .int) ∨ d = .seq (ns.map .int)) : g_law [.fz d] = some (.ok (.fz (.bl true)) [.un]) := by
  have go : WpC g_law [.fz d] (fun r o => r = .fz (.bl true) ∧ o = [.un]) fun _ _ => False := by
    refine c_fin0 (un := List.replicate 12 .un) rfl ?_
    unfold m_law
    have key : ∀ s : Sto, s.ok → WpS (mSeq (mFor (mRange1 (mC (.int 2))) (sto 2) mb_law_1) (mRet (mC (.bl true)))) [.fz d, .own s.d, .un, .un, .un, .un, .un, .un, .un, .un, .un, .un, .un] (finK [false] (fun r o => r = .fz (.bl true) ∧ o = [.un]) fun _ _ => False) := fun s hs => by
      walk_at "vc"
      refine l_inv (fun _ ρ => ∃ (s' : Sto) (b c e f g h i j k l m : SV), s'.ok ∧ ρ = [.fz d, .own s'.d, b, c, e, f, g, h, i, j, k, l, m]) ⟨s, _, _, _, _, _, _, _, _, _, _, _, hs, rfl⟩ ?_ ?_
      · rintro q z ρ hz ⟨s', b, c, e, f, g, h, i, j, k, l, m, h1, rfl⟩
        walk_at "vc"
        exact law_turn s' h1 _ _ _ _ _ _ _ _ _ _ _ _ .un fun s2 b c e f g h i j k l m h2 => ⟨s2, _, _, _, _, _, _, _, _, _, _, _, h2, rfl⟩
      · rintro ρ ⟨s', b, c, e, f, g, h, i, j, k, l, m, h1, rfl⟩
        walk_at "vc"
    rcases hd with rfl | rfl
    all_goals
      walk_at "vc"
      refine store_wp ns hl _ (by first | exact .inl rfl | exact .inr rfl) fun s hs => ?_
      unfold Sto.d
      walk_at "vc"
      refine store_wp ns hl _ (by first | exact .inl rfl | exact .inr rfl) fun s hs => ?_
      walk_at "vc"
      have := key s hs
      rw [s_seq] at this
      exact this
  obtain ⟨r, o, e, rfl, rfl⟩ := c_eq go
  exact e

end
def top (i : Nat) : Stmt := PySem.Challenge.pw_stilltofall_k23_agreeing_pairs.main.body.getD i (.Pass ⟨0, 0, 0, 0⟩)
abbrev s__law_mix : Stmt := top 5
abbrev s__law_store : Stmt := top 6
abbrev s__law_next : Stmt := top 7
abbrev s__law_take : Stmt := top 8
abbrev s__law_rare : Stmt := top 9
abbrev s__law_size : Stmt := top 12
abbrev s__law_order : Stmt := top 13
abbrev s__law_moved : Stmt := top 17
abbrev s__law_copy : Stmt := top 10
abbrev s__law_pairs : Stmt := top 15
abbrev s_places_in : Stmt := top 1
abbrev s_agreeing_pairs : Stmt := top 2
abbrev s__law_equal : Stmt := top 14
abbrev s_is_kinder : Stmt := top 3
abbrev s__law_right : Stmt := top 16
abbrev s__law_mixed : Stmt := top 11
abbrev s_law : Stmt := top 18
structure Bn (mg : Str → Option Value) : Prop where
  abs : mg "abs" = none
  bool : mg "bool" = none
  enumerate : mg "enumerate" = none
  int : mg "int" = none
  isinstance : mg "isinstance" = none
  len : mg "len" = none
  list : mg "list" = none
  max : mg "max" = none
  min : mg "min" = none
  range : mg "range" = none
  sorted : mg "sorted" = none
  str : mg "str" = none
  tuple : mg "tuple" = none

section
variable {P : Program} {w : World} {K : PySem.W.Frag} {mg : Str → Option Value} {base : Heap}
theorem sc__law_mix : FnScope N__law_mix ["one", "two"] (defScope s__law_mix) := ⟨rfl, rfl, rfl, by decide +kernel, rfl, by decide +kernel, by decide +kernel⟩
theorem f__law_mix {f : Addr} {fd : FuncData} (F : Fun K "_law_mix" "_law_mix" s__law_mix f fd) (B : Bn mg) : FnOk P w K mg base CX0 1 f fd ["one", "two"] (spD K 2 g__law_mix) := by
  refine fn_ok0 (k := 0) (N := N__law_mix) (m := m__law_mix) (cvL []) [false, false] F sc__law_mix rfl rfl (by decide) (fun cdv A outer s H E T as vs hr => ?_) (fun as r _ h => h)
  have hp := PassesOwn.never (M := model P w) (A := A.deeper (envOfC "_law_mix" (defScope s__law_mix) s.heap.objs.size f cdv)) (env := envOfC "_law_mix" (defScope s__law_mix) s.heap.objs.size f cdv)
  exact (pd_scons (pd_set (i := 2) (pd_bin op_mod (opS_of opB_mod) (pd_bin opR_add (opS_of opB_add) (pd_bin opR_add (opS_of opB_add) (pd_bin opR_mul (opS_of opB_mul) (pd_biR callB_int (pe_callTy call_int1 rfl B.int b_int (pd_cons (pd_var (pv 0)) pd_nil))) pd_int) (pd_bin opR_mul (opS_of opB_mul) (pd_biR callB_int (pe_callTy call_int1 rfl B.int b_int (pd_cons (pd_var (pv 1)) pd_nil))) pd_int)) pd_int) pd_int) (fun _ h => ps_set sc__law_mix.nd rfl (by first | exact Or.inl rfl | exact Or.inr rfl) h))
      (pd_scons (pd_set (i := 3) (pd_bin op_mod (opS_of opB_mod) (pd_bin opR_add (opS_of opB_add) (pd_bin opR_add (opS_of opB_add) (pd_bin opR_mul (opS_of opB_mul) (pd_var (pv 2)) (pd_var (pv 2))) (pd_bin opR_mul (opS_of opB_mul) (pd_biR callB_int (pe_callTy call_int1 rfl B.int b_int (pd_cons (pd_var (pv 1)) pd_nil))) pd_int)) pd_int) pd_int) (fun _ h => ps_set sc__law_mix.nd rfl (by first | exact Or.inl rfl | exact Or.inr rfl) h))
      (pd_scons (pd_set (i := 4) (pd_bin opR_add (opS_of opB_add) (pd_bin opR_div (opS_of opB_div) (pd_var (pv 3)) pd_int) (pd_bin opR_mul (opS_of opB_mul) (pd_bin op_mod (opS_of opB_mod) (pd_var (pv 3)) pd_int) pd_int)) (fun _ h => ps_set sc__law_mix.nd rfl (by first | exact Or.inl rfl | exact Or.inr rfl) h))
      (pd_sone (pd_ret (pd_bin op_mod (opS_of opB_mod) (pd_bin opR_mul (opS_of opB_mul) (pd_var (pv 4)) pd_int) pd_int))))))
theorem w__law_mix {f : Addr} {fd : FuncData} (F : Fun K "_law_mix" "_law_mix" s__law_mix f fd) (B : Bn mg) (hk : mg "_law_mix" = some (.ref f)) (kp : PySem.W.keepIn K (.ref f) = true) (bi : Binds K fd ["one", "two"] []) : CalD P w K mg base CX0 1 "_law_mix" 2 g__law_mix := ⟨f, fd, _, f__law_mix F B, hk, kp, bi⟩

theorem sc__law_store : FnScope N__law_store ["script"] (defScope s__law_store) := ⟨rfl, rfl, rfl, by decide +kernel, rfl, by decide +kernel, by decide +kernel⟩
theorem f__law_store {f : Addr} {fd : FuncData} (F : Fun K "_law_store" "_law_store" s__law_store f fd) (B : Bn mg) (C__law_mix : CalD P w K mg base CX0 1 "_law_mix" 2 g__law_mix) : FnOk P w K mg base CX0 2 f fd ["script"] (spD K 1 g__law_store) := by
  refine fn_ok0 (k := 1) (N := N__law_store) (m := m__law_store) (cvL []) [false] F sc__law_store rfl rfl (by decide) (fun cdv A outer s H E T as vs hr => ?_) (fun as r _ h => h)
  have hp := PassesOwn.never (M := model P w) (A := A.deeper (envOfC "_law_store" (defScope s__law_store) s.heap.objs.size f cdv)) (env := envOfC "_law_store" (defScope s__law_store) s.heap.objs.size f cdv)
  exact (pd_scons (pd_set (i := 1) (pd_bin op_pow (opS_of opB_pow) pd_int pd_int) (fun _ h => ps_set sc__law_store.nd rfl (by first | exact Or.inl rfl | exact Or.inr rfl) h))
      (pd_scons (pd_set (i := 1) (pd_bin opR_mul (opS_of opB_mul) (pd_bin opR_mul (opS_of opB_mul) (pd_bin opR_mul (opS_of opB_mul) (pd_bin opR_mul (opS_of opB_mul) (pd_var (pv 1)) (pd_var (pv 1))) (pd_var (pv 1))) (pd_var (pv 1))) (pd_var (pv 1))) (fun _ h => ps_set sc__law_store.nd rfl (by first | exact Or.inl rfl | exact Or.inr rfl) h))
      (pd_scons (pd_set (i := 2) (pd_lst pd_nil) (fun _ h => ps_set sc__law_store.nd rfl (by first | exact Or.inl rfl | exact Or.inr rfl) h))
      (pd_scons (pd_set (i := 3) pd_int (fun _ h => ps_set sc__law_store.nd rfl (by first | exact Or.inl rfl | exact Or.inr rfl) h))
      (pd_scons (pd_for hp rfl (pd_seq (pd_sliceA (pd_var (pv 0)) pd_po0 (pd_po pd_int))) (pd_gname (pg_name (i := 4) sc__law_store.nd rfl (by first | exact Or.inl rfl | exact Or.inr rfl))) (pd_scons (pd_set (i := 5) (pd_bin op_mod (opS_of opB_mod) (pd_biR callB_abs (pe_callB call_abs rfl B.abs b_abs (pd_cons (pd_biR callB_int (pe_callTy call_int1 rfl B.int b_int (pd_cons (pd_var (pv 4)) pd_nil))) pd_nil))) (pd_var (pv 1))) (fun _ h => ps_set sc__law_store.nd rfl (by first | exact Or.inl rfl | exact Or.inr rfl) h))
      (pd_scons (pd_if (DL.pt_cmp (opR_lt hr.units0) (opS_of opB_lt) (nomark _) (pd_var (pv 4)) pd_int) (pd_sone (pd_set (i := 3) (pd_bin opR_add (opS_of opB_add) (pd_var (pv 3)) pd_int) (fun _ h => ps_set sc__law_store.nd rfl (by first | exact Or.inl rfl | exact Or.inr rfl) h))) pd_snil)
      (pd_scons (pd_set (i := 3) (pd_callP C__law_mix hr (by decide) passAt0 rfl (pd_cons (pd_var (pv 3)) (pd_cons (pd_var (pv 5)) pd_nil))) (fun _ h => ps_set sc__law_store.nd rfl (by first | exact Or.inl rfl | exact Or.inr rfl) h))
      (pd_sone (pd_expr (pd_meth mtS_append (pd_cons (pd_var (pv 5)) pd_nil) (fun _ h => pe_bm PySem.F.plainAttrs_list PySem.F.slot_list_append PySem.F.type_list_append mt_append (pv 2) h))))))))
      (pd_sone (pd_ret (pd_lst (pd_cons (pd_var (pv 2)) (pd_cons pd_int (pd_cons pd_int (pd_cons pd_int (pd_cons pd_int (pd_cons pd_int (pd_cons (pd_var (pv 3)) pd_nil)))))))))))))))
theorem w__law_store {f : Addr} {fd : FuncData} (F : Fun K "_law_store" "_law_store" s__law_store f fd) (B : Bn mg) (C__law_mix : CalD P w K mg base CX0 1 "_law_mix" 2 g__law_mix) (hk : mg "_law_store" = some (.ref f)) (kp : PySem.W.keepIn K (.ref f) = true) (bi : Binds K fd ["script"] []) : CalD P w K mg base CX0 2 "_law_store" 1 g__law_store := ⟨f, fd, _, f__law_store F B C__law_mix, hk, kp, bi⟩

theorem sc__law_next : FnScope N__law_next ["store"] (defScope s__law_next) := ⟨rfl, rfl, rfl, by decide +kernel, rfl, by decide +kernel, by decide +kernel⟩
theorem f__law_next {f : Addr} {fd : FuncData} (F : Fun K "_law_next" "_law_next" s__law_next f fd) (B : Bn mg) (C__law_mix : CalD P w K mg base CX0 1 "_law_mix" 2 g__law_mix) : FnOk P w K mg base CX0 2 f fd ["store"] (spD K 1 g__law_next) := by
  refine fn_ok0 (k := 1) (N := N__law_next) (m := m__law_next) (cvL []) [true] F sc__law_next rfl rfl (by decide) (fun cdv A outer s H E T as vs hr => ?_) (fun as r _ h => h)
  have hp := PassesOwn.never (M := model P w) (A := A.deeper (envOfC "_law_next" (defScope s__law_next) s.heap.objs.size f cdv)) (env := envOfC "_law_next" (defScope s__law_next) s.heap.objs.size f cdv)
  exact (pd_scons (pd_setAt (pv 0) pd_int pd_int)
      (pd_scons (pd_setAt (pv 0) pd_int pd_int)
      (pd_scons (pd_setAt (pv 0) pd_int (pd_ixX hr.units (pd_var (pv 0)) pd_int))
      (pd_sone (pd_if (DL.pt_cmp (opR_lt hr.units0) (opS_of opB_lt) (nomark _) (pd_ixX hr.units (pd_var (pv 0)) pd_int) (pd_biR callB_len (pe_callB call_len rfl B.len b_len (pd_cons (pd_ixX hr.units (pd_var (pv 0)) pd_int) pd_nil)))) (pd_scons (pd_set (i := 1) (pd_ixX hr.units (pd_var (pv 0)) pd_int) (fun _ h => ps_set sc__law_next.nd rfl (by first | exact Or.inl rfl | exact Or.inr rfl) h))
      (pd_scons (pd_set (i := 2) (pd_ixX hr.units (pd_var (pv 1)) (pd_ixX hr.units (pd_var (pv 0)) pd_int)) (fun _ h => ps_set sc__law_next.nd rfl (by first | exact Or.inl rfl | exact Or.inr rfl) h))
      (pd_scons (pd_setAt (pv 0) pd_int (pd_callP C__law_mix hr (by decide) passAt0 rfl (pd_cons (pd_bin opR_add (opS_of opB_add) (pd_ixX hr.units (pd_var (pv 0)) pd_int) (pd_ixX hr.units (pd_var (pv 0)) pd_int)) (pd_cons (pd_var (pv 2)) pd_nil))))
      (pd_scons (pd_setAt (pv 0) pd_int pd_int)
      (pd_scons (pd_if (DL.pt_cmp op_ge (opS_of opB_cmpI) (nomark _) (pd_var (pv 2)) (pd_bin op_pow (opS_of opB_pow) pd_int pd_int)) (pd_scons (pd_setAt (pv 0) pd_int (pd_var (pv 2)))
      (pd_sone (pd_setAt (pv 0) pd_int pd_int))) pd_snil)
      (pd_sone (pd_setAt (pv 0) pd_int (pd_bin opR_add (opS_of opB_add) (pd_ixX hr.units (pd_var (pv 0)) pd_int) pd_int)))))))) pd_snil)))))
theorem w__law_next {f : Addr} {fd : FuncData} (F : Fun K "_law_next" "_law_next" s__law_next f fd) (B : Bn mg) (C__law_mix : CalD P w K mg base CX0 1 "_law_mix" 2 g__law_mix) (hk : mg "_law_next" = some (.ref f)) (kp : PySem.W.keepIn K (.ref f) = true) (bi : Binds K fd ["store"] []) : CalD P w K mg base CX0 2 "_law_next" 1 g__law_next := ⟨f, fd, _, f__law_next F B C__law_mix, hk, kp, bi⟩

theorem sc__law_take : FnScope N__law_take ["store", "many"] (defScope s__law_take) := ⟨rfl, rfl, rfl, by decide +kernel, rfl, by decide +kernel, by decide +kernel⟩
theorem f__law_take {f : Addr} {fd : FuncData} (F : Fun K "_law_take" "_law_take" s__law_take f fd) (B : Bn mg) (C__law_next : CalD P w K mg base CX0 2 "_law_next" 1 g__law_next) (C__law_mix : CalD P w K mg base CX0 1 "_law_mix" 2 g__law_mix) : FnOk P w K mg base CX0 3 f fd ["store", "many"] (spD K 2 g__law_take) := by
  refine fn_ok0 (k := 2) (N := N__law_take) (m := m__law_take) (cvL []) [true, false] F sc__law_take rfl rfl (by decide) (fun cdv A outer s H E T as vs hr => ?_) (fun as r _ h => h)
  have hp := PassesOwn.never (M := model P w) (A := A.deeper (envOfC "_law_take" (defScope s__law_take) s.heap.objs.size f cdv)) (env := envOfC "_law_take" (defScope s__law_take) s.heap.objs.size f cdv)
  exact (pd_scons (pd_if (DL.pt_cmp (opR_lt hr.units0) (opS_of opB_lt) (nomark _) (pd_var (pv 1)) pd_int) (pd_sone (pd_ret pd_int)) pd_snil)
      (pd_scons (pd_if (PW.pt (pw_dand (DL.pt_cmp (opR_lt hr.units0) (opS_of opB_lt) (nomark _) (pd_ixX hr.units (pd_var (pv 0)) pd_int) pd_int) (pw_dand1 (DL.pt_cmp (opR_lt hr.units0) (opS_of opB_lt) (nomark _) (pd_ixX hr.units (pd_var (pv 0)) pd_int) pd_int)))) (pd_sone (pd_expr (pd_call [true] C__law_next hr (by decide) passAt0 rfl (pd_cons (pd_var (pv 0)) pd_nil)))) pd_snil)
      (pd_scons (pd_if (DL.pt_cmp op_gt (opS_of opB_cmpI) (nomark _) (pd_ixX hr.units (pd_var (pv 0)) pd_int) pd_int) (pd_scons (pd_set (i := 2) (pd_bin op_mod (opS_of opB_mod) (pd_biR callB_int (pe_callTy call_int1 rfl B.int b_int (pd_cons (pd_ixX hr.units (pd_var (pv 0)) pd_int) pd_nil))) (pd_var (pv 1))) (fun _ h => ps_set sc__law_take.nd rfl (by first | exact Or.inl rfl | exact Or.inr rfl) h))
      (pd_scons (pd_setAt (pv 0) pd_int (pd_bin opR_div (opS_of opB_div) (pd_ixX hr.units (pd_var (pv 0)) pd_int) (pd_var (pv 1))))
      (pd_sone (pd_ret (pd_var (pv 2)))))) pd_snil)
      (pd_scons (pd_setAt (pv 0) pd_int (pd_bin op_sub (opS_of opB_sub) (pd_ixX hr.units (pd_var (pv 0)) pd_int) pd_int))
      (pd_scons (pd_setAt (pv 0) pd_int (pd_bin opR_add (opS_of opB_add) (pd_ixX hr.units (pd_var (pv 0)) pd_int) pd_int))
      (pd_scons (pd_set (i := 3) (pd_callP C__law_mix hr (by decide) passAt0 rfl (pd_cons (pd_callP C__law_mix hr (by decide) passAt0 rfl (pd_cons (pd_ixX hr.units (pd_var (pv 0)) pd_int) (pd_cons (pd_ixX hr.units (pd_var (pv 0)) pd_int) pd_nil))) (pd_cons (pd_bin opR_add (opS_of opB_add) (pd_ixX hr.units (pd_var (pv 0)) pd_int) pd_int) pd_nil))) (fun _ h => ps_set sc__law_take.nd rfl (by first | exact Or.inl rfl | exact Or.inr rfl) h))
      (pd_scons (pd_set (i := 4) pd_int (fun _ h => ps_set sc__law_take.nd rfl (by first | exact Or.inl rfl | exact Or.inr rfl) h))
      (pd_scons (pd_for hp rfl (pd_range1 pd_int rfl B.range) (pd_gname (pg_name (i := 5) sc__law_take.nd rfl (by first | exact Or.inl rfl | exact Or.inr rfl))) (pd_sone (pd_if (DL.pt_cmp (opR_lt hr.units0) (opS_of opB_lt) (nomark _) (pd_var (pv 4)) (pd_bin opR_mul (opS_of opB_mul) (pd_var (pv 1)) pd_int)) (pd_scons (pd_set (i := 3) (pd_bin opR_add (opS_of opB_add) (pd_bin opR_mul (opS_of opB_mul) (pd_var (pv 3)) pd_int) (pd_callP C__law_mix hr (by decide) passAt0 rfl (pd_cons (pd_var (pv 3)) (pd_cons (pd_bin opR_add (opS_of opB_add) (pd_bin opR_mul (opS_of opB_mul) (pd_ixX hr.units (pd_var (pv 0)) pd_int) pd_int) (pd_var (pv 5))) pd_nil)))) (fun _ h => ps_set sc__law_take.nd rfl (by first | exact Or.inl rfl | exact Or.inr rfl) h))
      (pd_sone (pd_set (i := 4) (pd_bin opR_mul (opS_of opB_mul) (pd_var (pv 4)) pd_int) (fun _ h => ps_set sc__law_take.nd rfl (by first | exact Or.inl rfl | exact Or.inr rfl) h)))) pd_snil)))
      (pd_sone (pd_ret (pd_bin op_mod (opS_of opB_mod) (pd_biR callB_int (pe_callTy call_int1 rfl B.int b_int (pd_cons (pd_var (pv 3)) pd_nil))) (pd_var (pv 1)))))))))))))
theorem w__law_take {f : Addr} {fd : FuncData} (F : Fun K "_law_take" "_law_take" s__law_take f fd) (B : Bn mg) (C__law_next : CalD P w K mg base CX0 2 "_law_next" 1 g__law_next) (C__law_mix : CalD P w K mg base CX0 1 "_law_mix" 2 g__law_mix) (hk : mg "_law_take" = some (.ref f)) (kp : PySem.W.keepIn K (.ref f) = true) (bi : Binds K fd ["store", "many"] []) : CalD P w K mg base CX0 3 "_law_take" 2 g__law_take := ⟨f, fd, _, f__law_take F B C__law_next C__law_mix, hk, kp, bi⟩

theorem sc__law_rare : FnScope N__law_rare ["store", "many"] (defScope s__law_rare) := ⟨rfl, rfl, rfl, by decide +kernel, rfl, by decide +kernel, by decide +kernel⟩
theorem f__law_rare {f : Addr} {fd : FuncData} (F : Fun K "_law_rare" "_law_rare" s__law_rare f fd) (B : Bn mg) (C__law_take : CalD P w K mg base CX0 3 "_law_take" 2 g__law_take) : FnOk P w K mg base CX0 4 f fd ["store", "many"] (spD K 2 g__law_rare) := by
  refine fn_ok0 (k := 3) (N := N__law_rare) (m := m__law_rare) (cvL []) [true, false] F sc__law_rare rfl rfl (by decide) (fun cdv A outer s H E T as vs hr => ?_) (fun as r _ h => h)
  have hp := PassesOwn.never (M := model P w) (A := A.deeper (envOfC "_law_rare" (defScope s__law_rare) s.heap.objs.size f cdv)) (env := envOfC "_law_rare" (defScope s__law_rare) s.heap.objs.size f cdv)
  exact (pd_sone (pd_ret (pd_cmp (opR_eq hr.units) (opS_of opB_eq) (nomark _) (pd_call [true, false] C__law_take hr (by decide) passAt0 rfl (pd_cons (pd_var (pv 0)) (pd_cons (pd_var (pv 1)) pd_nil))) pd_int)))
theorem w__law_rare {f : Addr} {fd : FuncData} (F : Fun K "_law_rare" "_law_rare" s__law_rare f fd) (B : Bn mg) (C__law_take : CalD P w K mg base CX0 3 "_law_take" 2 g__law_take) (hk : mg "_law_rare" = some (.ref f)) (kp : PySem.W.keepIn K (.ref f) = true) (bi : Binds K fd ["store", "many"] []) : CalD P w K mg base CX0 4 "_law_rare" 2 g__law_rare := ⟨f, fd, _, f__law_rare F B C__law_take, hk, kp, bi⟩

theorem sc__law_size : FnScope N__law_size ["store", "usual", "great"] (defScope s__law_size) := ⟨rfl, rfl, rfl, by decide +kernel, rfl, by decide +kernel, by decide +kernel⟩
theorem f__law_size {f : Addr} {fd : FuncData} (F : Fun K "_law_size" "_law_size" s__law_size f fd) (B : Bn mg) (C__law_rare : CalD P w K mg base CX0 4 "_law_rare" 2 g__law_rare) (C__law_take : CalD P w K mg base CX0 3 "_law_take" 2 g__law_take) : FnOk P w K mg base CX0 5 f fd ["store", "usual", "great"] (spD K 3 g__law_size) := by
  refine fn_ok0 (k := 4) (N := N__law_size) (m := m__law_size) (cvL []) [true, false, false] F sc__law_size rfl rfl (by decide) (fun cdv A outer s H E T as vs hr => ?_) (fun as r _ h => h)
  have hp := PassesOwn.never (M := model P w) (A := A.deeper (envOfC "_law_size" (defScope s__law_size) s.heap.objs.size f cdv)) (env := envOfC "_law_size" (defScope s__law_size) s.heap.objs.size f cdv)
  exact (pd_scons (pd_if (PW.pt (pw_dand (DL.pt_cmp op_gt (opS_of opB_cmpI) (nomark _) (pd_var (pv 2)) (pd_var (pv 1))) (pw_dand1 (pt_tru (pd_call [true, false] C__law_rare hr (by decide) passAt0 rfl (pd_cons (pd_var (pv 0)) (pd_cons pd_int pd_nil))))))) (pd_sone (pd_ret (pd_bin opR_add (opS_of opB_add) (pd_bin opR_add (opS_of opB_add) (pd_var (pv 1)) pd_int) (pd_call [true, false] C__law_take hr (by decide) passAt0 rfl (pd_cons (pd_var (pv 0)) (pd_cons (pd_bin op_sub (opS_of opB_sub) (pd_var (pv 2)) (pd_var (pv 1))) pd_nil)))))) pd_snil)
      (pd_sone (pd_ret (pd_biR callB_min (pe_callB (call_min' rfl) rfl B.min b_min (pd_cons (pd_var (pv 1)) (pd_cons (pd_bin opR_add (opS_of opB_add) pd_int (pd_call [true, false] C__law_take hr (by decide) passAt0 rfl (pd_cons (pd_var (pv 0)) (pd_cons (pd_bin opR_mul (opS_of opB_mul) pd_int (pd_var (pv 1))) pd_nil)))) pd_nil)))))))
theorem w__law_size {f : Addr} {fd : FuncData} (F : Fun K "_law_size" "_law_size" s__law_size f fd) (B : Bn mg) (C__law_rare : CalD P w K mg base CX0 4 "_law_rare" 2 g__law_rare) (C__law_take : CalD P w K mg base CX0 3 "_law_take" 2 g__law_take) (hk : mg "_law_size" = some (.ref f)) (kp : PySem.W.keepIn K (.ref f) = true) (bi : Binds K fd ["store", "usual", "great"] []) : CalD P w K mg base CX0 5 "_law_size" 3 g__law_size := ⟨f, fd, _, f__law_size F B C__law_rare C__law_take, hk, kp, bi⟩

theorem sc__law_order : FnScope N__law_order ["store", "size"] (defScope s__law_order) := ⟨rfl, rfl, rfl, by decide +kernel, rfl, by decide +kernel, by decide +kernel⟩
theorem f__law_order {f : Addr} {fd : FuncData} (F : Fun K "_law_order" "_law_order" s__law_order f fd) (B : Bn mg) (C__law_take : CalD P w K mg base CX0 3 "_law_take" 2 g__law_take) : FnOk P w K mg base CX0 4 f fd ["store", "size"] (spD K 2 g__law_order) := by
  refine fn_ok0 (k := 3) (N := N__law_order) (m := m__law_order) (cvL [4]) [true, false] F sc__law_order rfl rfl (by decide) (fun cdv A outer s H E T as vs hr => ?_) (fun as r _ h => h)
  have hp := PassesOwn.never (M := model P w) (A := A.deeper (envOfC "_law_order" (defScope s__law_order) s.heap.objs.size f cdv)) (env := envOfC "_law_order" (defScope s__law_order) s.heap.objs.size f cdv)
  exact (pd_scons (pd_set (i := 2) (pd_listRg1 rfl rfl B.list rfl B.range (pd_var (pv 1))) (fun _ h => ps_set sc__law_order.nd rfl (by first | exact Or.inl rfl | exact Or.inr rfl) h))
      (pd_scons (pd_set (i := 3) (pd_call [true, false] C__law_take hr (by decide) passAt0 rfl (pd_cons (pd_var (pv 0)) (pd_cons pd_int pd_nil))) (fun _ h => ps_set sc__law_order.nd rfl (by first | exact Or.inl rfl | exact Or.inr rfl) h))
      (pd_scons (pd_if (DL.pt_cmp (opR_eq hr.units) (opS_of opB_eq) (nomark _) (pd_var (pv 3)) pd_int) (pd_sone (pd_ret (pd_var (pv 2)))) pd_snil)
      (pd_scons (pd_if (DL.pt_cmp (opR_eq hr.units) (opS_of opB_eq) (nomark _) (pd_var (pv 3)) pd_int) (pd_sone (pd_ret (pd_lc (own := [("k", 4)]) rfl sc__law_order.nd (pd_range1 (pd_var (pv 1)) rfl B.range) (blkOk_by (own := [("k", 4)]) (N := N__law_order) (sc := defScope s__law_order) (by decide +kernel)) (own1 ⟨rfl, rfl⟩) (fun _ _ _ _ _ => pg_name (i := 4) sc__law_order.nd rfl (by first | exact Or.inl rfl | exact Or.inr rfl)) (cg_name (ns := [4]) ⟨rfl, rfl⟩ List.mem_cons_self) (fun _ _ _ _ _ => pd_yes) (fun _ _ _ _ _ => (pd_bin op_sub (opS_of opB_sub) (pd_bin op_sub (opS_of opB_sub) (pd_var (pv 1)) pd_int) (pd_var (pv 4))))))) pd_snil)
      (pd_scons (pd_set (i := 5) (pd_lst pd_nil) (fun _ h => ps_set sc__law_order.nd rfl (by first | exact Or.inl rfl | exact Or.inr rfl) h))
      (pd_scons (pd_for hp rfl (pd_range1 (pd_var (pv 1)) rfl B.range) (pd_gname (pg_name (i := 4) sc__law_order.nd rfl (by first | exact Or.inl rfl | exact Or.inr rfl))) (pd_sone (pd_expr (pd_meth mtS_append (pd_cons (pd_meth mtS_popAt (pd_cons (pd_call [true, false] C__law_take hr (by decide) passAt0 rfl (pd_cons (pd_var (pv 0)) (pd_cons (pd_biR callB_len (pe_callB call_len rfl B.len b_len (pd_cons (pd_var (pv 2)) pd_nil))) pd_nil))) pd_nil) (fun _ h => pe_bm PySem.F.plainAttrs_list PySem.F.slot_list_pop PySem.F.type_list_pop mt_popAt (pv 2) h)) pd_nil) (fun _ h => pe_bm PySem.F.plainAttrs_list PySem.F.slot_list_append PySem.F.type_list_append mt_append (pv 5) h)))))
      (pd_sone (pd_ret (pd_var (pv 5))))))))))
theorem w__law_order {f : Addr} {fd : FuncData} (F : Fun K "_law_order" "_law_order" s__law_order f fd) (B : Bn mg) (C__law_take : CalD P w K mg base CX0 3 "_law_take" 2 g__law_take) (hk : mg "_law_order" = some (.ref f)) (kp : PySem.W.keepIn K (.ref f) = true) (bi : Binds K fd ["store", "size"] []) : CalD P w K mg base CX0 4 "_law_order" 2 g__law_order := ⟨f, fd, _, f__law_order F B C__law_take, hk, kp, bi⟩

theorem sc__law_moved : FnScope N__law_moved ["store", "order", "row", "toward"] (defScope s__law_moved) := ⟨rfl, rfl, rfl, by decide +kernel, rfl, by decide +kernel, by decide +kernel⟩
theorem f__law_moved {f : Addr} {fd : FuncData} (F : Fun K "_law_moved" "_law_moved" s__law_moved f fd) (B : Bn mg) (C__law_take : CalD P w K mg base CX0 3 "_law_take" 2 g__law_take) : FnOk P w K mg base CX0 4 f fd ["store", "order", "row", "toward"] (spD K 4 g__law_moved) := by
  refine fn_ok0 (k := 3) (N := N__law_moved) (m := m__law_moved) (cvL []) [true, false, false, false] F sc__law_moved rfl rfl (by decide) (fun cdv A outer s H E T as vs hr => ?_) (fun as r _ h => h)
  have hp := PassesOwn.never (M := model P w) (A := A.deeper (envOfC "_law_moved" (defScope s__law_moved) s.heap.objs.size f cdv)) (env := envOfC "_law_moved" (defScope s__law_moved) s.heap.objs.size f cdv)
  exact (pd_scons (pd_set (i := 4) (pd_biR callB_list (pe_callTy call_list_of rfl B.list b_list (pd_cons (pd_var (pv 1)) pd_nil))) (fun _ h => ps_set sc__law_moved.nd rfl (by first | exact Or.inl rfl | exact Or.inr rfl) h))
      (pd_scons (pd_for hp rfl (pd_range1 (pd_call [true, false] C__law_take hr (by decide) passAt0 rfl (pd_cons (pd_var (pv 0)) (pd_cons pd_int pd_nil))) rfl B.range) (pd_gname (pg_name (i := 5) sc__law_moved.nd rfl (by first | exact Or.inl rfl | exact Or.inr rfl))) (pd_scons (pd_set (i := 6) (pd_call [true, false] C__law_take hr (by decide) passAt0 rfl (pd_cons (pd_var (pv 0)) (pd_cons (pd_biR callB_max (pe_callB (call_max' rfl) rfl B.max b_max (pd_cons pd_int (pd_cons (pd_bin op_sub (opS_of opB_sub) (pd_biR callB_len (pe_callB call_len rfl B.len b_len (pd_cons (pd_var (pv 4)) pd_nil))) pd_int) pd_nil)))) pd_nil))) (fun _ h => ps_set sc__law_moved.nd rfl (by first | exact Or.inl rfl | exact Or.inr rfl) h))
      (pd_scons (pd_set (i := 7) (pd_sliceA (pd_var (pv 4)) (pd_po (pd_var (pv 6))) (pd_po (pd_bin opR_add (opS_of opB_add) (pd_var (pv 6)) pd_int))) (fun _ h => ps_set sc__law_moved.nd rfl (by first | exact Or.inl rfl | exact Or.inr rfl) h))
      (pd_sone (pd_if (PW.pt (pw_dand (DL.pt_cmp (opR_eq hr.units) (opS_of opB_eq) (nomark _) (pd_biR callB_len (pe_callB call_len rfl B.len b_len (pd_cons (pd_var (pv 7)) pd_nil))) pd_int) (pw_dand1 (DL.pt_cmp (opR_eq hr.units) (opS_of opB_eq) (nomark _) (pd_cmp op_gt (opS_of opB_cmpI) (nomark _) (pd_index (pd_var (pv 2)) (pd_cons (pd_ixX hr.units (pd_var (pv 7)) pd_int) pd_nil) (fun _ _ h1 h2 => pe_bm PySem.F.plainAttrs_list PySem.F.slot_list_index PySem.F.type_list_index mt_index h1 h2)) (pd_index (pd_var (pv 2)) (pd_cons (pd_ixX hr.units (pd_var (pv 7)) pd_int) pd_nil) (fun _ _ h1 h2 => pe_bm PySem.F.plainAttrs_list PySem.F.slot_list_index PySem.F.type_list_index mt_index h1 h2))) (pd_var (pv 3)))))) (pd_sone (pd_set (i := 4) (pd_bin opR_add (opS_of opB_add) (pd_bin opR_add (opS_of opB_add) (pd_sliceA (pd_var (pv 4)) pd_po0 (pd_po (pd_var (pv 6)))) (pd_rev (pd_var (pv 7)))) (pd_sliceA (pd_var (pv 4)) (pd_po (pd_bin opR_add (opS_of opB_add) (pd_var (pv 6)) pd_int)) pd_po0)) (fun _ h => ps_set sc__law_moved.nd rfl (by first | exact Or.inl rfl | exact Or.inr rfl) h))) pd_snil)))))
      (pd_sone (pd_ret (pd_var (pv 4))))))
theorem w__law_moved {f : Addr} {fd : FuncData} (F : Fun K "_law_moved" "_law_moved" s__law_moved f fd) (B : Bn mg) (C__law_take : CalD P w K mg base CX0 3 "_law_take" 2 g__law_take) (hk : mg "_law_moved" = some (.ref f)) (kp : PySem.W.keepIn K (.ref f) = true) (bi : Binds K fd ["store", "order", "row", "toward"] []) : CalD P w K mg base CX0 4 "_law_moved" 4 g__law_moved := ⟨f, fd, _, f__law_moved F B C__law_take, hk, kp, bi⟩

theorem sc__law_copy : FnScope N__law_copy ["value", "form"] (defScope s__law_copy) := ⟨rfl, rfl, rfl, by decide +kernel, rfl, by decide +kernel, by decide +kernel⟩
theorem f__law_copy {f : Addr} {fd : FuncData} (F : Fun K "_law_copy" "_law_copy" s__law_copy f fd) (B : Bn mg) (hk : mg "_law_copy" = some (.ref f)) (kp : PySem.W.keepIn K (.ref f) = true) (bi : Binds K fd ["value", "form"] []) : ∀ j : Nat, FnOk P w K mg base CX0 (0 + j) f fd ["value", "form"] (spD K 2 (gN__law_copy j))
  | 0 => fn_none rfl
  | j + 1 => by
    have C__law_copy : CalD P w K mg base CX0 (0 + j) "_law_copy" 2 (gN__law_copy j) := ⟨f, fd, _, f__law_copy F B hk kp bi j, hk, kp, bi⟩
    refine fn_ok0 (k := 0 + j) (N := N__law_copy) (m := m__law_copy (gN__law_copy j)) (cvL [3]) [false, false] F sc__law_copy rfl rfl (by decide) (fun cdv A outer s H E T as vs hr => ?_) (fun as r _ h => h)
    have hp := PassesOwn.never (M := model P w) (A := A.deeper (envOfC "_law_copy" (defScope s__law_copy) s.heap.objs.size f cdv)) (env := envOfC "_law_copy" (defScope s__law_copy) s.heap.objs.size f cdv)
    exact (pd_scons (pd_if (pt_dnot (pt_tru (pd_isiT (T1 := .lst) (T2 := .tup) (pd_var (pv 0)) (pa_cons (pe_bltn rfl B.list b_list rfl) (pa_cons (pe_bltn rfl B.tuple b_tuple rfl) pa_nil)) rfl rfl rfl (fun _ h => pe_callB call_isiT rfl B.isinstance b_isinstance h)))) (pd_sone (pd_ret (pd_var (pv 0)))) pd_snil)
      (pd_scons (pd_setLc (i := 2) (own := [("part", 3)]) rfl sc__law_copy.nd rfl rfl (sw_true rfl rfl rfl (by decide +kernel)) (pd_seq (pd_var (pv 0))) (blkOk_by (own := [("part", 3)]) (N := N__law_copy) (sc := defScope s__law_copy) (by decide +kernel)) (own1 ⟨rfl, rfl⟩) (fun _ _ _ _ _ => pg_name (i := 3) sc__law_copy.nd rfl (by first | exact Or.inl rfl | exact Or.inr rfl)) (cg_name (ns := [3]) ⟨rfl, rfl⟩ List.mem_cons_self) (fun _ _ _ _ _ => pd_yes) (fun _ _ _ _ _ => (pd_callP C__law_copy hr (Nat.le_refl _) passAt0 rfl (pd_cons (pd_var (pv 3)) (pd_cons (pd_var (pv 1)) pd_nil)))))
      (pd_scons (pd_if (PW.pt (pw_dor (DL.pt_cmp (opR_eq hr.units) (opS_of opB_eq) (nomark _) (pd_var (pv 1)) pd_int) (pw_dor1 (PW.pt (pw_dand (DL.pt_cmp (opR_eq hr.units) (opS_of opB_eq) (nomark _) (pd_var (pv 1)) pd_int) (pw_dand1 (pt_tru (pd_isi1 (T := .tup) (pd_var (pv 0)) (pe_bltn rfl B.tuple b_tuple rfl) rfl B.isinstance b_isinstance rfl (by decide) rfl rfl (fun _ h => pe_callB call_isi rfl B.isinstance b_isinstance h))))))))) (pd_sone (pd_ret (pd_biR callB_tuple (pe_callTy call_tuple_of rfl B.tuple b_tuple (pd_cons (pd_var (pv 2)) pd_nil))))) pd_snil)
      (pd_sone (pd_ret (pd_var (pv 2)))))))
theorem w__law_copy {f : Addr} {fd : FuncData} (F : Fun K "_law_copy" "_law_copy" s__law_copy f fd) (B : Bn mg) (hk : mg "_law_copy" = some (.ref f)) (kp : PySem.W.keepIn K (.ref f) = true) (bi : Binds K fd ["value", "form"] []) : CalD P w K mg base CX0 4 "_law_copy" 2 g__law_copy := ⟨f, fd, _, f__law_copy F B hk kp bi 4, hk, kp, bi⟩

theorem sc__law_pairs : FnScope N__law_pairs ["order", "row"] (defScope s__law_pairs) := ⟨rfl, rfl, rfl, by decide +kernel, rfl, by decide +kernel, by decide +kernel⟩
theorem f__law_pairs {f : Addr} {fd : FuncData} (F : Fun K "_law_pairs" "_law_pairs" s__law_pairs f fd) (B : Bn mg) : FnOk P w K mg base CX0 1 f fd ["order", "row"] (spD K 2 g__law_pairs) := by
  refine fn_ok0 (k := 0) (N := N__law_pairs) (m := m__law_pairs) (cvL []) [false, false] F sc__law_pairs rfl rfl (by decide) (fun cdv A outer s H E T as vs hr => ?_) (fun as r _ h => h)
  have hp := PassesOwn.never (M := model P w) (A := A.deeper (envOfC "_law_pairs" (defScope s__law_pairs) s.heap.objs.size f cdv)) (env := envOfC "_law_pairs" (defScope s__law_pairs) s.heap.objs.size f cdv)
  exact (pd_scons (pd_set (i := 2) (pd_lst pd_nil) (fun _ h => ps_set sc__law_pairs.nd rfl (by first | exact Or.inl rfl | exact Or.inr rfl) h))
      (pd_scons (pd_for hp rfl (pd_range1 (pd_biR callB_len (pe_callB call_len rfl B.len b_len (pd_cons (pd_var (pv 0)) pd_nil))) rfl B.range) (pd_gname (pg_name (i := 3) sc__law_pairs.nd rfl (by first | exact Or.inl rfl | exact Or.inr rfl))) (pd_sone (pd_for hp rfl (pd_range1 (pd_var (pv 3)) rfl B.range) (pd_gname (pg_name (i := 4) sc__law_pairs.nd rfl (by first | exact Or.inl rfl | exact Or.inr rfl))) (pd_scons (pd_set (i := 5) (pd_index (pd_var (pv 1)) (pd_cons (pd_ixX hr.units (pd_var (pv 0)) (pd_var (pv 4))) pd_nil) (fun _ _ h1 h2 => pe_bm PySem.F.plainAttrs_list PySem.F.slot_list_index PySem.F.type_list_index mt_index h1 h2)) (fun _ h => ps_set sc__law_pairs.nd rfl (by first | exact Or.inl rfl | exact Or.inr rfl) h))
      (pd_scons (pd_set (i := 6) (pd_index (pd_var (pv 1)) (pd_cons (pd_ixX hr.units (pd_var (pv 0)) (pd_var (pv 3))) pd_nil) (fun _ _ h1 h2 => pe_bm PySem.F.plainAttrs_list PySem.F.slot_list_index PySem.F.type_list_index mt_index h1 h2)) (fun _ h => ps_set sc__law_pairs.nd rfl (by first | exact Or.inl rfl | exact Or.inr rfl) h))
      (pd_sone (pd_if (DL.pt_cmp (opR_lt hr.units0) (opS_of opB_lt) (nomark _) (pd_var (pv 5)) (pd_var (pv 6))) (pd_sone (pd_expr (pd_meth mtS_append (pd_cons (pd_tup (pd_cons (pd_var (pv 5)) (pd_cons (pd_var (pv 6)) pd_nil))) pd_nil) (fun _ h => pe_bm PySem.F.plainAttrs_list PySem.F.slot_list_append PySem.F.type_list_append mt_append (pv 2) h)))) pd_snil)))))))
      (pd_sone (pd_ret (pd_biR callB_sortX (pe_callB (cr_sortX rfl hr.units) rfl B.sorted b_sorted (pd_cons (pd_var (pv 2)) pd_nil)))))))
theorem w__law_pairs {f : Addr} {fd : FuncData} (F : Fun K "_law_pairs" "_law_pairs" s__law_pairs f fd) (B : Bn mg) (hk : mg "_law_pairs" = some (.ref f)) (kp : PySem.W.keepIn K (.ref f) = true) (bi : Binds K fd ["order", "row"] []) : CalD P w K mg base CX0 1 "_law_pairs" 2 g__law_pairs := ⟨f, fd, _, f__law_pairs F B, hk, kp, bi⟩

theorem sc_places_in : FnScope N_places_in ["order"] (defScope s_places_in) := ⟨rfl, rfl, rfl, by decide +kernel, rfl, by decide +kernel, by decide +kernel⟩
theorem f_places_in {f : Addr} {fd : FuncData} (F : Fun K "places_in" "places_in" s_places_in f fd) (B : Bn mg) : FnOk P w K mg base CX0 1 f fd ["order"] (spD K 1 g_places_in) := by
  refine fn_ok0 (k := 0) (N := N_places_in) (m := m_places_in) (cvL []) [false] F sc_places_in rfl rfl (by decide) (fun cdv A outer s H E T as vs hr => ?_) (fun as r _ h => h)
  have hp := PassesOwn.never (M := model P w) (A := A.deeper (envOfC "places_in" (defScope s_places_in) s.heap.objs.size f cdv)) (env := envOfC "places_in" (defScope s_places_in) s.heap.objs.size f cdv)
  exact (pd_scons (pd_set (i := 1) (pd_bin opR_mul (opS_of opB_mul) (pd_lst (pd_cons pd_int pd_nil)) (pd_biR callB_len (pe_callB call_len rfl B.len b_len (pd_cons (pd_var (pv 0)) pd_nil)))) (fun _ h => ps_set sc_places_in.nd rfl (by first | exact Or.inl rfl | exact Or.inr rfl) h))
      (pd_scons (pd_for hp rfl (pd_enum (pd_var (pv 0)) rfl B.enumerate) (pd_gtup rfl (pd_gscons (pd_gname (pg_name (i := 2) sc_places_in.nd rfl (by first | exact Or.inl rfl | exact Or.inr rfl))) (pd_gscons (pd_gname (pg_name (i := 3) sc_places_in.nd rfl (by first | exact Or.inl rfl | exact Or.inr rfl))) pd_gsnil))) (pd_sone (pd_setAt (pv 1) (pd_var (pv 3)) (pd_var (pv 2)))))
      (pd_sone (pd_ret (pd_var (pv 1))))))
theorem w_places_in {f : Addr} {fd : FuncData} (F : Fun K "places_in" "places_in" s_places_in f fd) (B : Bn mg) (hk : mg "places_in" = some (.ref f)) (kp : PySem.W.keepIn K (.ref f) = true) (bi : Binds K fd ["order"] []) : CalD P w K mg base CX0 1 "places_in" 1 g_places_in := ⟨f, fd, _, f_places_in F B, hk, kp, bi⟩

theorem sc_agreeing_pairs : FnScope N_agreeing_pairs ["order", "row"] (defScope s_agreeing_pairs) := ⟨rfl, rfl, rfl, by decide +kernel, rfl, by decide +kernel, by decide +kernel⟩
theorem f_agreeing_pairs {f : Addr} {fd : FuncData} (F : Fun K "agreeing_pairs" "agreeing_pairs" s_agreeing_pairs f fd) (B : Bn mg) (C_places_in : CalD P w K mg base CX0 1 "places_in" 1 g_places_in) : FnOk P w K mg base CX0 2 f fd ["order", "row"] (spD K 2 g_agreeing_pairs) := by
  refine fn_ok0 (k := 1) (N := N_agreeing_pairs) (m := m_agreeing_pairs) (cvL [4, 5]) [false, false] F sc_agreeing_pairs rfl rfl (by decide) (fun cdv A outer s H E T as vs hr => ?_) (fun as r _ h => h)
  have hp := PassesOwn.never (M := model P w) (A := A.deeper (envOfC "agreeing_pairs" (defScope s_agreeing_pairs) s.heap.objs.size f cdv)) (env := envOfC "agreeing_pairs" (defScope s_agreeing_pairs) s.heap.objs.size f cdv)
  exact (pd_scons (pd_set (i := 2) (pd_callP C_places_in hr (by decide) passAt0 rfl (pd_cons (pd_var (pv 0)) pd_nil)) (fun _ h => ps_set sc_agreeing_pairs.nd rfl (by first | exact Or.inl rfl | exact Or.inr rfl) h))
      (pd_scons (pd_set (i := 3) (pd_biR callB_len (pe_callB call_len rfl B.len b_len (pd_cons (pd_var (pv 1)) pd_nil))) (fun _ h => ps_set sc_agreeing_pairs.nd rfl (by first | exact Or.inl rfl | exact Or.inr rfl) h))
      (pd_sone (pd_ret (pd_lc2 (own := [("h", 4), ("i", 5)]) (vs1 := [5]) rfl sc_agreeing_pairs.nd (pd_range1 (pd_var (pv 3)) rfl B.range) (blkOk_by (own := [("h", 4), ("i", 5)]) (N := N_agreeing_pairs) (sc := defScope s_agreeing_pairs) (by decide +kernel)) (own2 ⟨rfl, rfl⟩ ⟨rfl, rfl⟩) (by decide) (fun _ _ _ _ _ => pg_name (i := 4) sc_agreeing_pairs.nd rfl (by first | exact Or.inl rfl | exact Or.inr rfl)) (cg_name (ns := [4, 5]) ⟨rfl, rfl⟩ (by simp)) (fun _ _ _ _ _ => pd_yes) (fun _ _ _ _ _ => (pd_range2 (pd_bin opR_add (opS_of opB_add) (pd_var (pv 4)) pd_int) (pd_var (pv 3)) rfl B.range)) (fun _ _ _ _ _ => pg_name (i := 5) sc_agreeing_pairs.nd rfl (by first | exact Or.inl rfl | exact Or.inr rfl)) (cg_name (ns := [5]) ⟨rfl, rfl⟩ (by simp)) (fun _ _ _ _ _ => (pts_one (DL.pt_cmp (opR_lt hr.units0) (opS_of opB_lt) (nomark _) (pd_ixX hr.units (pd_var (pv 2)) (pd_ixX hr.units (pd_var (pv 1)) (pd_var (pv 4)))) (pd_ixX hr.units (pd_var (pv 2)) (pd_ixX hr.units (pd_var (pv 1)) (pd_var (pv 5))))))) (fun _ _ _ _ _ => (pd_tup (pd_cons (pd_var (pv 4)) (pd_cons (pd_var (pv 5)) pd_nil)))))))))
theorem w_agreeing_pairs {f : Addr} {fd : FuncData} (F : Fun K "agreeing_pairs" "agreeing_pairs" s_agreeing_pairs f fd) (B : Bn mg) (C_places_in : CalD P w K mg base CX0 1 "places_in" 1 g_places_in) (hk : mg "agreeing_pairs" = some (.ref f)) (kp : PySem.W.keepIn K (.ref f) = true) (bi : Binds K fd ["order", "row"] []) : CalD P w K mg base CX0 2 "agreeing_pairs" 2 g_agreeing_pairs := ⟨f, fd, _, f_agreeing_pairs F B C_places_in, hk, kp, bi⟩

theorem sc__law_equal : FnScope N__law_equal ["one", "two"] (defScope s__law_equal) := ⟨rfl, rfl, rfl, by decide +kernel, rfl, by decide +kernel, by decide +kernel⟩
theorem f__law_equal {f : Addr} {fd : FuncData} (F : Fun K "_law_equal" "_law_equal" s__law_equal f fd) (B : Bn mg) : FnOk P w K mg base CX0 1 f fd ["one", "two"] (spD K 2 g__law_equal) := by
  refine fn_ok0 (k := 0) (N := N__law_equal) (m := m__law_equal) (cvL []) [false, false] F sc__law_equal rfl rfl (by decide) (fun cdv A outer s H E T as vs hr => ?_) (fun as r _ h => h)
  have hp := PassesOwn.never (M := model P w) (A := A.deeper (envOfC "_law_equal" (defScope s__law_equal) s.heap.objs.size f cdv)) (env := envOfC "_law_equal" (defScope s__law_equal) s.heap.objs.size f cdv)
  exact (pd_scons (pd_set (i := 2) (pd_lst (pd_cons (pd_tup (pd_cons (pd_var (pv 0)) (pd_cons (pd_var (pv 1)) pd_nil))) pd_nil)) (fun _ h => ps_set sc__law_equal.nd rfl (by first | exact Or.inl rfl | exact Or.inr rfl) h))
      (pd_scons (pd_for hp rfl (pd_range1 pd_int rfl B.range) (pd_gname (pg_name (i := 3) sc__law_equal.nd rfl (by first | exact Or.inl rfl | exact Or.inr rfl))) (pd_scons (pd_if (DL.pt_cmp (opR_eq hr.units) (opS_of opB_eq) (nomark _) (pd_biR callB_len (pe_callB call_len rfl B.len b_len (pd_cons (pd_var (pv 2)) pd_nil))) pd_int) (pd_sone (pd_ret pd_bl)) pd_snil)
      (pd_scons (pd_set (i := 4) (pd_meth0 mtS_pop (pe_bm0 PySem.F.plainAttrs_list PySem.F.slot_list_pop PySem.F.type_list_pop mt_pop (pv 2))) (fun _ h => ps_set sc__law_equal.nd rfl (by first | exact Or.inl rfl | exact Or.inr rfl) h))
      (pd_scons (pd_set (i := 5) (pd_ixX hr.units (pd_var (pv 4)) pd_int) (fun _ h => ps_set sc__law_equal.nd rfl (by first | exact Or.inl rfl | exact Or.inr rfl) h))
      (pd_scons (pd_set (i := 6) (pd_ixX hr.units (pd_var (pv 4)) pd_int) (fun _ h => ps_set sc__law_equal.nd rfl (by first | exact Or.inl rfl | exact Or.inr rfl) h))
      (pd_scons (pd_set (i := 7) (pd_tup (pd_cons (pd_isi1 (T := .bl) (pd_var (pv 5)) (pe_bltn rfl B.bool b_bool rfl) rfl B.isinstance b_isinstance rfl (by decide) rfl rfl (fun _ h => pe_callB call_isi rfl B.isinstance b_isinstance h)) (pd_cons (pd_isi1 (T := .int) (pd_var (pv 5)) (pe_bltn rfl B.int b_int rfl) rfl B.isinstance b_isinstance rfl (by decide) rfl rfl (fun _ h => pe_callB call_isi rfl B.isinstance b_isinstance h)) (pd_cons (pd_isi1 (T := .str) (pd_var (pv 5)) (pe_bltn rfl B.str b_str rfl) rfl B.isinstance b_isinstance rfl (by decide) rfl rfl (fun _ h => pe_callB call_isi rfl B.isinstance b_isinstance h)) (pd_cons (pd_isi1 (T := .lst) (pd_var (pv 5)) (pe_bltn rfl B.list b_list rfl) rfl B.isinstance b_isinstance rfl (by decide) rfl rfl (fun _ h => pe_callB call_isi rfl B.isinstance b_isinstance h)) pd_nil))))) (fun _ h => ps_set sc__law_equal.nd rfl (by first | exact Or.inl rfl | exact Or.inr rfl) h))
      (pd_scons (pd_if (DL.pt_cmp (opR_ne hr.units) (opS_of opB_ne) (nomark _) (pd_var (pv 7)) (pd_tup (pd_cons (pd_isi1 (T := .bl) (pd_var (pv 6)) (pe_bltn rfl B.bool b_bool rfl) rfl B.isinstance b_isinstance rfl (by decide) rfl rfl (fun _ h => pe_callB call_isi rfl B.isinstance b_isinstance h)) (pd_cons (pd_isi1 (T := .int) (pd_var (pv 6)) (pe_bltn rfl B.int b_int rfl) rfl B.isinstance b_isinstance rfl (by decide) rfl rfl (fun _ h => pe_callB call_isi rfl B.isinstance b_isinstance h)) (pd_cons (pd_isi1 (T := .str) (pd_var (pv 6)) (pe_bltn rfl B.str b_str rfl) rfl B.isinstance b_isinstance rfl (by decide) rfl rfl (fun _ h => pe_callB call_isi rfl B.isinstance b_isinstance h)) (pd_cons (pd_isi1 (T := .lst) (pd_var (pv 6)) (pe_bltn rfl B.list b_list rfl) rfl B.isinstance b_isinstance rfl (by decide) rfl rfl (fun _ h => pe_callB call_isi rfl B.isinstance b_isinstance h)) pd_nil)))))) (pd_sone (pd_ret pd_bl)) pd_snil)
      (pd_sone (pd_if (pt_tru (pd_isiT (T1 := .lst) (T2 := .tup) (pd_var (pv 5)) (pa_cons (pe_bltn rfl B.list b_list rfl) (pa_cons (pe_bltn rfl B.tuple b_tuple rfl) pa_nil)) rfl rfl rfl (fun _ h => pe_callB call_isiT rfl B.isinstance b_isinstance h))) (pd_scons (pd_if (PW.pt (pw_dor (pt_dnot (pt_tru (pd_isiT (T1 := .lst) (T2 := .tup) (pd_var (pv 6)) (pa_cons (pe_bltn rfl B.list b_list rfl) (pa_cons (pe_bltn rfl B.tuple b_tuple rfl) pa_nil)) rfl rfl rfl (fun _ h => pe_callB call_isiT rfl B.isinstance b_isinstance h)))) (pw_dor1 (DL.pt_cmp (opR_ne hr.units) (opS_of opB_ne) (nomark _) (pd_biR callB_len (pe_callB call_len rfl B.len b_len (pd_cons (pd_var (pv 5)) pd_nil))) (pd_biR callB_len (pe_callB call_len rfl B.len b_len (pd_cons (pd_var (pv 6)) pd_nil))))))) (pd_sone (pd_ret pd_bl)) pd_snil)
      (pd_sone (pd_for hp rfl (pd_range1 (pd_biR callB_len (pe_callB call_len rfl B.len b_len (pd_cons (pd_var (pv 5)) pd_nil))) rfl B.range) (pd_gname (pg_name (i := 8) sc__law_equal.nd rfl (by first | exact Or.inl rfl | exact Or.inr rfl))) (pd_sone (pd_expr (pd_meth mtS_append (pd_cons (pd_tup (pd_cons (pd_ixX hr.units (pd_var (pv 5)) (pd_var (pv 8))) (pd_cons (pd_ixX hr.units (pd_var (pv 6)) (pd_var (pv 8))) pd_nil))) pd_nil) (fun _ h => pe_bm PySem.F.plainAttrs_list PySem.F.slot_list_append PySem.F.type_list_append mt_append (pv 2) h))))))) (pd_sone (pd_if (PW.pt (pw_dor (DL.pt_cmp op_isN (opS_of opB_is) (nomark _) (pd_var (pv 5)) pd_non) (pw_dor1 (DL.pt_cmp op_isN (opS_of opB_is) (nomark _) (pd_var (pv 6)) pd_non)))) (pd_sone (pd_if (PW.pt (pw_dor (DL.pt_cmp op_notN (opS_of opB_isnot) (nomark _) (pd_var (pv 5)) pd_non) (pw_dor1 (DL.pt_cmp op_notN (opS_of opB_isnot) (nomark _) (pd_var (pv 6)) pd_non)))) (pd_sone (pd_ret pd_bl)) pd_snil)) (pd_sone (pd_if (PW.pt (pw_dor (pt_dnot (pt_tru (pd_isiT (T1 := .int) (T2 := .str) (pd_var (pv 5)) (pa_cons (pe_bltn rfl B.int b_int rfl) (pa_cons (pe_bltn rfl B.str b_str rfl) pa_nil)) rfl rfl rfl (fun _ h => pe_callB call_isiT rfl B.isinstance b_isinstance h)))) (pw_dor1 (DL.pt_cmp (opR_ne hr.units) (opS_of opB_ne) (nomark _) (pd_var (pv 5)) (pd_var (pv 6)))))) (pd_sone (pd_ret pd_bl)) pd_snil)))))))))))))
      (pd_sone (pd_ret pd_bl))))
theorem w__law_equal {f : Addr} {fd : FuncData} (F : Fun K "_law_equal" "_law_equal" s__law_equal f fd) (B : Bn mg) (hk : mg "_law_equal" = some (.ref f)) (kp : PySem.W.keepIn K (.ref f) = true) (bi : Binds K fd ["one", "two"] []) : CalD P w K mg base CX0 1 "_law_equal" 2 g__law_equal := ⟨f, fd, _, f__law_equal F B, hk, kp, bi⟩

theorem sc_is_kinder : FnScope N_is_kinder ["order", "other", "row"] (defScope s_is_kinder) := ⟨rfl, rfl, rfl, by decide +kernel, rfl, by decide +kernel, by decide +kernel⟩
theorem f_is_kinder {f : Addr} {fd : FuncData} (F : Fun K "is_kinder" "is_kinder" s_is_kinder f fd) (B : Bn mg) (C_places_in : CalD P w K mg base CX0 1 "places_in" 1 g_places_in) (C_agreeing_pairs : CalD P w K mg base CX0 2 "agreeing_pairs" 2 g_agreeing_pairs) : FnOk P w K mg base CX0 3 f fd ["order", "other", "row"] (spD K 3 g_is_kinder) := by
  refine fn_ok0 (k := 2) (N := N_is_kinder) (m := m_is_kinder) (cvL []) [false, false, false] F sc_is_kinder rfl rfl (by decide) (fun cdv A outer s H E T as vs hr => ?_) (fun as r _ h => h)
  have hp := PassesOwn.never (M := model P w) (A := A.deeper (envOfC "is_kinder" (defScope s_is_kinder) s.heap.objs.size f cdv)) (env := envOfC "is_kinder" (defScope s_is_kinder) s.heap.objs.size f cdv)
  exact (pd_scons (pd_set (i := 3) (pd_callP C_places_in hr (by decide) passAt0 rfl (pd_cons (pd_var (pv 0)) pd_nil)) (fun _ h => ps_set sc_is_kinder.nd rfl (by first | exact Or.inl rfl | exact Or.inr rfl) h))
      (pd_scons (pd_for hp rfl (pd_seq (pd_callP C_agreeing_pairs hr (by decide) passAt0 rfl (pd_cons (pd_var (pv 1)) (pd_cons (pd_var (pv 2)) pd_nil)))) (pd_gtup rfl (pd_gscons (pd_gname (pg_name (i := 4) sc_is_kinder.nd rfl (by first | exact Or.inl rfl | exact Or.inr rfl))) (pd_gscons (pd_gname (pg_name (i := 5) sc_is_kinder.nd rfl (by first | exact Or.inl rfl | exact Or.inr rfl))) pd_gsnil))) (pd_sone (pd_if (DL.pt_cmp op_gt (opS_of opB_cmpI) (nomark _) (pd_ixX hr.units (pd_var (pv 3)) (pd_ixX hr.units (pd_var (pv 2)) (pd_var (pv 4)))) (pd_ixX hr.units (pd_var (pv 3)) (pd_ixX hr.units (pd_var (pv 2)) (pd_var (pv 5))))) (pd_sone (pd_ret pd_bl)) pd_snil)))
      (pd_sone (pd_ret pd_bl))))
theorem w_is_kinder {f : Addr} {fd : FuncData} (F : Fun K "is_kinder" "is_kinder" s_is_kinder f fd) (B : Bn mg) (C_places_in : CalD P w K mg base CX0 1 "places_in" 1 g_places_in) (C_agreeing_pairs : CalD P w K mg base CX0 2 "agreeing_pairs" 2 g_agreeing_pairs) (hk : mg "is_kinder" = some (.ref f)) (kp : PySem.W.keepIn K (.ref f) = true) (bi : Binds K fd ["order", "other", "row"] []) : CalD P w K mg base CX0 3 "is_kinder" 3 g_is_kinder := ⟨f, fd, _, f_is_kinder F B C_places_in C_agreeing_pairs, hk, kp, bi⟩

theorem sc__law_right : FnScope N__law_right ["one", "two", "row"] (defScope s__law_right) := ⟨rfl, rfl, rfl, by decide +kernel, rfl, by decide +kernel, by decide +kernel⟩
theorem f__law_right {f : Addr} {fd : FuncData} (F : Fun K "_law_right" "_law_right" s__law_right f fd) (B : Bn mg) (C__law_copy : CalD P w K mg base CX0 4 "_law_copy" 2 g__law_copy) (C__law_pairs : CalD P w K mg base CX0 1 "_law_pairs" 2 g__law_pairs) (C_agreeing_pairs : CalD P w K mg base CX0 2 "agreeing_pairs" 2 g_agreeing_pairs) (C__law_equal : CalD P w K mg base CX0 1 "_law_equal" 2 g__law_equal) (C_is_kinder : CalD P w K mg base CX0 3 "is_kinder" 3 g_is_kinder) : FnOk P w K mg base CX0 5 f fd ["one", "two", "row"] (spD K 3 g__law_right) := by
  refine fn_ok0 (k := 4) (N := N__law_right) (m := m__law_right) (cvL [7]) [false, false, false] F sc__law_right rfl rfl (by decide) (fun cdv A outer s H E T as vs hr => ?_) (fun as r _ h => h)
  have hp := PassesOwn.never (M := model P w) (A := A.deeper (envOfC "_law_right" (defScope s__law_right) s.heap.objs.size f cdv)) (env := envOfC "_law_right" (defScope s__law_right) s.heap.objs.size f cdv)
  exact (pd_scons (pd_set (i := 3) (pd_callP C__law_copy hr (by decide) passAt0 rfl (pd_cons (pd_lst (pd_cons (pd_var (pv 0)) (pd_cons (pd_var (pv 1)) (pd_cons (pd_var (pv 2)) pd_nil)))) (pd_cons pd_int pd_nil))) (fun _ h => ps_set sc__law_right.nd rfl (by first | exact Or.inl rfl | exact Or.inr rfl) h))
      (pd_scons (pd_set (i := 4) (pd_callP C__law_pairs hr (by decide) passAt0 rfl (pd_cons (pd_biR callB_list (pe_callTy call_list_of rfl B.list b_list (pd_cons (pd_var (pv 0)) pd_nil))) (pd_cons (pd_biR callB_list (pe_callTy call_list_of rfl B.list b_list (pd_cons (pd_var (pv 2)) pd_nil))) pd_nil))) (fun _ h => ps_set sc__law_right.nd rfl (by first | exact Or.inl rfl | exact Or.inr rfl) h))
      (pd_scons (pd_set (i := 5) (pd_callP C__law_pairs hr (by decide) passAt0 rfl (pd_cons (pd_biR callB_list (pe_callTy call_list_of rfl B.list b_list (pd_cons (pd_var (pv 1)) pd_nil))) (pd_cons (pd_biR callB_list (pe_callTy call_list_of rfl B.list b_list (pd_cons (pd_var (pv 2)) pd_nil))) pd_nil))) (fun _ h => ps_set sc__law_right.nd rfl (by first | exact Or.inl rfl | exact Or.inr rfl) h))
      (pd_scons (pd_set (i := 6) pd_dict0 (fun _ h => ps_set sc__law_right.nd rfl (by first | exact Or.inl rfl | exact Or.inr rfl) h))
      (pd_scons (pd_for hp rfl (pd_seq (pd_var (pv 4))) (pd_gname (pg_name (i := 7) sc__law_right.nd rfl (by first | exact Or.inl rfl | exact Or.inr rfl))) (pd_sone (pd_dput hr.units (pv 6) (pd_var (pv 7)) pd_bl)))
      (pd_scons (pd_set (i := 8) (pd_cmp (opR_eq hr.units) (opS_of opB_eq) (nomark _) (pd_biR callB_len (pe_callB call_len rfl B.len b_len (pd_cons (pd_lcV (own := [("pair", 7)]) rfl sc__law_right.nd (pd_var (pv 5)) (blkOk_by (own := [("pair", 7)]) (N := N__law_right) (sc := defScope s__law_right) (by decide +kernel)) (own1 ⟨rfl, rfl⟩) (fun _ _ _ _ _ => pg_name (i := 7) sc__law_right.nd rfl (by first | exact Or.inl rfl | exact Or.inr rfl)) (cg_name (ns := [7]) ⟨rfl, rfl⟩ List.mem_cons_self) (fun _ _ _ _ _ => (pts_one (DL.pt_cmp (opR_notInA hr.units) (opS_of (opB_inA (neg := true))) rfl (pd_var (pv 7)) (pd_var (pv 6))))) (fun _ _ _ _ _ => (pd_var (pv 7)))) pd_nil))) pd_int) (fun _ h => ps_set sc__law_right.nd rfl (by first | exact Or.inl rfl | exact Or.inr rfl) h))
      (pd_scons (pd_for hp rfl (pd_range1 pd_int rfl B.range) (pd_gname (pg_name (i := 9) sc__law_right.nd rfl (by first | exact Or.inl rfl | exact Or.inr rfl))) (pd_scons (pd_set (i := 10) (pd_callP C_agreeing_pairs hr (by decide) passAt0 rfl (pd_cons (pd_var (pv 0)) (pd_cons (pd_var (pv 2)) pd_nil))) (fun _ h => ps_set sc__law_right.nd rfl (by first | exact Or.inl rfl | exact Or.inr rfl) h))
      (pd_scons (pd_if (pt_dnot (pt_tru (pd_callV (js := [4, 8]) C__law_equal hr (by decide) passAt0 rfl (pd_cons (pd_var (pv 10)) (pd_cons (pd_callP C_is_kinder hr (by decide) passAt0 rfl (pd_cons (pd_var (pv 0)) (pd_cons (pd_var (pv 1)) (pd_cons (pd_var (pv 2)) pd_nil)))) pd_nil)) (pa_cons (pv 4) (pa_cons (pv 8) pa_nil))))) (pd_sone (pd_ret pd_bl)) pd_snil)
      (pd_scons (pd_expr (pd_meth mtS_append (pd_cons (pd_tup (pd_cons pd_int (pd_cons pd_int pd_nil))) pd_nil) (fun _ h => pe_bm PySem.F.plainAttrs_list PySem.F.slot_list_append PySem.F.type_list_append mt_append (pv 10) h)))
      (pd_sone (pd_expr (pd_meth0 mtS_reverse (pe_bm0 PySem.F.plainAttrs_list PySem.F.slot_list_reverse PySem.F.type_list_reverse mt_reverse (pv 10)))))))))
      (pd_scons (pd_set (i := 11) (pd_cmp (opR_eq hr.units) (opS_of opB_eq) (nomark _) (pd_biR callB_len (pe_callB call_len rfl B.len b_len (pd_cons (pd_lcV (own := [("pair", 7)]) rfl sc__law_right.nd (pd_var (pv 5)) (blkOk_by (own := [("pair", 7)]) (N := N__law_right) (sc := defScope s__law_right) (by decide +kernel)) (own1 ⟨rfl, rfl⟩) (fun _ _ _ _ _ => pg_name (i := 7) sc__law_right.nd rfl (by first | exact Or.inl rfl | exact Or.inr rfl)) (cg_name (ns := [7]) ⟨rfl, rfl⟩ List.mem_cons_self) (fun _ _ _ _ _ => (pts_one (DL.pt_cmp (opR_inA hr.units) (opS_of (opB_inA (neg := false))) rfl (pd_var (pv 7)) (pd_var (pv 6))))) (fun _ _ _ _ _ => (pd_var (pv 7)))) pd_nil))) (pd_biR callB_len (pe_callB call_len rfl B.len b_len (pd_cons (pd_var (pv 4)) pd_nil)))) (fun _ h => ps_set sc__law_right.nd rfl (by first | exact Or.inl rfl | exact Or.inr rfl) h))
      (pd_scons (pd_if (pt_dnot (pt_tru (pd_callV (js := [5, 11]) C__law_equal hr (by decide) passAt0 rfl (pd_cons (pd_callP C_agreeing_pairs hr (by decide) passAt0 rfl (pd_cons (pd_var (pv 1)) (pd_cons (pd_var (pv 2)) pd_nil))) (pd_cons (pd_callP C_is_kinder hr (by decide) passAt0 rfl (pd_cons (pd_var (pv 1)) (pd_cons (pd_var (pv 0)) (pd_cons (pd_var (pv 2)) pd_nil)))) pd_nil)) (pa_cons (pv 5) (pa_cons (pv 11) pa_nil))))) (pd_sone (pd_ret pd_bl)) pd_snil)
      (pd_sone (pd_ret (pd_callP C__law_equal hr (by decide) passAt0 rfl (pd_cons (pd_lst (pd_cons (pd_var (pv 0)) (pd_cons (pd_var (pv 1)) (pd_cons (pd_var (pv 2)) pd_nil)))) (pd_cons (pd_var (pv 3)) pd_nil))))))))))))))
theorem w__law_right {f : Addr} {fd : FuncData} (F : Fun K "_law_right" "_law_right" s__law_right f fd) (B : Bn mg) (C__law_copy : CalD P w K mg base CX0 4 "_law_copy" 2 g__law_copy) (C__law_pairs : CalD P w K mg base CX0 1 "_law_pairs" 2 g__law_pairs) (C_agreeing_pairs : CalD P w K mg base CX0 2 "agreeing_pairs" 2 g_agreeing_pairs) (C__law_equal : CalD P w K mg base CX0 1 "_law_equal" 2 g__law_equal) (C_is_kinder : CalD P w K mg base CX0 3 "is_kinder" 3 g_is_kinder) (hk : mg "_law_right" = some (.ref f)) (kp : PySem.W.keepIn K (.ref f) = true) (bi : Binds K fd ["one", "two", "row"] []) : CalD P w K mg base CX0 5 "_law_right" 3 g__law_right := ⟨f, fd, _, f__law_right F B C__law_copy C__law_pairs C_agreeing_pairs C__law_equal C_is_kinder, hk, kp, bi⟩

theorem sc__law_mixed : FnScope N__law_mixed ["store", "value"] (defScope s__law_mixed) := ⟨rfl, rfl, rfl, by decide +kernel, rfl, by decide +kernel, by decide +kernel⟩
theorem f__law_mixed {f : Addr} {fd : FuncData} (F : Fun K "_law_mixed" "_law_mixed" s__law_mixed f fd) (B : Bn mg) (C__law_rare : CalD P w K mg base CX0 4 "_law_rare" 2 g__law_rare) (hk : mg "_law_mixed" = some (.ref f)) (kp : PySem.W.keepIn K (.ref f) = true) (bi : Binds K fd ["store", "value"] []) : ∀ j : Nat, FnOk P w K mg base CX0 (4 + j) f fd ["store", "value"] (spD K 2 (gN__law_mixed j))
  | 0 => fn_none rfl
  | j + 1 => by
    have C__law_mixed : CalD P w K mg base CX0 (4 + j) "_law_mixed" 2 (gN__law_mixed j) := ⟨f, fd, _, f__law_mixed F B C__law_rare hk kp bi j, hk, kp, bi⟩
    refine fn_ok0 (k := 4 + j) (N := N__law_mixed) (m := m__law_mixed (gN__law_mixed j)) (cvL [3]) [true, false] F sc__law_mixed rfl rfl (by decide) (fun cdv A outer s H E T as vs hr => ?_) (fun as r _ h => h)
    have hp := PassesOwn.never (M := model P w) (A := A.deeper (envOfC "_law_mixed" (defScope s__law_mixed) s.heap.objs.size f cdv)) (env := envOfC "_law_mixed" (defScope s__law_mixed) s.heap.objs.size f cdv)
    exact (pd_scons (pd_if (pt_dnot (pt_tru (pd_isiT (T1 := .lst) (T2 := .tup) (pd_var (pv 1)) (pa_cons (pe_bltn rfl B.list b_list rfl) (pa_cons (pe_bltn rfl B.tuple b_tuple rfl) pa_nil)) rfl rfl rfl (fun _ h => pe_callB call_isiT rfl B.isinstance b_isinstance h)))) (pd_sone (pd_ret (pd_var (pv 1)))) pd_snil)
      (pd_scons (pd_setLc (i := 2) (own := [("part", 3)]) rfl sc__law_mixed.nd rfl rfl (sw_true rfl rfl rfl (by decide +kernel)) (pd_seq (pd_var (pv 1))) (blkOk_by (own := [("part", 3)]) (N := N__law_mixed) (sc := defScope s__law_mixed) (by decide +kernel)) (own1 ⟨rfl, rfl⟩) (fun _ _ _ _ _ => pg_name (i := 3) sc__law_mixed.nd rfl (by first | exact Or.inl rfl | exact Or.inr rfl)) (cg_name (ns := [3]) ⟨rfl, rfl⟩ List.mem_cons_self) (fun _ _ _ _ _ => pd_yes) (fun _ _ _ _ _ => (pd_call [true, false] C__law_mixed hr (Nat.le_refl _) passAt0 rfl (pd_cons (pd_var (pv 0)) (pd_cons (pd_var (pv 3)) pd_nil)))))
      (pd_scons (pd_if (pt_tru (pd_call [true, false] C__law_rare hr (Nat.le_trans (by decide) (Nat.le_add_right 4 j)) passAt0 rfl (pd_cons (pd_var (pv 0)) (pd_cons pd_int pd_nil)))) (pd_sone (pd_ret (pd_biR callB_tuple (pe_callTy call_tuple_of rfl B.tuple b_tuple (pd_cons (pd_var (pv 2)) pd_nil))))) pd_snil)
      (pd_sone (pd_ret (pd_var (pv 2)))))))
theorem w__law_mixed {f : Addr} {fd : FuncData} (F : Fun K "_law_mixed" "_law_mixed" s__law_mixed f fd) (B : Bn mg) (C__law_rare : CalD P w K mg base CX0 4 "_law_rare" 2 g__law_rare) (hk : mg "_law_mixed" = some (.ref f)) (kp : PySem.W.keepIn K (.ref f) = true) (bi : Binds K fd ["store", "value"] []) : CalD P w K mg base CX0 8 "_law_mixed" 2 g__law_mixed := ⟨f, fd, _, f__law_mixed F B C__law_rare hk kp bi 4, hk, kp, bi⟩

theorem sc_law : FnScope N_law ["script"] (defScope s_law) := ⟨rfl, rfl, rfl, by decide +kernel, rfl, by decide +kernel, by decide +kernel⟩
theorem f_law {f : Addr} {fd : FuncData} (F : Fun K "law" "law" s_law f fd) (B : Bn mg) (C__law_store : CalD P w K mg base CX0 2 "_law_store" 1 g__law_store) (C__law_size : CalD P w K mg base CX0 5 "_law_size" 3 g__law_size) (C__law_order : CalD P w K mg base CX0 4 "_law_order" 2 g__law_order) (C__law_moved : CalD P w K mg base CX0 4 "_law_moved" 4 g__law_moved) (C__law_right : CalD P w K mg base CX0 5 "_law_right" 3 g__law_right) (C__law_mixed : CalD P w K mg base CX0 8 "_law_mixed" 2 g__law_mixed) : FnOk P w K mg base CX0 9 f fd ["script"] (spD K 1 g_law) := by
  refine fn_ok0 (k := 8) (N := N_law) (m := m_law) (cvL []) [false] F sc_law rfl rfl (by decide) (fun cdv A outer s H E T as vs hr => ?_) (fun as r _ h => h)
  have hp := PassesOwn.never (M := model P w) (A := A.deeper (envOfC "law" (defScope s_law) s.heap.objs.size f cdv)) (env := envOfC "law" (defScope s_law) s.heap.objs.size f cdv)
  exact (pd_scons (pd_set (i := 1) (pd_callP C__law_store hr (by decide) passAt0 rfl (pd_cons (pd_var (pv 0)) pd_nil)) (fun _ h => ps_set sc_law.nd rfl (by first | exact Or.inl rfl | exact Or.inr rfl) h))
      (pd_scons (pd_for hp rfl (pd_range1 pd_int rfl B.range) (pd_gname (pg_name (i := 2) sc_law.nd rfl (by first | exact Or.inl rfl | exact Or.inr rfl))) (pd_scons (pd_set (i := 3) (pd_call [true, false, false] C__law_size hr (by decide) passAt0 rfl (pd_cons (pd_var (pv 1)) (pd_cons pd_int (pd_cons pd_int pd_nil)))) (fun _ h => ps_set sc_law.nd rfl (by first | exact Or.inl rfl | exact Or.inr rfl) h))
      (pd_scons (pd_set (i := 4) (pd_call [true, false] C__law_order hr (by decide) passAt0 rfl (pd_cons (pd_var (pv 1)) (pd_cons (pd_var (pv 3)) pd_nil))) (fun _ h => ps_set sc_law.nd rfl (by first | exact Or.inl rfl | exact Or.inr rfl) h))
      (pd_scons (pd_set (i := 5) (pd_call [true, false] C__law_order hr (by decide) passAt0 rfl (pd_cons (pd_var (pv 1)) (pd_cons (pd_var (pv 3)) pd_nil))) (fun _ h => ps_set sc_law.nd rfl (by first | exact Or.inl rfl | exact Or.inr rfl) h))
      (pd_scons (pd_set (i := 6) (pd_call [true, false] C__law_order hr (by decide) passAt0 rfl (pd_cons (pd_var (pv 1)) (pd_cons (pd_var (pv 3)) pd_nil))) (fun _ h => ps_set sc_law.nd rfl (by first | exact Or.inl rfl | exact Or.inr rfl) h))
      (pd_scons (pd_set (i := 7) (pd_call [true, false, false, false] C__law_moved hr (by decide) passAt0 rfl (pd_cons (pd_var (pv 1)) (pd_cons (pd_var (pv 5)) (pd_cons (pd_var (pv 4)) (pd_cons pd_bl pd_nil))))) (fun _ h => ps_set sc_law.nd rfl (by first | exact Or.inl rfl | exact Or.inr rfl) h))
      (pd_scons (pd_set (i := 8) (pd_call [true, false, false, false] C__law_moved hr (by decide) passAt0 rfl (pd_cons (pd_var (pv 1)) (pd_cons (pd_var (pv 5)) (pd_cons (pd_var (pv 4)) (pd_cons pd_bl pd_nil))))) (fun _ h => ps_set sc_law.nd rfl (by first | exact Or.inl rfl | exact Or.inr rfl) h))
      (pd_scons (pd_set (i := 9) (pd_call [true, false, false, false] C__law_moved hr (by decide) passAt0 rfl (pd_cons (pd_var (pv 1)) (pd_cons (pd_var (pv 7)) (pd_cons (pd_var (pv 4)) (pd_cons pd_bl pd_nil))))) (fun _ h => ps_set sc_law.nd rfl (by first | exact Or.inl rfl | exact Or.inr rfl) h))
      (pd_scons (pd_set (i := 10) (pd_lst (pd_cons (pd_lst (pd_cons (pd_var (pv 7)) (pd_cons (pd_var (pv 5)) pd_nil))) (pd_cons (pd_lst (pd_cons (pd_var (pv 8)) (pd_cons (pd_var (pv 5)) pd_nil))) (pd_cons (pd_lst (pd_cons (pd_var (pv 7)) (pd_cons (pd_var (pv 8)) pd_nil))) (pd_cons (pd_lst (pd_cons (pd_var (pv 9)) (pd_cons (pd_var (pv 5)) pd_nil))) (pd_cons (pd_lst (pd_cons (pd_var (pv 5)) (pd_cons (pd_var (pv 6)) pd_nil))) (pd_cons (pd_lst (pd_cons (pd_var (pv 4)) (pd_cons (pd_var (pv 5)) pd_nil))) pd_nil))))))) (fun _ h => ps_set sc_law.nd rfl (by first | exact Or.inl rfl | exact Or.inr rfl) h))
      (pd_scons (pd_set (i := 10) (pd_bin opR_add (opS_of opB_add) (pd_var (pv 10)) (pd_lst (pd_cons (pd_lst (pd_cons (pd_rev (pd_var (pv 4))) (pd_cons (pd_var (pv 6)) pd_nil))) (pd_cons (pd_lst (pd_cons (pd_var (pv 5)) (pd_cons (pd_var (pv 5)) pd_nil))) (pd_cons (pd_lst (pd_cons (pd_var (pv 4)) (pd_cons (pd_rev (pd_var (pv 4))) pd_nil))) pd_nil))))) (fun _ h => ps_set sc_law.nd rfl (by first | exact Or.inl rfl | exact Or.inr rfl) h))
      (pd_scons (pd_for hp rfl (pd_seq (pd_var (pv 10))) (pd_gname (pg_name (i := 11) sc_law.nd rfl (by first | exact Or.inl rfl | exact Or.inr rfl))) (pd_sone (pd_if (pt_dnot (pt_tru (pd_callP C__law_right hr (by decide) passAt0 rfl (pd_cons (pd_call [true, false] C__law_mixed hr (by decide) passAt0 rfl (pd_cons (pd_var (pv 1)) (pd_cons (pd_ixX hr.units (pd_var (pv 11)) pd_int) pd_nil))) (pd_cons (pd_call [true, false] C__law_mixed hr (by decide) passAt0 rfl (pd_cons (pd_var (pv 1)) (pd_cons (pd_ixX hr.units (pd_var (pv 11)) pd_int) pd_nil))) (pd_cons (pd_call [true, false] C__law_mixed hr (by decide) passAt0 rfl (pd_cons (pd_var (pv 1)) (pd_cons (pd_var (pv 4)) pd_nil))) pd_nil)))))) (pd_sone (pd_ret pd_bl)) pd_snil)))
      (pd_scons (pd_set (i := 12) (pd_biR callB_list (pe_callTy call_list_of rfl B.list b_list (pd_cons (pd_var (pv 5)) pd_nil))) (fun _ h => ps_set sc_law.nd rfl (by first | exact Or.inl rfl | exact Or.inr rfl) h))
      (pd_scons (pd_if (pt_dnot (pt_tru (pd_callP C__law_right hr (by decide) passAt0 rfl (pd_cons (pd_var (pv 12)) (pd_cons (pd_var (pv 6)) (pd_cons (pd_var (pv 4)) pd_nil)))))) (pd_sone (pd_ret pd_bl)) pd_snil)
      (pd_scons (pd_expr (pd_meth0 mtS_reverse (pe_bm0 PySem.F.plainAttrs_list PySem.F.slot_list_reverse PySem.F.type_list_reverse mt_reverse (pv 12))))
      (pd_sone (pd_if (PW.pt (pw_dor (pt_dnot (pt_tru (pd_callP C__law_right hr (by decide) passAt0 rfl (pd_cons (pd_var (pv 12)) (pd_cons (pd_var (pv 6)) (pd_cons (pd_var (pv 4)) pd_nil)))))) (pw_dor1 (pt_dnot (pt_tru (pd_callP C__law_right hr (by decide) passAt0 rfl (pd_cons (pd_var (pv 5)) (pd_cons (pd_var (pv 6)) (pd_cons (pd_rev (pd_var (pv 4))) pd_nil))))))))) (pd_sone (pd_ret pd_bl)) pd_snil))))))))))))))))
      (pd_sone (pd_ret pd_bl))))
theorem w_law {f : Addr} {fd : FuncData} (F : Fun K "law" "law" s_law f fd) (B : Bn mg) (C__law_store : CalD P w K mg base CX0 2 "_law_store" 1 g__law_store) (C__law_size : CalD P w K mg base CX0 5 "_law_size" 3 g__law_size) (C__law_order : CalD P w K mg base CX0 4 "_law_order" 2 g__law_order) (C__law_moved : CalD P w K mg base CX0 4 "_law_moved" 4 g__law_moved) (C__law_right : CalD P w K mg base CX0 5 "_law_right" 3 g__law_right) (C__law_mixed : CalD P w K mg base CX0 8 "_law_mixed" 2 g__law_mixed) (hk : mg "law" = some (.ref f)) (kp : PySem.W.keepIn K (.ref f) = true) (bi : Binds K fd ["script"] []) : CalD P w K mg base CX0 9 "law" 1 g_law := ⟨f, fd, _, f_law F B C__law_store C__law_size C__law_order C__law_moved C__law_right C__law_mixed, hk, kp, bi⟩

end
set_option maxHeartbeats 4000000 in
theorem all_mk {l : PySem.W.OpenLaw} {w : World} {K : PySem.W.Frag} {h : Heap} {mg : Str → Option Value} {fa : Addr} (X : K.In h) (G : h.Ns mainGlobals mg) (hfa : mg "law" = some (.ref fa))
    {f0 : Addr} {od0 an0 : Option Addr} {sl0 : Array (Option Value)} {oc0 kV0 dc0 pm0 cd0 ct0 : Value}
    (a0 : PySem.W.nsIn K mainGlobals "_law_mix" = some (some (.ref f0)))
    (l0 : K.lookup f0 = some ⟨oc0, od0, .func (PySem.W.fnOf "_law_mix" "_law_mix" (defArgs s__law_mix) (defBody s__law_mix) (defScope s__law_mix) .none kV0 dc0 pm0 an0 cd0 ct0), sl0⟩)
    (c0 : PySem.W.codeIn K cd0 "_law_mix" = true)
    (k0 : PySem.W.keepIn K (.ref f0) = true)
    {f1 : Addr} {od1 an1 : Option Addr} {sl1 : Array (Option Value)} {oc1 kV1 dc1 pm1 cd1 ct1 : Value}
    (a1 : PySem.W.nsIn K mainGlobals "_law_store" = some (some (.ref f1)))
    (l1 : K.lookup f1 = some ⟨oc1, od1, .func (PySem.W.fnOf "_law_store" "_law_store" (defArgs s__law_store) (defBody s__law_store) (defScope s__law_store) .none kV1 dc1 pm1 an1 cd1 ct1), sl1⟩)
    (c1 : PySem.W.codeIn K cd1 "_law_store" = true)
    (k1 : PySem.W.keepIn K (.ref f1) = true)
    {f2 : Addr} {od2 an2 : Option Addr} {sl2 : Array (Option Value)} {oc2 kV2 dc2 pm2 cd2 ct2 : Value}
    (a2 : PySem.W.nsIn K mainGlobals "_law_next" = some (some (.ref f2)))
    (l2 : K.lookup f2 = some ⟨oc2, od2, .func (PySem.W.fnOf "_law_next" "_law_next" (defArgs s__law_next) (defBody s__law_next) (defScope s__law_next) .none kV2 dc2 pm2 an2 cd2 ct2), sl2⟩)
    (c2 : PySem.W.codeIn K cd2 "_law_next" = true)
    (k2 : PySem.W.keepIn K (.ref f2) = true)
    {f3 : Addr} {od3 an3 : Option Addr} {sl3 : Array (Option Value)} {oc3 kV3 dc3 pm3 cd3 ct3 : Value}
    (a3 : PySem.W.nsIn K mainGlobals "_law_take" = some (some (.ref f3)))
    (l3 : K.lookup f3 = some ⟨oc3, od3, .func (PySem.W.fnOf "_law_take" "_law_take" (defArgs s__law_take) (defBody s__law_take) (defScope s__law_take) .none kV3 dc3 pm3 an3 cd3 ct3), sl3⟩)
    (c3 : PySem.W.codeIn K cd3 "_law_take" = true)
    (k3 : PySem.W.keepIn K (.ref f3) = true)
    {f4 : Addr} {od4 an4 : Option Addr} {sl4 : Array (Option Value)} {oc4 kV4 dc4 pm4 cd4 ct4 : Value}
    (a4 : PySem.W.nsIn K mainGlobals "_law_rare" = some (some (.ref f4)))
    (l4 : K.lookup f4 = some ⟨oc4, od4, .func (PySem.W.fnOf "_law_rare" "_law_rare" (defArgs s__law_rare) (defBody s__law_rare) (defScope s__law_rare) .none kV4 dc4 pm4 an4 cd4 ct4), sl4⟩)
    (c4 : PySem.W.codeIn K cd4 "_law_rare" = true)
    (k4 : PySem.W.keepIn K (.ref f4) = true)
    {f5 : Addr} {od5 an5 : Option Addr} {sl5 : Array (Option Value)} {oc5 kV5 dc5 pm5 cd5 ct5 : Value}
    (a5 : PySem.W.nsIn K mainGlobals "_law_size" = some (some (.ref f5)))
    (l5 : K.lookup f5 = some ⟨oc5, od5, .func (PySem.W.fnOf "_law_size" "_law_size" (defArgs s__law_size) (defBody s__law_size) (defScope s__law_size) .none kV5 dc5 pm5 an5 cd5 ct5), sl5⟩)
    (c5 : PySem.W.codeIn K cd5 "_law_size" = true)
    (k5 : PySem.W.keepIn K (.ref f5) = true)
    {f6 : Addr} {od6 an6 : Option Addr} {sl6 : Array (Option Value)} {oc6 kV6 dc6 pm6 cd6 ct6 : Value}
    (a6 : PySem.W.nsIn K mainGlobals "_law_order" = some (some (.ref f6)))
    (l6 : K.lookup f6 = some ⟨oc6, od6, .func (PySem.W.fnOf "_law_order" "_law_order" (defArgs s__law_order) (defBody s__law_order) (defScope s__law_order) .none kV6 dc6 pm6 an6 cd6 ct6), sl6⟩)
    (c6 : PySem.W.codeIn K cd6 "_law_order" = true)
    (k6 : PySem.W.keepIn K (.ref f6) = true)
    {f7 : Addr} {od7 an7 : Option Addr} {sl7 : Array (Option Value)} {oc7 kV7 dc7 pm7 cd7 ct7 : Value}
    (a7 : PySem.W.nsIn K mainGlobals "_law_moved" = some (some (.ref f7)))
    (l7 : K.lookup f7 = some ⟨oc7, od7, .func (PySem.W.fnOf "_law_moved" "_law_moved" (defArgs s__law_moved) (defBody s__law_moved) (defScope s__law_moved) .none kV7 dc7 pm7 an7 cd7 ct7), sl7⟩)
    (c7 : PySem.W.codeIn K cd7 "_law_moved" = true)
    (k7 : PySem.W.keepIn K (.ref f7) = true)
    {f8 : Addr} {od8 an8 : Option Addr} {sl8 : Array (Option Value)} {oc8 kV8 dc8 pm8 cd8 ct8 : Value}
    (a8 : PySem.W.nsIn K mainGlobals "_law_copy" = some (some (.ref f8)))
    (l8 : K.lookup f8 = some ⟨oc8, od8, .func (PySem.W.fnOf "_law_copy" "_law_copy" (defArgs s__law_copy) (defBody s__law_copy) (defScope s__law_copy) .none kV8 dc8 pm8 an8 cd8 ct8), sl8⟩)
    (c8 : PySem.W.codeIn K cd8 "_law_copy" = true)
    (k8 : PySem.W.keepIn K (.ref f8) = true)
    {f9 : Addr} {od9 an9 : Option Addr} {sl9 : Array (Option Value)} {oc9 kV9 dc9 pm9 cd9 ct9 : Value}
    (a9 : PySem.W.nsIn K mainGlobals "_law_pairs" = some (some (.ref f9)))
    (l9 : K.lookup f9 = some ⟨oc9, od9, .func (PySem.W.fnOf "_law_pairs" "_law_pairs" (defArgs s__law_pairs) (defBody s__law_pairs) (defScope s__law_pairs) .none kV9 dc9 pm9 an9 cd9 ct9), sl9⟩)
    (c9 : PySem.W.codeIn K cd9 "_law_pairs" = true)
    (k9 : PySem.W.keepIn K (.ref f9) = true)
    {f10 : Addr} {od10 an10 : Option Addr} {sl10 : Array (Option Value)} {oc10 kV10 dc10 pm10 cd10 ct10 : Value}
    (a10 : PySem.W.nsIn K mainGlobals "places_in" = some (some (.ref f10)))
    (l10 : K.lookup f10 = some ⟨oc10, od10, .func (PySem.W.fnOf "places_in" "places_in" (defArgs s_places_in) (defBody s_places_in) (defScope s_places_in) .none kV10 dc10 pm10 an10 cd10 ct10), sl10⟩)
    (c10 : PySem.W.codeIn K cd10 "places_in" = true)
    (k10 : PySem.W.keepIn K (.ref f10) = true)
    {f11 : Addr} {od11 an11 : Option Addr} {sl11 : Array (Option Value)} {oc11 kV11 dc11 pm11 cd11 ct11 : Value}
    (a11 : PySem.W.nsIn K mainGlobals "agreeing_pairs" = some (some (.ref f11)))
    (l11 : K.lookup f11 = some ⟨oc11, od11, .func (PySem.W.fnOf "agreeing_pairs" "agreeing_pairs" (defArgs s_agreeing_pairs) (defBody s_agreeing_pairs) (defScope s_agreeing_pairs) .none kV11 dc11 pm11 an11 cd11 ct11), sl11⟩)
    (c11 : PySem.W.codeIn K cd11 "agreeing_pairs" = true)
    (k11 : PySem.W.keepIn K (.ref f11) = true)
    {f12 : Addr} {od12 an12 : Option Addr} {sl12 : Array (Option Value)} {oc12 kV12 dc12 pm12 cd12 ct12 : Value}
    (a12 : PySem.W.nsIn K mainGlobals "_law_equal" = some (some (.ref f12)))
    (l12 : K.lookup f12 = some ⟨oc12, od12, .func (PySem.W.fnOf "_law_equal" "_law_equal" (defArgs s__law_equal) (defBody s__law_equal) (defScope s__law_equal) .none kV12 dc12 pm12 an12 cd12 ct12), sl12⟩)
    (c12 : PySem.W.codeIn K cd12 "_law_equal" = true)
    (k12 : PySem.W.keepIn K (.ref f12) = true)
    {f13 : Addr} {od13 an13 : Option Addr} {sl13 : Array (Option Value)} {oc13 kV13 dc13 pm13 cd13 ct13 : Value}
    (a13 : PySem.W.nsIn K mainGlobals "is_kinder" = some (some (.ref f13)))
    (l13 : K.lookup f13 = some ⟨oc13, od13, .func (PySem.W.fnOf "is_kinder" "is_kinder" (defArgs s_is_kinder) (defBody s_is_kinder) (defScope s_is_kinder) .none kV13 dc13 pm13 an13 cd13 ct13), sl13⟩)
    (c13 : PySem.W.codeIn K cd13 "is_kinder" = true)
    (k13 : PySem.W.keepIn K (.ref f13) = true)
    {f14 : Addr} {od14 an14 : Option Addr} {sl14 : Array (Option Value)} {oc14 kV14 dc14 pm14 cd14 ct14 : Value}
    (a14 : PySem.W.nsIn K mainGlobals "_law_right" = some (some (.ref f14)))
    (l14 : K.lookup f14 = some ⟨oc14, od14, .func (PySem.W.fnOf "_law_right" "_law_right" (defArgs s__law_right) (defBody s__law_right) (defScope s__law_right) .none kV14 dc14 pm14 an14 cd14 ct14), sl14⟩)
    (c14 : PySem.W.codeIn K cd14 "_law_right" = true)
    (k14 : PySem.W.keepIn K (.ref f14) = true)
    {f15 : Addr} {od15 an15 : Option Addr} {sl15 : Array (Option Value)} {oc15 kV15 dc15 pm15 cd15 ct15 : Value}
    (a15 : PySem.W.nsIn K mainGlobals "_law_mixed" = some (some (.ref f15)))
    (l15 : K.lookup f15 = some ⟨oc15, od15, .func (PySem.W.fnOf "_law_mixed" "_law_mixed" (defArgs s__law_mixed) (defBody s__law_mixed) (defScope s__law_mixed) .none kV15 dc15 pm15 an15 cd15 ct15), sl15⟩)
    (c15 : PySem.W.codeIn K cd15 "_law_mixed" = true)
    (k15 : PySem.W.keepIn K (.ref f15) = true)
    {f16 : Addr} {od16 an16 : Option Addr} {sl16 : Array (Option Value)} {oc16 kV16 dc16 pm16 cd16 ct16 : Value}
    (a16 : PySem.W.nsIn K mainGlobals "law" = some (some (.ref f16)))
    (l16 : K.lookup f16 = some ⟨oc16, od16, .func (PySem.W.fnOf "law" "law" (defArgs s_law) (defBody s_law) (defScope s_law) .none kV16 dc16 pm16 an16 cd16 ct16), sl16⟩)
    (c16 : PySem.W.codeIn K cd16 "law" = true)
    (k16 : PySem.W.keepIn K (.ref f16) = true)
    (z_abs : PySem.W.nsIn K mainGlobals "abs" = some none)
    (z_bool : PySem.W.nsIn K mainGlobals "bool" = some none)
    (z_enumerate : PySem.W.nsIn K mainGlobals "enumerate" = some none)
    (z_int : PySem.W.nsIn K mainGlobals "int" = some none)
    (z_isinstance : PySem.W.nsIn K mainGlobals "isinstance" = some none)
    (z_len : PySem.W.nsIn K mainGlobals "len" = some none)
    (z_list : PySem.W.nsIn K mainGlobals "list" = some none)
    (z_max : PySem.W.nsIn K mainGlobals "max" = some none)
    (z_min : PySem.W.nsIn K mainGlobals "min" = some none)
    (z_range : PySem.W.nsIn K mainGlobals "range" = some none)
    (z_sorted : PySem.W.nsIn K mainGlobals "sorted" = some none)
    (z_str : PySem.W.nsIn K mainGlobals "str" = some none)
    (z_tuple : PySem.W.nsIn K mainGlobals "tuple" = some none)
    : ∃ fd : FuncData, (∀ (s : Shared) (v : Value), BindsTo s fd ⟨[v], []⟩ [("script", v)]) ∧ ∀ base : Heap, K.In base → base.Ns mainGlobals mg → FnOk l.prog w K mg base CX0 9 fa fd ["script"] (spD K 1 g_law) := by
  have e := hfa.symm.trans (PySem.W.mg_of X G a16)
  cases e
  have B : Bn mg := ⟨PySem.W.mg_none_of X G z_abs, PySem.W.mg_none_of X G z_bool, PySem.W.mg_none_of X G z_enumerate, PySem.W.mg_none_of X G z_int, PySem.W.mg_none_of X G z_isinstance, PySem.W.mg_none_of X G z_len, PySem.W.mg_none_of X G z_list, PySem.W.mg_none_of X G z_max, PySem.W.mg_none_of X G z_min, PySem.W.mg_none_of X G z_range, PySem.W.mg_none_of X G z_sorted, PySem.W.mg_none_of X G z_str, PySem.W.mg_none_of X G z_tuple⟩
  have F0 := fun_mk (st := s__law_mix) l0 c0 k0
  have b0 := F0.binds (ps := ["one", "two"]) fun _ _ _ _ _ _ us hl => match us, hl with | [_, _], _ => rfl
  have F1 := fun_mk (st := s__law_store) l1 c1 k1
  have b1 := F1.binds (ps := ["script"]) fun _ _ _ _ _ _ us hl => match us, hl with | [_], _ => rfl
  have F2 := fun_mk (st := s__law_next) l2 c2 k2
  have b2 := F2.binds (ps := ["store"]) fun _ _ _ _ _ _ us hl => match us, hl with | [_], _ => rfl
  have F3 := fun_mk (st := s__law_take) l3 c3 k3
  have b3 := F3.binds (ps := ["store", "many"]) fun _ _ _ _ _ _ us hl => match us, hl with | [_, _], _ => rfl
  have F4 := fun_mk (st := s__law_rare) l4 c4 k4
  have b4 := F4.binds (ps := ["store", "many"]) fun _ _ _ _ _ _ us hl => match us, hl with | [_, _], _ => rfl
  have F5 := fun_mk (st := s__law_size) l5 c5 k5
  have b5 := F5.binds (ps := ["store", "usual", "great"]) fun _ _ _ _ _ _ us hl => match us, hl with | [_, _, _], _ => rfl
  have F6 := fun_mk (st := s__law_order) l6 c6 k6
  have b6 := F6.binds (ps := ["store", "size"]) fun _ _ _ _ _ _ us hl => match us, hl with | [_, _], _ => rfl
  have F7 := fun_mk (st := s__law_moved) l7 c7 k7
  have b7 := F7.binds (ps := ["store", "order", "row", "toward"]) fun _ _ _ _ _ _ us hl => match us, hl with | [_, _, _, _], _ => rfl
  have F8 := fun_mk (st := s__law_copy) l8 c8 k8
  have b8 := F8.binds (ps := ["value", "form"]) fun _ _ _ _ _ _ us hl => match us, hl with | [_, _], _ => rfl
  have F9 := fun_mk (st := s__law_pairs) l9 c9 k9
  have b9 := F9.binds (ps := ["order", "row"]) fun _ _ _ _ _ _ us hl => match us, hl with | [_, _], _ => rfl
  have F10 := fun_mk (st := s_places_in) l10 c10 k10
  have b10 := F10.binds (ps := ["order"]) fun _ _ _ _ _ _ us hl => match us, hl with | [_], _ => rfl
  have F11 := fun_mk (st := s_agreeing_pairs) l11 c11 k11
  have b11 := F11.binds (ps := ["order", "row"]) fun _ _ _ _ _ _ us hl => match us, hl with | [_, _], _ => rfl
  have F12 := fun_mk (st := s__law_equal) l12 c12 k12
  have b12 := F12.binds (ps := ["one", "two"]) fun _ _ _ _ _ _ us hl => match us, hl with | [_, _], _ => rfl
  have F13 := fun_mk (st := s_is_kinder) l13 c13 k13
  have b13 := F13.binds (ps := ["order", "other", "row"]) fun _ _ _ _ _ _ us hl => match us, hl with | [_, _, _], _ => rfl
  have F14 := fun_mk (st := s__law_right) l14 c14 k14
  have b14 := F14.binds (ps := ["one", "two", "row"]) fun _ _ _ _ _ _ us hl => match us, hl with | [_, _, _], _ => rfl
  have F15 := fun_mk (st := s__law_mixed) l15 c15 k15
  have b15 := F15.binds (ps := ["store", "value"]) fun _ _ _ _ _ _ us hl => match us, hl with | [_, _], _ => rfl
  have F16 := fun_mk (st := s_law) l16 c16 k16
  have b16 := F16.binds (ps := ["script"]) fun _ _ _ _ _ _ us hl => match us, hl with | [_], _ => rfl
  refine ⟨PySem.W.fnOf "law" "law" (defArgs s_law) (defBody s_law) (defScope s_law) .none kV16 dc16 pm16 an16 cd16 ct16, fun s v => .of_eq rfl, fun base _ _ => ?_⟩
  have C__law_mix : CalD l.prog w K mg base CX0 1 "_law_mix" 2 g__law_mix := w__law_mix F0 B (PySem.W.mg_of X G a0) k0 b0
  have C__law_store : CalD l.prog w K mg base CX0 2 "_law_store" 1 g__law_store := w__law_store F1 B C__law_mix (PySem.W.mg_of X G a1) k1 b1
  have C__law_next : CalD l.prog w K mg base CX0 2 "_law_next" 1 g__law_next := w__law_next F2 B C__law_mix (PySem.W.mg_of X G a2) k2 b2
  have C__law_take : CalD l.prog w K mg base CX0 3 "_law_take" 2 g__law_take := w__law_take F3 B C__law_next C__law_mix (PySem.W.mg_of X G a3) k3 b3
  have C__law_rare : CalD l.prog w K mg base CX0 4 "_law_rare" 2 g__law_rare := w__law_rare F4 B C__law_take (PySem.W.mg_of X G a4) k4 b4
  have C__law_size : CalD l.prog w K mg base CX0 5 "_law_size" 3 g__law_size := w__law_size F5 B C__law_rare C__law_take (PySem.W.mg_of X G a5) k5 b5
  have C__law_order : CalD l.prog w K mg base CX0 4 "_law_order" 2 g__law_order := w__law_order F6 B C__law_take (PySem.W.mg_of X G a6) k6 b6
  have C__law_moved : CalD l.prog w K mg base CX0 4 "_law_moved" 4 g__law_moved := w__law_moved F7 B C__law_take (PySem.W.mg_of X G a7) k7 b7
  have C__law_copy : CalD l.prog w K mg base CX0 4 "_law_copy" 2 g__law_copy := w__law_copy F8 B (PySem.W.mg_of X G a8) k8 b8
  have C__law_pairs : CalD l.prog w K mg base CX0 1 "_law_pairs" 2 g__law_pairs := w__law_pairs F9 B (PySem.W.mg_of X G a9) k9 b9
  have C_places_in : CalD l.prog w K mg base CX0 1 "places_in" 1 g_places_in := w_places_in F10 B (PySem.W.mg_of X G a10) k10 b10
  have C_agreeing_pairs : CalD l.prog w K mg base CX0 2 "agreeing_pairs" 2 g_agreeing_pairs := w_agreeing_pairs F11 B C_places_in (PySem.W.mg_of X G a11) k11 b11
  have C__law_equal : CalD l.prog w K mg base CX0 1 "_law_equal" 2 g__law_equal := w__law_equal F12 B (PySem.W.mg_of X G a12) k12 b12
  have C_is_kinder : CalD l.prog w K mg base CX0 3 "is_kinder" 3 g_is_kinder := w_is_kinder F13 B C_places_in C_agreeing_pairs (PySem.W.mg_of X G a13) k13 b13
  have C__law_right : CalD l.prog w K mg base CX0 5 "_law_right" 3 g__law_right := w__law_right F14 B C__law_copy C__law_pairs C_agreeing_pairs C__law_equal C_is_kinder (PySem.W.mg_of X G a14) k14 b14
  have C__law_mixed : CalD l.prog w K mg base CX0 8 "_law_mixed" 2 g__law_mixed := w__law_mixed F15 B C__law_rare (PySem.W.mg_of X G a15) k15 b15
  exact f_law F16 B C__law_store C__law_size C__law_order C__law_moved C__law_right C__law_mixed

section
theorem walk {l : PySem.W.OpenLaw} {q : Program} {loose : List Str} {XP : (Str → Option Value) → Heap → Prop} {YP : World → Heap → Prop} {d : DefRec} {K : Params → PySem.W.Frag} (hn : l.most = some 63) (hdf : d.params.defaults = [])
    (hY : ∀ (w : World) (h : Heap), YP w h → (K w.params).In h)
    (F : ∀ (w : World) (mg : Str → Option Value) (fa : Addr) (h : Heap), (K w.params).In h → h.Ns mainGlobals mg → mg d.name = some (.ref fa) →
      ∃ fd : FuncData, (∀ (s : Shared) (u : Value), BindsTo s fd ⟨[u], []⟩ [("script", u)]) ∧ ∀ base : Heap, (K w.params).In base → base.Ns mainGlobals mg → FnOk l.prog w (K w.params) mg base CX0 9 fa fd ["script"] (spD (K w.params) 1 g_law)) :
    PySem.W.WalkO q loose XP YP l.row.toRowW d [] (fun f vs => PySem.call f vs) :=
  L2.walk_of (n := 63) (k := 9) (x := "script") (CX := fun _ => CX0) (sp := fun w => spD (K w.params) 1 g_law) hn (by decide) hdf ⟨rfl, by decide, by decide⟩ hY F (fun _ _ a ns hl _ hS => law_end (law_true ns hl _ (.inl rfl)) (law_true ns hl _ (.inr rfl)) hS (fun _ => rfl)) fun _ _ _ _ _ z => z
end
end Lw
open PySem PySem.W PyProof.Rows
set_option maxRecDepth 100000 in
set_option maxHeartbeats 0 in
theorem PySem.Challenge.cw_stilltofall_k23_agreeing_pairs_holds : PySem.Challenge.rw_stilltofall_k23_agreeing_pairs.Holds := by
  w_on; o_law; k_head; (case hw => w_witness2)
  k_fill
  refine Lw.walk (l := PySem.Challenge.rw_stilltofall_k23_agreeing_pairs) rfl rfl (fun w h Y => PySem.W.kIn_of Y) ?F
  case F =>
    intro w mg fa h KX G hmg
    refine' Lw.all_mk KX G hmg ?a0 ?l0 ?c0 ?k0 ?a1 ?l1 ?c1 ?k1 ?a2 ?l2 ?c2 ?k2 ?a3 ?l3 ?c3 ?k3 ?a4 ?l4 ?c4 ?k4 ?a5 ?l5 ?c5 ?k5 ?a6 ?l6 ?c6 ?k6 ?a7 ?l7 ?c7 ?k7 ?a8 ?l8 ?c8 ?k8 ?a9 ?l9 ?c9 ?k9 ?a10 ?l10 ?c10 ?k10 ?a11 ?l11 ?c11 ?k11 ?a12 ?l12 ?c12 ?k12 ?a13 ?l13 ?c13 ?k13 ?a14 ?l14 ?c14 ?k14 ?a15 ?l15 ?c15 ?k15 ?a16 ?l16 ?c16 ?k16 ?z_abs ?z_bool ?z_enumerate ?z_int ?z_isinstance ?z_len ?z_list ?z_max ?z_min ?z_range ?z_sorted ?z_str ?z_tuple
    (case a0 => k_is); (case l0 => k_is); (case c0 => k_is); (case k0 => k_is); (case a1 => k_is); (case l1 => k_is)
    (case c1 => k_is); (case k1 => k_is); (case a2 => k_is); (case l2 => k_is); (case c2 => k_is); (case k2 => k_is)
    (case a3 => k_is); (case l3 => k_is); (case c3 => k_is); (case k3 => k_is); (case a4 => k_is); (case l4 => k_is)
    (case c4 => k_is); (case k4 => k_is); (case a5 => k_is); (case l5 => k_is); (case c5 => k_is); (case k5 => k_is)
    (case a6 => k_is); (case l6 => k_is); (case c6 => k_is); (case k6 => k_is); (case a7 => k_is); (case l7 => k_is)
    (case c7 => k_is); (case k7 => k_is); (case a8 => k_is); (case l8 => k_is); (case c8 => k_is); (case k8 => k_is)
    (case a9 => k_is); (case l9 => k_is); (case c9 => k_is); (case k9 => k_is); (case a10 => k_is); (case l10 => k_is)
    (case c10 => k_is); (case k10 => k_is); (case a11 => k_is); (case l11 => k_is); (case c11 => k_is); (case k11 => k_is)
    (case a12 => k_is); (case l12 => k_is); (case c12 => k_is); (case k12 => k_is); (case a13 => k_is); (case l13 => k_is)
    (case c13 => k_is); (case k13 => k_is); (case a14 => k_is); (case l14 => k_is); (case c14 => k_is); (case k14 => k_is)
    (case a15 => k_is); (case l15 => k_is); (case c15 => k_is); (case k15 => k_is); (case a16 => k_is); (case l16 => k_is)
    (case c16 => k_is); (case k16 => k_is); (case z_abs => k_is); (case z_bool => k_is); (case z_enumerate => k_is); (case z_int => k_is)
    (case z_isinstance => k_is); (case z_len => k_is); (case z_list => k_is); (case z_max => k_is); (case z_min => k_is); (case z_range => k_is)
    (case z_sorted => k_is); (case z_str => k_is); (case z_tuple => k_is)

