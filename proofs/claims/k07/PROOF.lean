import PyProof.Rows.All
import Wide.All
import OpenK.AllK
import Wide.FinOn
import HandS.ForMost
import HandS.Exc
import HandS.HeadHook1
import HandS.Comp
import HandS.Wide
import HandS.TupAny
import HandS.More
import HandS.IsInst
import HandS.Star
import HandS.Iter
import HandS.Zip
import KE.GoesZip
import KE.GoesMore
import KE.GoesEnum
import HandS.ExcOwn
import HandS.Defaults
import HandS.EndBits
import HandS.HeadHook2
import KE.IntBitsLaws
import HandS.Head0
import HandS.Head1
import HandS.Head2
import HandS.HeadEnd
import PySem.Challenge.RW_walkagon_k07_combinations

section WkBase_text
set_option Elab.async false
set_option linter.all false
set_option maxRecDepth 100000
/-! WkBase: pure data, the store, how they lie in the layer's abstract heap. z: addresses under construction; f: the store's addresses. -/
namespace Wk
open PySem PySem.Spec PyProof.Rows L2

inductive D where
  | non | bl (b : Bool) | int (i : Int) | str (x : Str) | ty (n : String) | cls (C : Str)
  | tup (ds : List D) | lst (ds : List D) | rol (ds : List D)
  | obj (C : Str) (ns : List Str) (ds : List D) | exc (C : Str) (ns : List Str) (ds : List D)
  | ref (l : Nat)
  deriving Inhabited

inductive O where
  | lst (ds : List D)
  | ins (C : Str) (ns : List Str) (ds : List D)

abbrev Store := List O
abbrev Env' := List (Option D)

mutual
def RepV (K : PySem.W.Frag) (z f : List Addr) (H : Hp) : D → V → Prop
  | .non, v => v = .non
  | .bl b, v => v = .bl b
  | .int i, v => v = .int i
  | .str x, v => v = .str x
  | .ty n, v => v = .ty n
  | .cls C, v => v = .ref (He.ga K C)
  | .tup ds, v => ∃ a vs, v = .ref a ∧ (SqT K H a vs ∧ (a ∈ z ∨ a ∈ f → ∀ H', SqT K H' a vs)) ∧ RepVs K z f H ds vs
  | .lst ds, v => ∃ a vs, v = .ref a ∧ (H a = some (.lst vs) ∧ a ∉ z ∧ a ∉ f) ∧ RepVs K z f H ds vs
  | .rol ds, v => ∃ a vs, v = .ref a ∧ (SqL K H a vs ∧ (a ∈ z ∨ a ∈ f → ∀ H', SqL K H' a vs)) ∧ RepVs K z f H ds vs
  | .obj C ns ds, v => ∃ a dx fs, v = .ref a ∧ (H a = some (.ins (He.ga K C) dx fs) ∧ (a ∉ z ∧ a ∉ f) ∧ fs.map (·.1) = ns) ∧ RepVs K z f H ds (fs.map (·.2))
  | .exc _ _ _, _ => False
  | .ref l, v => ∃ a, v = .ref a ∧ f[l]? = some a
def RepVs (K : PySem.W.Frag) (z f : List Addr) (H : Hp) : List D → List V → Prop
  | [], vs => vs = []
  | d :: ds, vs => ∃ v ws, vs = v :: ws ∧ RepV K z f H d v ∧ RepVs K z f H ds ws
end

/-- what may happen to the heap: the store's objects change, new ones come -/
structure Step (f : List Addr) (H : Hp) (f' : List Addr) (H' : Hp) : Prop where
  ext : ∃ g, f' = f ++ g ∧ ∀ a ∈ g, H a = none
  keep : ∀ a o, H a = some o → a ∉ f → H' a = some o
  trk : ∀ a ∈ f', H' a ≠ none
/-- .. and the addresses under construction -/
structure Mv (z f : List Addr) (H : Hp) (z' f' : List Addr) (H' : Hp) : Prop where
  ext : ∃ g, f' = f ++ g ∧ ∀ a ∈ g, H a = none
  keep : ∀ a o, H a = some o → a ∉ z → a ∉ f → H' a = some o
  zz : ∀ a ∈ z', a ∉ z → H a = none

theorem Step.mv {z f f' : List Addr} {H H' : Hp} (s : Step f H f' H') : Mv z f H z f' H' :=
  ⟨s.ext, fun a o e _ n => s.keep a o e n, fun a h n => absurd h n⟩
theorem Step.refl {f : List Addr} {H : Hp} (h : ∀ a ∈ f, H a ≠ none) : Step f H f H :=
  ⟨⟨[], by simp, by simp⟩, fun _ _ e _ => e, h⟩
theorem Step.new {f f' : List Addr} {H H' : Hp} (s : Step f H f' H') {a : Addr} (h : a ∈ f') (n : a ∉ f) : H a = none := by
  obtain ⟨g, rfl, hg⟩ := s.ext
  rcases List.mem_append.mp h with q | q
  · exact absurd q n
  · exact hg a q
theorem Step.out {f f' : List Addr} {H H' : Hp} (s : Step f H f' H') {a : Addr} {o : HO} (e : H a = some o) (n : a ∉ f) : a ∉ f' := fun h => by
  rw [s.new h n] at e
  cases e
theorem Step.trans {f f1 f2 : List Addr} {H H1 H2 : Hp} (s : Step f H f1 H1) (t : Step f1 H1 f2 H2) : Step f H f2 H2 := by
  obtain ⟨g, e1, hg⟩ := s.ext
  obtain ⟨k, e2, hk⟩ := t.ext
  subst e1
  subst e2
  refine ⟨⟨g ++ k, by rw [List.append_assoc], fun a ha => ?_⟩, fun a o e n => ?_, t.trk⟩
  · rcases List.mem_append.mp ha with q | q
    · exact hg a q
    · cases z : H a with
      | none => rfl
      | some o =>
        have h1 := hk a q
        by_cases m : a ∈ f
        · exact absurd h1 (s.trk a (List.mem_append_left _ m))
        · rw [s.keep a o z m] at h1
          cases h1
  · exact t.keep a o (s.keep a o e n) (s.out e n)

section
variable {z f z' f' : List Addr} {H H' : Hp}
theorem Mv.new (s : Mv z f H z' f' H') {a : Addr} (h : a ∈ f') (n : a ∉ f) : H a = none := by
  obtain ⟨g, rfl, hg⟩ := s.ext
  rcases List.mem_append.mp h with q | q
  · exact absurd q n
  · exact hg a q
theorem Mv.outF (s : Mv z f H z' f' H') {a : Addr} {o : HO} (e : H a = some o) (n : a ∉ f) : a ∉ f' := fun h => by
  rw [s.new h n] at e
  cases e
theorem Mv.outZ (s : Mv z f H z' f' H') {a : Addr} {o : HO} (e : H a = some o) (n : a ∉ z) : a ∉ z' := fun h => by
  rw [s.zz a h n] at e
  cases e
theorem Mv.get (s : Mv z f H z' f' H') {l : Nat} {a : Addr} (e : f[l]? = some a) : f'[l]? = some a := by
  obtain ⟨g, rfl, _⟩ := s.ext
  rw [List.getElem?_append_left (List.getElem?_eq_some_iff.mp e).1]
  exact e
theorem sqT_mv {K : PySem.W.Frag} (s : Mv z f H z' f' H') {a : Addr} {vs : List V} (h : SqT K H a vs ∧ (a ∈ z ∨ a ∈ f → ∀ H', SqT K H' a vs)) : SqT K H' a vs ∧ (a ∈ z' ∨ a ∈ f' → ∀ H', SqT K H' a vs) := by
  obtain ⟨h1, h2⟩ := h
  by_cases m : a ∈ z ∨ a ∈ f
  · exact ⟨h2 m H', fun _ => h2 m⟩
  · rcases h1 with h1 | h1
    · have key : ∀ o, H a = some o → H' a = some o ∧ ¬ (a ∈ z' ∨ a ∈ f') := fun o e => ⟨s.keep a o e (fun q => m (.inl q)) fun q => m (.inr q), fun q => q.elim (s.outZ e fun q => m (.inl q)) (s.outF e fun q => m (.inr q))⟩
      rcases h1 with e | ⟨o, e⟩
      · exact ⟨.inl (.inl (key _ e).1), fun z => absurd z (key _ e).2⟩
      · exact ⟨.inl (.inr ⟨o, (key _ e).1⟩), fun z => absurd z (key _ e).2⟩
    · exact ⟨.inr h1, fun _ _ => .inr h1⟩
theorem sqL_mv {K : PySem.W.Frag} (s : Mv z f H z' f' H') {a : Addr} {vs : List V} (h : SqL K H a vs ∧ (a ∈ z ∨ a ∈ f → ∀ H', SqL K H' a vs)) : SqL K H' a vs ∧ (a ∈ z' ∨ a ∈ f' → ∀ H', SqL K H' a vs) := by
  obtain ⟨h1, h2⟩ := h
  by_cases m : a ∈ z ∨ a ∈ f
  · exact ⟨h2 m H', fun _ => h2 m⟩
  · rcases h1 with h1 | h1
    · have key : ∀ o, H a = some o → H' a = some o ∧ ¬ (a ∈ z' ∨ a ∈ f') := fun o e => ⟨s.keep a o e (fun q => m (.inl q)) fun q => m (.inr q), fun q => q.elim (s.outZ e fun q => m (.inl q)) (s.outF e fun q => m (.inr q))⟩
      rcases h1 with e | ⟨o, e⟩
      · exact ⟨.inl (.inl (key _ e).1), fun z => absurd z (key _ e).2⟩
      · exact ⟨.inl (.inr ⟨o, (key _ e).1⟩), fun z => absurd z (key _ e).2⟩
    · exact ⟨.inr h1, fun _ _ => .inr h1⟩

mutual
theorem RepV.mv {K : PySem.W.Frag} (s : Mv z f H z' f' H') : ∀ (d : D) (v : V), RepV K z f H d v → RepV K z' f' H' d v
  | .non, _, h => by simpa only [RepV] using h
  | .bl _, _, h => by simpa only [RepV] using h
  | .int _, _, h => by simpa only [RepV] using h
  | .str _, _, h => by simpa only [RepV] using h
  | .ty _, _, h => by simpa only [RepV] using h
  | .cls _, _, h => by simpa only [RepV] using h
  | .tup ds, v, h => by
    simp only [RepV] at h ⊢
    obtain ⟨a, vs, e, q, r⟩ := h
    exact ⟨a, vs, e, sqT_mv s q, RepVs.mv s ds vs r⟩
  | .lst ds, v, h => by
    simp only [RepV] at h ⊢
    obtain ⟨a, vs, e, q, r⟩ := h
    exact ⟨a, vs, e, ⟨s.keep _ _ q.1 q.2.1 q.2.2, s.outZ q.1 q.2.1, s.outF q.1 q.2.2⟩, RepVs.mv s ds vs r⟩
  | .rol ds, v, h => by
    simp only [RepV] at h ⊢
    obtain ⟨a, vs, e, q, r⟩ := h
    exact ⟨a, vs, e, sqL_mv s q, RepVs.mv s ds vs r⟩
  | .obj C ns ds, v, h => by
    simp only [RepV] at h ⊢
    obtain ⟨a, dx, fs, e, q, r⟩ := h
    exact ⟨a, dx, fs, e, ⟨s.keep _ _ q.1 q.2.1.1 q.2.1.2, ⟨s.outZ q.1 q.2.1.1, s.outF q.1 q.2.1.2⟩, q.2.2⟩, RepVs.mv s ds _ r⟩
  | .exc _ _ _, _, h => by simp only [RepV] at h
  | .ref l, v, h => by
    simp only [RepV] at h ⊢
    obtain ⟨a, e, q⟩ := h
    exact ⟨a, e, s.get q⟩
theorem RepVs.mv {K : PySem.W.Frag} (s : Mv z f H z' f' H') : ∀ (ds : List D) (vs : List V), RepVs K z f H ds vs → RepVs K z' f' H' ds vs
  | [], _, h => by simpa only [RepVs] using h
  | d :: ds, vs, h => by
    simp only [RepVs] at h ⊢
    obtain ⟨v, ws, e, h1, h2⟩ := h
    exact ⟨v, ws, e, RepV.mv s d v h1, RepVs.mv s ds ws h2⟩
end
end

def RepO (K : PySem.W.Frag) (z f : List Addr) (H : Hp) (a : Addr) : O → Prop
  | .lst ds => ∃ vs, H a = some (.lst vs) ∧ RepVs K z f H ds vs
  | .ins C ns ds => ∃ dx fs, (H a = some (.ins (He.ga K C) dx fs) ∧ fs.map (·.1) = ns) ∧ RepVs K z f H ds (fs.map (·.2))

structure RepS (K : PySem.W.Frag) (z f : List Addr) (H : Hp) (S : Store) : Prop where
  len : f.length = S.length
  nd : f.Nodup
  zf : ∀ a ∈ z, a ∉ f
  zt : ∀ a ∈ z, H a ≠ none
  obj : ∀ (l : Nat) a o, f[l]? = some a → S[l]? = some o → RepO K z f H a o

structure RepE (K : PySem.W.Frag) (z f : List Addr) (H : Hp) (σ : L2.St) (ρ : Env') : Prop where
  len : σ.length = ρ.length
  get : ∀ (i : Nat) d, ρ[i]? = some (some d) → ∃ v, σ[i]? = some (some v) ∧ RepV K z f H d v

structure Rep (K : PySem.W.Frag) (z f : List Addr) (H : Hp) (σ : L2.St) (ρ : Env') (S : Store) : Prop where
  s : RepS K z f H S
  e : RepE K z f H σ ρ

section
variable {K : PySem.W.Frag} {z f z' f' : List Addr} {H H' : Hp} {σ : L2.St} {ρ : Env'} {S : Store}
theorem RepE.mv (s : Mv z f H z' f' H') (r : RepE K z f H σ ρ) : RepE K z' f' H' σ ρ :=
  ⟨r.len, fun i d e => let ⟨v, h1, h2⟩ := r.get i d e; ⟨v, h1, h2.mv s⟩⟩
theorem RepO.trk {a : Addr} : ∀ {o : O}, RepO K z f H a o → ∃ u, H a = some u
  | .lst _, ⟨_, e, _⟩ => ⟨_, e⟩
  | .ins _ _ _, ⟨_, _, e, _⟩ => ⟨_, e.1⟩
theorem RepS.trk (r : RepS K z f H S) : ∀ a ∈ f, H a ≠ none := fun a ha => by
  obtain ⟨l, hl, e⟩ := List.getElem_of_mem ha
  have e1 : f[l]? = some a := by rw [List.getElem?_eq_getElem hl, e]
  have hs : l < S.length := by rw [← r.len]; exact hl
  obtain ⟨u, q⟩ := (r.obj l a S[l] e1 (List.getElem?_eq_getElem hs)).trk
  rw [q]
  exact fun z => nomatch z
theorem RepS.refl (r : RepS K z f H S) : Step f H f H := Step.refl r.trk
theorem Rep.refl (r : Rep K z f H σ ρ S) : Step f H f H := r.s.refl
/-- the store's objects stand as they stood -/
theorem RepO.mv (s : Mv z f H z' f' H') {a : Addr} (h : H' a = H a) : ∀ {o : O}, RepO K z f H a o → RepO K z' f' H' a o
  | .lst ds, ⟨vs, e, r⟩ => ⟨vs, h.trans e, r.mv s⟩
  | .ins C ns ds, ⟨dx, fs, e, r⟩ => ⟨dx, fs, ⟨h.trans e.1, e.2⟩, r.mv s⟩
theorem RepS.mv (s : Mv z f H z' f H') (hf : ∀ a ∈ f, H' a = H a) (hz : ∀ a ∈ z', H' a ≠ none) (r : RepS K z f H S) : RepS K z' f H' S :=
  ⟨r.len, r.nd, fun a ha hf' => by
    by_cases m : a ∈ z
    · exact r.zf a m hf'
    · exact r.trk a hf' (s.zz a ha m), hz, fun l a o e q => (r.obj l a o e q).mv s (hf a (List.mem_of_getElem? e))⟩
/-- a new object that is not of the store -/
theorem Step.alloc (r : RepS K z f H S) {p : Addr} (hp : H p = none) (o : HO) : Step f H f (upd H p o) :=
  ⟨⟨[], by simp, by simp⟩, fun a u e _ => by rw [upd_ne (ne_of_none e hp)]; exact e, fun a ha => by
    cases q : H a with
    | none => exact absurd q (r.trk a ha)
    | some u => rw [upd_ne (ne_of_none q hp), q]; exact fun z => nomatch z⟩
theorem some_alloc {p a : Addr} {o : HO} (hp : H p = none) (h : H a ≠ none) : upd H p o a ≠ none := by
  cases q : H a with
  | none => exact absurd q h
  | some u => rw [upd_ne (ne_of_none q hp), q]; exact fun z => nomatch z
theorem some_put {p a : Addr} {o : HO} (h : H a ≠ none) : upd H p o a ≠ none := by
  by_cases q : a = p
  · rw [q, upd_same]; exact fun z => nomatch z
  · rw [upd_ne q]; exact h
theorem RepS.alloc (r : RepS K z f H S) {p : Addr} (hp : H p = none) (o : HO) : RepS K z f (upd H p o) S :=
  r.mv (Step.alloc r hp o).mv (fun a ha => by
    cases q : H a with
    | none => exact absurd q (r.trk a ha)
    | some u => rw [upd_ne (ne_of_none q hp), q]) fun a ha => some_alloc hp (r.zt a ha)
theorem Rep.alloc (r : Rep K z f H σ ρ S) {p : Addr} (hp : H p = none) (o : HO) : Rep K z f (upd H p o) σ ρ S :=
  ⟨r.s.alloc hp o, r.e.mv (Step.alloc r.s hp o).mv⟩
theorem RepS.outZ (r : RepS K z f H S) {p : Addr} (hp : H p = none) : p ∉ z := fun h => r.zt p h hp
theorem RepS.out (r : RepS K z f H S) {p : Addr} (hp : H p = none) : p ∉ f := fun h => r.trk p h hp
/-- a new object of the store -/
theorem Step.allocS (r : RepS K z f H S) {p : Addr} (hp : H p = none) (o : HO) : Step f H (f ++ [p]) (upd H p o) :=
  ⟨⟨[p], rfl, fun a ha => by rw [List.mem_singleton.mp ha]; exact hp⟩, fun a u e _ => by rw [upd_ne (ne_of_none e hp)]; exact e, fun a ha => by
    rcases List.mem_append.mp ha with m | m
    · cases q : H a with
      | none => exact absurd q (r.trk a m)
      | some u => rw [upd_ne (ne_of_none q hp), q]; exact fun z => nomatch z
    · rw [List.mem_singleton.mp m, upd_same]; exact fun z => nomatch z⟩
theorem getElem?_snoc {α : Type} {l : List α} {a b : α} {i : Nat} (h : (l ++ [a])[i]? = some b) : l[i]? = some b ∨ (i = l.length ∧ a = b) := by
  by_cases q : i < l.length
  · rw [List.getElem?_append_left q] at h
    exact .inl h
  · rw [List.getElem?_append_right (by omega)] at h
    have e : i - l.length = 0 := by
      by_cases e : i - l.length = 0
      · exact e
      · rw [List.getElem?_eq_none (by simp; omega)] at h
        cases h
    rw [e] at h
    exact .inr ⟨by omega, Option.some.inj h⟩
theorem RepS.allocS (r : RepS K z f H S) {p : Addr} (hp : H p = none) {o : O} {u : HO} (ho : RepO K z (f ++ [p]) (upd H p u) p o) : RepS K z (f ++ [p]) (upd H p u) (S ++ [o]) := by
  have st := Step.allocS r hp u
  refine ⟨by rw [List.length_append, List.length_append, r.len] <;> rfl, ?_, fun a ha h => ?_, fun a ha => some_alloc hp (r.zt a ha), fun l a o' e1 e2 => ?_⟩
  · rw [List.nodup_append]
    refine ⟨r.nd, by simp, fun a ha b hb e => ?_⟩
    rw [List.mem_singleton.mp hb] at e
    rw [e] at ha
    exact r.out hp ha
  · rcases List.mem_append.mp h with q | q
    · exact r.zf a ha q
    · rw [List.mem_singleton.mp q] at ha
      exact r.outZ hp ha
  · rcases getElem?_snoc e1 with h1 | ⟨h1, h2⟩
    · have hl : l < S.length := by rw [← r.len]; exact (List.getElem?_eq_some_iff.mp h1).1
      rw [List.getElem?_append_left hl] at e2
      have ho' := r.obj l a o' h1 e2
      obtain ⟨w, q⟩ := ho'.trk
      exact ho'.mv st.mv (by rw [upd_ne (ne_of_none q hp)])
    · rw [h1, r.len, List.getElem?_append_right (Nat.le_refl _), Nat.sub_self] at e2
      have e3 : o = o' := Option.some.inj e2
      rw [← h2, ← e3]
      exact ho
theorem Rep.allocS (r : Rep K z f H σ ρ S) {p : Addr} (hp : H p = none) {o : O} {u : HO} (ho : RepO K z (f ++ [p]) (upd H p u) p o) : Rep K z (f ++ [p]) (upd H p u) σ ρ (S ++ [o]) :=
  ⟨r.s.allocS hp ho, r.e.mv (Step.allocS r.s hp u).mv⟩
/-- an object of the store is written -/
theorem Step.put (r : RepS K z f H S) {l : Nat} {a : Addr} (e : f[l]? = some a) (u : HO) : Step f H f (upd H a u) :=
  ⟨⟨[], by simp, by simp⟩, fun b w q n => by rw [upd_ne fun z => n (by rw [z]; exact List.mem_of_getElem? e)]; exact q, fun b hb => by
    by_cases q : b = a
    · rw [q, upd_same]; exact fun z => nomatch z
    · rw [upd_ne q]; exact r.trk b hb⟩
theorem nodup_get {f : List Addr} (nd : f.Nodup) {i j : Nat} {a : Addr} (h1 : f[i]? = some a) (h2 : f[j]? = some a) : i = j := by
  obtain ⟨x1, e1⟩ := List.getElem?_eq_some_iff.mp h1
  obtain ⟨x2, e2⟩ := List.getElem?_eq_some_iff.mp h2
  exact (List.getElem_inj nd).mp (e1.trans e2.symm)
theorem RepS.put (r : RepS K z f H S) {l : Nat} {a : Addr} (e : f[l]? = some a) {o : O} {u : HO} (ho : RepO K z f (upd H a u) a o) : RepS K z f (upd H a u) (S.set l o) := by
  have st := Step.put r e u
  refine ⟨by rw [List.length_set, r.len], r.nd, r.zf, fun a ha => some_put (r.zt a ha), fun k b o' e1 e2 => ?_⟩
  by_cases q : k = l
  · rw [q] at e1 e2
    rw [e] at e1
    have hb : a = b := Option.some.inj e1
    have hl : l < S.length := by rw [← r.len]; exact (List.getElem?_eq_some_iff.mp e).1
    rw [List.getElem?_set_self hl] at e2
    rw [← hb, ← Option.some.inj e2]
    exact ho
  · rw [List.getElem?_set_ne (Ne.symm q)] at e2
    exact (r.obj k b o' e1 e2).mv st.mv (by rw [upd_ne fun z => q (nodup_get r.nd e1 (by rw [z]; exact e))])
theorem Rep.put (r : Rep K z f H σ ρ S) {l : Nat} {a : Addr} (e : f[l]? = some a) {o : O} {u : HO} (ho : RepO K z f (upd H a u) a o) : Rep K z f (upd H a u) σ ρ (S.set l o) :=
  ⟨r.s.put e ho, r.e.mv (Step.put r.s e u).mv⟩
end
end Wk
end WkBase_text

section WkFin_text
set_option Elab.async false
set_option linter.all false
set_option maxRecDepth 100000
/-! WkFin: outcomes of a run over pure data; what an outcome asks of the layer. -/
namespace Wk
open PySem PySem.Spec PyProof.Rows L2

inductive Res (α : Type) where
  | ok (a : α) (S : Store)
  | ex (x : D) (S : Store)
def M (α : Type) : Type := Store → Option (Res α)
namespace M
def ret {α : Type} (a : α) : M α := fun S => some (.ok a S)
def bind {α β : Type} (r : M α) (k : α → M β) : M β := fun S => match r S with
  | some (.ok a S') => k a S'
  | some (.ex x S') => some (.ex x S')
  | none => none
def fail {α : Type} : M α := fun _ => none
def raise {α : Type} (x : D) : M α := fun S => some (.ex x S)
/-- an outcome that is no exception -/
def opt {α : Type} (o : Option α) : M α := fun S => o.map fun a => .ok a S
end M
instance : Monad M := { pure := M.ret, bind := M.bind }

def RepX (K : PySem.W.Frag) (z f : List Addr) (H : Hp) : D → Value → Option Addr → Prop
  | .exc C ns ds, c, dd => c = .ref (He.ga K C) ∧ ((dd = none ∧ ns = [] ∧ ds = []) ∨ ∃ d fs, dd = some d ∧ (H d = some (.xd fs) ∧ d ∉ z ∧ d ∉ f) ∧ fs.map (·.1) = ns ∧ RepVs K z f H ds (fs.map (·.2)))
  | _, _, _ => False

section
variable {K : PySem.W.Frag} {z f f' : List Addr} {H H' : Hp}
theorem RepX.mv {z' : List Addr} (s : Mv z f H z' f' H') : ∀ {d : D} {c : Value} {dd : Option Addr}, RepX K z f H d c dd → RepX K z' f' H' d c dd
  | .exc _ _ _, _, _, ⟨e, .inl q⟩ => ⟨e, .inl q⟩
  | .exc _ _ _, _, _, ⟨e, .inr ⟨d, fs, e1, ⟨e2, n1, n2⟩, e3, r⟩⟩ => ⟨e, .inr ⟨d, fs, e1, ⟨s.keep _ _ e2 n1 n2, s.outZ e2 n1, s.outF e2 n2⟩, e3, r.mv s⟩⟩
end

/-- how results lie -/
abbrev RR (α β : Type) := List Addr → Hp → α → β → Prop
def rV (K : PySem.W.Frag) (z : List Addr) : RR D V := fun f H d v => RepV K z f H d v
def rVs (K : PySem.W.Frag) (z : List Addr) : RR (List D) (List V) := fun f H ds vs => RepVs K z f H ds vs
def rEq' (α : Type) : RR α α := fun _ _ a b => a = b

def Fin {α β : Type} (R : RR α β) (K : PySem.W.Frag) (z : List Addr) (W : WX) (f : List Addr) (σ : L2.St) (ρ : Env') (H : Hp) (r : Option (Res α)) (Q : β → Hp → Prop) : Prop :=
  match r with
  | some (.ok a S') => ∀ f' H' b, Step f H f' H' → Rep K z f' H' σ ρ S' → R f' H' a b → Q b H'
  | some (.ex x S') => ∀ f' H' c dd, Step f H f' H' → Rep K z f' H' σ ρ S' → RepX K z f' H' x c dd → W c dd σ H'
  | none => False

section
variable {α β γ δ : Type} {R : RR α β} {R2 : RR γ δ} {K : PySem.W.Frag} {z : List Addr} {W : WX} {f f1 : List Addr} {σ : L2.St} {ρ : Env'} {S : Store} {H H1 : Hp} {r : Option (Res α)} {Q Q' : β → Hp → Prop}
theorem Fin.mono (h : Fin R K z W f σ ρ H r Q) (hQ : ∀ b H', Q b H' → Q' b H') : Fin R K z W f σ ρ H r Q' := by
  cases r with
  | none => exact h
  | some r =>
    cases r with
    | ok a S' => exact fun f' H' b s r q => hQ _ _ (h f' H' b s r q)
    | ex x S' => exact h
theorem Fin.from (h : Fin R K z W f σ ρ H r Q) (s : Step f H f1 H1) : Fin R K z W f1 σ ρ H1 r Q := by
  cases r with
  | none => exact h
  | some r =>
    cases r with
    | ok a S' => exact fun f' H' b t r q => h f' H' b (s.trans t) r q
    | ex x S' => exact fun f' H' c dd t r q => h f' H' c dd (s.trans t) r q
/-- one step ahead of the rest -/
theorem Fin.bind {m : M α} {k : α → M γ} {Q : δ → Hp → Prop} (h : Fin R2 K z W f σ ρ H ((m >>= k) S) Q) :
    Fin R K z W f σ ρ H (m S) (fun b H1 => ∃ f1 S1 a, Step f H f1 H1 ∧ Rep K z f1 H1 σ ρ S1 ∧ R f1 H1 a b ∧ Fin R2 K z W f1 σ ρ H1 (k a S1) Q) := by
  have e : (m >>= k) S = M.bind m k S := rfl
  rw [e] at h
  unfold M.bind at h
  cases q : m S with
  | none =>
    rw [q] at h
    exact h
  | some r =>
    rw [q] at h
    cases r with
    | ok a S' =>
      have h1 : Fin R2 K z W f σ ρ H (k a S') Q := h
      exact fun f' H' b s r2 q2 => ⟨f', S', a, s, r2, q2, h1.from s⟩
    | ex x S' => exact h
/-- the result is there -/
theorem Fin.here {a : α} {b : β} (h : Fin R K z W f σ ρ H (some (.ok a S)) Q) (rep : Rep K z f H σ ρ S) (r : R f H a b) : Q b H := h f H b rep.refl rep r
end

/-! ### readings -/
def tE (K : PySem.W.Frag) (W : WX) (g : Env' → M D) : TE := fun σ H Q => ∃ z f ρ S, Rep K z f H σ ρ S ∧ Fin (rV K z) K z W f σ ρ H (g ρ S) Q
def tA (K : PySem.W.Frag) (W : WX) (g : Env' → M (List D)) : TA := fun σ H Q => ∃ z f ρ S, Rep K z f H σ ρ S ∧ Fin (rVs K z) K z W f σ ρ H (g ρ S) Q
def tT (K : PySem.W.Frag) (W : WX) (g : Env' → M Bool) : TT := fun σ H Q => ∃ z f ρ S, Rep K z f H σ ρ S ∧ Fin (rEq' Bool) K z W f σ ρ H (g ρ S) Q

theorem PEimp {X : Cx} {e : Expr} {t t' : TE} (h : PE X e t) (i : ∀ σ H Q, t' σ H Q → t σ H Q) : PE X e t' := ⟨fun pins s σ H Q I q => h.run pins s σ H Q I (i σ H Q q)⟩
theorem PTimp {X : Cx} {e : Expr} {t t' : TT} (h : PT X e t) (i : ∀ σ H Q, t' σ H Q → t σ H Q) : PT X e t' := ⟨fun pins s σ H Q I q => h.run pins s σ H Q I (i σ H Q q)⟩
theorem PWimp {X : Cx} {e : Expr} {t t' : TT} (h : PW X e t) (i : ∀ σ H Q, t' σ H Q → t σ H Q) : PW X e t' := ⟨fun w pins s σ H Q I q => h.run w pins s σ H Q I (i σ H Q q)⟩
theorem PAimp {X : Cx} {e : List Expr} {t t' : TA} (h : PA X e t) (i : ∀ σ H Q, t' σ H Q → t σ H Q) : PA X e t' := ⟨fun p pins s σ H Q I q => h.run p pins s σ H Q I (i σ H Q q)⟩
theorem PSimp {X : Cx} {e : Stmt} {t t' : TS} (h : PS X e t) (i : ∀ D σ H, t' D σ H → t D σ H) : PS X e t' := ⟨fun pins s σ H D I q => h.run pins s σ H D I (i D σ H q)⟩
theorem PSsimp {X : Cx} {e : List Stmt} {t t' : TS} (h : PSs X e t) (i : ∀ D σ H, t' D σ H → t D σ H) : PSs X e t' := ⟨fun pins s σ H D I q => h.run pins s σ H D I (i D σ H q)⟩

/-! ### statements -/
inductive Fl where
  | nx | rt (d : D) | bk | ct
inductive RS where
  | ok (ρ : Env') (S : Store) (fl : Fl)
  | ex (x : D) (ρ : Env') (S : Store)
abbrev MS := Env' → Store → Option RS
/-- an expression in a statement -/
def exS {α : Type} (m : Env' → M α) (k : α → MS) : MS := fun ρ S => match m ρ S with
  | some (.ok a S') => k a ρ S'
  | some (.ex x S') => some (.ex x ρ S')
  | none => none
def thenS (m k : MS) : MS := fun ρ S => match m ρ S with
  | some (.ok ρ' S' .nx) => k ρ' S'
  | r => r
def FinS (K : PySem.W.Frag) (z : List Addr) (W : WX) (f : List Addr) (H : Hp) (r : Option RS) (D : Ends) : Prop :=
  match r with
  | some (.ok ρ' S' .nx) => ∀ f' H' σ', Step f H f' H' → Rep K z f' H' σ' ρ' S' → D.nx σ' H'
  | some (.ok ρ' S' (.rt d)) => ∀ f' H' σ' v, Step f H f' H' → Rep K z f' H' σ' ρ' S' → RepV K z f' H' d v → D.rt v H'
  | some (.ok ρ' S' .bk) => ∀ f' H' σ', Step f H f' H' → Rep K z f' H' σ' ρ' S' → D.bk σ' H'
  | some (.ok ρ' S' .ct) => ∀ f' H' σ', Step f H f' H' → Rep K z f' H' σ' ρ' S' → D.ct σ' H'
  | some (.ex x ρ' S') => ∀ f' H' σ' c dd, Step f H f' H' → Rep K z f' H' σ' ρ' S' → RepX K z f' H' x c dd → W c dd σ' H'
  | none => False
def tS (K : PySem.W.Frag) (W : WX) (g : MS) : TS := fun D σ H => ∃ z f ρ S, Rep K z f H σ ρ S ∧ FinS K z W f H (g ρ S) D
section
variable {α β : Type} {R : RR α β} {K : PySem.W.Frag} {z : List Addr} {W : WX} {f f1 : List Addr} {σ : L2.St} {ρ : Env'} {S : Store} {H H1 : Hp} {r : Option RS} {D D' : Ends}
theorem FinS.from (h : FinS K z W f H r D) (s : Step f H f1 H1) : FinS K z W f1 H1 r D := by
  cases r with
  | none => exact h
  | some r =>
    cases r with
    | ok ρ' S' fl => cases fl with
      | nx => exact fun f' H' σ' t r => h f' H' σ' (s.trans t) r
      | bk => exact fun f' H' σ' t r => h f' H' σ' (s.trans t) r
      | ct => exact fun f' H' σ' t r => h f' H' σ' (s.trans t) r
      | rt d => exact fun f' H' σ' v t r q => h f' H' σ' v (s.trans t) r q
    | ex x ρ' S' => exact fun f' H' σ' c dd t r q => h f' H' σ' c dd (s.trans t) r q
theorem FinS.exS {m : Env' → M α} {k : α → MS} (h : FinS K z W f H (exS m k ρ S) D) :
    Fin R K z W f σ ρ H (m ρ S) (fun b H1 => ∃ f1 S1 a, Step f H f1 H1 ∧ Rep K z f1 H1 σ ρ S1 ∧ R f1 H1 a b ∧ FinS K z W f1 H1 (k a ρ S1) D) := by
  unfold Wk.exS at h
  cases q : m ρ S with
  | none =>
    rw [q] at h
    exact h
  | some r =>
    rw [q] at h
    cases r with
    | ok a S' =>
      have h1 : FinS K z W f H (k a ρ S') D := h
      exact fun f' H' b s r2 q2 => ⟨f', S', a, s, r2, q2, h1.from s⟩
    | ex x S' => exact fun f' H' c dd s r q => h f' H' σ c dd s r q
end
end Wk
end WkFin_text

section WkLang_text
set_option Elab.async false
set_option linter.all false
set_option maxRecDepth 100000
/-! WkLang: the small language (no positions, names by slots) and what a run of it gives. -/
namespace Wk
open PySem PySem.Spec PyProof.Rows L2

inductive BOp where
  | add | sub | mul | fdiv | mod | pow
  deriving DecidableEq
inductive COp where
  | eq | ne | lt | le | gt | ge | isN | notN | isin | notin
  deriving DecidableEq
inductive LM where
  | append | pop | popAt
  deriving DecidableEq

inductive BI where
  | len | tuple | abs | sum | max | min | int | isinstance
  deriving DecidableEq

mutual
inductive E where
  | v (i : Nat) | g (x : Str) | cint (i : Int) | cstr (x : Str) | cbl (b : Bool) | cnon
  | bin (o : BOp) (a b : E) | neg (a : E) | cmp (o : COp) (a b : E) | chain (o p : COp) (a b c : E)
  | and_ (xs : A) | or_ (xs : A) | not_ (a : E) | ife (c a b : E)
  | tup (xs : A) | lst (fz : Bool) (xs : A)
  | ix (a b : E) | slL (a lo : E) | slH (a hi : E) | slLH (a lo hi : E)
  | comp (fz : Bool) (own : List (Str × Nat)) (t : T) (it : I) (cs : A) (e : E)
  | call (th : Bool) (f : Str) (xs : A) (ks : Kw)
  | bi (f : BI) (xs : A)
  | listOf (fz : Bool) (a : E) | rep (fz : Bool) (a b : E)
  | lm (m : LM) (a : E) (xs : A)
inductive A where
  | nil | cons (e : E) (r : A) | star (e : E) (r : A)
inductive Kw where
  | nil | cons (n : Str) (e : E) (r : Kw)
inductive I where
  | seq (e : E) | r1 (a : E) | r2 (a b : E) | zip (a b : E) | enum (a : E)
inductive T where
  | nm (i : Nat) | sub (a i : E) | tp (ts : Ts)
inductive Ts where
  | nil | cons (t : T) (r : Ts)
end
mutual
inductive S where
  | expr (e : E) | asg (t : T) (e : E) | aug (i : Nat) (o : BOp) (e : E)
  | if_ (c : E) (a b : B) | while_ (c : E) (b : B) | for_ (t : T) (it : I) (b : B)
  | ret (e : E) | retN | brk | cont | pass
inductive B where
  | nil | cons (s : S) (r : B)
end

def Ts.len : Ts → Nat
  | .nil => 0
  | .cons _ r => r.len + 1
mutual
/-- the slots that a target writes -/
def slT : T → List Nat
  | .nm i => [i]
  | .sub _ _ => []
  | .tp ts => slTs ts
def slTs : Ts → List Nat
  | .nil => []
  | .cons t r => slT t ++ slTs r
end

/-! ### operations on data -/
abbrev bigN : Nat := 1000000
def mulOk (i j : Int) : Bool := decide (i.natAbs.log2 + j.natAbs.log2 < 1000000)
def powOk (i j : Int) : Bool := decide (0 ≤ j) && decide ((Builtin.Int.intBits i : Int) * j ≤ 2 ^ 27)
def divOk (j : Int) : Bool := decide (j ≠ 0) && decide (j.natAbs.log2 < 9000)
def lenOk (n : Nat) : Bool := decide (n ≤ bigN)

/-- the items of a list -/
def getL (d : D) : M (List D) := fun S => match d with
  | .lst ds => some (.ok ds S)
  | .rol ds => some (.ok ds S)
  | .ref l => match S[l]? with
    | some (.lst ds) => some (.ok ds S)
    | _ => none
  | _ => none
/-- .. of a list or a tuple -/
def getQ (d : D) : M (List D) := fun S => match d with
  | .tup ds => some (.ok ds S)
  | d => getL d S
def mkL (fz : Bool) (ds : List D) : M D := fun S =>
  if lenOk ds.length then (if fz then some (.ok (.lst ds) S) else some (.ok (.ref S.length) (S ++ [.lst ds]))) else none
def mkT (ds : List D) : M D := fun S => if lenOk ds.length then some (.ok (.tup ds) S) else none

def toI : D → Option Int
  | .int i => some i
  | _ => none
def toB : D → Option Bool
  | .bl i => some i
  | _ => none
def toS : D → Option Str
  | .str i => some i
  | _ => none
def toTp : D → Option (List D)
  | .tup i => some i
  | _ => none
def toLs : D → Option (List D)
  | .lst i => some i
  | _ => none
def two {α : Type} (f : D → Option α) (a b : D) (k : α → α → Option D) : Option D := (f a).bind fun x => (f b).bind fun y => k x y
def addO (a b : D) : Option D :=
  two toI a b (fun i j => some (.int (i + j))) <|> two toTp a b (fun x y => if lenOk (x.length + y.length) then some (.tup (x ++ y)) else none) <|>
  two toLs a b (fun x y => if lenOk (x.length + y.length) then some (.lst (x ++ y)) else none) <|> two toS a b (fun x y => if lenOk (x.length + y.length) then some (.str (x ++ y)) else none)
def binO : BOp → D → D → Option D
  | .add, a, b => addO a b
  | .sub, a, b => two toI a b fun i j => some (.int (i - j))
  | .mul, a, b => two toI a b fun i j => if mulOk i j then some (.int (i * j)) else none
  | .fdiv, a, b => two toI a b fun i j => if divOk j then some (.int (i.fdiv j)) else none
  | .mod, a, b => two toI a b fun i j => if decide (j ≠ 0) then some (.int (i.fmod j)) else none
  | .pow, a, b => two toI a b fun i j => if powOk i j then some (.int (i ^ j.toNat)) else none
def binD (p : BOp) (a b : D) : M D := M.opt (binO p a b)

mutual
def toPy : D → Option PyData
  | .non => some .none
  | .bl b => some (.bool b)
  | .int i => some (.int i)
  | .str x => some (.str x)
  | .tup ds => (toPys ds).map .tuple
  | .lst ds => (toPys ds).map .list
  | .rol ds => (toPys ds).map .list
  | _ => none
def toPys : List D → Option (List PyData)
  | [] => some []
  | d :: ds => (toPy d).bind fun p => (toPys ds).map fun q => p :: q
end
/-- a list of the store, read -/
def derD (S : Store) : D → D
  | .ref l => match S[l]? with
    | some (.lst ds) => .lst ds
    | _ => .ref l
  | d => d
def eqD (a b : D) : Option Bool := (toPy a).bind fun p => (toPy b).bind fun q => if SeqAt.shaped p && SeqAt.shaped q then some (PyData.eqv p q) else none

def flatD : D → Option V
  | .non => some .non
  | .bl b => some (.bl b)
  | .int i => some (.int i)
  | .str x => some (.str x)
  | _ => none
def flatDs : List D → Option (List V)
  | [] => some []
  | d :: ds => (flatD d).bind fun p => (flatDs ds).map fun q => p :: q
def inD (x : D) (ds : List D) : Option Bool := (flatD x).bind fun p => (flatDs ds).bind fun q => if flatV p && q.all flatV then some (inV p q) else none

def isNon : D → Bool
  | .non => true
  | _ => false

/-- what is asked by in -/
def itemsO (S : Store) (y : D) : Option (List D) := (toTp y) <|> toLs (derD S y)
def cmpO (S : Store) : COp → D → D → Option Bool
  | .eq, a, b => eqD (derD S a) (derD S b)
  | .ne, a, b => (eqD (derD S a) (derD S b)).map fun k => !k
  | .lt, a, b => (toI a).bind fun i => (toI b).map fun j => decide (i < j)
  | .le, a, b => (toI a).bind fun i => (toI b).map fun j => decide (i ≤ j)
  | .gt, a, b => (toI a).bind fun i => (toI b).map fun j => decide (j < i)
  | .ge, a, b => (toI a).bind fun i => (toI b).map fun j => decide (j ≤ i)
  | .isN, a, b => if isNon b then some (isNon a) else none
  | .notN, a, b => if isNon b then some (!isNon a) else none
  | .isin, x, y => (itemsO S y).bind fun ds => inD x ds
  | .notin, x, y => (itemsO S y).bind fun ds => (inD x ds).map fun k => !k
def cmpB (p : COp) (a b : D) : M Bool := fun S => (cmpO S p a b).map fun k => .ok k S
def cmpD (p : COp) (a b : D) : M D := fun S => (cmpO S p a b).map fun k => .ok (.bl k) S

/-- the items of a tuple, of a list -/
def getQO (S : Store) (d : D) : Option (List D) := match getQ d S with
  | some (.ok ds _) => some ds
  | _ => none
def truO (S : Store) (d : D) : Option Bool :=
  toB d <|> (toI d).map (fun i => i != 0) <|> (if isNon d then some false else none) <|> (getQO S d).map fun ds => !ds.isEmpty
def truD (d : D) : M Bool := fun S => (truO S d).map fun k => .ok k S
def ixO (S : Store) (a b : D) : Option D := (getQO S a).bind fun ds => (toI b).bind fun i => atI ds i
def ixD (a b : D) : M D := fun S => (ixO S a b).map fun d => .ok d S
def cutD {α : Type} (xs : List α) (lo hi : Option Int) : List α := (xs.drop (HT.sIx xs.length 0 lo)).take (HT.sIx xs.length xs.length hi - HT.sIx xs.length 0 lo)
def slO (S : Store) (a : D) (lo hi : Option Int) : Option D := ((toTp a).map fun ds => .tup (cutD ds lo hi)) <|> (toLs (derD S a)).map fun ds => .lst (cutD ds lo hi)
def slD (a : D) (lo hi : Option Int) : M D := fun S => (slO S a lo hi).map fun d => .ok d S

def intsOf : List D → Option (List Int)
  | [] => some []
  | .int i :: ds => (intsOf ds).map fun q => i :: q
  | _ => none
def blsOf : List D → Option (List Bool)
  | [] => some []
  | .bl i :: ds => (blsOf ds).map fun q => i :: q
  | _ => none
def maxOf : Int → List Int → Int
  | m, [] => m
  | m, i :: r => maxOf (if m < i then i else m) r
def minOf : Int → List Int → Int
  | m, [] => m
  | m, i :: r => minOf (if i < m then i else m) r

/-- a value's type, as far as isinstance asks -/
def tyD : D → Option String
  | .int _ => some "int"
  | .bl _ => some "bool"
  | .tup _ => some "tuple"
  | .non => some "NoneType"
  | _ => none
/-- of which of these types a value of the type is an instance -/
def isT2 (m n : String) : Option Bool := if n = "int" ∨ n = "bool" ∨ n = "tuple" then some (m == n || (m == "bool" && n == "int")) else none
def toTy : D → Option String
  | .ty n => some n
  | _ => none
def intO (x : D) : Option D := (toI x).map D.int <|> (toB x).map fun b => .int (if b then 1 else 0)
def one (xs : List D) : Option D := match xs with
  | [x] => some x
  | _ => none
def pair (xs : List D) : Option (D × D) := match xs with
  | [x, y] => some (x, y)
  | _ => none
def biO (S : Store) : BI → List D → Option D
  | .len, xs => (one xs).bind fun x => (getQO S x).map fun ds => .int ds.length
  | .tuple, xs => (one xs).bind fun x => (getQO S x).map fun ds => .tup ds
  | .abs, xs => (one xs).bind fun x => (toI x).map fun i => .int (if i < 0 then -i else i)
  | .sum, xs => (one xs).bind fun x => (toLs (derD S x)).bind fun ds => (intsOf ds).map fun ns => .int ns.sum
  | .max, xs => (pair xs).bind fun p => (toI p.1).bind fun i => (toI p.2).map fun j => .int (if j > i then j else i)
  | .min, xs => (pair xs).bind fun p => (toI p.1).bind fun i => (toI p.2).map fun j => .int (if j < i then j else i)
  | .int, xs => (one xs).bind intO
  | .isinstance, xs => (pair xs).bind fun p => (toTy p.2).bind fun n => (tyD p.1).bind fun m => (isT2 m n).map .bl
def biName : BI → Str
  | .len => "len" | .tuple => "tuple" | .abs => "abs" | .sum => "sum" | .max => "max" | .min => "min" | .int => "int" | .isinstance => "isinstance"
def biD (f : BI) (xs : List D) : M D := fun S => (biO S f xs).map fun d => .ok d S

/-- a list of the store -/
def atS (S : Store) (l : Nat) : Option (List D) := match S[l]? with
  | some (.lst ds) => some ds
  | _ => none
def toR : D → Option Nat
  | .ref l => some l
  | _ => none
def lmO (S : Store) (l : Nat) (ds : List D) : LM → List D → Option (D × List D)
  | .append, xs => (one xs).bind fun x => if lenOk (ds.length + 1) then some (.non, ds ++ [x]) else none
  | .pop, xs => if xs.isEmpty then (ds[ds.length - 1]?).map fun y => (y, ds.dropLast) else none
  | .popAt, xs => (one xs).bind fun x => (toI x).bind fun i => if 0 ≤ i ∧ i < ds.length then (ds[i.toNat]?).map fun y => (y, ds.eraseIdx i.toNat) else none
def lmD (m : LM) (a : D) (xs : List D) : M D := fun S => (toR a).bind fun l => (atS S l).bind fun ds => (lmO S l ds m xs).map fun p => .ok p.1 (S.set l (.lst p.2))

def isLs (d : D) : M Unit := fun S => ((toR d).bind fun l => atS S l).map fun _ => .ok () S
def isL (d : D) : Bool := (toTp d).isNone
/-! ### a run -/
structure Ora where
  glob : Str → Option D
  call : Bool → Str → List D → List (Str × D) → M D

def varD (ρ : Env') (i : Nat) : M D := fun S => match ρ[i]? with
  | some (some d) => some (.ok d S)
  | _ => none
def wipeE (ρ : Env') : List Nat → Env'
  | [] => ρ
  | v :: vs => (wipeE ρ vs).set v none
/-- a list that is walked stands still -/
def still (g : Option (Nat × List D)) (S : Store) : Prop := match g with
  | none => True
  | some p => S[p.1]? = some (.lst p.2)
open Classical in
noncomputable def forL (as : D → MS) (b : MS) (g : Option (Nat × List D)) : List D → MS
  | [], ρ, S => if still g S then some (.ok ρ S .nx) else none
  | d :: ds, ρ, S => if still g S then (match as d ρ S with
    | some (.ok ρ1 S1 .nx) => (match b ρ1 S1 with
      | some (.ok ρ2 S2 .nx) => forL as b g ds ρ2 S2
      | some (.ok ρ2 S2 .ct) => forL as b g ds ρ2 S2
      | some (.ok ρ2 S2 .bk) => some (.ok ρ2 S2 .nx)
      | r => r)
    | some (.ok _ _ _) => none
    | r => r) else none
open Classical in
/-- a comprehension's turns: its own slots, what is asked, the element -/
noncomputable def compL (as : D → MS) (c : Env' → M Bool) (e : Env' → M D) (ρ0 : Env') (g : Option (Nat × List D)) : List D → List D → Store → Option (List D × Store)
  | acc, [], S => if still g S then some (acc, S) else none
  | acc, d :: ds, S => if still g S then (match as d ρ0 S with
    | some (.ok ρ1 S1 .nx) => (match c ρ1 S1 with
      | some (.ok true S2) => (match e ρ1 S2 with
        | some (.ok y S3) => if lenOk (acc.length + 1) then compL as c e ρ0 g (acc ++ [y]) ds S3 else none
        | _ => none)
      | some (.ok false S2) => compL as c e ρ0 g acc ds S2
      | _ => none)
    | _ => none) else none
def whileN (t : Env' → M Bool) (b : MS) : Nat → MS
  | 0, _, _ => none
  | n + 1, ρ, S => match t ρ S with
    | some (.ok true S1) => (match b ρ S1 with
      | some (.ok ρ2 S2 .nx) => whileN t b n ρ2 S2
      | some (.ok ρ2 S2 .ct) => whileN t b n ρ2 S2
      | some (.ok ρ2 S2 .bk) => some (.ok ρ2 S2 .nx)
      | r => r)
    | some (.ok false S1) => some (.ok ρ S1 .nx)
    | some (.ex x S1) => some (.ex x ρ S1)
    | none => none
open Classical in
noncomputable def whileF (t : Env' → M Bool) (b : MS) : MS := fun ρ S => if h : ∃ n, (whileN t b n ρ S).isSome = true then whileN t b (Classical.choose h) ρ S else none

mutual
noncomputable def evE (o : Ora) : E → Env' → M D
  | .v i, ρ => varD ρ i
  | .g x, _ => M.opt (o.glob x)
  | .cint i, _ => pure (.int i)
  | .cstr x, _ => pure (.str x)
  | .cbl b, _ => pure (.bl b)
  | .cnon, _ => pure .non
  | .bin p a b, ρ => do let x ← evE o a ρ; let y ← evE o b ρ; binD p x y
  | .neg a, ρ => do let x ← evE o a ρ; let i ← M.opt (toI x); pure (.int (-i))
  | .cmp p a b, ρ => do let x ← evE o a ρ; let y ← evE o b ρ; cmpD p x y
  | .chain p q a b c, ρ => do
    let x ← evE o a ρ
    let y ← evE o b ρ
    let k ← cmpB p x y
    match k with
    | true => do let w ← evE o c ρ; cmpD q y w
    | false => pure (.bl false)
  | .and_ xs, ρ => evAnd o xs ρ
  | .or_ xs, ρ => evOr o xs ρ
  | .not_ a, ρ => do let x ← evE o a ρ; let k ← M.opt (toB x); pure (.bl (!k))
  | .ife c a b, ρ => do let k ← evT o c ρ; (match k with | true => evE o a ρ | false => evE o b ρ)
  | .tup xs, ρ => do let ds ← evA o xs ρ; mkT ds
  | .lst fz xs, ρ => do let ds ← evA o xs ρ; mkL fz ds
  | .ix a b, ρ => do let x ← evE o a ρ; let y ← evE o b ρ; ixD x y
  | .slL a lo, ρ => do
    let x ← evE o a ρ
    let l ← evE o lo ρ
    let i ← M.opt (toI l)
    slD x (some i) none
  | .slH a hi, ρ => do
    let x ← evE o a ρ
    let l ← evE o hi ρ
    let i ← M.opt (toI l)
    slD x none (some i)
  | .slLH a lo hi, ρ => do
    let x ← evE o a ρ
    let l ← evE o lo ρ
    let i ← M.opt (toI l)
    let h ← evE o hi ρ
    let j ← M.opt (toI h)
    slD x (some i) (some j)
  | .comp fz own t it cs e, ρ => do
    let (g, items) ← evI o it ρ
    let ds ← (fun S => (compL (fun d ρ S => asT o t d ρ S) (fun ρ => evAll o cs ρ) (fun ρ => evE o e ρ) (wipeE ρ (own.map (·.2))) g [] items S).map fun p => Res.ok p.1 p.2 : M (List D))
    mkL fz ds
  | .call th f xs ks, ρ => do let ds ← evA o xs ρ; let kv ← evK o ks ρ; o.call th f ds kv
  | .bi f xs, ρ => do let ds ← evA o xs ρ; biD f ds
  | .listOf fz a, ρ => do let x ← evE o a ρ; let ds ← getQ x; mkL fz ds
  | .rep fz a b, ρ => do
    let x ← evE o a ρ
    let y ← evE o b ρ
    let ds ← M.opt (toLs x)
    let k ← M.opt (toI y)
    if 0 ≤ k ∧ k ≤ 1000 then mkL fz (List.replicate k.toNat ds).flatten else M.fail
  | .lm m a xs, ρ => do let x ← evE o a ρ; let _ ← isLs x; let ds ← evA o xs ρ; lmD m x ds
/-- as a test -/
noncomputable def evT (o : Ora) : E → Env' → M Bool
  | .and_ xs, ρ => evAll o xs ρ
  | .or_ xs, ρ => evAny o xs ρ
  | .not_ a, ρ => do let k ← evT o a ρ; pure (!k)
  | .cmp p a b, ρ => do let x ← evE o a ρ; let y ← evE o b ρ; cmpB p x y
  | .chain p q a b c, ρ => do
    let x ← evE o a ρ
    let y ← evE o b ρ
    let k ← cmpB p x y
    match k with
    | true => do let w ← evE o c ρ; cmpB q y w
    | false => pure false
  | .ife _ _ _, _ => M.fail
  | .v i, ρ => do let x ← varD ρ i; truD x
  | .cbl b, _ => pure b
  | .bi f xs, ρ => do let ds ← evA o xs ρ; let x ← biD f ds; truD x
  | .call th f xs ks, ρ => do let ds ← evA o xs ρ; let kv ← evK o ks ρ; let x ← o.call th f ds kv; truD x
  | .ix a b, ρ => do let x ← evE o a ρ; let y ← evE o b ρ; let r ← ixD x y; truD r
  | _, _ => M.fail
noncomputable def evAll (o : Ora) : A → Env' → M Bool
  | .nil, _ => pure true
  | .cons e r, ρ => do let k ← evT o e ρ; (match k with | true => evAll o r ρ | false => pure false)
  | .star _ _, _ => M.fail
noncomputable def evAny (o : Ora) : A → Env' → M Bool
  | .nil, _ => pure false
  | .cons e r, ρ => do let k ← evT o e ρ; (match k with | true => pure true | false => evAny o r ρ)
  | .star _ _, _ => M.fail
noncomputable def evAnd (o : Ora) : A → Env' → M D
  | .nil, _ => M.fail
  | .cons e .nil, ρ => evE o e ρ
  | .cons e r, ρ => do let x ← evE o e ρ; let k ← M.opt (toB x); (match k with | true => evAnd o r ρ | false => pure (.bl false))
  | .star _ _, _ => M.fail
noncomputable def evOr (o : Ora) : A → Env' → M D
  | .nil, _ => M.fail
  | .cons e .nil, ρ => evE o e ρ
  | .cons e r, ρ => do let x ← evE o e ρ; let k ← M.opt (toB x); (match k with | true => pure (.bl true) | false => evOr o r ρ)
  | .star _ _, _ => M.fail
noncomputable def evA (o : Ora) : A → Env' → M (List D)
  | .nil, _ => pure []
  | .cons e r, ρ => do let x ← evE o e ρ; let xs ← evA o r ρ; pure (x :: xs)
  | .star e r, ρ => do let x ← evE o e ρ; let ds ← getQ x; let xs ← evA o r ρ; pure (ds ++ xs)
noncomputable def evK (o : Ora) : Kw → Env' → M (List (Str × D))
  | .nil, _ => pure []
  | .cons n e r, ρ => do let x ← evE o e ρ; let xs ← evK o r ρ; pure ((n, x) :: xs)
/-- what is walked -/
noncomputable def evI (o : Ora) : I → Env' → M (Option (Nat × List D) × List D)
  | .seq e, ρ => do
    let x ← evE o e ρ
    let ds ← getQ x
    pure ((toR x).map (fun l => (l, ds)), ds)
  | .r1 a, ρ => do
    let x ← evE o a ρ
    let n ← M.opt (toI x)
    if n ≤ 4611686018427387903 ∧ -4611686018427387904 ≤ n then pure (none, (List.range n.toNat).map fun (i : Nat) => D.int i) else M.fail
  | .r2 a b, ρ => do
    let x ← evE o a ρ
    let y ← evE o b ρ
    let i ← M.opt (toI x)
    let j ← M.opt (toI y)
    if (i ≤ 4611686018427387903 ∧ -4611686018427387904 ≤ i) ∧ j ≤ 4611686018427387903 ∧ -4611686018427387904 ≤ j then pure (none, (List.range (j - i).toNat).map fun (k : Nat) => D.int (i + k)) else M.fail
  | .zip a b, ρ => do
    let x ← evE o a ρ
    let y ← evE o b ρ
    let xs ← getQ x
    let ys ← getQ y
    if (toR x).isNone && (toR y).isNone then pure (none, (xs.zip ys).map fun p => D.tup [p.1, p.2]) else M.fail
  | .enum a, ρ => do
    let x ← evE o a ρ
    let ds ← getQ x
    if isL x = true then pure ((toR x).map (fun l => (l, ds)), ds.zipIdx.map fun p => D.tup [.int p.2, p.1]) else M.fail
/-- a value goes to a target -/
noncomputable def asT (o : Ora) : T → D → MS
  | .nm i, d, ρ, S => if i < ρ.length then some (.ok (ρ.set i (some d)) S .nx) else none
  | .sub a i, d, ρ, S => exS (fun ρ => do let x ← evE o a ρ; let y ← evE o i ρ; pure (x, y)) (fun p ρ S => (toR p.1).bind fun l => (toI p.2).bind fun k => (atS S l).bind fun ds => (ixN ds.length k).map fun j => .ok ρ (S.set l (.lst (ds.set j d))) .nx) ρ S
  | .tp ts, d, ρ, S => (toTp d).bind fun ds => if ds.length = ts.len then asTs o ts ds ρ S else none
noncomputable def asTs (o : Ora) : Ts → List D → MS
  | .nil, [], ρ, S => some (.ok ρ S .nx)
  | .cons t r, d :: ds, ρ, S => thenS (fun ρ S => asT o t d ρ S) (fun ρ S => asTs o r ds ρ S) ρ S
  | _, _, _, _ => none
end
end Wk
end WkLang_text

section WkCheck_text
set_option Elab.async false
set_option linter.all false
set_option maxRecDepth 100000
/-! WkCheck: statements' runs; which tree of the text a small tree stands for. -/
namespace Wk
open PySem PySem.Spec PyProof.Rows L2

def onlyNx (m : MS) : MS := fun ρ S => match m ρ S with
  | some (.ok ρ' S' .nx) => some (.ok ρ' S' .nx)
  | some (.ex x ρ' S') => some (.ex x ρ' S')
  | _ => none
def augOk : BOp → Bool
  | .add => true
  | .sub => true
  | _ => false
mutual
noncomputable def evS (o : Ora) : S → MS
  | .expr e => exS (evE o e) (fun _ ρ S => some (.ok ρ S .nx))
  | .asg t e => exS (evE o e) (fun d => onlyNx fun ρ S => asT o t d ρ S)
  | .aug i p e => exS (fun ρ => do let x ← varD ρ i; let y ← evE o e ρ; let i ← M.opt (toI x); let j ← M.opt (toI y); binD p (.int i) (.int j)) (fun d ρ S => if i < ρ.length then some (.ok (ρ.set i (some d)) S .nx) else none)
  | .if_ c a b => exS (evT o c) (fun k => match k with | true => evB o a | false => evB o b)
  | .while_ c b => whileF (evT o c) (evB o b)
  | .for_ t it b => exS (evI o it) (fun p => forL (fun d ρ S => asT o t d ρ S) (evB o b) p.1 p.2)
  | .ret e => exS (evE o e) (fun d ρ S => some (.ok ρ S (.rt d)))
  | .retN => fun ρ S => some (.ok ρ S (.rt .non))
  | .brk => fun ρ S => some (.ok ρ S .bk)
  | .cont => fun ρ S => some (.ok ρ S .ct)
  | .pass => fun ρ S => some (.ok ρ S .nx)
noncomputable def evB (o : Ora) : B → MS
  | .nil => fun ρ S => some (.ok ρ S .nx)
  | .cons s r => thenS (evS o s) (evB o r)
end

/-! ### the text -/
structure Sc where
  N : List Str
  sc : Scope
  sto : Str → Bool
  fns : List Str
def visB (s : Sc) (x : Str) : Bool := decide (s.sc.names.lookup x = some .local) || (decide (s.sc.names.lookup x = some .cell) || decide (s.sc.names.lookup x = some .free))
def locB (s : Sc) (x : Str) : Bool := decide (s.sc.names.lookup x = some .local) || decide (s.sc.names.lookup x = some .cell)
def glB (s : Sc) (x : Str) : Bool := decide (s.sc.names.lookup x = some .globalImplicit)
def atB (s : Sc) (i : Nat) (x : Str) : Bool := decide (s.N[i]? = some x)
def noComp : Expr → Bool
  | .ListComp .. => false
  | .SetComp .. => false
  | .DictComp .. => false
  | _ => true
def noSet : Expr → Bool
  | .Set .. => false
  | _ => true
def noSlice : Expr → Bool
  | .Slice .. => false
  | _ => true
def noCall : Expr → Bool
  | .Call .. => false
  | _ => true
def noStar : Expr → Bool
  | .Starred .. => false
  | _ => true
def kwNil : Kw → Bool
  | .nil => true
  | _ => false
def isTup : Expr → Bool
  | .Tuple .. => true
  | _ => false
def blkB (N : List Str) (sc scope : Scope) (own : List (Str × Nat)) : Bool :=
  decide (scope.kind = .function) && (scope.names.all (fun y => decide (scope.names.lookup y.1 = some y.2)) && (own.all (fun p => decide (N[p.2]? = some p.1)) &&
    (scope.names.all (fun y => !decide (y.2 = .free) || (decide (sc.names.lookup y.1 = some .cell) || decide (sc.names.lookup y.1 = some .free))) &&
    scope.names.all (fun y => !(decide (y.2 = .local) || decide (y.2 = .cell)) || (decide (y.1 ∈ own.map (·.1)) || decide (y.1 ∉ N))))))
theorem blkB_ok {N : List Str} {sc scope : Scope} {own : List (Str × Nat)} (h : blkB N sc scope own = true) : BlkOk N sc scope own := by
  unfold blkB at h
  simp only [Bool.and_eq_true, List.all_eq_true, Bool.or_eq_true, Bool.not_eq_true', decide_eq_true_eq, decide_eq_false_iff_not, Bool.or_eq_false_iff] at h
  obtain ⟨h1, h2, h3, h4, h5⟩ := h
  refine ⟨h1, h2, h3, fun y hy e => ?_, fun y hy e => ?_⟩
  · rcases h4 y hy with q | q
    · exact absurd e q
    · exact q
  · rcases h5 y hy with q | q
    · rcases e with e | e
      · exact absurd e q.1
      · exact absurd e q.2
    · exact q
def Sc.blk (s : Sc) (scope : Scope) : Sc := { s with sc := relS scope s.sc, sto := fun x => decide (scope.names.lookup x = some .local) || decide (scope.names.lookup x = some .cell) }
def isBOp : BOp → Operator → Bool
  | .add, .Add => true | .sub, .Sub => true | .mul, .Mult => true | .fdiv, .FloorDiv => true | .mod, .Mod => true | .pow, .Pow => true
  | _, _ => false
def isCOp : COp → CmpOp → Bool
  | .eq, .Eq => true | .ne, .NotEq => true | .lt, .Lt => true | .le, .LtE => true | .gt, .Gt => true | .ge, .GtE => true
  | .isN, .Is => true | .notN, .IsNot => true | .isin, .In => true | .notin, .NotIn => true
  | _, _ => false
def lmName : LM → Str
  | .append => "append" | .pop => "pop" | .popAt => "pop"

mutual
def isE (s : Sc) : E → Expr → Bool
  | .v i, .Name x _ => atB s i x && (visB s x && (!(x == ("__debug__" : Str)) && !(x == ("__classdict__" : Str))))
  | .g x, .Name y _ => decide (x = y) && (glB s x && !(x == ("__debug__" : Str)))
  | .cint i, .Constant (.int j) _ _ => decide (i = j)
  | .cstr x, .Constant (.str y) _ _ => decide (x = y)
  | .cbl b, .Constant (.bool c) _ _ => decide (b = c)
  | .cnon, .Constant .none _ _ => true
  | .bin p a b, .BinOp x op y _ => isBOp p op && (isE s a x && isE s b y)
  | .neg a, .UnaryOp .USub x _ => isE s a x
  | .cmp p a b, .Compare x [op] [y] _ => isCOp p op && (isE s a x && (isE s b y && noSet y))
  | .chain p q a b c, .Compare x [op, op'] [y, w] _ => (isCOp p op && isCOp q op') && (isE s a x && (isE s b y && (isE s c w && noSet w)))
  | .and_ xs, .BoolOp .And es _ => isA s xs es
  | .or_ xs, .BoolOp .Or es _ => isA s xs es
  | .not_ a, .UnaryOp .Not x _ => isE s a x
  | .ife c a b, .IfExp x y w _ => isE s c x && (isE s a y && isE s b w)
  | .tup xs, .Tuple es _ _ => isA s xs es
  | .lst _ xs, .List es _ => isA s xs es
  | .ix a b, .Subscript x y _ => isE s a x && (isE s b y && noSlice y)
  | .slL a lo, .Subscript x (.Slice (some y) none none _) _ => isE s a x && isE s lo y
  | .slH a hi, .Subscript x (.Slice none (some y) none _) _ => isE s a x && isE s hi y
  | .slLH a lo hi, .Subscript x (.Slice (some y) (some w) none _) _ => isE s a x && (isE s lo y && isE s hi w)
  | .comp _ own t it cs e, .ListComp elt [⟨tg, iter, ifs, as⟩] scope _ => (decide (as = 0) && ((slT t).all (fun i => decide (i ∈ own.map (·.2))) && decide (ifs.length ≤ 1))) && (blkB s.N s.sc scope own && (noSet iter && (isI s it tg iter && (isT (s.blk scope) t tg && (isA (s.blk scope) cs ifs && isE (s.blk scope) e elt)))))
  | .call _ f xs ks, .Call (.Name g _) es [] _ => (kwNil ks && decide (f = g)) && (decide (f ∈ s.fns) && (glB s f && (!(f == ("__debug__" : Str)) && (es.all noStar && isA s xs es))))
  | .bi f xs, .Call (.Name g _) es [] _ => decide (biName f = g) && (glB s (biName f) && (es.all noStar && isA s xs es))
  | .listOf _ a, .Call (.Name g _) [x] [] _ => decide (g = ("list" : Str)) && (glB s "list" && isE s a x)
  | .rep _ a b, .BinOp x .Mult y _ => isE s a x && isE s b y
  | .lm m a xs, .Call (.Attribute x n p) es [] q => decide (n = lmName m) && (((p.endLine == q.line) && (noCall x && (es.all noStar && decide (es.length < 20)))) && (isE s a x && isA s xs es))
  | _, _ => false
def isA (s : Sc) : A → List Expr → Bool
  | .nil, [] => true
  | .cons e r, x :: xs => isE s e x && isA s r xs
  | .star e r, .Starred x _ :: xs => isE s e x && isA s r xs
  | _, _ => false
def isK (s : Sc) : Kw → List Keyword → Bool
  | .nil, [] => true
  | .cons n e r, ⟨some m, x, _⟩ :: xs => decide (n = m) && (isE s e x && isK s r xs)
  | _, _ => false
def isI (s : Sc) : I → Expr → Expr → Bool
  | .seq e, _, x => isE s e x
  | .r1 a, _, .Call (.Name g _) [x] [] _ => decide (g = ("range" : Str)) && (glB s "range" && isE s a x)
  | .r2 a b, _, .Call (.Name g _) [x, y] [] _ => decide (g = ("range" : Str)) && (glB s "range" && (isE s a x && isE s b y))
  | .zip a b, tg, .Call (.Name g _) [x, y] [] _ => isTup tg && (decide (g = ("zip" : Str)) && (glB s "zip" && (isE s a x && isE s b y)))
  | .enum a, tg, .Call (.Name g _) [x] [] _ => isTup tg && (decide (g = ("enumerate" : Str)) && (glB s "enumerate" && isE s a x))
  | _, _, _ => false
def isT (s : Sc) : T → Expr → Bool
  | .nm i, .Name x _ => atB s i x && (locB s x && s.sto x)
  | .sub a i, .Subscript x y _ => isE s a x && (isE s i y && noSlice y)
  | .tp ts, .Tuple es _ _ => isTs s ts es
  | _, _ => false
def isTs (s : Sc) : Ts → List Expr → Bool
  | .nil, [] => true
  | .cons t r, x :: xs => isT s t x && isTs s r xs
  | _, _ => false
end

/-- as the model's swappedStores -/
def swapR (s : Sc) (ts : List Expr) (v : Expr) : Option (Option (List Str)) :=
  match v with
  | .Tuple vs _ _ =>
    if !(ts.length == 2 || ts.length == 3) || vs.length != ts.length then some none
    else if vs.any (fun | .Starred .. => true | _ => false) then some none
    else
      let line := (ts.head?.map (·.pos.line)).getD 0
      let names := ts.filterMap fun
        | .Name id pos => if s.sc.names.lookup id == some .local && pos.line == line then some id else none
        | _ => none
      if names.length != ts.length || names.eraseDups.length != names.length then some none
      else if vs.all (foldedForSure 8) then some none
      else if vs.all (constantsAlone 8) then none
      else some (some names)
  | _ => some none
def isPair (s : Sc) : List Expr → Expr → List Str → Bool
  | [.Name x _, .Name y _], .Tuple [_, _] _ _, [a, b] => decide (x = a) && (decide (y = b) && (decide (x ≠ y) && (decide (s.sc.names.lookup x = some .local) && decide (s.sc.names.lookup y = some .local))))
  | _, _, _ => false
/-- a plain store, or a pair of local names swapped -/
def stoB (s : Sc) (tg v : Expr) : Bool := match tg with
  | .Name _ _ => noComp v || (match v with | .ListComp .. => true | _ => false)
  | .Tuple ts _ _ => (match swapR s ts v with
    | some none => true
    | some (some ns) => isPair s ts v ns
    | none => false)
  | .Subscript _ _ _ => true
  | _ => false

mutual
def isS (s : Sc) : S → Stmt → Bool
  | .expr e, .Expr x _ => isE s e x && noComp x
  | .asg t e, .Assign [tg] x _ => isT s t tg && (isE s e x && stoB s tg x)
  | .aug i p e, .AugAssign (.Name x _) op y _ => atB s i x && (locB s x && (s.sto x && ((augOk p && isBOp p op) && isE s e y)))
  | .if_ c a b, .If x ys ws _ => isE s c x && (isB s a ys && isB s b ws)
  | .while_ c b, .While x ys [] _ => isE s c x && isB s b ys
  | .for_ t it b, .For tg iter ys [] _ => noSet iter && (isI s it tg iter && (isT s t tg && isB s b ys))
  | .ret e, .Return (some x) _ => isE s e x
  | .retN, .Return none _ => true
  | .brk, .Break _ => true
  | .cont, .Continue _ => true
  | .pass, .Pass _ => true
  | _, _ => false
def isB (s : Sc) : B → List Stmt → Bool
  | .nil, [] => true
  | .cons a r, x :: xs => isS s a x && isB s r xs
  | _, _ => false
end
end Wk
end WkCheck_text

section WkOps_text
set_option Elab.async false
set_option linter.all false
set_option maxRecDepth 100000
set_option maxHeartbeats 4000000
/-! WkOps: the operations on data, over the layer's rules. -/
namespace Wk
open PySem PySem.Spec PyProof.Rows L2

section
variable {K : PySem.W.Frag} {z f : List Addr} {H : Hp} {S S' : Store}
theorem RepVs.length : ∀ {ds : List D} {vs : List V}, RepVs K z f H ds vs → ds.length = vs.length
  | [], vs, h => by
    simp only [RepVs] at h
    rw [h] <;> rfl
  | d :: ds, vs, h => by
    simp only [RepVs] at h
    obtain ⟨v, ws, e, _, r⟩ := h
    rw [e, List.length_cons, List.length_cons, RepVs.length r]
theorem RepVs.nil_iff : RepVs K z f H [] [] := by simp only [RepVs]
theorem RepVs.cons {d : D} {v : V} {ds : List D} {vs : List V} (h : RepV K z f H d v) (r : RepVs K z f H ds vs) : RepVs K z f H (d :: ds) (v :: vs) := by
  simp only [RepVs]
  exact ⟨v, vs, rfl, h, r⟩
theorem RepVs.uncons {d : D} {ds : List D} {vs : List V} (h : RepVs K z f H (d :: ds) vs) : ∃ v ws, vs = v :: ws ∧ RepV K z f H d v ∧ RepVs K z f H ds ws := by
  simpa only [RepVs] using h
theorem RepVs.append : ∀ {ds es : List D} {vs ws : List V}, RepVs K z f H ds vs → RepVs K z f H es ws → RepVs K z f H (ds ++ es) (vs ++ ws)
  | [], es, vs, ws, h, r => by
    simp only [RepVs] at h
    rw [h]
    exact r
  | d :: ds, es, vs, ws, h, r => by
    obtain ⟨v, us, e, h1, h2⟩ := h.uncons
    rw [e]
    exact RepVs.cons h1 (RepVs.append h2 r)
theorem RepVs.get : ∀ {ds : List D} {vs : List V} {i : Nat} {d : D}, RepVs K z f H ds vs → ds[i]? = some d → ∃ v, vs[i]? = some v ∧ RepV K z f H d v
  | [], _, _, _, _, e => by simp at e
  | x :: ds, vs, 0, d, h, e => by
    obtain ⟨v, us, e1, h1, h2⟩ := h.uncons
    have e2 : x = d := by simpa using e
    exact ⟨v, by rw [e1]; rfl, by rw [← e2]; exact h1⟩
  | x :: ds, vs, i + 1, d, h, e => by
    obtain ⟨v, us, e1, h1, h2⟩ := h.uncons
    obtain ⟨w, e3, h3⟩ := RepVs.get (i := i) (d := d) h2 (by simpa using e)
    exact ⟨w, by rw [e1]; simpa using e3, h3⟩
theorem RepVs.set {d : D} {v : V} (h : RepV K z f H d v) : ∀ {ds : List D} {vs : List V} (i : Nat), RepVs K z f H ds vs → RepVs K z f H (ds.set i d) (vs.set i v)
  | [], vs, i, r => by
    simp only [RepVs] at r
    rw [r]
    simpa using RepVs.nil_iff
  | x :: ds, vs, 0, r => by
    obtain ⟨w, us, e1, h1, h2⟩ := r.uncons
    rw [e1]
    exact RepVs.cons h h2
  | x :: ds, vs, i + 1, r => by
    obtain ⟨w, us, e1, h1, h2⟩ := r.uncons
    rw [e1]
    exact RepVs.cons h1 (RepVs.set h i h2)
theorem RepVs.take : ∀ {ds : List D} {vs : List V} (n : Nat), RepVs K z f H ds vs → RepVs K z f H (ds.take n) (vs.take n)
  | _, _, 0, _ => by simpa using RepVs.nil_iff
  | [], vs, n + 1, r => by
    simp only [RepVs] at r
    rw [r]
    simpa using RepVs.nil_iff
  | x :: ds, vs, n + 1, r => by
    obtain ⟨w, us, e1, h1, h2⟩ := r.uncons
    rw [e1]
    exact RepVs.cons h1 (RepVs.take n h2)
theorem RepVs.drop : ∀ {ds : List D} {vs : List V} (n : Nat), RepVs K z f H ds vs → RepVs K z f H (ds.drop n) (vs.drop n)
  | _, _, 0, r => r
  | [], vs, n + 1, r => by
    simp only [RepVs] at r
    rw [r]
    simpa using RepVs.nil_iff
  | x :: ds, vs, n + 1, r => by
    obtain ⟨w, us, e1, h1, h2⟩ := r.uncons
    rw [e1]
    exact RepVs.drop n h2
theorem RepVs.cut {ds : List D} {vs : List V} (lo hi : Option Int) (r : RepVs K z f H ds vs) : RepVs K z f H (cutD ds lo hi) (cutV vs lo hi) := by
  unfold cutD cutV
  rw [r.length]
  exact (r.drop _).take _

/-- a list to be read -/
theorem rep_getL {d : D} {v : V} {ds : List D} (r : RepS K z f H S) (h : RepV K z f H d v) (e : getL d S = some (.ok ds S')) : S' = S ∧ ∃ a vs, v = .ref a ∧ SqL K H a vs ∧ RepVs K z f H ds vs := by
  cases d with
  | lst xs =>
    cases e
    simp only [RepV] at h
    obtain ⟨a, vs, e1, q, r1⟩ := h
    exact ⟨rfl, a, vs, e1, SqL.of q.1, r1⟩
  | rol xs =>
    cases e
    simp only [RepV] at h
    obtain ⟨a, vs, e1, q, r1⟩ := h
    exact ⟨rfl, a, vs, e1, q.1, r1⟩
  | ref l =>
    simp only [RepV] at h
    obtain ⟨a, e1, q⟩ := h
    simp only [getL] at e
    cases hs : S[l]? with
    | none => rw [hs] at e; cases e
    | some o =>
      rw [hs] at e
      cases o with
      | lst xs =>
        cases e
        obtain ⟨vs, e2, r2⟩ := r.obj l a _ q hs
        exact ⟨rfl, a, vs, e1, SqL.of e2, r2⟩
      | ins _ _ _ => cases e
  | _ => cases e
theorem rep_getQ {d : D} {v : V} {ds : List D} (r : RepS K z f H S) (h : RepV K z f H d v) (e : getQ d S = some (.ok ds S')) : S' = S ∧ ∃ a vs, v = .ref a ∧ (SqL K H a vs ∨ SqT K H a vs) ∧ RepVs K z f H ds vs := by
  cases d with
  | tup xs =>
    cases e
    simp only [RepV] at h
    obtain ⟨a, vs, e1, q, r1⟩ := h
    exact ⟨rfl, a, vs, e1, .inr q.1, r1⟩
  | _ =>
    obtain ⟨e0, a, vs, e1, q, r1⟩ := rep_getL r h e
    exact ⟨e0, a, vs, e1, .inl q, r1⟩
theorem getL_ok {d : D} {r : Res (List D)} (e : getL d S = some r) : ∃ ds, r = .ok ds S := by
  cases d with
  | lst xs => cases e; exact ⟨_, rfl⟩
  | rol xs => cases e; exact ⟨_, rfl⟩
  | ref l =>
    simp only [getL] at e
    cases hs : S[l]? with
    | none => rw [hs] at e; cases e
    | some o =>
      rw [hs] at e
      cases o with
      | lst xs => cases e; exact ⟨_, rfl⟩
      | ins _ _ _ => cases e
  | _ => cases e
theorem getQ_ok {d : D} {r : Res (List D)} (e : getQ d S = some r) : ∃ ds, r = .ok ds S := by
  cases d with
  | tup xs => cases e; exact ⟨_, rfl⟩
  | _ => simp only [getQ] at e; exact getL_ok e
end

/-! ### shapes -/
section
variable {a b : D}
theorem toI_eq {i : Int} (h : toI a = some i) : a = .int i := by
  cases a <;> first | (simp only [toI, Option.some.injEq] at h; rw [h]) | (cases h)
theorem toB_eq {i : Bool} (h : toB a = some i) : a = .bl i := by
  cases a <;> first | (simp only [toB, Option.some.injEq] at h; rw [h]) | (cases h)
theorem toS_eq {i : Str} (h : toS a = some i) : a = .str i := by
  cases a <;> first | (simp only [toS, Option.some.injEq] at h; rw [h]) | (cases h)
theorem toTp_eq {i : List D} (h : toTp a = some i) : a = .tup i := by
  cases a <;> first | (simp only [toTp, Option.some.injEq] at h; rw [h]) | (cases h)
theorem toLs_eq {i : List D} (h : toLs a = some i) : a = .lst i := by
  cases a <;> first | (simp only [toLs, Option.some.injEq] at h; rw [h]) | (cases h)
theorem toTy_eq {i : String} (h : toTy a = some i) : a = .ty i := by
  cases a <;> first | (simp only [toTy, Option.some.injEq] at h; rw [h]) | (cases h)
theorem toR_eq {i : Nat} (h : toR a = some i) : a = .ref i := by
  cases a <;> first | (simp only [toR, Option.some.injEq] at h; rw [h]) | (cases h)
theorem isNon_eq (h : isNon a = true) : a = .non := by
  cases a <;> first | rfl | (cases h)
theorem one_eq {xs : List D} (h : one xs = some a) : xs = [a] := by
  match xs, h with
  | [x], h => rw [Option.some.inj h]
theorem pair_eq {xs : List D} {p : D × D} (h : pair xs = some p) : xs = [p.1, p.2] := by
  match xs, h with
  | [x, y], h => rw [← Option.some.inj h]
theorem two_eq {α : Type} {g : D → Option α} {k : α → α → Option D} {d : D} (h : two g a b k = some d) : ∃ x y, g a = some x ∧ g b = some y ∧ k x y = some d := by
  unfold two at h
  obtain ⟨x, e1, h⟩ := Option.bind_eq_some_iff.mp h
  obtain ⟨y, e2, h⟩ := Option.bind_eq_some_iff.mp h
  exact ⟨x, y, e1, e2, h⟩
theorem orE {α : Type} {x y : Option α} {d : α} (h : (x <|> y) = some d) : x = some d ∨ y = some d := by
  cases x with
  | none => exact .inr h
  | some v => exact .inl h
end

/-! ### what an operation by values asks -/
/-- an outcome that is no exception, the store as it was -/
def rO (K : PySem.W.Frag) (g : Store → D → D → Option D) : R2 := fun x y H Q => ∃ z f S dx dy, RepS K z f H S ∧ RepV K z f H dx x ∧ RepV K z f H dy y ∧ ∃ d, g S dx dy = some d ∧ ∀ f' H' v, Step f H f' H' → (∀ σ ρ, Rep K z f H σ ρ S → Rep K z f' H' σ ρ S) → RepV K z f' H' d v → Q v H'
theorem le_line {n : Nat} (h : lenOk n = true) : n ≤ sizeLine := by
  have h1 : n ≤ 1000000 := of_decide_eq_true h
  rw [sizeLine_eq]
  omega
theorem lt_line {n : Nat} (h : lenOk (n + 1) = true) : n < sizeLine := by
  have h1 : n + 1 ≤ 1000000 := of_decide_eq_true h
  rw [sizeLine_eq]
  omega
theorem ifs {α : Type} {c : Bool} {x y : α} (h : (if c = true then some x else none) = some y) : c = true ∧ x = y := by
  by_cases q : c = true
  · rw [if_pos q] at h
    exact ⟨q, Option.some.inj h⟩
  · rw [if_neg q] at h
    cases h
section
variable {K : PySem.W.Frag} {z f : List Addr} {H : Hp} {S : Store} {Q : VK}
theorem rI_int {i : Int} {v : V} (h : RepV K z f H (.int i) v) : v = .int i := by simpa only [RepV] using h
theorem rI_bl {i : Bool} {v : V} (h : RepV K z f H (.bl i) v) : v = .bl i := by simpa only [RepV] using h
theorem rI_str {i : Str} {v : V} (h : RepV K z f H (.str i) v) : v = .str i := by simpa only [RepV] using h
theorem rI_ty {i : String} {v : V} (h : RepV K z f H (.ty i) v) : v = .ty i := by simpa only [RepV] using h
theorem rI_non {v : V} (h : RepV K z f H .non v) : v = .non := by simpa only [RepV] using h
theorem rI_tup {ds : List D} {v : V} (h : RepV K z f H (.tup ds) v) : ∃ a vs, v = .ref a ∧ (SqT K H a vs ∧ (a ∈ z ∨ a ∈ f → ∀ H', SqT K H' a vs)) ∧ RepVs K z f H ds vs := by simpa only [RepV] using h
theorem rI_lst {ds : List D} {v : V} (h : RepV K z f H (.lst ds) v) : ∃ a vs, v = .ref a ∧ (H a = some (.lst vs) ∧ a ∉ z ∧ a ∉ f) ∧ RepVs K z f H ds vs := by simpa only [RepV] using h
theorem rI_ref {l : Nat} {v : V} (h : RepV K z f H (.ref l) v) : ∃ a, v = .ref a ∧ f[l]? = some a := by simpa only [RepV] using h
theorem mI_int (i : Int) : RepV K z f H (.int i) (.int i) := by simp only [RepV]
theorem mI_bl (i : Bool) : RepV K z f H (.bl i) (.bl i) := by simp only [RepV]
theorem mI_str (i : Str) : RepV K z f H (.str i) (.str i) := by simp only [RepV]
theorem mI_non : RepV K z f H .non .non := by simp only [RepV]
/-- a new tuple, a new list -/
theorem newT (r : RepS K z f H S) {ds : List D} {vs : List V} (rv : RepVs K z f H ds vs) {p : Addr} (hp : H p = none) : RepV K z f (upd H p (.tup vs)) (.tup ds) (.ref p) := by
  simp only [RepV]
  exact ⟨p, vs, rfl, ⟨SqT.of upd_same, fun q => absurd q fun q => q.elim (r.outZ hp) (r.out hp)⟩, rv.mv (Step.alloc r hp _).mv⟩
theorem newL (r : RepS K z f H S) {ds : List D} {vs : List V} (rv : RepVs K z f H ds vs) {p : Addr} (hp : H p = none) : RepV K z f (upd H p (.lst vs)) (.lst ds) (.ref p) := by
  simp only [RepV]
  exact ⟨p, vs, rfl, ⟨upd_same, r.outZ hp, r.out hp⟩, rv.mv (Step.alloc r hp _).mv⟩
end

section
variable {X : Cx}
theorem op_fdivA : OpR X (binaryOp .FloorDiv) (rI (fun _ j => divOk j = true) fun i j => .int (i.fdiv j)) := opI fun i j _ _ _ _ _ hc q => by
  obtain ⟨h1, h2⟩ := Bool.and_eq_true_iff.mp hc
  exact floordiv_int (of_decide_eq_true h1) q (.inl (PyProof.noPylong_of_log2 (of_decide_eq_true h2)))
theorem op_powA : OpR X (binaryOp .Pow) (rI (fun i j => powOk i j = true) fun i j => .int (i ^ j.toNat)) := opI fun i j _ _ _ _ _ hc q => by
  obtain ⟨h1, h2⟩ := Bool.and_eq_true_iff.mp hc
  exact pow_int (of_decide_eq_true h1) (of_decide_eq_true h2) q
theorem add_ok : OpR X (binaryOp .Add) (rO X.K fun _ => addO) := by
  intro pins s σ H x y v u Q I rx ry hq
  obtain ⟨z, f, S, dx, dy, rep, hx, hy, d, e, fin⟩ := hq
  unfold addO at e
  rcases orE e with e | e
  · obtain ⟨i, j, e1, e2, e3⟩ := two_eq e
    rw [toI_eq e1] at hx
    rw [toI_eq e2] at hy
    rw [← Option.some.inj e3] at fin
    exact op_add pins s σ H x y v u Q I rx ry ⟨i, j, rI_int hx, rI_int hy, fin f H _ rep.refl (fun _ _ r => r) (mI_int _)⟩
  rcases orE e with e | e
  · obtain ⟨i, j, e1, e2, e3⟩ := two_eq e
    rw [toTp_eq e1] at hx
    rw [toTp_eq e2] at hy
    obtain ⟨hl, e4⟩ := ifs e3
    rw [← e4] at fin
    obtain ⟨a, vs, ea, qa, ra⟩ := rI_tup hx
    obtain ⟨b, ws, eb, qb, rb⟩ := rI_tup hy
    refine op_catA pins s σ H x y v u Q I rx ry ⟨a, b, vs, ws, ea, eb, qa.1, qb.1, by rw [← ra.length, ← rb.length]; exact le_line hl, fun e => ?_, fun e e2 => ?_, fun e e2 p hp => ?_⟩
    · refine fin f H _ rep.refl (fun _ _ r => r) ?_
      simp only [RepV]
      have ei : i = [] := by
        have := ra.length
        rw [e] at this
        exact List.eq_nil_of_length_eq_zero this
      exact ⟨b, ws, rfl, qb, by rw [ei]; exact rb⟩
    · refine fin f H _ rep.refl (fun _ _ r => r) ?_
      simp only [RepV]
      have ej : j = [] := by
        have := rb.length
        rw [e2] at this
        exact List.eq_nil_of_length_eq_zero this
      exact ⟨a, vs, rfl, qa, by rw [ej, List.append_nil]; exact ra⟩
    · exact fin f _ _ (Step.alloc rep hp _) (fun _ _ r => r.alloc hp _) (newT rep (ra.append rb) hp)
  rcases orE e with e | e
  · obtain ⟨i, j, e1, e2, e3⟩ := two_eq e
    rw [toLs_eq e1] at hx
    rw [toLs_eq e2] at hy
    obtain ⟨hl, e4⟩ := ifs e3
    rw [← e4] at fin
    obtain ⟨a, vs, ea, qa, ra⟩ := rI_lst hx
    obtain ⟨b, ws, eb, qb, rb⟩ := rI_lst hy
    exact op_cat pins s σ H x y v u Q I rx ry ⟨a, b, vs, ws, ea, eb, qa.1, qb.1, by rw [← ra.length, ← rb.length]; exact le_line hl, fun p hp => fin f _ _ (Step.alloc rep hp _) (fun _ _ r => r.alloc hp _) (newL rep (ra.append rb) hp)⟩
  · obtain ⟨i, j, e1, e2, e3⟩ := two_eq e
    rw [toS_eq e1] at hx
    rw [toS_eq e2] at hy
    obtain ⟨hl, e4⟩ := ifs e3
    rw [← e4] at fin
    exact op_add_str pins s σ H x y v u Q I rx ry ⟨i, j, rI_str hx, rI_str hy, le_line hl, fin f H _ rep.refl (fun _ _ r => r) (mI_str _)⟩
theorem int_ok {op : Operator} {C : Int → Int → Bool} {g : Int → Int → Int} {fO : D → D → Option D} (hf : ∀ a b, fO a b = two toI a b fun i j => if C i j = true then some (.int (g i j)) else none)
    (h : OpR X (binaryOp op) (rI (fun i j => C i j = true) fun i j => .int (g i j))) : OpR X (binaryOp op) (rO X.K fun _ => fO) := by
  intro pins s σ H x y v u Q I rx ry hq
  obtain ⟨z, f, S, dx, dy, rep, hx, hy, d, e, fin⟩ := hq
  have e : fO dx dy = some d := e
  rw [hf] at e
  obtain ⟨i, j, e1, e2, e3⟩ := two_eq e
  rw [toI_eq e1] at hx
  rw [toI_eq e2] at hy
  obtain ⟨hl, e4⟩ := ifs e3
  rw [← e4] at fin
  exact h pins s σ H x y v u Q I rx ry ⟨i, j, rI_int hx, rI_int hy, hl, fin f H _ rep.refl (fun _ _ r => r) (mI_int _)⟩
theorem mulOk_ok {i j : Int} (h : mulOk i j = true) : CMulW i j := by
  show i.natAbs.log2 + j.natAbs.log2 < 1000000
  exact of_decide_eq_true h
theorem bin_ok {p : BOp} {op : Operator} (h : isBOp p op = true) : OpR X (binaryOp op) (rO X.K fun _ => binO p) := by
  cases p with
  | add =>
    cases op <;> first | exact absurd h Bool.false_ne_true | skip
    exact add_ok
  | sub =>
    cases op <;> first | exact absurd h Bool.false_ne_true | skip
    refine int_ok (C := fun _ _ => true) (g := fun i j => i - j) (fun a b => ?_) ?_
    · simp only [binO, if_true]
    · intro pins s σ H x y v u Q I rx ry hq
      obtain ⟨i, j, e1, e2, _, q⟩ := hq
      exact op_sub pins s σ H x y v u Q I rx ry ⟨i, j, e1, e2, q⟩
  | mul =>
    cases op <;> first | exact absurd h Bool.false_ne_true | skip
    refine int_ok (C := mulOk) (g := fun i j => i * j) (fun a b => rfl) ?_
    intro pins s σ H x y v u Q I rx ry hq
    obtain ⟨i, j, e1, e2, hc, q⟩ := hq
    exact op_mulW pins s σ H x y v u Q I rx ry ⟨i, j, e1, e2, mulOk_ok hc, q⟩
  | fdiv =>
    cases op <;> first | exact absurd h Bool.false_ne_true | skip
    exact int_ok (C := fun _ j => divOk j) (g := fun i j => i.fdiv j) (fun a b => rfl) op_fdivA
  | mod =>
    cases op <;> first | exact absurd h Bool.false_ne_true | skip
    refine int_ok (C := fun _ j => decide (j ≠ 0)) (g := fun i j => i.fmod j) (fun a b => rfl) ?_
    intro pins s σ H x y v u Q I rx ry hq
    obtain ⟨i, j, e1, e2, hc, q⟩ := hq
    exact op_modN pins s σ H x y v u Q I rx ry ⟨i, j, e1, e2, of_decide_eq_true hc, q⟩
  | pow =>
    cases op <;> first | exact absurd h Bool.false_ne_true | skip
    exact int_ok (C := powOk) (g := fun i j => i ^ j.toNat) (fun a b => rfl) op_powA
end

/-! ### comparisons -/
mutual
theorem rep_py {K : PySem.W.Frag} {z f : List Addr} {H : Hp} : ∀ {d : D} {v : V} {p : PyData}, RepV K z f H d v → toPy d = some p → Dp K H v p
  | .non, v, p, h, e => by
    simp only [RepV] at h
    simp only [toPy, Option.some.injEq] at e
    subst h e
    exact .non
  | .bl b, v, p, h, e => by
    simp only [RepV] at h
    simp only [toPy, Option.some.injEq] at e
    subst h e
    exact .bl b
  | .int b, v, p, h, e => by
    simp only [RepV] at h
    simp only [toPy, Option.some.injEq] at e
    subst h e
    exact .int b
  | .str b, v, p, h, e => by
    simp only [RepV] at h
    simp only [toPy, Option.some.injEq] at e
    subst h e
    exact .str b
  | .tup ds, v, p, h, e => by
    simp only [RepV] at h
    obtain ⟨a, vs, ea, q, r⟩ := h
    simp only [toPy] at e
    obtain ⟨ps, e1, e2⟩ := Option.map_eq_some_iff.mp e
    subst ea e2
    exact .tup q.1 (rep_pys r e1)
  | .lst ds, v, p, h, e => by
    simp only [RepV] at h
    obtain ⟨a, vs, ea, q, r⟩ := h
    simp only [toPy] at e
    obtain ⟨ps, e1, e2⟩ := Option.map_eq_some_iff.mp e
    subst ea e2
    exact .lst (SqL.of q.1) (rep_pys r e1)
  | .rol ds, v, p, h, e => by
    simp only [RepV] at h
    obtain ⟨a, vs, ea, q, r⟩ := h
    simp only [toPy] at e
    obtain ⟨ps, e1, e2⟩ := Option.map_eq_some_iff.mp e
    subst ea e2
    exact .lst q.1 (rep_pys r e1)
  | .ty _, _, _, _, e => by simp [toPy] at e
  | .cls _, _, _, _, e => by simp [toPy] at e
  | .obj _ _ _, _, _, _, e => by simp [toPy] at e
  | .exc _ _ _, _, _, _, e => by simp [toPy] at e
  | .ref _, _, _, _, e => by simp [toPy] at e
theorem rep_pys {K : PySem.W.Frag} {z f : List Addr} {H : Hp} : ∀ {ds : List D} {vs : List V} {ps : List PyData}, RepVs K z f H ds vs → toPys ds = some ps → DpAll K H vs ps
  | [], vs, ps, h, e => by
    simp only [RepVs] at h
    simp only [toPys, Option.some.injEq] at e
    subst h e
    exact .nil
  | d :: ds, vs, ps, h, e => by
    obtain ⟨v, ws, ev, h1, h2⟩ := h.uncons
    simp only [toPys] at e
    obtain ⟨p, e1, e2⟩ := Option.bind_eq_some_iff.mp e
    obtain ⟨q, e3, e4⟩ := Option.map_eq_some_iff.mp e2
    subst ev e4
    exact .cons (rep_py h1 e1) (rep_pys h2 e3)
end
theorem rep_pyS {K : PySem.W.Frag} {z f : List Addr} {H : Hp} {S : Store} (r : RepS K z f H S) {d : D} {v : V} {p : PyData} (h : RepV K z f H d v) (e : toPy (derD S d) = some p) : Dp K H v p := by
  cases d with
  | ref l =>
    simp only [RepV] at h
    obtain ⟨a, e1, q⟩ := h
    simp only [derD] at e
    cases hs : S[l]? with
    | none => rw [hs] at e; simp [toPy] at e
    | some o =>
      rw [hs] at e
      cases o with
      | ins _ _ _ => simp [toPy] at e
      | lst ds =>
        obtain ⟨vs, e2, r2⟩ := r.obj l a _ q hs
        simp only [toPy] at e
        obtain ⟨ps, e3, e4⟩ := Option.map_eq_some_iff.mp e
        subst e1 e4
        exact .lst (SqL.of e2) (rep_pys r2 e3)
  | _ => exact rep_py h e
theorem flat_ok {K : PySem.W.Frag} {z f : List Addr} {H : Hp} {d : D} {v w : V} (h : RepV K z f H d v) (e : flatD d = some w) : v = w := by
  cases d <;> simp only [RepV] at h <;> simp [flatD] at e <;> subst h e <;> rfl
theorem flats_ok {K : PySem.W.Frag} {z f : List Addr} {H : Hp} : ∀ {ds : List D} {vs ws : List V}, RepVs K z f H ds vs → flatDs ds = some ws → vs = ws
  | [], vs, ws, h, e => by
    simp only [RepVs] at h
    simp only [flatDs, Option.some.injEq] at e
    rw [h, e]
  | d :: ds, vs, ws, h, e => by
    obtain ⟨v, us, ev, h1, h2⟩ := h.uncons
    simp only [flatDs] at e
    obtain ⟨p, e1, e2⟩ := Option.bind_eq_some_iff.mp e
    obtain ⟨q, e3, e4⟩ := Option.map_eq_some_iff.mp e2
    rw [ev, ← e4, flat_ok h1 e1, flats_ok h2 e3]
theorem isNon_ok {K : PySem.W.Frag} {z f : List Addr} {H : Hp} {d : D} {v : V} (h : RepV K z f H d v) : decide (v = .non) = isNon d := by
  cases d <;> simp only [RepV] at h <;> first | (subst h; rfl) | (obtain ⟨a, vs, e, _⟩ := h; subst e; rfl) | (obtain ⟨a, dx, fs, e, _⟩ := h; subst e; rfl) | (obtain ⟨a, e, _⟩ := h; subst e; rfl) | (exact h.elim)

section
variable {X : Cx}
/-- a comparison's answer -/
def rC (K : PySem.W.Frag) (g : Store → D → D → Option Bool) : R2 := fun x y H Q => ∃ z f S dx dy, RepS K z f H S ∧ RepV K z f H dx x ∧ RepV K z f H dy y ∧ ∃ k, g S dx dy = some k ∧ Q (.bl k) H
theorem eqD_inv {a b : D} {k : Bool} (e : eqD a b = some k) : ∃ p q, toPy a = some p ∧ toPy b = some q ∧ SeqAt.shaped p = true ∧ SeqAt.shaped q = true ∧ PyData.eqv p q = k := by
  unfold eqD at e
  obtain ⟨p, e1, e2⟩ := Option.bind_eq_some_iff.mp e
  obtain ⟨q, e3, e4⟩ := Option.bind_eq_some_iff.mp e2
  obtain ⟨hs, e5⟩ := ifs e4
  obtain ⟨s1, s2⟩ := Bool.and_eq_true_iff.mp hs
  exact ⟨p, q, e1, e3, s1, s2, e5⟩
theorem inD_inv {x : D} {ds : List D} {k : Bool} (e : inD x ds = some k) : ∃ p q, flatD x = some p ∧ flatDs ds = some q ∧ flatV p = true ∧ q.all flatV = true ∧ inV p q = k := by
  unfold inD at e
  obtain ⟨p, e1, e2⟩ := Option.bind_eq_some_iff.mp e
  obtain ⟨q, e3, e4⟩ := Option.bind_eq_some_iff.mp e2
  obtain ⟨hs, e5⟩ := ifs e4
  obtain ⟨s1, s2⟩ := Bool.and_eq_true_iff.mp hs
  exact ⟨p, q, e1, e3, s1, s2, e5⟩
theorem items_rep {K : PySem.W.Frag} {z f : List Addr} {H : Hp} {S : Store} {d : D} {v : V} {ds : List D} (r : RepS K z f H S) (h : RepV K z f H d v) (e : itemsO S d = some ds) : ∃ a vs, v = .ref a ∧ (SqL K H a vs ∨ SqT K H a vs) ∧ RepVs K z f H ds vs := by
  unfold itemsO at e
  rcases orE e with e | e
  · rw [toTp_eq e] at h
    obtain ⟨a, vs, ea, q, rv⟩ := rI_tup h
    exact ⟨a, vs, ea, .inr q.1, rv⟩
  · have e1 := toLs_eq e
    cases d with
    | ref l =>
      obtain ⟨a, ea, q⟩ := rI_ref h
      simp only [derD] at e1
      cases hs : S[l]? with
      | none => rw [hs] at e1; cases e1
      | some o =>
        rw [hs] at e1
        cases o with
        | ins _ _ _ => cases e1
        | lst xs =>
          cases e1
          obtain ⟨vs, e2, r2⟩ := r.obj l a _ q hs
          exact ⟨a, vs, ea, .inl (SqL.of e2), r2⟩
    | lst xs =>
      cases e1
      obtain ⟨a, vs, ea, q, rv⟩ := rI_lst h
      exact ⟨a, vs, ea, .inl (SqL.of q.1), rv⟩
    | _ => cases e1
theorem cmpI_ok {op : CmpOp} {p : Int → Int → Bool} {g : Store → D → D → Option Bool} (hg : ∀ S a b, g S a b = (toI a).bind fun i => (toI b).map fun j => p i j) (h : OpR X (compareOp op) (rI0 fun i j => .bl (p i j))) : OpR X (compareOp op) (rC X.K g) := by
  intro pins s σ H x y v u Q I rx ry hq
  obtain ⟨z, f, S, dx, dy, rep, hx, hy, k, e, q⟩ := hq
  rw [hg] at e
  obtain ⟨i, e1, e2⟩ := Option.bind_eq_some_iff.mp e
  obtain ⟨j, e3, e4⟩ := Option.map_eq_some_iff.mp e2
  rw [toI_eq e1] at hx
  rw [toI_eq e3] at hy
  exact h pins s σ H x y v u Q I rx ry ⟨i, j, rI_int hx, rI_int hy, by show Q (.bl (p i j)) H; rw [e4]; exact q⟩
theorem cmp_ok {p : COp} {op : CmpOp} (hu : X.A.units + 64 < cLine) (h : isCOp p op = true) : OpR X (compareOp op) (rC X.K fun S => cmpO S p) := by
  cases p with
  | eq =>
    cases op <;> first | exact absurd h Bool.false_ne_true | skip
    intro pins s σ H x y v u Q I rx ry hq
    obtain ⟨z, f, S, dx, dy, rep, hx, hy, k, e, qq⟩ := hq
    obtain ⟨p, q, e1, e3, s1, s2, e5⟩ := eqD_inv e
    exact op_eqD hu pins s σ H x y v u Q I rx ry ⟨p, q, rep_pyS rep hx e1, rep_pyS rep hy e3, s1, s2, by rw [e5]; exact qq⟩
  | ne =>
    cases op <;> first | exact absurd h Bool.false_ne_true | skip
    intro pins s σ H x y v u Q I rx ry hq
    obtain ⟨z, f, S, dx, dy, rep, hx, hy, k, e, qq⟩ := hq
    obtain ⟨k', e', e6⟩ := Option.map_eq_some_iff.mp e
    obtain ⟨p, q, e1, e3, s1, s2, e5⟩ := eqD_inv e'
    exact op_neD hu pins s σ H x y v u Q I rx ry ⟨p, q, rep_pyS rep hx e1, rep_pyS rep hy e3, s1, s2, by rw [e5, e6]; exact qq⟩
  | lt =>
    cases op <;> first | exact absurd h Bool.false_ne_true | skip
    exact cmpI_ok (fun _ _ _ => rfl) op_lt
  | le =>
    cases op <;> first | exact absurd h Bool.false_ne_true | skip
    exact cmpI_ok (fun _ _ _ => rfl) op_le
  | gt =>
    cases op <;> first | exact absurd h Bool.false_ne_true | skip
    exact cmpI_ok (fun _ _ _ => rfl) op_gt
  | ge =>
    cases op <;> first | exact absurd h Bool.false_ne_true | skip
    exact cmpI_ok (fun _ _ _ => rfl) op_ge
  | isN =>
    cases op <;> first | exact absurd h Bool.false_ne_true | skip
    intro pins s σ H x y v u Q I rx ry hq
    obtain ⟨z, f, S, dx, dy, rep, hx, hy, k, e, qq⟩ := hq
    obtain ⟨e1, e2⟩ := ifs e
    rw [isNon_eq e1] at hy
    exact op_isN pins s σ H x y v u Q I rx ry ⟨rI_non hy, by rw [isNon_ok hx, e2]; exact qq⟩
  | notN =>
    cases op <;> first | exact absurd h Bool.false_ne_true | skip
    intro pins s σ H x y v u Q I rx ry hq
    obtain ⟨z, f, S, dx, dy, rep, hx, hy, k, e, qq⟩ := hq
    obtain ⟨e1, e2⟩ := ifs e
    rw [isNon_eq e1] at hy
    exact op_notN pins s σ H x y v u Q I rx ry ⟨rI_non hy, by rw [isNon_ok hx, e2]; exact qq⟩
  | isin =>
    cases op <;> first | exact absurd h Bool.false_ne_true | skip
    intro pins s σ H x y v u Q I rx ry hq
    obtain ⟨z, f, S, dx, dy, rep, hx, hy, k, e, qq⟩ := hq
    obtain ⟨ds, e1, e2⟩ := Option.bind_eq_some_iff.mp e
    obtain ⟨p, q, e3, e4, s1, s2, e5⟩ := inD_inv e2
    obtain ⟨a, vs, ey, sq, rv⟩ := items_rep rep hy e1
    have ex := flat_ok hx e3
    have ev := flats_ok rv e4
    subst ex ev
    refine op_in_seq pins s σ H x y v u Q I rx ry ⟨a, vs, ey, sq, s1, s2, ?_⟩
    show Q (.bl (inV x vs)) H
    rw [e5]
    exact qq
  | notin =>
    cases op <;> first | exact absurd h Bool.false_ne_true | skip
    intro pins s σ H x y v u Q I rx ry hq
    obtain ⟨z, f, S, dx, dy, rep, hx, hy, k, e, qq⟩ := hq
    obtain ⟨ds, e1, e2⟩ := Option.bind_eq_some_iff.mp e
    obtain ⟨k', e2', e6⟩ := Option.map_eq_some_iff.mp e2
    obtain ⟨p, q, e3, e4, s1, s2, e5⟩ := inD_inv e2'
    obtain ⟨a, vs, ey, sq, rv⟩ := items_rep rep hy e1
    have ex := flat_ok hx e3
    have ev := flats_ok rv e4
    subst ex ev
    refine op_notIn_seq pins s σ H x y v u Q I rx ry ⟨a, vs, ey, sq, s1, s2, ?_⟩
    show Q (.bl (!inV x vs)) H
    rw [e5, e6]
    exact qq
end
end Wk
end WkOps_text

section WkSound_text
set_option Elab.async false
set_option linter.all false
set_option maxRecDepth 100000
set_option maxHeartbeats 4000000
/-! WkSound: a run of the small language is a run of the text, construct by construct. -/
namespace Wk
open PySem PySem.Spec PyProof.Rows L2

/-! ### a call by values -/
def FinF (K : PySem.W.Frag) (z f : List Addr) (H : Hp) (r : Option (Res D)) (Q : VK) (E : XK) : Prop :=
  match r with
  | some (.ok d S') => ∀ f' H' v, Step f H f' H' → RepS K z f' H' S' → RepV K z f' H' d v → Q v H'
  | some (.ex x S') => ∀ f' H' c dd, Step f H f' H' → RepS K z f' H' S' → RepX K z f' H' x c dd → E c dd H'
  | none => False
def RepKw (K : PySem.W.Frag) (z f : List Addr) (H : Hp) (kd : List (Str × D)) (kv : List (Str × V)) : Prop := kd.map (·.1) = kv.map (·.1) ∧ RepVs K z f H (kd.map (·.2)) (kv.map (·.2))
def SpF (K : PySem.W.Frag) (g : List D → List (Str × D) → M D) (vs : List V) (kvs : List (Str × V)) (H : Hp) (Q : VK) (E : XK) : Prop :=
  ∃ z f S ds kds, RepS K z f H S ∧ RepVs K z f H ds vs ∧ RepKw K z f H kds kvs ∧ FinF K z f H (g ds kds S) Q E
def KwRel (kvs : List (Str × V)) (kws : List (Str × Value)) : Prop := kvs.map (·.1) = kws.map (·.1) ∧ Vals (kvs.map (·.2)) (kws.map (·.2))
/-- the value f, called, does as g says -/
def FnC (P : Program) (w : World) (K : PySem.W.Frag) (mg : Str → Option Value) (base : Heap) (k : Nat) (f : Addr) (g : List D → List (Str × D) → M D) : Prop :=
  ∀ (A : Around) (outer : List Env) (s : Shared) (H : Hp) (us : List Value) (kws : List (Str × Value)) (vs : List V) (kvs : List (Str × V)) (Q : VK) (E : XK),
    Room k A → Env0 P w K mg base A outer s H → Vals vs us → KwRel kvs kws → SpF K g vs kvs H Q E →
    codeAny (model P w) A (.call (.ref f) ⟨us, kws⟩) (CR (L2.CX P w) outer P w H s Q E) s

structure Facts (o : Ora) (fns : List Str) (n : Nat) (P : Program) (w : World) (K : PySem.W.Frag) (mg : Str → Option Value) (base : Heap) : Prop where
  glob : ∀ x d, o.glob x = some d → ∃ v u, (∀ z f H, RepV K z f H d v) ∧ L2.RelV v u ∧ (mg x = some u ∨ (mg x = none ∧ bootBuiltins x = some u ∧ x ≠ "__name__"))
  free : ∀ b : BI, mg (biName b) = none
  freeL : mg "list" = none
  freeR : mg "range" = none
  freeZ : mg "zip" = none
  freeE : mg "enumerate" = none
  kit : ∀ m n b, isT2 m n = some b → m ∈ ["int", "bool", "tuple", "NoneType"] → PySem.W.kitOne K (.type m) (.type n) = some b
  call : ∀ g ∈ fns, ∃ f, mg g = some (.ref f) ∧ PySem.W.keepIn K (.ref f) = true ∧ ∀ th, FnC P w K mg base n f (o.call th g)

structure XOk (o : Ora) (n : Nat) (s : Sc) (X : Cx) : Prop where
  N : X.N = s.N
  nd : s.N.Nodup
  sc : X.env.scope = s.sc
  sto : ∀ x, s.sto x = true → X.fn x = true ∨ X.env.scope.names.lookup x = some .local
  facts : Facts o s.fns n X.prog X.w X.K X.mg X.base
  room : Room n X.A
  calm : X.calm = true
  kind : X.env.scope.kind = .function
  own : PassesOwn (model X.prog X.w) X.A X.env X.xe

section
variable {K : PySem.W.Frag} {z : List Addr} {W : WX} {f : List Addr} {σ : L2.St} {ρ : Env'} {S : Store} {H : Hp}
theorem seqE {α β : Type} {R : RR α β} {Q : β → Hp → Prop} {g : Env' → M D} {k : D → M α} (rep : Rep K z f H σ ρ S) (h : Fin R K z W f σ ρ H ((g ρ >>= k) S) Q) {Q' : VK}
    (hQ : ∀ f1 H1 S1 d v, Step f H f1 H1 → Rep K z f1 H1 σ ρ S1 → RepV K z f1 H1 d v → Fin R K z W f1 σ ρ H1 (k d S1) Q → Q' v H1) : tE K W g σ H Q' :=
  ⟨z, f, ρ, S, rep, (Fin.bind h).mono fun v H1 ⟨f1, S1, d, st, r1, rv, fi⟩ => hQ f1 H1 S1 d v st r1 rv fi⟩
theorem seqA {α β : Type} {R : RR α β} {Q : β → Hp → Prop} {g : Env' → M (List D)} {k : List D → M α} (rep : Rep K z f H σ ρ S) (h : Fin R K z W f σ ρ H ((g ρ >>= k) S) Q) {Q' : List V → Hp → Prop}
    (hQ : ∀ f1 H1 S1 d v, Step f H f1 H1 → Rep K z f1 H1 σ ρ S1 → RepVs K z f1 H1 d v → Fin R K z W f1 σ ρ H1 (k d S1) Q → Q' v H1) : tA K W g σ H Q' :=
  ⟨z, f, ρ, S, rep, (Fin.bind h).mono fun v H1 ⟨f1, S1, d, st, r1, rv, fi⟩ => hQ f1 H1 S1 d v st r1 rv fi⟩
theorem seqT {α β : Type} {R : RR α β} {Q : β → Hp → Prop} {g : Env' → M Bool} {k : Bool → M α} (rep : Rep K z f H σ ρ S) (h : Fin R K z W f σ ρ H ((g ρ >>= k) S) Q) {Q' : Bool → Hp → Prop}
    (hQ : ∀ f1 H1 S1 d, Step f H f1 H1 → Rep K z f1 H1 σ ρ S1 → Fin R K z W f1 σ ρ H1 (k d S1) Q → Q' d H1) : tT K W g σ H Q' :=
  ⟨z, f, ρ, S, rep, (Fin.bind h).mono fun v H1 ⟨f1, S1, d, st, r1, rv, fi⟩ => by
    have e : d = v := rv
    rw [← e]
    exact hQ f1 H1 S1 d st r1 fi⟩
/-- a step that is no run: an option -/
theorem Fin.opt {α β γ : Type} {R : RR α β} {Q : β → Hp → Prop} {o : Option γ} {k : γ → M α} (h : Fin R K z W f σ ρ H ((M.opt o >>= k) S) Q) : ∃ a, o = some a ∧ Fin R K z W f σ ρ H (k a S) Q := by
  cases o with
  | none => exact h.elim
  | some a => exact ⟨a, rfl, h⟩
theorem Fin.optE {α β : Type} {R : RR α β} {Q : β → Hp → Prop} {o : Option α} (h : Fin R K z W f σ ρ H (M.opt o S) Q) : ∃ a, o = some a ∧ Fin R K z W f σ ρ H (some (.ok a S)) Q := by
  cases o with
  | none => exact h.elim
  | some a => exact ⟨a, rfl, h⟩
theorem Fin.mapE {α β : Type} {R : RR α β} {Q : β → Hp → Prop} {o : Option α} (h : Fin R K z W f σ ρ H (o.map fun a => Res.ok a S) Q) : ∃ a, o = some a ∧ Fin R K z W f σ ρ H (some (.ok a S)) Q := by
  cases o with
  | none => exact h.elim
  | some a => exact ⟨a, rfl, h⟩
/-- a step that reads the store -/
theorem Fin.mapB {α β γ : Type} {R : RR α β} {Q : β → Hp → Prop} {m : M γ} {k : γ → M α} {o : Option γ} (hm : m S = o.map fun a => Res.ok a S) (h : Fin R K z W f σ ρ H ((m >>= k) S) Q) : ∃ a, o = some a ∧ Fin R K z W f σ ρ H (k a S) Q := by
  have e : (m >>= k) S = M.bind m k S := rfl
  rw [e] at h
  unfold M.bind at h
  rw [hm] at h
  cases o with
  | none => exact h.elim
  | some a => exact ⟨a, rfl, h⟩
theorem Fin.pure {α β : Type} {R : RR α β} {Q : β → Hp → Prop} {a : α} (h : Fin R K z W f σ ρ H ((Pure.pure a : M α) S) Q) : Fin R K z W f σ ρ H (some (.ok a S)) Q := h
theorem getQ_map (d : D) : getQ d S = (getQO S d).map fun a => Res.ok a S := by
  unfold getQO
  cases e : getQ d S with
  | none => rfl
  | some r =>
    obtain ⟨ds, rfl⟩ := getQ_ok e
    rfl
theorem getQO_rep {d : D} {v : V} {ds : List D} (r : RepS K z f H S) (h : RepV K z f H d v) (e : getQO S d = some ds) : ∃ a vs, v = .ref a ∧ (SqL K H a vs ∨ SqT K H a vs) ∧ RepVs K z f H ds vs := by
  have e2 := getQ_map (S := S) d
  rw [e] at e2
  exact (rep_getQ r h e2).2
end

section
variable {o : Ora} {n : Nat} {s : Sc} {X : Cx} {W : WX}
theorem atB_ok (x : XOk o n s X) {i : Nat} {y : Str} (h : atB s i y = true) : X.N[i]? = some y := by
  rw [x.N]
  exact of_decide_eq_true h
theorem visB_ok (x : XOk o n s X) {y : Str} (h : visB s y = true) : Vis X.env.scope y := by
  rw [x.sc]
  unfold visB at h
  simp only [Bool.or_eq_true, decide_eq_true_eq] at h
  exact h
theorem locB_ok (x : XOk o n s X) {y : Str} (h : locB s y = true) : Loc X.env.scope y := by
  rw [x.sc]
  unfold locB at h
  simp only [Bool.or_eq_true, decide_eq_true_eq] at h
  exact h
theorem glB_ok (x : XOk o n s X) {y : Str} (h : glB s y = true) : Gl X y := by
  show X.env.scope.names.lookup y = some .globalImplicit
  rw [x.sc]
  exact of_decide_eq_true h

theorem so_var (x : XOk o n s X) {i : Nat} {y : Str} {p : Pos} (h : isE s (.v i) (.Name y p) = true) : PE X (.Name y p) (tE X.K W (evE o (.v i))) := by
  obtain ⟨h1, h⟩ := Bool.and_eq_true_iff.mp (show (atB s i y && (visB s y && (!(y == ("__debug__" : Str)) && !(y == ("__classdict__" : Str))))) = true from h)
  obtain ⟨h2, h⟩ := Bool.and_eq_true_iff.mp h
  obtain ⟨h3, h4⟩ := Bool.and_eq_true_iff.mp h
  refine PEimp (pe_var (atB_ok x h1) (visB_ok x h2) (by simpa using h3) (by simpa using h4)) fun σ H Q ⟨z, f, ρ, S, rep, fin⟩ => ?_
  have fin : Fin (rV X.K z) X.K z W f σ ρ H (varD ρ i S) Q := fin
  unfold varD at fin
  cases e : ρ[i]? with
  | none => rw [e] at fin; exact fin.elim
  | some a =>
    rw [e] at fin
    cases a with
    | none => exact fin.elim
    | some d =>
      obtain ⟨v, e1, rv⟩ := rep.e.get i d e
      exact ⟨v, e1, Fin.here fin rep rv⟩
theorem so_glob (x : XOk o n s X) {y : Str} {p : Pos} (h : isE s (.g y) (.Name y p) = true) : PE X (.Name y p) (tE X.K W (evE o (.g y))) := by
  obtain ⟨_, h⟩ := Bool.and_eq_true_iff.mp (show (decide (y = y) && (glB s y && !(y == ("__debug__" : Str)))) = true from h)
  obtain ⟨h1, h2⟩ := Bool.and_eq_true_iff.mp h
  have hd : (y == ("__debug__" : Str)) = false := by simpa using h2
  refine ⟨fun pins s σ H Q I ⟨z, f, ρ, S, rep, fin⟩ => ?_⟩
  obtain ⟨d, e, fin⟩ := Fin.optE (show Fin (rV X.K z) X.K z W f σ ρ H (M.opt (o.glob y) S) Q from fin)
  obtain ⟨v, u, rv, ru, hm⟩ := x.facts.glob y d e
  have q := Fin.here fin rep (rv z f H)
  rcases hm with hm | ⟨hm, hb, hn⟩
  · exact (pe_glob (glB_ok x h1) hm ru hd).run pins s σ H Q I q
  · exact (pe_bltn (glB_ok x h1) hm hb ru hn hd).run pins s σ H Q I q
theorem so_int {i : Int} {k : Nat} {p : Pos} : PE X (.Constant (.int i) k p) (tE X.K W (evE o (.cint i))) :=
  PEimp pe_int fun σ H Q ⟨z, f, ρ, S, rep, fin⟩ => Fin.here (Fin.pure fin) rep (mI_int _)
theorem so_str {i : Str} {k : Nat} {p : Pos} : PE X (.Constant (.str i) k p) (tE X.K W (evE o (.cstr i))) :=
  PEimp pe_str fun σ H Q ⟨z, f, ρ, S, rep, fin⟩ => Fin.here (Fin.pure fin) rep (mI_str _)
theorem so_bl {i : Bool} {k : Nat} {p : Pos} : PE X (.Constant (.bool i) k p) (tE X.K W (evE o (.cbl i))) :=
  PEimp pe_bl fun σ H Q ⟨z, f, ρ, S, rep, fin⟩ => Fin.here (Fin.pure fin) rep (mI_bl _)
theorem so_non {k : Nat} {p : Pos} : PE X (.Constant .none k p) (tE X.K W (evE o .cnon)) :=
  PEimp pe_non fun σ H Q ⟨z, f, ρ, S, rep, fin⟩ => Fin.here (Fin.pure fin) rep mI_non
theorem so_bin {p : BOp} {op : Operator} {a b : E} {ea eb : Expr} {pos : Pos} (hop : isBOp p op = true) (ha : PE X ea (tE X.K W (evE o a))) (hb : PE X eb (tE X.K W (evE o b))) : PE X (.BinOp ea op eb pos) (tE X.K W (evE o (.bin p a b))) :=
  PEimp (pe_op (bin_ok hop) ha hb) fun σ H Q ⟨z, f, ρ, S, rep, fin⟩ => seqE rep fin fun f1 H1 S1 d v st1 r1 rv fi1 => seqE r1 fi1 fun f2 H2 S2 e w st2 r2 rw' fi2 => by
    obtain ⟨c, ec, fi⟩ := Fin.optE (show Fin (rV X.K z) X.K z W f2 σ ρ H2 (M.opt (binO p d e) S2) Q from fi2)
    exact ⟨z, f2, S2, d, e, r2.s, rv.mv st2.mv, rw', c, ec, fun f' H' v st hr rv => fi f' H' v st (hr _ _ r2) rv⟩
theorem so_neg {a : E} {ea : Expr} {pos : Pos} (ha : PE X ea (tE X.K W (evE o a))) : PE X (.UnaryOp .USub ea pos) (tE X.K W (evE o (.neg a))) :=
  PEimp (pe_un un_neg ha) fun σ H Q ⟨z, f, ρ, S, rep, fin⟩ => seqE rep fin fun f1 H1 S1 d v st1 r1 rv fi1 => by
    obtain ⟨i, e, fi⟩ := Fin.opt fi1
    rw [toI_eq e] at rv
    exact ⟨i, rI_int rv, Fin.here (Fin.pure fi) r1 (mI_int _)⟩
theorem marks_ok {op : CmpOp} {e : Expr} (h : noSet e = true) : behindInMarks op e = false := by
  cases e <;> first | rfl | exact absurd h Bool.false_ne_true
theorem rC_of {p : COp} {z f : List Addr} {H : Hp} {σ : L2.St} {ρ : Env'} {S : Store} {d e : D} {v w : V} {Q : VK} (r : Rep X.K z f H σ ρ S) (rv : RepV X.K z f H d v) (rw' : RepV X.K z f H e w)
    (fi : Fin (rV X.K z) X.K z W f σ ρ H (cmpD p d e S) Q) : rC X.K (fun S => cmpO S p) v w H Q := by
  have fi : Fin (rV X.K z) X.K z W f σ ρ H ((cmpO S p d e).map fun k => Res.ok (D.bl k) S) Q := fi
  cases ec : cmpO S p d e with
  | none => rw [ec] at fi; exact fi.elim
  | some k =>
    rw [ec] at fi
    exact ⟨z, f, S, d, e, r.s, rv, rw', k, ec, Fin.here fi r (mI_bl _)⟩
theorem units_ok (x : XOk o n s X) : X.A.units + 64 < cLine := x.room.units
theorem so_cmp (x : XOk o n s X) {p : COp} {op : CmpOp} {a b : E} {ea eb : Expr} {pos : Pos} (hop : isCOp p op = true) (hs : noSet eb = true) (ha : PE X ea (tE X.K W (evE o a))) (hb : PE X eb (tE X.K W (evE o b))) :
    PE X (.Compare ea [op] [eb] pos) (tE X.K W (evE o (.cmp p a b))) :=
  PEimp (pe_cmpR (cmp_ok (units_ok x) hop) ha hb (marks_ok hs)) fun σ H Q ⟨z, f, ρ, S, rep, fin⟩ => seqE rep fin fun f1 H1 S1 d v st1 r1 rv fi1 => seqE r1 fi1 fun f2 H2 S2 e w st2 r2 rw' fi2 => rC_of r2 (rv.mv st2.mv) rw' fi2
theorem rC_ofB {p : COp} {z f : List Addr} {H : Hp} {σ : L2.St} {ρ : Env'} {S : Store} {d e : D} {v w : V} {α β : Type} {R : RR α β} {k : Bool → M α} {Q : β → Hp → Prop} {Q' : VK} (r : Rep X.K z f H σ ρ S) (rv : RepV X.K z f H d v) (rw' : RepV X.K z f H e w)
    (fi : Fin R X.K z W f σ ρ H ((cmpB p d e >>= k) S) Q) (h : ∀ b, Fin R X.K z W f σ ρ H (k b S) Q → Q' (.bl b) H) : rC X.K (fun S => cmpO S p) v w H Q' := by
  obtain ⟨b, ec, fi⟩ := Fin.mapB (m := cmpB p d e) (o := cmpO S p d e) rfl fi
  exact ⟨z, f, S, d, e, r.s, rv, rw', b, ec, h b fi⟩
theorem so_chain (x : XOk o n s X) {p q : COp} {op op' : CmpOp} {a b c : E} {ea eb ec : Expr} {pos : Pos} (hop : isCOp p op = true) (hop' : isCOp q op' = true) (hs : noSet ec = true)
    (ha : PE X ea (tE X.K W (evE o a))) (hb : PE X eb (tE X.K W (evE o b))) (hc : PE X ec (tE X.K W (evE o c))) :
    PE X (.Compare ea [op, op'] [eb, ec] pos) (tE X.K W (evE o (.chain p q a b c))) :=
  PEimp (pe_chain (cmp_ok (units_ok x) hop) (cmp_ok (units_ok x) hop') ha hb hc (marks_ok hs)) fun σ H Q ⟨z, f, ρ, S, rep, fin⟩ => seqE rep fin fun f1 H1 S1 d v st1 r1 rv fi1 => seqE r1 fi1 fun f2 H2 S2 e w st2 r2 rw' fi2 => by
    refine rC_ofB r2 (rv.mv st2.mv) rw' fi2 fun k fi => ⟨k, rfl, ?_⟩
    cases k with
    | true => exact seqE r2 fi fun f3 H3 S3 e3 w3 st3 r3 rw3 fi3 => rC_of r3 (rw'.mv st3.mv) rw3 fi3
    | false => exact Fin.here (Fin.pure fi) r2 (mI_bl _)
theorem so_ife {a b c : E} {ea eb ec : Expr} {pos : Pos} (hc : PT X ec (tT X.K W (evT o c))) (ha : PE X ea (tE X.K W (evE o a))) (hb : PE X eb (tE X.K W (evE o b))) : PE X (.IfExp ec ea eb pos) (tE X.K W (evE o (.ife c a b))) :=
  PEimp (pe_ifExp hc ha hb) fun σ H Q ⟨z, f, ρ, S, rep, fin⟩ => seqT rep fin fun f1 H1 S1 d st1 r1 fi1 => by
    cases d with
    | true => exact ⟨z, f1, ρ, S1, r1, fi1⟩
    | false => exact ⟨z, f1, ρ, S1, r1, fi1⟩
theorem so_not {a : E} {ea : Expr} {pos : Pos} (ha : PE X ea (tE X.K W (evE o a))) : PE X (.UnaryOp .Not ea pos) (tE X.K W (evE o (.not_ a))) :=
  PEimp (pe_not ha) fun σ H Q ⟨z, f, ρ, S, rep, fin⟩ => seqE rep fin fun f1 H1 S1 d v st1 r1 rv fi1 => by
    obtain ⟨i, e, fi⟩ := Fin.opt fi1
    rw [toB_eq e] at rv
    exact ⟨i, rI_bl rv, Fin.here (Fin.pure fi) r1 (mI_bl _)⟩
theorem so_tup {xs : A} {es : List Expr} {k : Nat} {pos : Pos} (h : PA X es (tA X.K W (evA o xs))) : PE X (.Tuple es k pos) (tE X.K W (evE o (.tup xs))) :=
  PEimp (pe_tup h) fun σ H Q ⟨z, f, ρ, S, rep, fin⟩ => seqA rep fin fun f1 H1 S1 d v st1 r1 rv fi1 => by
    have fi : Fin (rV X.K z) X.K z W f1 σ ρ H1 (if lenOk d.length = true then some (Res.ok (D.tup d) S1) else none) Q := fi1
    by_cases hl : lenOk d.length = true
    · rw [if_pos hl] at fi
      refine ⟨by rw [← rv.length]; exact le_line hl, fun p hp => ?_⟩
      exact fi f1 _ _ (Step.alloc r1.s hp _) (r1.alloc hp _) (newT r1.s rv hp)
    · rw [if_neg hl] at fi
      exact fi.elim
/-- a new list, of the store or not -/
theorem mkL_ok {z f : List Addr} {H : Hp} {σ : L2.St} {ρ : Env'} {S : Store} {Q : VK} {fz : Bool} {ds : List D} {vs : List V} (r : Rep X.K z f H σ ρ S) (rv : RepVs X.K z f H ds vs) (fi : Fin (rV X.K z) X.K z W f σ ρ H (mkL fz ds S) Q) :
    vs.length ≤ sizeLine ∧ ∀ p, H p = none → Q (.ref p) (upd H p (.lst vs)) := by
  unfold mkL at fi
  by_cases hl : lenOk ds.length = true
  · rw [if_pos hl] at fi
    refine ⟨by rw [← rv.length]; exact le_line hl, fun p hp => ?_⟩
    cases fz with
    | true => exact fi f _ _ (Step.alloc r.s hp _) (r.alloc hp _) (newL r.s rv hp)
    | false =>
      have st := Step.allocS r.s hp (HO.lst vs)
      refine fi (f ++ [p]) _ _ st (r.allocS hp ⟨vs, upd_same, rv.mv st.mv⟩) ?_
      show RepV X.K z _ _ (D.ref S.length) _
      simp only [RepV]
      refine ⟨p, rfl, ?_⟩
      rw [← r.s.len, List.getElem?_append_right (Nat.le_refl _), Nat.sub_self] <;> rfl
  · rw [if_neg hl] at fi
    exact fi.elim
theorem so_lst {fz : Bool} {xs : A} {es : List Expr} {pos : Pos} (h : PA X es (tA X.K W (evA o xs))) : PE X (.List es pos) (tE X.K W (evE o (.lst fz xs))) :=
  PEimp (pe_lst h) fun σ H Q ⟨z, f, ρ, S, rep, fin⟩ => seqA rep fin fun f1 H1 S1 d v st1 r1 rv fi1 => mkL_ok r1 rv fi1
theorem so_nil : PA X [] (tA X.K W (evA o .nil)) :=
  PAimp pa_nil fun σ H Q ⟨z, f, ρ, S, rep, fin⟩ => Fin.here (Fin.pure fin) rep RepVs.nil_iff
theorem star_ok {s : Sc} {m : E} {e : Expr} {env : Env} {es : List Expr} (h : isE s m e = true) : starEach (e :: es) env = (false, eval e env) :: starEach es env := by
  cases e <;> first | rfl | (cases m <;> exact absurd h Bool.false_ne_true)
theorem so_cons {e : E} {r : A} {x : Expr} {xs : List Expr} (hx : isE s e x = true) (h1 : PE X x (tE X.K W (evE o e))) (h2 : PA X xs (tA X.K W (evA o r))) : PA X (x :: xs) (tA X.K W (evA o (.cons e r))) :=
  PAimp (pa_cons h1 h2 (star_ok hx)) fun σ H Q ⟨z, f, ρ, S, rep, fin⟩ => seqE rep fin fun f1 H1 S1 d v st1 r1 rv fi1 => seqA r1 fi1 fun f2 H2 S2 e w st2 r2 rw' fi2 =>
    Fin.here (Fin.pure fi2) r2 (RepVs.cons (rv.mv st2.mv) rw')
end
end Wk
end WkSound_text

section WkSnd2_text
set_option Elab.async false
set_option linter.all false
set_option maxRecDepth 100000
set_option maxHeartbeats 4000000
/-! WkSnd2: tests, and/or, starred arguments, subscripts, slices. -/
namespace Wk
open PySem PySem.Spec PyProof.Rows L2 StX

theorem M.assoc {α β γ : Type} (m : M α) (k : α → M β) (h : β → M γ) : ((m >>= k) >>= h) = (m >>= fun a => k a >>= h) := by
  funext S
  show M.bind (M.bind m k) h S = M.bind m (fun a => M.bind (k a) h) S
  unfold M.bind
  cases m S with
  | none => rfl
  | some r => cases r <;> rfl
theorem M.pureB {α β : Type} (a : α) (k : α → M β) : ((Pure.pure a : M α) >>= k) = k a := rfl

section
variable {K : PySem.W.Frag} {z : List Addr} {W : WX} {f : List Addr} {σ : L2.St} {ρ : Env'} {S : Store} {H : Hp}
theorem tru_rep {d : D} {v : V} {k : Bool} (r : RepS K z f H S) (h : RepV K z f H d v) (e : truO S d = some k) : TruV K v H k := by
  rcases orE e with e | e
  · rw [toB_eq e] at h
    rw [rI_bl h]
    rfl
  · rcases orE e with e | e
    · cases q : toI d with
      | none => rw [q] at e; cases e
      | some i =>
        rw [q] at e
        rw [toI_eq q] at h
        rw [rI_int h]
        exact (Option.some.inj e).symm
    · rcases orE e with e | e
      · cases q : isNon d with
        | false => rw [q] at e; cases e
        | true =>
          rw [q] at e
          rw [isNon_eq q] at h
          rw [rI_non h]
          exact (Option.some.inj e).symm
      · cases q : getQO S d with
        | none => rw [q] at e; cases e
        | some ds =>
          rw [q] at e
          obtain ⟨a, vs, rfl, hv, hr⟩ := getQO_rep r h q
          have hk : k = !vs.isEmpty := by
            have e1 : (!ds.isEmpty) = k := Option.some.inj e
            rw [← e1]
            have := hr.length
            cases ds <;> cases vs <;> simp_all
          rcases hv with hv | hv
          · exact .inl ⟨vs, hv, hk⟩
          · exact .inr (.inl ⟨vs, hv, hk⟩)
end

section
variable {o : Ora} {n : Nat} {s : Sc} {X : Cx} {W : WX}
theorem pt_fail {e : Expr} {g : Env' → M Bool} (h : ∀ ρ S, g ρ S = none) : PT X e (tT X.K W g) := ⟨fun pins s σ H Q I ⟨z, f, ρ, S, rep, fin⟩ => by rw [h] at fin; exact fin.elim⟩
theorem pw_fail {e : Expr} {g : Env' → M Bool} (h : ∀ ρ S, g ρ S = none) : PW X e (tT X.K W g) := ⟨fun w pins s σ H Q I ⟨z, f, ρ, S, rep, fin⟩ => by rw [h] at fin; exact fin.elim⟩
theorem pe_fail {e : Expr} {g : Env' → M D} (h : ∀ ρ S, g ρ S = none) : PE X e (tE X.K W g) := ⟨fun pins s σ H Q I ⟨z, f, ρ, S, rep, fin⟩ => by rw [h] at fin; exact fin.elim⟩
/-- a value as a test -/
theorem st_tru {e : Expr} {g : Env' → M D} {g' : Env' → M Bool} (h : PE X e (tE X.K W g)) (hg : ∀ ρ, g' ρ = (g ρ >>= truD)) (he : ∀ whole, isTrue e X.env whole = (do let v ← whole; standAt e.pos; holding [v] (truthy v))) : PT X e (tT X.K W g') :=
  PTimp (pt_truth h he) fun σ H Q ⟨z, f, ρ, S, rep, fin⟩ => by
    rw [hg] at fin
    exact seqE rep fin fun f1 H1 S1 d v st1 r1 rv fi1 => by
      obtain ⟨k, e, fi⟩ := Fin.mapE (o := truO S1 d) fi1
      exact ⟨k, tru_rep r1.s rv e, Fin.here fi r1 rfl⟩
theorem rC_ofT {p : COp} {z f : List Addr} {H : Hp} {σ : L2.St} {ρ : Env'} {S : Store} {d e : D} {v w : V} {Q : Bool → Hp → Prop} (r : Rep X.K z f H σ ρ S) (rv : RepV X.K z f H d v) (rw' : RepV X.K z f H e w)
    (fi : Fin (rEq' Bool) X.K z W f σ ρ H (cmpB p d e S) Q) : rC X.K (fun S => cmpO S p) v w H (fun x H' => ∃ k, x = .bl k ∧ Q k H') := by
  obtain ⟨k, ec, fi⟩ := Fin.mapE (o := cmpO S p d e) fi
  exact ⟨z, f, S, d, e, r.s, rv, rw', k, ec, k, rfl, Fin.here fi r rfl⟩
theorem st_cmp (x : XOk o n s X) {p : COp} {op : CmpOp} {a b : E} {ea eb : Expr} {pos : Pos} (hop : isCOp p op = true) (hs : noSet eb = true) (ha : PE X ea (tE X.K W (evE o a))) (hb : PE X eb (tE X.K W (evE o b))) :
    PT X (.Compare ea [op] [eb] pos) (tT X.K W (evT o (.cmp p a b))) :=
  PTimp (pt_cmpR (cmp_ok (units_ok x) hop) ha hb (marks_ok hs)) fun σ H Q ⟨z, f, ρ, S, rep, fin⟩ => seqE rep fin fun f1 H1 S1 d v st1 r1 rv fi1 => seqE r1 fi1 fun f2 H2 S2 e w st2 r2 rw' fi2 => rC_ofT r2 (rv.mv st2.mv) rw' fi2
theorem st_chain (x : XOk o n s X) {p q : COp} {op op' : CmpOp} {a b c : E} {ea eb ec : Expr} {pos : Pos} (hop : isCOp p op = true) (hop' : isCOp q op' = true) (hs : noSet ec = true)
    (ha : PE X ea (tE X.K W (evE o a))) (hb : PE X eb (tE X.K W (evE o b))) (hc : PE X ec (tE X.K W (evE o c))) :
    PT X (.Compare ea [op, op'] [eb, ec] pos) (tT X.K W (evT o (.chain p q a b c))) :=
  PTimp (pt_chain (cmp_ok (units_ok x) hop) (cmp_ok (units_ok x) hop') ha hb hc (marks_ok hs)) fun σ H Q ⟨z, f, ρ, S, rep, fin⟩ => seqE rep fin fun f1 H1 S1 d v st1 r1 rv fi1 => seqE r1 fi1 fun f2 H2 S2 e w st2 r2 rw' fi2 => by
    refine rC_ofB r2 (rv.mv st2.mv) rw' fi2 fun k fi => ⟨k, rfl, ?_⟩
    cases k with
    | true => exact seqE r2 fi fun f3 H3 S3 e3 w3 st3 r3 rw3 fi3 => rC_ofT r3 (rw'.mv st3.mv) rw3 fi3
    | false => exact ⟨false, rfl, Fin.here (Fin.pure fi) r2 rfl⟩
theorem st_not {a : E} {ea : Expr} {pos : Pos} (ha : PT X ea (tT X.K W (evT o a))) : PT X (.UnaryOp .Not ea pos) (tT X.K W (evT o (.not_ a))) :=
  PTimp (pt_not ha) fun σ H Q ⟨z, f, ρ, S, rep, fin⟩ => seqT rep fin fun f1 H1 S1 k st1 r1 fi1 => Fin.here (Fin.pure fi1) r1 rfl
theorem st_bl {i : Bool} {k : Nat} {p : Pos} : PT X (.Constant (.bool i) k p) (tT X.K W (evT o (.cbl i))) :=
  PTimp (pt_val pe_bl) fun σ H Q ⟨z, f, ρ, S, rep, fin⟩ => ⟨i, rfl, Fin.here (Fin.pure fin) rep rfl⟩
/-! and, or: a test -/
theorem st_allN {pos : Pos} : PW X (.BoolOp .And [] pos) (tT X.K W (evAll o .nil)) := ⟨fun w pins s σ H Q I ⟨z, f, ρ, S, rep, fin⟩ => isTrue_and_nil ⟨H, I, Fin.here (Fin.pure fin) rep rfl⟩⟩
theorem st_all {e : E} {r : A} {x : Expr} {xs : List Expr} {pos : Pos} (h1 : PT X x (tT X.K W (evT o e))) (h2 : PW X (.BoolOp .And xs pos) (tT X.K W (evAll o r))) : PW X (.BoolOp .And (x :: xs) pos) (tT X.K W (evAll o (.cons e r))) := by
  refine ⟨fun w pins s σ H Q I ⟨z, f, ρ, S, rep, fin⟩ => isTrue_and (thn (h1.run pins s σ H (fun c H1 => ∃ f1 S1, Rep X.K z f1 H1 σ ρ S1 ∧ Fin (rEq' Bool) X.K z W f1 σ ρ H1 ((match c with | true => evAll o r ρ | false => pure false : M Bool) S1) Q) I
    (seqT rep fin fun f1 H1 S1 k st1 r1 fi1 => ⟨f1, S1, r1, fi1⟩)) fun c s1 ⟨H1, I1, f1, S1, r1, fi⟩ => ?_)⟩
  cases c with
  | true => exact h2.run w pins s1 σ H1 Q I1 ⟨z, f1, ρ, S1, r1, fi⟩
  | false => exact ⟨H1, I1, Fin.here (Fin.pure fi) r1 rfl⟩
theorem st_anyN {pos : Pos} : PW X (.BoolOp .Or [] pos) (tT X.K W (evAny o .nil)) := ⟨fun w pins s σ H Q I ⟨z, f, ρ, S, rep, fin⟩ => isTrue_or_nil ⟨H, I, Fin.here (Fin.pure fin) rep rfl⟩⟩
theorem st_any {e : E} {r : A} {x : Expr} {xs : List Expr} {pos : Pos} (h1 : PT X x (tT X.K W (evT o e))) (h2 : PW X (.BoolOp .Or xs pos) (tT X.K W (evAny o r))) : PW X (.BoolOp .Or (x :: xs) pos) (tT X.K W (evAny o (.cons e r))) := by
  refine ⟨fun w pins s σ H Q I ⟨z, f, ρ, S, rep, fin⟩ => isTrue_or (thn (h1.run pins s σ H (fun c H1 => ∃ f1 S1, Rep X.K z f1 H1 σ ρ S1 ∧ Fin (rEq' Bool) X.K z W f1 σ ρ H1 ((match c with | true => pure true | false => evAny o r ρ : M Bool) S1) Q) I
    (seqT rep fin fun f1 H1 S1 k st1 r1 fi1 => ⟨f1, S1, r1, fi1⟩)) fun c s1 ⟨H1, I1, f1, S1, r1, fi⟩ => ?_)⟩
  cases c with
  | false => exact h2.run w pins s1 σ H1 Q I1 ⟨z, f1, ρ, S1, r1, fi⟩
  | true => exact ⟨H1, I1, Fin.here (Fin.pure fi) r1 rfl⟩
/-! .. a value -/
theorem so_and1 {e : E} {x : Expr} {pos : Pos} (h : PE X x (tE X.K W (evE o e))) : PE X (.BoolOp .And [x] pos) (tE X.K W (evAnd o (.cons e .nil))) := pe_one h
theorem so_and {e e2 : E} {r : A} {x x2 : Expr} {xs : List Expr} {pos : Pos} (h : PE X x (tE X.K W (evE o e))) (h2 : PE X (.BoolOp .And (x2 :: xs) pos) (tE X.K W (evAnd o (.cons e2 r)))) : PE X (.BoolOp .And (x :: x2 :: xs) pos) (tE X.K W (evAnd o (.cons e (.cons e2 r)))) :=
  PEimp (pe_and h h2) fun σ H Q ⟨z, f, ρ, S, rep, fin⟩ => seqE rep fin fun f1 H1 S1 d v st1 r1 rv fi1 => by
    obtain ⟨i, e, fi⟩ := Fin.opt fi1
    rw [toB_eq e] at rv
    refine ⟨i, rI_bl rv, ?_⟩
    cases i with
    | true => exact ⟨z, f1, ρ, S1, r1, fi⟩
    | false => exact Fin.here (Fin.pure fi) r1 (mI_bl _)
theorem so_or1 {e : E} {x : Expr} {pos : Pos} (h : PE X x (tE X.K W (evE o e))) : PE X (.BoolOp .Or [x] pos) (tE X.K W (evOr o (.cons e .nil))) := pe_one h
theorem so_or {e e2 : E} {r : A} {x x2 : Expr} {xs : List Expr} {pos : Pos} (h : PE X x (tE X.K W (evE o e))) (h2 : PE X (.BoolOp .Or (x2 :: xs) pos) (tE X.K W (evOr o (.cons e2 r)))) : PE X (.BoolOp .Or (x :: x2 :: xs) pos) (tE X.K W (evOr o (.cons e (.cons e2 r)))) :=
  PEimp (pe_or h h2) fun σ H Q ⟨z, f, ρ, S, rep, fin⟩ => seqE rep fin fun f1 H1 S1 d v st1 r1 rv fi1 => by
    obtain ⟨i, e, fi⟩ := Fin.opt fi1
    rw [toB_eq e] at rv
    refine ⟨i, rI_bl rv, ?_⟩
    cases i with
    | false => exact ⟨z, f1, ρ, S1, r1, fi⟩
    | true => exact Fin.here (Fin.pure fi) r1 (mI_bl _)
/-! starred -/
theorem so_star {e : E} {r : A} {x : Expr} {xs : List Expr} {pos : Pos} (h1 : PE X x (tE X.K W (evE o e))) (h2 : PA X xs (tA X.K W (evA o r))) : PA X (.Starred x pos :: xs) (tA X.K W (evA o (.star e r))) :=
  PAimp (pa_star h1 h2) fun σ H Q ⟨z, f, ρ, S, rep, fin⟩ => seqE rep fin fun f1 H1 S1 d v st1 r1 rv fi1 => by
    obtain ⟨ds, e, fi⟩ := Fin.mapB (getQ_map (S := S1) d) fi1
    obtain ⟨a, vs, rfl, hv, hr⟩ := getQO_rep r1.s rv e
    exact ⟨a, vs, rfl, hv.symm, seqA r1 fi fun f2 H2 S2 e w st2 r2 rw' fi2 => Fin.here (Fin.pure fi2) r2 ((hr.mv st2.mv).append rw')⟩
/-! subscripts -/
theorem atI_rep {K : PySem.W.Frag} {z f : List Addr} {H : Hp} {ds : List D} {vs : List V} {i : Int} {d : D} (r : RepVs K z f H ds vs) (e : atI ds i = some d) : ∃ v, atI vs i = some v ∧ RepV K z f H d v := by
  obtain ⟨j, e1, e2⟩ := Option.bind_eq_some_iff.mp (show ((ixN ds.length i).bind fun j => ds[j]?) = some d from e)
  obtain ⟨v, e3, e4⟩ := r.get e2
  refine ⟨v, ?_, e4⟩
  show ((ixN vs.length i).bind fun j => vs[j]?) = some v
  rw [← r.length, e1]
  exact e3
theorem plainIx {e : Expr} (h : noSlice e = true) : PlainIx e := by
  cases e <;> first | exact absurd h Bool.false_ne_true | exact fun _ _ => rfl
theorem so_ix {a b : E} {ea eb : Expr} {pos : Pos} (hs : noSlice eb = true) (ha : PE X ea (tE X.K W (evE o a))) (hb : PE X eb (tE X.K W (evE o b))) : PE X (.Subscript ea eb pos) (tE X.K W (evE o (.ix a b))) :=
  PEimp (pe_ix (ix_list.or ix_tup) ha hb (plainIx hs)) fun σ H Q ⟨z, f, ρ, S, rep, fin⟩ => seqE rep fin fun f1 H1 S1 d v st1 r1 rv fi1 => seqE r1 fi1 fun f2 H2 S2 e w st2 r2 rw' fi2 => by
    obtain ⟨c, ec, fi⟩ := Fin.mapE (o := ixO S2 d e) fi2
    obtain ⟨ds, e1, ec⟩ := Option.bind_eq_some_iff.mp ec
    obtain ⟨i, e2, ec⟩ := Option.bind_eq_some_iff.mp ec
    obtain ⟨a, vs, rfl, hv, hr⟩ := getQO_rep r2.s (rv.mv st2.mv) e1
    obtain ⟨v, e3, rv3⟩ := atI_rep hr ec
    rw [toI_eq e2] at rw'
    have q := Fin.here fi r2 rv3
    rcases hv with hv | hv
    · exact .inl ⟨a, vs, i, v, rfl, rI_int rw', hv, e3, q⟩
    · exact .inr ⟨a, vs, i, v, rfl, rI_int rw', hv, e3, q⟩
theorem derD_lst {K : PySem.W.Frag} {z f : List Addr} {H : Hp} {S : Store} {d : D} {v : V} {ds : List D} (r : RepS K z f H S) (h : RepV K z f H d v) (e : toLs (derD S d) = some ds) : ∃ a vs, v = .ref a ∧ SqL K H a vs ∧ RepVs K z f H ds vs := by
  have e2 : getL d S = some (.ok ds S) := by
    cases d with
    | lst xs => 
      have : xs = ds := Option.some.inj e
      rw [this] <;> rfl
    | ref l =>
      cases q : S[l]? with
      | none => simp only [derD, q] at e; cases e
      | some o => 
        simp only [derD, q] at e
        cases o with
        | lst xs => 
          have : xs = ds := Option.some.inj e
          show (match S[l]? with | some (.lst ds) => some (Res.ok ds S) | _ => none) = _
          rw [q, this]
        | ins _ _ _ => cases e
    | _ => cases e
  exact (rep_getL r h e2).2
theorem slO_ok {z f : List Addr} {H : Hp} {σ : L2.St} {ρ : Env'} {S : Store} {d : D} {v : V} {lo hi : Option Int} {Q : VK} (r : Rep X.K z f H σ ρ S) (rv : RepV X.K z f H d v) (fi : Fin (rV X.K z) X.K z W f σ ρ H (slD d lo hi S) Q) :
    rSlL X.K v lo hi H Q ∨ rSlA X.K v lo hi H Q := by
  obtain ⟨c, ec, fi⟩ := Fin.mapE (o := slO S d lo hi) fi
  rcases orE ec with ec | ec
  · cases q : toTp d with
    | none => rw [q] at ec; cases ec
    | some ds =>
      rw [q] at ec
      rw [toTp_eq q] at rv
      obtain ⟨a, vs, rfl, hv, hr⟩ := rI_tup rv
      have ec : D.tup (cutD ds lo hi) = c := Option.some.inj ec
      rw [← ec] at fi
      refine .inr ⟨a, vs, rfl, hv.1, fun hw => ?_, fun _ p hp => ?_⟩
      · have e1 : cutD ds lo hi = ds := by
          unfold cutD
          rw [hr.length, hw.1, hw.2, List.drop_zero, Nat.sub_zero, ← hr.length, List.take_length]
        rw [e1] at fi
        refine Fin.here fi r ?_
        show RepV X.K z f H (.tup ds) (.ref a)
        simp only [RepV]
        exact ⟨a, vs, rfl, hv, hr⟩
      · exact fi f _ _ (Step.alloc r.s hp _) (r.alloc hp _) (newT r.s (hr.cut lo hi) hp)
  · cases q : toLs (derD S d) with
    | none => rw [q] at ec; cases ec
    | some ds =>
      rw [q] at ec
      have ec : D.lst (cutD ds lo hi) = c := Option.some.inj ec
      rw [← ec] at fi
      obtain ⟨a, vs, rfl, hv, hr⟩ := derD_lst r.s rv q
      exact .inl ⟨a, vs, rfl, hv, fun p hp => fi f _ _ (Step.alloc r.s hp _) (r.alloc hp _) (newL r.s (hr.cut lo hi) hp)⟩
theorem so_slL {a b : E} {ea eb : Expr} {pos p2 : Pos} (ha : PE X ea (tE X.K W (evE o a))) (hb : PE X eb (tE X.K W (evE o b))) : PE X (.Subscript ea (.Slice (some eb) none none p2) pos) (tE X.K W (evE o (.slL a b))) :=
  PEimp (pe_slice (sl_list.or sl_tupA) ha (po_some hb) po_none) fun σ H Q ⟨z, f, ρ, S, rep, fin⟩ => seqE rep fin fun f1 H1 S1 d v st1 r1 rv fi1 => seqE r1 fi1 fun f2 H2 S2 e w st2 r2 rw' fi2 => by
    obtain ⟨i, e, fi⟩ := Fin.opt fi2
    rw [toI_eq e] at rw'
    exact ⟨i, rI_int rw', slO_ok r2 (rv.mv st2.mv) fi⟩
theorem so_slH {a b : E} {ea eb : Expr} {pos p2 : Pos} (ha : PE X ea (tE X.K W (evE o a))) (hb : PE X eb (tE X.K W (evE o b))) : PE X (.Subscript ea (.Slice none (some eb) none p2) pos) (tE X.K W (evE o (.slH a b))) :=
  PEimp (pe_slice (sl_list.or sl_tupA) ha po_none (po_some hb)) fun σ H Q ⟨z, f, ρ, S, rep, fin⟩ => seqE rep fin fun f1 H1 S1 d v st1 r1 rv fi1 => seqE r1 fi1 fun f2 H2 S2 e w st2 r2 rw' fi2 => by
    obtain ⟨i, e, fi⟩ := Fin.opt fi2
    rw [toI_eq e] at rw'
    exact ⟨i, rI_int rw', slO_ok r2 (rv.mv st2.mv) fi⟩
theorem so_slLH {a b c : E} {ea eb ec : Expr} {pos p2 : Pos} (ha : PE X ea (tE X.K W (evE o a))) (hb : PE X eb (tE X.K W (evE o b))) (hc : PE X ec (tE X.K W (evE o c))) : PE X (.Subscript ea (.Slice (some eb) (some ec) none p2) pos) (tE X.K W (evE o (.slLH a b c))) :=
  PEimp (pe_slice (sl_list.or sl_tupA) ha (po_some hb) (po_some hc)) fun σ H Q ⟨z, f, ρ, S, rep, fin⟩ => seqE rep fin fun f1 H1 S1 d v st1 r1 rv fi1 => seqE r1 fi1 fun f2 H2 S2 e w st2 r2 rw' fi2 => by
    obtain ⟨i, e, fi⟩ := Fin.opt fi2
    rw [toI_eq e] at rw'
    refine ⟨i, rI_int rw', seqE r2 fi fun f3 H3 S3 e3 w3 st3 r3 rw3 fi3 => ?_⟩
    obtain ⟨j, e, fi⟩ := Fin.opt fi3
    rw [toI_eq e] at rw3
    exact ⟨j, rI_int rw3, slO_ok r3 ((rv.mv st2.mv).mv st3.mv) fi⟩
end
end Wk
end WkSnd2_text

section WkSnd3_text
set_option Elab.async false
set_option linter.all false
set_option maxRecDepth 100000
set_option maxHeartbeats 4000000
/-! WkSnd3: built-in functions, lists of .., the methods of lists. -/
namespace Wk
open PySem PySem.Spec PyProof.Rows L2 StX

theorem plain_any : ∀ {es : List Expr} {env : Env} {pos : Pos}, es.all noStar = true → (backTo pos (starEach es env)).any (·.1) = false
  | [], _, _, _ => rfl
  | e :: es, env, pos, h => by
    obtain ⟨h1, h2⟩ := Bool.and_eq_true_iff.mp (show (noStar e && es.all noStar) = true from h)
    have ih := plain_any (env := env) (pos := pos) h2
    cases e <;> first | exact absurd h1 Bool.false_ne_true | exact ih
theorem plain_all : ∀ {es : List Expr} {env : Env} {pos : Pos}, es.all noStar = true → (backTo pos (starEach es env)).all (fun x => !x.1) = true
  | [], _, _, _ => rfl
  | e :: es, env, pos, h => by
    obtain ⟨h1, h2⟩ := Bool.and_eq_true_iff.mp (show (noStar e && es.all noStar) = true from h)
    have ih := plain_all (env := env) (pos := pos) h2
    cases e <;> first | exact absurd h1 Bool.false_ne_true | exact ih
theorem plain_star {e : Expr} {es : List Expr} {env : Env} (h : noStar e = true) : starEach (e :: es) env = (false, eval e env) :: starEach es env := by
  cases e <;> first | rfl | exact absurd h Bool.false_ne_true

/-- a built-in by values -/
def rB (K : PySem.W.Frag) (g : Store → List D → Option D) : List V → Hp → VK → Prop := fun xs H Q => ∃ z f S ds, RepS K z f H S ∧ RepVs K z f H ds xs ∧ ∃ d, g S ds = some d ∧
  ∀ f' H' v, Step f H f' H' → (∀ σ ρ, Rep K z f H σ ρ S → Rep K z f' H' σ ρ S) → RepV K z f' H' d v → Q v H'

section
variable {X : Cx}
theorem rep1 {K : PySem.W.Frag} {z f : List Addr} {H : Hp} {d : D} {vs : List V} (h : RepVs K z f H [d] vs) : ∃ v, vs = [v] ∧ RepV K z f H d v := by
  obtain ⟨v, ws, e, h1, h2⟩ := h.uncons
  have := h2.length
  cases ws with
  | nil => exact ⟨v, e, h1⟩
  | cons _ _ => cases this
theorem rep2 {K : PySem.W.Frag} {z f : List Addr} {H : Hp} {d e : D} {vs : List V} (h : RepVs K z f H [d, e] vs) : ∃ v w, vs = [v, w] ∧ RepV K z f H d v ∧ RepV K z f H e w := by
  obtain ⟨v, ws, e, h1, h2⟩ := h.uncons
  obtain ⟨w, e2, h3⟩ := rep1 h2
  exact ⟨v, w, by rw [e, e2], h1, h3⟩
theorem cb_len : CallR X (.builtin "len") (rB X.K fun S => biO S .len) := by
  intro pins s σ H xs us Q I r ⟨z, f, S, ds, rep, rv, d, e, fin⟩
  obtain ⟨x, e1, e⟩ := Option.bind_eq_some_iff.mp e
  obtain ⟨ys, e2, e⟩ := Option.map_eq_some_iff.mp e
  rw [one_eq e1] at rv
  obtain ⟨v, rfl, rv1⟩ := rep1 rv
  replace rv := rv1
  obtain ⟨a, vs, rfl, hv, hr⟩ := getQO_rep rep rv e2
  rw [← e] at fin
  exact call_len_seq pins s σ H _ us Q I r ⟨a, vs, rfl, hv, fin f H _ rep.refl (fun _ _ r => r) (by rw [hr.length]; exact mI_int _)⟩
theorem cb_tuple : CallR X (.type "tuple") (rB X.K fun S => biO S .tuple) := by
  intro pins s σ H xs us Q I r ⟨z, f, S, ds, rep, rv, d, e, fin⟩
  obtain ⟨x, e1, e⟩ := Option.bind_eq_some_iff.mp e
  obtain ⟨ys, e2, e⟩ := Option.map_eq_some_iff.mp e
  rw [one_eq e1] at rv
  obtain ⟨v, rfl, rv1⟩ := rep1 rv
  replace rv := rv1
  rw [← e] at fin
  cases q : toTp x with
  | some ts =>
    have hx := toTp_eq q
    rw [hx] at rv e2
    have e3 : ts = ys := Option.some.inj e2
    obtain ⟨a, vs, rfl, hv, hr⟩ := rI_tup rv
    refine call_tuple_of pins s σ H _ us Q I r ⟨a, vs, rfl, .inr ⟨hv.1, fin f H _ rep.refl (fun _ _ r => r) ?_⟩⟩
    rw [← e3]
    exact rv
  | none =>
    have e4 : getL x S = some (.ok ys S) := by
      have := getQ_map (S := S) x
      rw [e2] at this
      cases x with
      | tup ts => cases q
      | _ => exact this
    obtain ⟨_, a, vs, rfl, hv, hr⟩ := rep_getL rep rv e4
    exact call_tuple_of pins s σ H _ us Q I r ⟨a, vs, rfl, .inl ⟨hv, fun l hl => fin f _ _ (Step.alloc rep hl _) (fun _ _ r => r.alloc hl _) (newT rep hr hl)⟩⟩
theorem cb_abs : CallR X (.builtin "abs") (rB X.K fun S => biO S .abs) := by
  intro pins s σ H xs us Q I r ⟨z, f, S, ds, rep, rv, d, e, fin⟩
  obtain ⟨x, e1, e⟩ := Option.bind_eq_some_iff.mp e
  obtain ⟨i, e2, e⟩ := Option.map_eq_some_iff.mp e
  rw [one_eq e1, toI_eq e2] at rv
  obtain ⟨v, rfl, rv1⟩ := rep1 rv
  replace rv := rv1
  rw [← e] at fin
  exact call_abs pins s σ H _ us Q I r ⟨i, by rw [rI_int rv], fin f H _ rep.refl (fun _ _ r => r) (mI_int _)⟩
theorem ints_rep {K : PySem.W.Frag} {z f : List Addr} {H : Hp} : ∀ {ds : List D} {vs : List V} {ns : List Int}, RepVs K z f H ds vs → intsOf ds = some ns → vs = ns.map V.int
  | [], vs, ns, h, e => by
    have := h.length
    cases vs with
    | nil => rw [← Option.some.inj e] <;> rfl
    | cons _ _ => cases this
  | .int i :: ds, vs, ns, h, e => by
    obtain ⟨v, ws, rfl, h1, h2⟩ := h.uncons
    obtain ⟨ms, e1, e2⟩ := Option.map_eq_some_iff.mp (show (intsOf ds).map (fun q => i :: q) = some ns from e)
    rw [← e2, rI_int h1, ints_rep h2 e1] <;> rfl
  | .non :: ds, vs, ns, h, e => by cases e
  | .bl _ :: ds, vs, ns, h, e => by cases e
  | .str _ :: ds, vs, ns, h, e => by cases e
  | .ty _ :: ds, vs, ns, h, e => by cases e
  | .cls _ :: ds, vs, ns, h, e => by cases e
  | .tup _ :: ds, vs, ns, h, e => by cases e
  | .lst _ :: ds, vs, ns, h, e => by cases e
  | .rol _ :: ds, vs, ns, h, e => by cases e
  | .obj _ _ _ :: ds, vs, ns, h, e => by cases e
  | .exc _ _ _ :: ds, vs, ns, h, e => by cases e
  | .ref _ :: ds, vs, ns, h, e => by cases e
theorem cb_sum (hc : X.calm = true) : CallR X (.builtin "sum") (rB X.K fun S => biO S .sum) := by
  intro pins s σ H xs us Q I r ⟨z, f, S, ds, rep, rv, d, e, fin⟩
  obtain ⟨x, e1, e⟩ := Option.bind_eq_some_iff.mp e
  obtain ⟨ys, e2, e⟩ := Option.bind_eq_some_iff.mp e
  obtain ⟨ns, e3, e⟩ := Option.map_eq_some_iff.mp e
  rw [one_eq e1] at rv
  obtain ⟨v, rfl, rv1⟩ := rep1 rv
  replace rv := rv1
  obtain ⟨a, vs, rfl, hv, hr⟩ := derD_lst rep rv e2
  rw [← e] at fin
  exact cr_sum hc pins s σ H _ us Q I r ⟨a, ns, rfl, by rw [← ints_rep hr e3]; exact hv, fin f H _ rep.refl (fun _ _ r => r) (mI_int _)⟩
theorem cb_max (hc : X.calm = true) : CallR X (.builtin "max") (rB X.K fun S => biO S .max) := by
  intro pins s σ H xs us Q I r ⟨z, f, S, ds, rep, rv, d, e, fin⟩
  obtain ⟨p, e1, e⟩ := Option.bind_eq_some_iff.mp e
  obtain ⟨i, e2, e⟩ := Option.bind_eq_some_iff.mp e
  obtain ⟨j, e3, e⟩ := Option.map_eq_some_iff.mp e
  rw [pair_eq e1, toI_eq e2, toI_eq e3] at rv
  obtain ⟨v, w, rfl, rv1, rw'⟩ := rep2 rv
  replace rv := rv1
  rw [← e] at fin
  exact call_max2 hc pins s σ H _ us Q I r ⟨i, j, by rw [rI_int rv, rI_int rw'], fin f H _ rep.refl (fun _ _ r => r) (mI_int _)⟩
theorem cb_min (hc : X.calm = true) : CallR X (.builtin "min") (rB X.K fun S => biO S .min) := by
  intro pins s σ H xs us Q I r ⟨z, f, S, ds, rep, rv, d, e, fin⟩
  obtain ⟨p, e1, e⟩ := Option.bind_eq_some_iff.mp e
  obtain ⟨i, e2, e⟩ := Option.bind_eq_some_iff.mp e
  obtain ⟨j, e3, e⟩ := Option.map_eq_some_iff.mp e
  rw [pair_eq e1, toI_eq e2, toI_eq e3] at rv
  obtain ⟨v, w, rfl, rv1, rw'⟩ := rep2 rv
  replace rv := rv1
  rw [← e] at fin
  exact call_min2 hc pins s σ H _ us Q I r ⟨i, j, by rw [rI_int rv, rI_int rw'], fin f H _ rep.refl (fun _ _ r => r) (mI_int _)⟩
theorem cb_int : CallR X (.type "int") (rB X.K fun S => biO S .int) := by
  intro pins s σ H xs us Q I r ⟨z, f, S, ds, rep, rv, d, e, fin⟩
  obtain ⟨x, e1, e⟩ := Option.bind_eq_some_iff.mp e
  rw [one_eq e1] at rv
  obtain ⟨v, rfl, rv1⟩ := rep1 rv
  replace rv := rv1
  rcases orE e with e | e
  · obtain ⟨i, e2, e⟩ := Option.map_eq_some_iff.mp e
    rw [toI_eq e2] at rv
    rw [← e] at fin
    exact call_int1 pins s σ H _ us Q I r (.inl ⟨i, by rw [rI_int rv], fin f H _ rep.refl (fun _ _ r => r) (mI_int _)⟩)
  · obtain ⟨i, e2, e⟩ := Option.map_eq_some_iff.mp e
    rw [toB_eq e2] at rv
    rw [← e] at fin
    exact call_int1 pins s σ H _ us Q I r (.inr ⟨i, by rw [rI_bl rv], fin f H _ rep.refl (fun _ _ r => r) (mI_int _)⟩)
theorem tyX_tup {K : PySem.W.Frag} {H : Hp} {a : Addr} {vs : List V} (h : SqT K H a vs) : TyX K H (.ref a) (.type "tuple") := by
  rcases h with h | ⟨o, its, n, h1, h2, _⟩
  · rcases h with h | ⟨o, h⟩
    · exact .base (.tup h)
    · exact .fTuple h
  · exact .kTuple h1 h2
theorem tyD_ok {K : PySem.W.Frag} {z f : List Addr} {H : Hp} {d : D} {v : V} {m : String} (h : RepV K z f H d v) (e : tyD d = some m) : TyX K H v (.type m) ∧ m ∈ ["int", "bool", "tuple", "NoneType"] := by
  cases d with
  | int i => rw [rI_int h, ← Option.some.inj e]; exact ⟨.base (.int _), by simp⟩
  | bl i => rw [rI_bl h, ← Option.some.inj e]; exact ⟨.base (.bl _), by simp⟩
  | non => rw [rI_non h, ← Option.some.inj e]; exact ⟨.base .non, by simp⟩
  | tup ds =>
    obtain ⟨a, vs, rfl, hv, hr⟩ := rI_tup h
    rw [← Option.some.inj e]
    exact ⟨tyX_tup hv.1, by simp⟩
  | _ => cases e
theorem cb_isi (kit : ∀ m n b, isT2 m n = some b → m ∈ ["int", "bool", "tuple", "NoneType"] → PySem.W.kitOne X.K (.type m) (.type n) = some b) : CallR X (.builtin "isinstance") (rB X.K fun S => biO S .isinstance) := by
  intro pins s σ H xs us Q I r ⟨z, f, S, ds, rep, rv, d, e, fin⟩
  obtain ⟨p, e1, e⟩ := Option.bind_eq_some_iff.mp e
  obtain ⟨n, e2, e⟩ := Option.bind_eq_some_iff.mp e
  obtain ⟨m, e3, e⟩ := Option.bind_eq_some_iff.mp e
  obtain ⟨b, e4, e⟩ := Option.map_eq_some_iff.mp e
  rw [pair_eq e1, toTy_eq e2] at rv
  obtain ⟨v, w, rfl, rv1, rw'⟩ := rep2 rv
  replace rv := rv1
  rw [← e] at fin
  obtain ⟨t1, t2⟩ := tyD_ok rv e3
  exact call_isi pins s σ H _ us Q I r ⟨v, .ty n, .type m, .type n, b, by rw [rI_ty rw'], .ty n, t1, kit m n b e4 t2, fin f H _ rep.refl (fun _ _ r => r) (mI_bl _)⟩
end

section
variable {o : Ora} {n : Nat} {s : Sc} {X : Cx} {W : WX}
theorem evA_ne {K : PySem.W.Frag} {z f : List Addr} {H : Hp} {es : List Expr} : True := trivial
theorem so_bi (x : XOk o n s X) {b : BI} {xs : A} {es : List Expr} {p pos : Pos} (hg : glB s (biName b) = true) (hp : es.all noStar = true) (h : PA X es (tA X.K W (evA o xs))) (hne : es = [] → ∀ ρ S, evE o (.bi b xs) ρ S = none) :
    PE X (.Call (.Name (biName b) p) es [] pos) (tE X.K W (evE o (.bi b xs))) := by
  cases es with
  | nil => exact pe_fail (hne rfl)
  | cons e es =>
    obtain ⟨h1, h2⟩ := Bool.and_eq_true_iff.mp (show (noStar e && es.all noStar) = true from hp)
    have key : ∀ {r : List V → Hp → VK → Prop}, PE X (.Call (.Name (biName b) p) (e :: es) [] pos) (tCB (rB X.K fun S => biO S b) (tA X.K W (evA o xs))) → PE X (.Call (.Name (biName b) p) (e :: es) [] pos) (tE X.K W (evE o (.bi b xs))) := fun {_} q =>
      PEimp q fun σ H Q ⟨z, f, ρ, S, rep, fin⟩ => seqA rep fin fun f1 H1 S1 d v st1 r1 rv fi1 => by
        obtain ⟨c, ec, fi⟩ := Fin.mapE (o := biO S1 b d) fi1
        exact ⟨z, f1, S1, d, r1.s, rv, c, ec, fun f' H' v st hr rv => fi f' H' v st (hr _ _ r1) rv⟩
    have hgl := glB_ok x hg
    have hm := x.facts.free b
    refine key (r := rB X.K fun S => biO S b) ?_
    cases b with
    | len => exact pe_callB cb_len hgl hm (by rfl) h (by decide) (by decide) (plain_star h1) (plain_any h2)
    | tuple => exact pe_callTy cb_tuple hgl hm (by rfl) h (by decide) (by decide) (plain_star h1) (plain_any h2)
    | abs => exact pe_callB cb_abs hgl hm (by rfl) h (by decide) (by decide) (plain_star h1) (plain_any h2)
    | sum => exact pe_callB (cb_sum x.calm) hgl hm (by rfl) h (by decide) (by decide) (plain_star h1) (plain_any h2)
    | max => exact pe_callB (cb_max x.calm) hgl hm (by rfl) h (by decide) (by decide) (plain_star h1) (plain_any h2)
    | min => exact pe_callB (cb_min x.calm) hgl hm (by rfl) h (by decide) (by decide) (plain_star h1) (plain_any h2)
    | int => exact pe_callTy cb_int hgl hm (by rfl) h (by decide) (by decide) (plain_star h1) (plain_any h2)
    | isinstance => exact pe_callB (cb_isi x.facts.kit) hgl hm (by rfl) h (by decide) (by decide) (plain_star h1) (plain_any h2)
theorem so_listOf (x : XOk o n s X) {fz : Bool} {a : E} {ea : Expr} {p pos : Pos} (hg : glB s "list" = true) (hx : isE s a ea = true) (h : PE X ea (tE X.K W (evE o a))) : PE X (.Call (.Name "list" p) [ea] [] pos) (tE X.K W (evE o (.listOf fz a))) := by
  refine PEimp (pe_callTy call_list_of (glB_ok x hg) x.facts.freeL (by rfl) (pa_cons h pa_nil (star_ok hx)) (by decide) (by decide) (star_ok hx) (by rfl)) fun σ H Q ⟨z, f, ρ, S, rep, fin⟩ => ?_
  refine seqE rep fin fun f1 H1 S1 d v st1 r1 rv fi1 => ?_
  obtain ⟨ds, e, fi⟩ := Fin.mapB (getQ_map (S := S1) d) fi1
  obtain ⟨a, vs, rfl, hv, hr⟩ := getQO_rep r1.s rv e
  exact ⟨a, vs, rfl, hv, (mkL_ok r1 hr fi).2⟩
theorem RepVs.rep {K : PySem.W.Frag} {z f : List Addr} {H : Hp} {ds : List D} {vs : List V} (r : RepVs K z f H ds vs) : ∀ k : Nat, RepVs K z f H (List.replicate k ds).flatten (List.replicate k vs).flatten
  | 0 => RepVs.nil_iff
  | k + 1 => by
    rw [List.replicate_succ, List.replicate_succ, List.flatten_cons, List.flatten_cons]
    exact r.append (RepVs.rep r k)
theorem so_rep {fz : Bool} {a b : E} {ea eb : Expr} {pos : Pos} (ha : PE X ea (tE X.K W (evE o a))) (hb : PE X eb (tE X.K W (evE o b))) : PE X (.BinOp ea .Mult eb pos) (tE X.K W (evE o (.rep fz a b))) :=
  PEimp (pe_op op_rep ha hb) fun σ H Q ⟨z, f, ρ, S, rep, fin⟩ => seqE rep fin fun f1 H1 S1 d v st1 r1 rv fi1 => seqE r1 fi1 fun f2 H2 S2 e w st2 r2 rw' fi2 => by
    obtain ⟨ds, e1, fi⟩ := Fin.opt fi2
    obtain ⟨k, e2, fi⟩ := Fin.opt fi
    rw [toLs_eq e1] at rv
    rw [toI_eq e2] at rw'
    obtain ⟨a, vs, rfl, hv, hr⟩ := rI_lst (rv.mv st2.mv)
    by_cases hk : 0 ≤ k ∧ k ≤ 1000
    · rw [if_pos hk] at fi
      obtain ⟨h1, h2⟩ := mkL_ok r2 (hr.rep k.toNat) fi
      have e4 : (List.replicate k.toNat vs).flatten.length = vs.length * k.toNat := by
        rw [List.length_flatten, List.map_replicate, List.sum_replicate_nat] <;> exact Nat.mul_comm _ _
      exact ⟨a, k, vs, rfl, rI_int rw', hv.1, by omega, by omega, by rw [← e4]; exact h1, h2⟩
    · rw [if_neg hk] at fi
      exact fi.elim
/-! the methods of lists -/
theorem atS_rep {K : PySem.W.Frag} {z f : List Addr} {H : Hp} {S : Store} {l : Nat} {v : V} {ds : List D} (r : RepS K z f H S) (h : RepV K z f H (.ref l) v) (e : atS S l = some ds) : ∃ a vs, v = .ref a ∧ f[l]? = some a ∧ H a = some (.lst vs) ∧ RepVs K z f H ds vs := by
  obtain ⟨a, rfl, hf⟩ := rI_ref h
  unfold atS at e
  cases q : S[l]? with
  | none => rw [q] at e; cases e
  | some o =>
    rw [q] at e
    cases o with
    | ins _ _ _ => cases e
    | lst xs =>
      have e1 : xs = ds := Option.some.inj e
      obtain ⟨vs, h1, h2⟩ := r.obj l a _ hf q
      exact ⟨a, vs, rfl, hf, h1, by rw [← e1]; exact h2⟩
theorem RepVs.erase {K : PySem.W.Frag} {z f : List Addr} {H : Hp} : ∀ {ds : List D} {vs : List V} (i : Nat), RepVs K z f H ds vs → RepVs K z f H (ds.eraseIdx i) (vs.eraseIdx i)
  | [], vs, i, h => by
    have := h.length
    cases vs with
    | nil => exact h
    | cons _ _ => cases this
  | d :: ds, vs, i, h => by
    obtain ⟨v, ws, rfl, h1, h2⟩ := h.uncons
    cases i with
    | zero => exact h2
    | succ i => exact RepVs.cons h1 (RepVs.erase i h2)
theorem RepVs.dropLast {K : PySem.W.Frag} {z f : List Addr} {H : Hp} {ds : List D} {vs : List V} (r : RepVs K z f H ds vs) : RepVs K z f H ds.dropLast vs.dropLast := by
  rw [List.dropLast_eq_take, List.dropLast_eq_take, ← r.length]
  exact r.take _
/-- what the store's list at l becomes -/
theorem put_ok {z f : List Addr} {H : Hp} {σ : L2.St} {ρ : Env'} {S : Store} {l : Nat} {a : Addr} {d : D} {v : V} {es : List D} {ws : List V} {Q : VK} (r : Rep X.K z f H σ ρ S) (hf : f[l]? = some a) (rv : RepV X.K z f H d v) (rw' : RepVs X.K z f H es ws)
    (fi : Fin (rV X.K z) X.K z W f σ ρ H (some (.ok d (S.set l (.lst es)))) Q) : Q v (upd H a (.lst ws)) :=
  have st := Step.put r.s hf (HO.lst ws)
  fi f _ _ st (r.put hf ⟨ws, upd_same, rw'.mv st.mv⟩) (rv.mv st.mv)
def lmId : LM → String
  | .append => "list.append" | .pop => "list.pop" | .popAt => "list.pop"
def rLM (K : PySem.W.Frag) (m : LM) : V → List V → Hp → VK → Prop := fun x xs H Q => ∃ a vs, x = .ref a ∧ H a = some (.lst vs) ∧ (match m with
  | .append => ∃ y, xs = [y] ∧ vs.length < sizeLine ∧ Q .non (upd H a (.lst (vs ++ [y])))
  | .pop => xs = [] ∧ ∃ y, vs[vs.length - 1]? = some y ∧ Q y (upd H a (.lst vs.dropLast))
  | .popAt => ∃ i y, xs = [.int i] ∧ (0 ≤ i ∧ i < vs.length) ∧ vs[i.toNat]? = some y ∧ Q y (upd H a (.lst (vs.eraseIdx i.toNat))))
theorem mt_lm (m : LM) : MtR X (lmId m) (rLM X.K m) := by
  intro pins s σ H x xs v us Q I rx rs h
  obtain ⟨a, vs, rfl, ha, h⟩ := h
  cases m with
  | append =>
    obtain ⟨y, rfl, hl, q⟩ := h
    exact mt_append pins s σ H _ _ v us Q I rx rs ⟨a, vs, y, rfl, rfl, ha, hl, q⟩
  | pop =>
    obtain ⟨rfl, y, hl, q⟩ := h
    exact mt_pop pins s σ H _ _ v us Q I rx rs ⟨a, vs, y, rfl, rfl, ha, hl, q⟩
  | popAt =>
    obtain ⟨i, y, rfl, hi, hl, q⟩ := h
    have hz := (I.lstM ha).1
    have hn := line63
    exact mt_popAt pins s σ H _ _ v us Q I rx rs ⟨a, vs, i, i.toNat, y, rfl, rfl, ha, by omega, by omega, seqIndex_of hi.1 hi.2, hl, q⟩
theorem lm_fin {z f : List Addr} {H : Hp} {σ : L2.St} {ρ : Env'} {S : Store} {m : LM} {d : D} {v : V} {es : List D} {ws : List V} {Q : VK} (r : Rep X.K z f H σ ρ S) (rv : RepV X.K z f H d v) (rw' : RepVs X.K z f H es ws)
    (fi : Fin (rV X.K z) X.K z W f σ ρ H (lmD m d es S) Q) : ∃ a vs, v = .ref a ∧ H a = some (.lst vs) ∧ rLM X.K m v ws H Q := by
  unfold lmD at fi
  cases e1 : toR d with
  | none => rw [e1] at fi; exact fi.elim
  | some l =>
    rw [e1] at fi
    rw [toR_eq e1] at rv
    cases e2 : atS S l with
    | none => simp only [Option.bind_some, e2, Option.bind_none] at fi; exact fi.elim
    | some ds =>
      obtain ⟨a, vs, rfl, hf, ha, hr⟩ := atS_rep r.s rv e2
      simp only [Option.bind_some, e2] at fi
      refine ⟨a, vs, rfl, ha, a, vs, rfl, ha, ?_⟩
      cases m with
      | append =>
        cases e3 : lmO S l ds .append es with
        | none => rw [e3] at fi; exact fi.elim
        | some p =>
          rw [e3] at fi
          obtain ⟨y, e4, e3⟩ := Option.bind_eq_some_iff.mp e3
          obtain ⟨hl, e5⟩ := ifs e3
          rw [one_eq e4] at rw'
          obtain ⟨w, rfl, rw1⟩ := rep1 rw'
          replace rw' := rw1
          rw [← e5] at fi
          exact ⟨w, rfl, by rw [← hr.length]; exact lt_line hl, put_ok r hf mI_non (hr.append (RepVs.cons rw' RepVs.nil_iff)) fi⟩
      | pop =>
        cases e3 : lmO S l ds .pop es with
        | none => rw [e3] at fi; exact fi.elim
        | some p =>
          rw [e3] at fi
          have e3 : (if es.isEmpty = true then (ds[ds.length - 1]?).map (fun y => (y, ds.dropLast)) else none) = some p := e3
          cases es with
          | cons _ _ => cases e3
          | nil =>
            obtain ⟨y, e4, e5⟩ := Option.map_eq_some_iff.mp (show (ds[ds.length - 1]?).map (fun y => (y, ds.dropLast)) = some p from e3)
            rw [← e5] at fi
            have hw : ws = [] := List.eq_nil_of_length_eq_zero rw'.length.symm
            obtain ⟨w, e6, r6⟩ := hr.get e4
            rw [hr.length] at e6
            exact ⟨hw, w, e6, put_ok r hf r6 hr.dropLast fi⟩
      | popAt =>
        cases e3 : lmO S l ds .popAt es with
        | none => rw [e3] at fi; exact fi.elim
        | some p =>
          rw [e3] at fi
          obtain ⟨y, e4, e3⟩ := Option.bind_eq_some_iff.mp e3
          obtain ⟨i, e5, e3⟩ := Option.bind_eq_some_iff.mp e3
          by_cases hi : 0 ≤ i ∧ i < ds.length
          · rw [if_pos hi] at e3
            obtain ⟨q, e6, e7⟩ := Option.map_eq_some_iff.mp e3
            rw [one_eq e4, toI_eq e5] at rw'
            obtain ⟨w, rfl, rw1⟩ := rep1 rw'
            rw [← e7] at fi
            obtain ⟨w2, e8, r8⟩ := hr.get e6
            exact ⟨i, w2, by rw [rI_int rw1], by rw [← hr.length]; exact hi, e8, put_ok r hf r8 (hr.erase _) fi⟩
          · rw [if_neg hi] at e3
            cases e3
end
end Wk
end WkSnd3_text

section WkIter_text
set_option Elab.async false
set_option linter.all false
set_option maxRecDepth 100000
set_option maxHeartbeats 4000000
/-! WkIter: what a loop walks: lists, tuples, ranges, zip of both kinds, enumerate. -/
namespace Wk
open PySem PySem.Spec PyProof.Rows L2 StX

/-- a tuple (false) or a list (true) -/
def SqK (k : Bool) (K : PySem.W.Frag) (H : Hp) (a : Addr) (xs : List V) : Prop := match k with
  | true => SqL K H a xs
  | false => SqT K H a xs
def ItK (k : Bool) (h : Heap) (it a : Addr) (i : Nat) : Prop := match k with
  | true => h.IsListIter it a i
  | false => h.IsTupleIter it a i
def IsK (k : Bool) (h : Heap) (a : Addr) (its : Array Value) : Prop := match k with
  | true => h.IsList a its
  | false => h.IsTuple a its
theorem ItK.at {k : Bool} {h h' : Heap} {it a : Addr} {i : Nat} (x : ItK k h it a i) (e : ∀ o, h.get? it = some o → h'.get? it = some o) : ItK k h' it a i := by
  cases k with
  | true => exact Heap.IsListIter.at x e
  | false => exact Heap.IsTupleIter.at x e
theorem ItK.obj {k : Bool} {h : Heap} {it a : Addr} {i : Nat} (x : ItK k h it a i) : ∃ o, h.get? it = some o ∧ ∀ v, o.data ≠ .cell v := by
  cases k with
  | true => exact let ⟨o, e, c, d⟩ := x; ⟨o, e, fun v q => by rw [d] at q; cases q⟩
  | false => exact let ⟨o, e, c, d⟩ := x; ⟨o, e, fun v q => by rw [d] at q; cases q⟩
section
variable {X : Cx} {pins : List (Addr × Obj)} {σ : L2.St} {H : Hp} {s : Shared} {k : Bool} {a : Addr} {xs ys : List V}
theorem sqK_inj (I : Inv X pins σ H s) (h : SqK k X.K H a xs) (h' : SqK k X.K H a ys) : xs = ys := by
  cases k with
  | true => exact I.list_inj h h'
  | false => exact I.tuple_inj h h'
theorem sqK_at (I : Inv X pins σ H s) (h : SqK k X.K H a xs) : ∃ its : List Value, Vals xs its ∧ IsK k s.heap a its.toArray ∧ xs.length ≤ sizeLine := by
  cases k with
  | true => exact let ⟨its, r, p, z⟩ := I.list h; ⟨its, r, p.isList, z⟩
  | false => exact let ⟨its, r, p, z⟩ := I.tuple h; ⟨its, r, p, z⟩
theorem isK_lt {h : Heap} {its : Array Value} (x : IsK k h a its) : a < h.objs.size := by
  cases k with
  | true => exact let ⟨o, e, _⟩ := x; Heap.lt_size e
  | false => exact let ⟨o, e, _⟩ := x; Heap.lt_size e
end
theorem drawsK {prog : Program} {w : World} {A : Around} (k : Bool) (hh : A.handled = none) (it l : Addr) (hne : l ≠ it) (items : Array Value) :
    PySem.Draws prog w A it [it, l] items.size (fun i v => items[i]? = some v) (fun i h => ItK k h it l i ∧ IsK k h l items) := by
  cases k with
  | true => exact Draws.list hh it l hne items
  | false => exact Draws.tuple hh it l hne items
theorem beginsK (k : Bool) (l : Addr) (items : Array Value) : ∃ o, Begins (.ref l) o (fun h => IsK k h l items) ∧ ∀ h it, h.get? it = some o → ItK k h it l 0 := by
  cases k with
  | true => exact ⟨_, begins_list l items, fun h it e => ⟨_, e, rfl, rfl⟩⟩
  | false => exact ⟨_, begins_tuple l items, fun h it e => ⟨_, e, rfl, rfl⟩⟩

/-- zip of two sequences of any kinds -/
def ItzK (k k' : Bool) (K : PySem.W.Frag) (a b : Addr) : It :=
  ⟨fun i H => ∃ (xs ys : List V) (x y : V), SqK k K H a xs ∧ SqK k' K H b ys ∧ xs[i]? = some x ∧ ys[i]? = some y,
    fun i H v H' => ∃ T x y, v = .ref T ∧ H T = none ∧ H' = upd H T (.tup [x, y]) ∧ (∀ xs, SqK k K H a xs → xs[i]? = some x) ∧ ∀ ys, SqK k' K H b ys → ys[i]? = some y,
    fun i H => ∃ xs ys : List V, SqK k K H a xs ∧ SqK k' K H b ys ∧ i ≤ xs.length ∧ i ≤ ys.length ∧ (xs.length = i ∨ ys.length = i)⟩
theorem turn_zipK {P : Program} {w : World} {K : PySem.W.Frag} {elts : List Expr} {kk : Nat} {tpos : Pos} {k k' : Bool} {a b z TI TO i1 i2 : Addr} (D : ZipSep2 z TI TO i1 i2 [i1, a] [i2, b]) (n1 : a ≠ i1) (n2 : b ≠ i2) :
    Turn P w K (.Tuple elts kk tpos) (ItzK k k' K a b) [z, TI, TO, i1, i2] z (fun i h => IsZip h z TI TO .none ∧ IsTupOf2 h TI (.ref i1) (.ref i2) ∧ (∃ x y, IsTupOf2 h TO x y) ∧ ItK k h i1 a i ∧ ItK k' h i2 b i) where
  mem := by simp
  obj := fun i h st c hc => by
    obtain ⟨hz, hTI, ⟨x, y, hTO⟩, h1, h2⟩ := st
    have e' : c = z ∨ c = TI ∨ c = TO ∨ c = i1 ∨ c = i2 := by simpa using hc
    rcases e' with q | q | q | q | q
    · rw [q]; exact ⟨_, hz, fun v q => nomatch q⟩
    · rw [q]; exact ⟨_, hTI, fun v q => nomatch q⟩
    · rw [q]; exact ⟨_, hTO, fun v q => nomatch q⟩
    · rw [q]; exact h1.obj
    · rw [q]; exact h2.obj
  keep := fun i h h' st kp => by
    obtain ⟨hz, hTI, ⟨x, y, hTO⟩, h1, h2⟩ := st
    exact ⟨kp z (by simp) _ hz, kp TI (by simp) _ hTI, ⟨x, y, kp TO (by simp) _ hTO⟩, h1.at fun o q => kp i1 (by simp) o q, h2.at fun o q => kp i2 (by simp) o q⟩
  item := by
    intro X hP hw hK hc i pins s σ H E I hf st hg
    subst hP hw hK
    obtain ⟨hz, hTI, ⟨x0, y0, hTO⟩, h1, h2⟩ := st
    obtain ⟨xs, ys, x, y, hqx, hqy, hx, hy⟩ := hg
    obtain ⟨its, rv, p, _⟩ := sqK_at I hqx
    obtain ⟨its2, rv2, p2, _⟩ := sqK_at I hqy
    obtain ⟨u, hu, ru⟩ := rv.get hx
    obtain ⟨u2, hu2, ru2⟩ := rv2.get hy
    have hzl : z < s.heap.objs.size := Heap.lt_size hz
    have l1 : i < its.toArray.size := by rw [List.size_toArray]; exact (List.getElem?_eq_some_iff.mp hu).1
    have l2 : i < its2.toArray.size := by rw [List.size_toArray]; exact (List.getElem?_eq_some_iff.mp hu2).1
    have hhd : X.A.in1.handled = none := I.ok.hd hc
    refine wpAny_pyNext_zipD2_item D (drawsK k hhd i1 a n1 its.toArray) (drawsK k' hhd i2 b n2 its2.toArray) hz hTI hTO ⟨h1, p⟩ ⟨h2, p2⟩ l1 l2 fun x1 x2 h' tk y1 y2 z' TO' h1' h2' hT hsz hk => ?_
    have e1 : x1 = u := by
      have y1 : its.toArray[i]? = some x1 := y1
      have : its[i]? = some x1 := by simpa using y1
      rw [hu] at this
      exact (Option.some.inj this).symm
    have e2 : x2 = u2 := by
      have y2 : its2.toArray[i]? = some x2 := y2
      have : its2[i]? = some x2 := by simpa using y2
      rw [hu2] at this
      exact (Option.some.inj this).symm
    rw [e1, e2] at hT TO'
    refine ⟨_, rfl, wpAny_letOwnedTupleGo_zip (s := { s with heap := h', toks := tk }) z' fun h'' z'' sb => ?_⟩
    have hT2 : h''.get? s.heap.objs.size = some { cls := .type "tuple", data := .seq #[u, u2] } := (sb.2 _ (Nat.ne_of_gt hzl)).trans hT
    have new : ObjOk X.prog X.w (upd H s.heap.objs.size (.tup [x, y])) h'' s.heap.objs.size (.tup [x, y]) :=
      ⟨by show 2 ≤ sizeLine; decide, [u, u2], .cons ru (.cons ru2 .nil), ⟨_, hT2, rfl, _, rfl⟩⟩
    have I1 : Inv X pins σ (upd H s.heap.objs.size (.tup [x, y])) { s with heap := h'', toks := tk } :=
      I.turnedNew (t' := tk) (ch := [z, TI, TO, i1, i2]) (fun c o hb q => (sb.2 c (fun q' => hb (by simp [q']))).trans (hk c o (fun q' => hb (by simp [q'])) (fun q' => hb (by simp [q'])) (fun q' => hb (by simp [q'])) (fun q' => hb (by simp [q'])) q)) hf (Nat.le_refl _) new
    refine ⟨.ref s.heap.objs.size, _, I1, rfl, ⟨_, x, y, rfl, I.hok.fresh (Nat.le_refl _), rfl, fun l hl => by rw [sqK_inj I hl hqx]; exact hx, fun l hl => by rw [sqK_inj I hl hqy]; exact hy⟩, ⟨z'', ?_, ⟨u, u2, ?_⟩, ?_, ?_⟩, fun c hcm => ?_⟩
    · exact (sb.2 _ D.TIz).trans (hk _ _ D.TIz D.TITO D.TIi1 D.TIi2 hTI)
    · exact (sb.2 _ D.TOz).trans TO'
    · exact h1'.1.at fun o q => (sb.2 _ D.zi1.symm).trans q
    · exact h2'.1.at fun o q => (sb.2 _ D.zi2.symm).trans q
    · have hlt : c < s.heap.objs.size := by
        have e' : c = z ∨ c = TI ∨ c = TO ∨ c = i1 ∨ c = i2 := by simpa using hcm
        rcases e' with q | q | q | q | q
        · rw [q]; exact hzl
        · rw [q]; exact Heap.lt_size hTI
        · rw [q]; exact Heap.lt_size hTO
        · rw [q]; obtain ⟨_, e1, _⟩ := h1.obj; exact Heap.lt_size e1
        · rw [q]; obtain ⟨_, e2, _⟩ := h2.obj; exact Heap.lt_size e2
      rw [upd_ne (Nat.ne_of_lt hlt)]
      exact (hf c hcm).1
  done := by
    intro X hP hw hK hc i pins s σ H E I hf st hg
    subst hP hw hK
    obtain ⟨hz, hTI, ⟨x0, y0, hTO⟩, h1, h2⟩ := st
    obtain ⟨xs, ys, hqx, hqy, hl1, hl2, hend⟩ := hg
    obtain ⟨its, rv, p, _⟩ := sqK_at I hqx
    obtain ⟨its2, rv2, p2, _⟩ := sqK_at I hqy
    have l1 := rv.length
    have l2 := rv2.length
    have hhd : X.A.in1.handled = none := I.ok.hd hc
    refine wpAny_pyNext_zipD2_end D (drawsK k hhd i1 a n1 its.toArray) (drawsK k' hhd i2 b n2 its2.toArray) hz hTI hTO ⟨h1, p⟩ ⟨h2, p2⟩ (by simp; omega) (by simp; omega) (by simp; omega) fun h' tk hk => ⟨rfl, I.turnedL (t' := tk) (ch := [z, TI, TO, i1, i2]) (fun c o hb q =>
      hk c o (fun q' => hb (by simp [q'])) (fun q' => hb (by simp [q'])) (fun q' => hb (by simp [q'])) (fun q' => hb (by simp [q'])) q) hf⟩
  self := fun A i s Q E st h => wpAny_pyIter_zip st.1 h
def iZipK (K : PySem.W.Frag) (ta : TA) : TI := fun σ H R => ta σ H fun vs H1 => ∃ k k' a b xs ys, vs = [.ref a, .ref b] ∧ SqK k K H1 a xs ∧ SqK k' K H1 b ys ∧ R (ItzK k k' K a b) H1
theorem pi_zipK {X : Cx} {e e2 : Expr} {ta : TA} {p pos tpos : Pos} {elts : List Expr} {kk : Nat} (hg : Gl X "zip") (hm : X.mg "zip" = none) (ha : PA X [e, e2] ta)
    (hs : starEach [e, e2] X.env = (false, eval e X.env) :: starEach [e2] X.env) (hpl : (backTo pos (starEach [e2] X.env)).any (·.1) = false) :
    PI X (.Tuple elts kk tpos) (.Call (.Name "zip" p) [e, e2] [] pos) (iZipK X.K ta) := by
  refine ⟨fun pins s σ H R I h => ?_⟩
  refine Call_ (ld_blt I hg hm PyProof.Rows.boot_zip (PyProof.Rows.callWith_type1 (thn (ha.run pos pins s σ H _ I h) fun us s1 ⟨vs, H1, I1, r1, q1⟩ => ?_) hs hpl))
  obtain ⟨k, k', a, b, xs, ys, ex, hqx, hqy, q⟩ := q1
  subst ex
  cases r1 with
  | cons r rr =>
    cases rr with
    | cons r' rr =>
      cases rr
      cases r
      cases r'
      have fresh5 : ∀ c, c ∈ [s1.heap.objs.size + 4, s1.heap.objs.size + 2, s1.heap.objs.size + 3, s1.heap.objs.size, s1.heap.objs.size + 1] → FpOk X pins H1 c := fun c hcm => by
        have e' : c = s1.heap.objs.size + 4 ∨ c = s1.heap.objs.size + 2 ∨ c = s1.heap.objs.size + 3 ∨ c = s1.heap.objs.size ∨ c = s1.heap.objs.size + 1 := by simpa using hcm
        have hle : s1.heap.objs.size ≤ c := by omega
        exact I1.fpOk hle (I1.hok.fresh hle)
      obtain ⟨its, rv, p1, _⟩ := sqK_at I1 hqx
      obtain ⟨its2, rv2, p2, _⟩ := sqK_at I1 hqy
      have la := isK_lt p1
      have lb := isK_lt p2
      obtain ⟨o1, B1, b1⟩ := beginsK k a its.toArray
      obtain ⟨o2, B2, b2⟩ := beginsK k' b its2.toArray
      refine zip_begins2 B1 B2 p1 p2 fun h' hz hTI hTO h1 h2 hsz hk => wpAny_pyIter_zip hz ?_
      have I2 : Inv X pins σ H1 { s1 with heap := h' } := I1.kept (t' := s1.toks) hk
      exact ⟨s1.heap.objs.size + 4, [s1.heap.objs.size + 4, s1.heap.objs.size + 2, s1.heap.objs.size + 3, s1.heap.objs.size, s1.heap.objs.size + 1], _, _, H1, rfl, I2,
        turn_zipK (zip_sep2 (N := s1.heap.objs.size) (fp1 := [a]) (fp2 := [b]) (by simpa using la) (by simpa using lb)) (Nat.ne_of_lt la) (Nat.ne_of_lt (Nat.lt_succ_of_lt lb)), ⟨hz, hTI, ⟨_, _, hTO⟩, b1 _ _ h1, b2 _ _ h2⟩, fresh5, q⟩
end Wk
end WkIter_text

section WkWalk_text
set_option Elab.async false
set_option linter.all false
set_option maxRecDepth 100000
set_option maxHeartbeats 4000000
/-! WkWalk: walks over data, targets, for, while, comprehensions. -/
namespace Wk
open PySem PySem.Spec PyProof.Rows L2 StX

/-- the most that data needs to stay -/
structure Mg (z f : List Addr) (H : Hp) (z' f' : List Addr) (H' : Hp) : Prop where
  get : ∀ (l : Nat) a, f[l]? = some a → f'[l]? = some a
  keep : ∀ a o, H a = some o → a ∉ z → a ∉ f → H' a = some o ∧ a ∉ z' ∧ a ∉ f'
  sub : ∀ a, a ∈ z' ∨ a ∈ f' → H a ≠ none → a ∈ z ∨ a ∈ f
theorem Mv.mg {z f z' f' : List Addr} {H H' : Hp} (s : Mv z f H z' f' H') : Mg z f H z' f' H' :=
  ⟨fun _ _ e => s.get e, fun a o e n1 n2 => ⟨s.keep a o e n1 n2, s.outZ e n1, s.outF e n2⟩, fun a h n => by
    by_cases m1 : a ∈ z
    · exact .inl m1
    · by_cases m2 : a ∈ f
      · exact .inr m2
      · rcases h with h | h
        · exact absurd (s.zz a h m1) n
        · exact absurd (s.new h m2) n⟩
theorem Mg.trans {z f z' f' z2 f2 : List Addr} {H H' H2 : Hp} (s : Mg z f H z' f' H') (t : Mg z' f' H' z2 f2 H2) (h0 : ∀ a, H a ≠ none → H' a ≠ none) : Mg z f H z2 f2 H2 :=
  ⟨fun l a e => t.get l a (s.get l a e), fun a o e n1 n2 => by
    obtain ⟨h1, h2, h3⟩ := s.keep a o e n1 n2
    exact t.keep a o h1 h2 h3, fun a h n => s.sub a (t.sub a h (h0 a n)) n⟩
theorem Mg.refl {z f : List Addr} {H : Hp} : Mg z f H z f H := ⟨fun _ _ e => e, fun _ _ e n1 n2 => ⟨e, n1, n2⟩, fun _ h _ => h⟩
section
variable {z f z' f' : List Addr} {H H' : Hp} {K : PySem.W.Frag}
theorem sqT_mg (s : Mg z f H z' f' H') {a : Addr} {vs : List V} (h : SqT K H a vs ∧ (a ∈ z ∨ a ∈ f → ∀ H', SqT K H' a vs)) : SqT K H' a vs ∧ (a ∈ z' ∨ a ∈ f' → ∀ H', SqT K H' a vs) := by
  obtain ⟨h1, h2⟩ := h
  by_cases m : a ∈ z ∨ a ∈ f
  · exact ⟨h2 m H', fun _ => h2 m⟩
  · rcases h1 with h1 | h1
    · have key : ∀ o, H a = some o → H' a = some o ∧ ¬ (a ∈ z' ∨ a ∈ f') := fun o e => let ⟨q1, q2, q3⟩ := s.keep a o e (fun q => m (.inl q)) fun q => m (.inr q); ⟨q1, fun q => q.elim q2 q3⟩
      rcases h1 with e | ⟨o, e⟩
      · exact ⟨.inl (.inl (key _ e).1), fun z => absurd z (key _ e).2⟩
      · exact ⟨.inl (.inr ⟨o, (key _ e).1⟩), fun z => absurd z (key _ e).2⟩
    · exact ⟨.inr h1, fun _ _ => .inr h1⟩
theorem sqL_mg (s : Mg z f H z' f' H') {a : Addr} {vs : List V} (h : SqL K H a vs ∧ (a ∈ z ∨ a ∈ f → ∀ H', SqL K H' a vs)) : SqL K H' a vs ∧ (a ∈ z' ∨ a ∈ f' → ∀ H', SqL K H' a vs) := by
  obtain ⟨h1, h2⟩ := h
  by_cases m : a ∈ z ∨ a ∈ f
  · exact ⟨h2 m H', fun _ => h2 m⟩
  · rcases h1 with h1 | h1
    · have key : ∀ o, H a = some o → H' a = some o ∧ ¬ (a ∈ z' ∨ a ∈ f') := fun o e => let ⟨q1, q2, q3⟩ := s.keep a o e (fun q => m (.inl q)) fun q => m (.inr q); ⟨q1, fun q => q.elim q2 q3⟩
      rcases h1 with e | ⟨o, e⟩
      · exact ⟨.inl (.inl (key _ e).1), fun z => absurd z (key _ e).2⟩
      · exact ⟨.inl (.inr ⟨o, (key _ e).1⟩), fun z => absurd z (key _ e).2⟩
    · exact ⟨.inr h1, fun _ _ => .inr h1⟩
mutual
theorem RepV.mg (s : Mg z f H z' f' H') : ∀ (d : D) (v : V), RepV K z f H d v → RepV K z' f' H' d v
  | .non, _, h => by simpa only [RepV] using h
  | .bl _, _, h => by simpa only [RepV] using h
  | .int _, _, h => by simpa only [RepV] using h
  | .str _, _, h => by simpa only [RepV] using h
  | .ty _, _, h => by simpa only [RepV] using h
  | .cls _, _, h => by simpa only [RepV] using h
  | .tup ds, v, h => by
    simp only [RepV] at h ⊢
    obtain ⟨a, vs, e, q, r⟩ := h
    exact ⟨a, vs, e, sqT_mg s q, RepVs.mg s ds vs r⟩
  | .lst ds, v, h => by
    simp only [RepV] at h ⊢
    obtain ⟨a, vs, e, q, r⟩ := h
    exact ⟨a, vs, e, s.keep _ _ q.1 q.2.1 q.2.2, RepVs.mg s ds vs r⟩
  | .rol ds, v, h => by
    simp only [RepV] at h ⊢
    obtain ⟨a, vs, e, q, r⟩ := h
    exact ⟨a, vs, e, sqL_mg s q, RepVs.mg s ds vs r⟩
  | .obj C ns ds, v, h => by
    simp only [RepV] at h ⊢
    obtain ⟨a, dx, fs, e, q, r⟩ := h
    obtain ⟨q1, q2, q3⟩ := s.keep _ _ q.1 q.2.1.1 q.2.1.2
    exact ⟨a, dx, fs, e, ⟨q1, ⟨q2, q3⟩, q.2.2⟩, RepVs.mg s ds _ r⟩
  | .exc _ _ _, _, h => by simp only [RepV] at h
  | .ref l, v, h => by
    simp only [RepV] at h ⊢
    obtain ⟨a, e, q⟩ := h
    exact ⟨a, e, s.get l a q⟩
theorem RepVs.mg (s : Mg z f H z' f' H') : ∀ (ds : List D) (vs : List V), RepVs K z f H ds vs → RepVs K z' f' H' ds vs
  | [], _, h => by simpa only [RepVs] using h
  | d :: ds, vs, h => by
    simp only [RepVs] at h ⊢
    obtain ⟨v, ws, e, h1, h2⟩ := h
    exact ⟨v, ws, e, RepV.mg s d v h1, RepVs.mg s ds ws h2⟩
end
theorem RepE.mg {σ : L2.St} {ρ : Env'} (s : Mg z f H z' f' H') (r : RepE K z f H σ ρ) : RepE K z' f' H' σ ρ :=
  ⟨r.len, fun i d e => let ⟨v, h1, h2⟩ := r.get i d e; ⟨v, h1, h2.mg s⟩⟩
end

/-- the walk yields the items, as long as the list walked stands still -/
def Walks (K : PySem.W.Frag) (z f : List Addr) (H : Hp) (J : It) (g : Option (Nat × List D)) (items : List D) : Prop :=
  ∀ z' f' H' S', Mg z f H z' f' H' → RepS K z' f' H' S' → still g S' →
    (∀ (i : Nat) d, items[i]? = some d → J.go i H' ∧ ∀ x H2, J.yld i H' x H2 → Step f' H' f' H2 ∧ (∀ σ ρ, Rep K z' f' H' σ ρ S' → Rep K z' f' H2 σ ρ S') ∧ RepV K z' f' H2 d x) ∧ J.stop items.length H'
def rW (K : PySem.W.Frag) (z : List Addr) : RR (Option (Nat × List D) × List D) It := fun f H p J => Walks K z f H J p.1 p.2
def tI (K : PySem.W.Frag) (W : WX) (g : Env' → M (Option (Nat × List D) × List D)) : TI := fun σ H R => ∃ z f ρ S, Rep K z f H σ ρ S ∧ Fin (rW K z) K z W f σ ρ H (g ρ S) R
theorem PIimp {X : Cx} {tg e : Expr} {t t' : TI} (h : PI X tg e t) (i : ∀ σ H Q, t' σ H Q → t σ H Q) : PI X tg e t' := ⟨fun pins s σ H Q I q => h.run pins s σ H Q I (i σ H Q q)⟩

theorem getQK {K : PySem.W.Frag} {z f : List Addr} {H : Hp} {S : Store} {d : D} {v : V} {ds : List D} (r : RepS K z f H S) (h : RepV K z f H d v) (e : getQO S d = some ds) : ∃ a vs, v = .ref a ∧ SqK (isL d) K H a vs ∧ RepVs K z f H ds vs := by
  cases q : toTp d with
  | some ts =>
    have hx := toTp_eq q
    rw [hx] at h e
    have e3 : ts = ds := Option.some.inj e
    obtain ⟨a, vs, rfl, hv, hr⟩ := rI_tup h
    refine ⟨a, vs, rfl, ?_, by rw [← e3]; exact hr⟩
    rw [hx]
    exact hv.1
  | none =>
    have e4 : getL d S = some (.ok ds S) := by
      have := getQ_map (S := S) d
      rw [e] at this
      cases d with
      | tup ts => cases q
      | _ => exact this
    obtain ⟨_, a, vs, rfl, hv, hr⟩ := rep_getL r h e4
    refine ⟨a, vs, rfl, ?_, hr⟩
    show SqK ((toTp d).isNone) K H a vs
    rw [q]
    exact hv
/-- what stands still is found again -/
theorem still_get {d : D} {S S' : Store} {ds : List D} (e : getQO S d = some ds) (st : still ((toR d).map fun l => (l, ds)) S') : getQO S' d = some ds := by
  cases q : toR d with
  | none =>
    cases d with
    | ref l => cases q
    | _ => exact e
  | some l =>
    have hd := toR_eq q
    subst hd
    have st : S'[l]? = some (.lst ds) := st
    show (match (getL (.ref l) S') with | some (.ok ds _) => some ds | _ => none) = some ds
    simp only [getL, st]
theorem RepVs.at {K : PySem.W.Frag} {z f : List Addr} {H : Hp} {ds : List D} {vs : List V} {i : Nat} {d : D} (r : RepVs K z f H ds vs) (e : ds[i]? = some d) {x : V} (h : vs[i]? = some x) : RepV K z f H d x := by
  obtain ⟨v, h1, h2⟩ := r.get e
  rw [h1] at h
  rw [← Option.some.inj h]
  exact h2
theorem walk_seq {X : Cx} {z f : List Addr} {H : Hp} {S : Store} {d : D} {v : V} {ds : List D} (r : RepS X.K z f H S) (h : RepV X.K z f H d v) (e : getQO S d = some ds) :
    ∃ a, v = .ref a ∧ ((isL d = true ∧ (∃ xs, SqL X.K H a xs) ∧ Walks X.K z f H (Itl X.K a) ((toR d).map fun l => (l, ds)) ds) ∨ (isL d = false ∧ (∃ xs, SqT X.K H a xs) ∧ Walks X.K z f H (Itt X.K a) ((toR d).map fun l => (l, ds)) ds)) := by
  obtain ⟨a, vs, rfl, hv, hr⟩ := getQK r h e
  refine ⟨a, rfl, ?_⟩
  cases q : isL d with
  | true =>
    rw [q] at hv
    refine .inl ⟨rfl, ⟨vs, hv⟩, fun z' f' H' S' mg r' st => ?_⟩
    obtain ⟨a', ws, ea, hw, hr'⟩ := getQK r' (h.mg mg) (still_get e st)
    rw [q] at hw
    cases ea
    refine ⟨fun i d' e' => ?_, ws, hw, by rw [hr'.length]; exact Nat.le_refl _⟩
    obtain ⟨x, h1, h2⟩ := hr'.get e'
    exact ⟨⟨ws, x, hw, h1⟩, fun x' H2 ⟨e1, e2⟩ => by rw [e1]; exact ⟨r'.refl, fun _ _ r => r, hr'.at e' (e2 ws hw)⟩⟩
  | false =>
    rw [q] at hv
    refine .inr ⟨rfl, ⟨vs, hv⟩, fun z' f' H' S' mg r' st => ?_⟩
    obtain ⟨a', ws, ea, hw, hr'⟩ := getQK r' (h.mg mg) (still_get e st)
    rw [q] at hw
    cases ea
    refine ⟨fun i d' e' => ?_, ws, hw, by rw [hr'.length]; exact Nat.le_refl _⟩
    obtain ⟨x, h1, h2⟩ := hr'.get e'
    exact ⟨⟨ws, x, hw, h1⟩, fun x' H2 ⟨e1, e2⟩ => by rw [e1]; exact ⟨r'.refl, fun _ _ r => r, hr'.at e' (e2 ws hw)⟩⟩

section
variable {o : Ora} {n : Nat} {s : Sc} {X : Cx} {W : WX} {tg : Expr}
theorem pi_seqA {l : Expr} {tl : TE} (hl : PE X l tl) : PI X tg l (fun σ H R => tl σ H fun x H1 => ∃ a, x = .ref a ∧ (((∃ xs, SqL X.K H1 a xs) ∧ R (Itl X.K a) H1) ∨ ((∃ xs, SqT X.K H1 a xs) ∧ R (Itt X.K a) H1))) := by
  refine ⟨fun pins s σ H R I h => ?_⟩
  refine thn (hl.run pins s σ H _ I h) fun v s1 ⟨x, H1, I1, r1, q1⟩ => ?_
  obtain ⟨a, e, q⟩ := q1
  subst e
  cases r1
  have pl : PE X l (fun σ' H' Q => Q (.ref a) H1) → True := fun _ => trivial
  rcases q with ⟨⟨xs, hq⟩, q⟩ | ⟨⟨xs, hq⟩, q⟩
  · obtain ⟨its, rv, p, hz⟩ := I1.list hq
    refine wpAny_pyIter_list p.isList ?_
    refine ⟨s1.heap.objs.size, [s1.heap.objs.size], _, _, H1, rfl, I1.kept (t' := s1.toks) fun b o e => Heap.get?_push_of_some _ e, turn_list a _, ⟨_, Heap.get?_push_size _ rfl, rfl, rfl⟩, fun b hb => ?_, q⟩
    have e : b = s1.heap.objs.size := by simpa using hb
    subst e
    exact I1.fpOk (Nat.le_refl _) (I1.hok.fresh (Nat.le_refl _))
  · obtain ⟨its, rv, p, hz⟩ := I1.tuple hq
    refine wpAny_pyIter_tuple (show s1.heap.IsTuple a its.toArray from p) ?_
    refine ⟨s1.heap.objs.size, [s1.heap.objs.size], _, _, H1, rfl, I1.kept (t' := s1.toks) fun b o e => Heap.get?_push_of_some _ e, turn_tuple a _, ⟨_, Heap.get?_push_size _ rfl, rfl, rfl⟩, fun b hb => ?_, q⟩
    have e : b = s1.heap.objs.size := by simpa using hb
    subst e
    exact I1.fpOk (Nat.le_refl _) (I1.hok.fresh (Nat.le_refl _))
theorem si_seq {e : E} {x : Expr} (h : PE X x (tE X.K W (evE o e))) : PI X tg x (tI X.K W (evI o (.seq e))) :=
  PIimp (pi_seqA h) fun σ H Q ⟨z, f, ρ, S, rep, fin⟩ => seqE rep fin fun f1 H1 S1 d v st1 r1 rv fi1 => by
    obtain ⟨ds, e, fi⟩ := Fin.mapB (getQ_map (S := S1) d) fi1
    obtain ⟨a, ea, q⟩ := walk_seq (X := X) r1.s rv e
    have fi := Fin.pure fi
    rcases q with ⟨_, q1, q2⟩ | ⟨_, q1, q2⟩
    · exact ⟨a, ea, .inl ⟨q1, Fin.here fi r1 q2⟩⟩
    · exact ⟨a, ea, .inr ⟨q1, Fin.here fi r1 q2⟩⟩
theorem walk_rng {K : PySem.W.Frag} {z f : List Addr} {H : Hp} (lo : Int) (n : Nat) (items : List D) (h : items = (List.range n).map fun (k : Nat) => D.int (lo + k)) : Walks K z f H (Itr lo n) none items := by
  intro z' f' H' S' mg r' st
  refine ⟨fun i d e => ?_, ?_⟩
  · rw [h, List.getElem?_map, Option.map_eq_some_iff] at e
    obtain ⟨k, e1, e2⟩ := e
    obtain ⟨hi, e3⟩ := List.getElem?_eq_some_iff.mp e1
    rw [List.getElem_range] at e3
    rw [List.length_range] at hi
    refine ⟨hi, fun x H2 ⟨q1, q2⟩ => ?_⟩
    rw [q1, q2, ← e2, ← e3]
    exact ⟨r'.refl, fun _ _ r => r, mI_int _⟩
  · show n ≤ items.length
    rw [h, List.length_map, List.length_range]
    exact Nat.le_refl _
theorem evA_one (e : E) (ρ : Env') : evA o (.cons e .nil) ρ = (do let x ← evE o e ρ; pure [x]) := rfl
theorem si_r1 (x : XOk o n s X) {a : E} {ea : Expr} {p pos : Pos} (hg : glB s "range" = true) (hx : isE s a ea = true) (h : PE X ea (tE X.K W (evE o a))) : PI X tg (.Call (.Name "range" p) [ea] [] pos) (tI X.K W (evI o (.r1 a))) :=
  PIimp (pi_range1 (glB_ok x hg) x.facts.freeR (pa_cons h pa_nil (star_ok hx)) (star_ok hx)) fun σ H Q ⟨z, f, ρ, S, rep, fin⟩ => seqE rep fin fun f1 H1 S1 d v st1 r1 rv fi1 => by
    obtain ⟨i, e, fi⟩ := Fin.opt fi1
    rw [toI_eq e] at rv
    by_cases hb : i ≤ 4611686018427387903 ∧ -4611686018427387904 ≤ i
    · rw [if_pos hb] at fi
      refine ⟨i, by rw [rI_int rv], by omega, by omega, Fin.here (Fin.pure fi) r1 (walk_rng 0 i.toNat _ ?_)⟩
      simp
    · rw [if_neg hb] at fi
      exact fi.elim
theorem si_r2 (x : XOk o n s X) {a b : E} {ea eb : Expr} {p pos : Pos} (hg : glB s "range" = true) (hx : isE s a ea = true) (hy : isE s b eb = true) (h : PE X ea (tE X.K W (evE o a))) (h2 : PE X eb (tE X.K W (evE o b))) :
    PI X tg (.Call (.Name "range" p) [ea, eb] [] pos) (tI X.K W (evI o (.r2 a b))) :=
  PIimp (pi_range2 (glB_ok x hg) x.facts.freeR (pa_cons h (pa_cons h2 pa_nil (star_ok hy)) (star_ok hx)) (by rw [star_ok hx, star_ok hy] <;> rfl) (star_ok hy)) fun σ H Q ⟨z, f, ρ, S, rep, fin⟩ => seqE rep fin fun f1 H1 S1 d v st1 r1 rv fi1 => seqE r1 fi1 fun f2 H2 S2 e w st2 r2 rw' fi2 => by
    obtain ⟨i, e1, fi⟩ := Fin.opt fi2
    obtain ⟨j, e2, fi⟩ := Fin.opt fi
    rw [toI_eq e1] at rv
    rw [toI_eq e2] at rw'
    by_cases hb : (i ≤ 4611686018427387903 ∧ -4611686018427387904 ≤ i) ∧ j ≤ 4611686018427387903 ∧ -4611686018427387904 ≤ j
    · rw [if_pos hb] at fi
      exact ⟨i, j, by rw [rI_int rv, rI_int rw'], ⟨by omega, by omega, by omega, by omega⟩, Fin.here (Fin.pure fi) r2 (walk_rng i (j - i).toNat _ rfl)⟩
    · rw [if_neg hb] at fi
      exact fi.elim
theorem zip_get {α β : Type} {xs : List α} {ys : List β} {i : Nat} {p : α × β} (h : (xs.zip ys)[i]? = some p) : xs[i]? = some p.1 ∧ ys[i]? = some p.2 := by
  rw [List.getElem?_zip_eq_some] at h
  exact h
/-- a new pair is handed out -/
theorem pair_yld {K : PySem.W.Frag} {z f : List Addr} {H : Hp} {S : Store} {T : Addr} {x y : V} {d e : D} (r : RepS K z f H S) (hT : H T = none) (h1 : RepV K z f H d x) (h2 : RepV K z f H e y) :
    Step f H f (upd H T (.tup [x, y])) ∧ (∀ σ ρ, Rep K z f H σ ρ S → Rep K z f (upd H T (.tup [x, y])) σ ρ S) ∧ RepV K z f (upd H T (.tup [x, y])) (.tup [d, e]) (.ref T) :=
  ⟨Step.alloc r hT _, fun _ _ r => r.alloc hT _, newT r (RepVs.cons h1 (RepVs.cons h2 RepVs.nil_iff)) hT⟩
theorem walk_zip {K : PySem.W.Frag} {z f : List Addr} {H : Hp} {S : Store} {d e : D} {a b : Addr} {ds es : List D} (h : RepV K z f H d (.ref a)) (h' : RepV K z f H e (.ref b)) (e1 : getQO S d = some ds) (e2 : getQO S e = some es)
    (n1 : toR d = none) (n2 : toR e = none) : Walks K z f H (ItzK (isL d) (isL e) K a b) none ((ds.zip es).map fun p => D.tup [p.1, p.2]) := by
  intro z' f' H' S' mg r' st
  obtain ⟨a', vs, ea, hv, hr⟩ := getQK r' (h.mg mg) (still_get e1 (by rw [n1]; trivial))
  obtain ⟨b', ws, eb, hw, hr2⟩ := getQK r' (h'.mg mg) (still_get e2 (by rw [n2]; trivial))
  cases ea
  cases eb
  have l1 := hr.length
  have l2 := hr2.length
  refine ⟨fun i p q => ?_, vs, ws, hv, hw, ?_, ?_, ?_⟩
  · rw [List.getElem?_map, Option.map_eq_some_iff] at q
    obtain ⟨p', q1, q2⟩ := q
    obtain ⟨q3, q4⟩ := zip_get q1
    obtain ⟨x, h1, _⟩ := hr.get q3
    obtain ⟨y, h2, _⟩ := hr2.get q4
    refine ⟨⟨vs, ws, x, y, hv, hw, h1, h2⟩, fun t H2 ⟨T, x', y', et, hT, eH, f1, f2⟩ => ?_⟩
    rw [et, eH, ← q2]
    exact pair_yld r' hT (hr.at q3 (f1 vs hv)) (hr2.at q4 (f2 ws hw))
  all_goals (rw [List.length_map, List.length_zip]; omega)
theorem si_zip (x : XOk o n s X) {a b : E} {ea eb : Expr} {p pos tpos : Pos} {elts : List Expr} {kk : Nat} (hg : glB s "zip" = true) (hx : isE s a ea = true) (hy : isE s b eb = true) (h : PE X ea (tE X.K W (evE o a))) (h2 : PE X eb (tE X.K W (evE o b))) :
    PI X (.Tuple elts kk tpos) (.Call (.Name "zip" p) [ea, eb] [] pos) (tI X.K W (evI o (.zip a b))) :=
  PIimp (pi_zipK (glB_ok x hg) x.facts.freeZ (pa_cons h (pa_cons h2 pa_nil (star_ok hy)) (star_ok hx)) (star_ok hx) (by rw [star_ok hy] <;> rfl)) fun σ H Q ⟨z, f, ρ, S, rep, fin⟩ => seqE rep fin fun f1 H1 S1 d v st1 r1 rv fi1 => seqE r1 fi1 fun f2 H2 S2 e w st2 r2 rw' fi2 => by
    obtain ⟨ds, e1, fi⟩ := Fin.mapB (getQ_map (S := S2) d) fi2
    obtain ⟨es, e2, fi⟩ := Fin.mapB (getQ_map (S := S2) e) fi
    have rv := rv.mv st2.mv
    obtain ⟨a, vs, rfl, hv, hr⟩ := getQK r2.s rv e1
    obtain ⟨b, ws, rfl, hw, hr2⟩ := getQK r2.s rw' e2
    by_cases hb : ((toR d).isNone && (toR e).isNone) = true
    · rw [if_pos hb] at fi
      obtain ⟨n1, n2⟩ := Bool.and_eq_true_iff.mp hb
      rw [Option.isNone_iff_eq_none] at n1 n2
      exact ⟨isL d, isL e, a, b, vs, ws, rfl, hv, hw, Fin.here (Fin.pure fi) r2 (walk_zip rv rw' e1 e2 n1 n2)⟩
    · rw [if_neg hb] at fi
      exact fi.elim
theorem zipIdx_get {α : Type} {xs : List α} {i : Nat} {p : α × Nat} (h : xs.zipIdx[i]? = some p) : xs[i]? = some p.1 ∧ p.2 = i := by
  rw [List.getElem?_zipIdx, Option.map_eq_some_iff] at h
  obtain ⟨a, h1, h2⟩ := h
  rw [← h2]
  exact ⟨h1, by simp⟩
theorem si_enum (x : XOk o n s X) {a : E} {ea : Expr} {p pos tpos : Pos} {elts : List Expr} {kk : Nat} (hg : glB s "enumerate" = true) (hx : isE s a ea = true) (h : PE X ea (tE X.K W (evE o a))) :
    PI X (.Tuple elts kk tpos) (.Call (.Name "enumerate" p) [ea] [] pos) (tI X.K W (evI o (.enum a))) :=
  PIimp (pi_enum (glB_ok x hg) x.facts.freeE (pa_cons h pa_nil (star_ok hx)) (star_ok hx)) fun σ H Q ⟨z, f, ρ, S, rep, fin⟩ => seqE rep fin fun f1 H1 S1 d v st1 r1 rv fi1 => by
    obtain ⟨ds, e, fi⟩ := Fin.mapB (getQ_map (S := S1) d) fi1
    by_cases hl : isL d = true
    · rw [if_pos hl] at fi
      obtain ⟨a, vs, rfl, hv, hr⟩ := getQK r1.s rv e
      rw [hl] at hv
      refine ⟨a, vs, rfl, hv, Fin.here (Fin.pure fi) r1 ?_⟩
      intro z' f' H' S' mg r' st
      obtain ⟨a', ws, ea, hw, hr'⟩ := getQK r' (rv.mg mg) (still_get e st)
      rw [hl] at hw
      cases ea
      have l1 := hr'.length
      refine ⟨fun i p q => ?_, ws, hw, ?_⟩
      · rw [List.getElem?_map, Option.map_eq_some_iff] at q
        obtain ⟨p', q1, q2⟩ := q
        obtain ⟨q3, q4⟩ := zipIdx_get q1
        obtain ⟨y, h1, _⟩ := hr'.get q3
        refine ⟨⟨ws, y, hw, h1⟩, fun t H2 ⟨T, y', et, hT, eH, f1⟩ => ?_⟩
        rw [et, eH, ← q2, q4]
        exact pair_yld r' hT (mI_int _) (hr'.at q3 (f1 ws hw))
      · rw [List.length_map, List.length_zipIdx]; omega
    · rw [if_neg hl] at fi
      exact fi.elim
end
end Wk
end WkWalk_text

section WkStmt_text
set_option Elab.async false
set_option linter.all false
set_option maxRecDepth 100000
set_option maxHeartbeats 4000000
/-! WkStmt: targets, comprehensions, statements. -/
namespace Wk
open PySem PySem.Spec PyProof.Rows L2 StX

/-! ### targets -/
def FinG (K : PySem.W.Frag) (z : List Addr) (W : WX) (vs : List Nat) (f : List Addr) (σ : L2.St) (H : Hp) (r : Option RS) (Q : L2.St → Hp → Prop) : Prop :=
  match r with
  | some (.ok ρ' S' .nx) => ∀ f' H' σ', Step f H f' H' → Rep K z f' H' σ' ρ' S' → (σ'.length = σ.length ∧ ∀ j, j ∉ vs → σ'[j]? = σ[j]?) → Q σ' H'
  | some (.ok _ _ _) => False
  | some (.ex x ρ' S') => ∀ f' H' σ' c dd, Step f H f' H' → Rep K z f' H' σ' ρ' S' → RepX K z f' H' x c dd → W c dd σ' H'
  | none => False
def tG (K : PySem.W.Frag) (W : WX) (vs : List Nat) (g : D → MS) : TG := fun v σ H Q => ∃ z f ρ S d, Rep K z f H σ ρ S ∧ RepV K z f H d v ∧ FinG K z W vs f σ H (g d ρ S) Q
def tGs (K : PySem.W.Frag) (W : WX) (vs : List Nat) (g : List D → MS) : TGs := fun ws σ H Q => ∃ z f ρ S ds, Rep K z f H σ ρ S ∧ RepVs K z f H ds ws ∧ FinG K z W vs f σ H (g ds ρ S) Q
theorem PGimp {X : Cx} {e : Expr} {t t' : TG} (h : PG X e t) (i : ∀ v σ H Q, t' v σ H Q → t v σ H Q) : PG X e t' := ⟨fun pins s σ H v u Q I r q => h.run pins s σ H v u Q I r (i v σ H Q q)⟩
theorem PGsimp {X : Cx} {e : List Expr} {t t' : TGs} (h : PGs X e t) (i : ∀ v σ H Q, t' v σ H Q → t v σ H Q) : PGs X e t' := ⟨fun pins s σ H v u Q I r q => h.run pins s σ H v u Q I r (i v σ H Q q)⟩
section
variable {α β : Type} {R : RR α β} {K : PySem.W.Frag} {z : List Addr} {W : WX} {vs : List Nat} {f f1 : List Addr} {σ : L2.St} {ρ : Env'} {S : Store} {H H1 : Hp} {r : Option RS} {Q Q' : L2.St → Hp → Prop}
theorem FinG.from (h : FinG K z W vs f σ H r Q) (s : Step f H f1 H1) : FinG K z W vs f1 σ H1 r Q := by
  cases r with
  | none => exact h
  | some r =>
    cases r with
    | ok ρ' S' fl => cases fl with
      | nx => exact fun f' H' σ' t r => h f' H' σ' (s.trans t) r
      | _ => exact h
    | ex x S' => exact fun f' H' σ' c dd t r q => h f' H' σ' c dd (s.trans t) r q
theorem FinG.exS {m : Env' → M α} {k : α → MS} (h : FinG K z W vs f σ H (exS m k ρ S) Q) :
    Fin R K z W f σ ρ H (m ρ S) (fun b H1 => ∃ f1 S1 a, Step f H f1 H1 ∧ Rep K z f1 H1 σ ρ S1 ∧ R f1 H1 a b ∧ FinG K z W vs f1 σ H1 (k a ρ S1) Q) := by
  unfold Wk.exS at h
  cases q : m ρ S with
  | none => rw [q] at h; exact h
  | some r =>
    rw [q] at h
    cases r with
    | ok a S' =>
      have h1 : FinG K z W vs f σ H (k a ρ S') Q := h
      exact fun f' H' b s r2 q2 => ⟨f', S', a, s, r2, q2, h1.from s⟩
    | ex x S' => exact fun f' H' c dd s r q => h f' H' σ c dd s r q
/-- one target after another -/
theorem FinG.seq {m k : MS} {v1 v2 : List Nat} (h : FinG K z W (v1 ++ v2) f σ H (thenS m k ρ S) Q) :
    FinG K z W v1 f σ H (m ρ S) (fun σ1 H1 => ∃ f1 ρ1 S1, Step f H f1 H1 ∧ Rep K z f1 H1 σ1 ρ1 S1 ∧ FinG K z W v2 f1 σ1 H1 (k ρ1 S1) Q) := by
  unfold thenS at h
  cases q : m ρ S with
  | none => rw [q] at h; exact h
  | some r =>
    rw [q] at h
    cases r with
    | ex x ρ' S' => exact h
    | ok ρ' S' fl =>
      cases fl with
      | nx =>
        have h1 : FinG K z W (v1 ++ v2) f σ H (k ρ' S') Q := h
        refine fun f' H' σ' s r2 same => ⟨f', ρ', S', s, r2, ?_⟩
        have h2 := h1.from s
        cases q2 : k ρ' S' with
        | none => rw [q2] at h2; exact h2
        | some r3 =>
          rw [q2] at h2
          cases r3 with
          | ex x ρ2 S2 => exact h2
          | ok ρ2 S2 fl2 =>
            cases fl2 with
            | nx =>
              refine fun f2 H2 σ2 s2 r4 same2 => h2 f2 H2 σ2 s2 r4 ⟨same2.1.trans same.1, fun j hj => ?_⟩
              rw [List.mem_append, not_or] at hj
              rw [same2.2 j hj.2, same.2 j hj.1]
            | _ => exact h2
      | _ => exact h
theorem RepE.set {i : Nat} {d : D} {v : V} (r : RepE K z f H σ ρ) (rv : RepV K z f H d v) : RepE K z f H (σ.set i (some v)) (ρ.set i (some d)) := by
  refine ⟨by rw [List.length_set, List.length_set, r.len], fun j e h => ?_⟩
  by_cases q : i = j
  · rw [← q] at h ⊢
    by_cases hl : i < ρ.length
    · rw [List.getElem?_set_self hl] at h
      have e1 : d = e := Option.some.inj (Option.some.inj h)
      refine ⟨v, ?_, by rw [← e1]; exact rv⟩
      rw [List.getElem?_set_self (by rw [r.len]; exact hl)]
    · rw [List.getElem?_eq_none (by rw [List.length_set]; omega)] at h
      cases h
  · rw [List.getElem?_set_ne q] at h ⊢
    exact r.get j e h
theorem Rep.set {i : Nat} {d : D} {v : V} (r : Rep K z f H σ ρ S) (rv : RepV K z f H d v) : Rep K z f H (σ.set i (some v)) (ρ.set i (some d)) S := ⟨r.s, r.e.set rv⟩
end

section
variable {o : Ora} {n : Nat} {s : Sc} {X : Cx} {W : WX}
theorem sg_nm (x : XOk o n s X) {i : Nat} {y : Str} {p : Pos} (h : isT s (.nm i) (.Name y p) = true) : PG X (.Name y p) (tG X.K W (slT (.nm i)) (asT o (.nm i))) := by
  obtain ⟨h1, h⟩ := Bool.and_eq_true_iff.mp (show (atB s i y && (locB s y && s.sto y)) = true from h)
  obtain ⟨h2, h3⟩ := Bool.and_eq_true_iff.mp h
  refine PGimp (pg_name (by rw [x.N]; exact x.nd) (atB_ok x h1) (locB_ok x h2) (x.sto y h3)) fun v σ H Q ⟨z, f, ρ, S, d, rep, rv, fin⟩ => ?_
  have fin : FinG X.K z W [i] f σ H (if i < ρ.length then some (.ok (ρ.set i (some d)) S .nx) else none) Q := fin
  by_cases hl : i < ρ.length
  · rw [if_pos hl] at fin
    refine fin f H _ rep.refl (rep.set rv) ⟨List.length_set, fun j hj => ?_⟩
    rw [List.getElem?_set_ne fun e => hj (by rw [e]; exact List.mem_singleton_self _)]
  · rw [if_neg hl] at fin
    exact fin.elim
theorem sg_sub {a b : E} {ea eb : Expr} {pos : Pos} (hs : noSlice eb = true) (ha : PE X ea (tE X.K W (evE o a))) (hb : PE X eb (tE X.K W (evE o b))) : PG X (.Subscript ea eb pos) (tG X.K W (slT (.sub a b)) (asT o (.sub a b))) := by
  refine PGimp (pg_sub ha hb set_list (by intro v; cases eb <;> first | exact absurd hs Bool.false_ne_true | rfl)) fun v σ H Q ⟨z, f, ρ, S, d, rep, rv, fin⟩ => ?_
  have fin : FinG X.K z W [] f σ H (exS (fun ρ => do let x ← evE o a ρ; let y ← evE o b ρ; pure (x, y)) (fun p ρ S => (toR p.1).bind fun l => (toI p.2).bind fun k => (atS S l).bind fun ds => (ixN ds.length k).map fun j => .ok ρ (S.set l (.lst (ds.set j d))) .nx) ρ S) Q := fin
  have h1 := FinG.exS (R := fun f H p (b : V × V) => RepV X.K z f H p.1 b.1 ∧ RepV X.K z f H p.2 b.2) fin
  refine seqE rep h1 fun f1 H1 S1 d1 v1 st1 r1 rv1 fi1 => seqE r1 fi1 fun f2 H2 S2 d2 v2 st2 r2 rv2 fi2 => ?_
  obtain ⟨f3, S3, p, st3, r3, ⟨q1, q2⟩, fi⟩ := Fin.here (b := (v1, v2)) (Fin.pure fi2) r2 ⟨rv1.mv st2.mv, rv2⟩
  have rv' := ((rv.mv st1.mv).mv st2.mv)
  cases e1 : toR p.1 with
  | none => simp only [e1, Option.bind_none] at fi; exact fi.elim
  | some l =>
    simp only [e1, Option.bind_some] at fi
    cases e2 : toI p.2 with
    | none => simp only [e2, Option.bind_none] at fi; exact fi.elim
    | some k =>
      simp only [e2, Option.bind_some] at fi
      cases e3 : atS S3 l with
      | none => simp only [e3, Option.bind_none] at fi; exact fi.elim
      | some ds =>
        simp only [e3, Option.bind_some] at fi
        cases e4 : ixN ds.length k with
        | none => simp only [e4, Option.map_none] at fi; exact fi.elim
        | some j =>
          simp only [e4, Option.map_some] at fi
          rw [toR_eq e1] at q1
          rw [toI_eq e2] at q2
          obtain ⟨a', vs, ea', hf, hH, hr⟩ := atS_rep r3.s q1 e3
          refine ⟨a', vs, k, j, ea', rI_int q2, hH, by rw [← hr.length]; exact e4, ?_⟩
          have rv3 := rv.mv st3.mv
          have st4 := Step.put r3.s hf (HO.lst (vs.set j v))
          exact fi f3 _ σ st4 (r3.put hf ⟨_, upd_same, (RepVs.set rv3 j hr).mv st4.mv⟩) ⟨rfl, fun _ _ => rfl⟩
theorem sg_nil : PGs X [] (tGs X.K W (slTs .nil) (asTs o .nil)) :=
  PGsimp pgs_nil fun v σ H Q ⟨z, f, ρ, S, ds, rep, rv, fin⟩ => by
    cases ds with
    | nil => exact ⟨List.eq_nil_of_length_eq_zero rv.length.symm, fin f H σ rep.refl rep ⟨rfl, fun _ _ => rfl⟩⟩
    | cons _ _ => exact fin.elim
theorem eachT {s : Sc} {t : T} {e : Expr} {env : Env} {es : List Expr} (h : isT s t e = true) : (assignEach (e :: es) env).map (·.2) = assign e env :: (assignEach es env).map (·.2) ∧ ((assignEach (e :: es) env).findIdx? (·.1) = ((assignEach es env).findIdx? (·.1)).map (· + 1)) ∧ (assignEach (e :: es) env).length = (assignEach es env).length + 1 := by
  cases e <;> first | exact ⟨rfl, List.findIdx?_cons, rfl⟩ | exact ⟨rfl, (List.findIdx?_cons).trans rfl, rfl⟩ | (cases t <;> exact absurd h Bool.false_ne_true)
theorem sg_cons {t : T} {r : Ts} {e : Expr} {es : List Expr} (hx : isT s t e = true) (h1 : PG X e (tG X.K W (slT t) (asT o t))) (h2 : PGs X es (tGs X.K W (slTs r) (asTs o r))) : PGs X (e :: es) (tGs X.K W (slTs (.cons t r)) (asTs o (.cons t r))) :=
  PGsimp (pgs_cons h1 h2 (eachT hx).1) fun ws σ H Q ⟨z, f, ρ, S, ds, rep, rv, fin⟩ => by
    cases ds with
    | nil => exact fin.elim
    | cons d ds =>
      obtain ⟨v, vr, rfl, q1, q2⟩ := rv.uncons
      have fin : FinG X.K z W (slT t ++ slTs r) f σ H (thenS (fun ρ S => asT o t d ρ S) (fun ρ S => asTs o r ds ρ S) ρ S) Q := fin
      refine ⟨v, vr, rfl, z, f, ρ, S, d, rep, q1, ?_⟩
      have h := FinG.seq fin
      cases q : asT o t d ρ S with
      | none => rw [q] at h; exact h
      | some rs =>
        rw [q] at h
        cases rs with
        | ex x ρ' S' => exact h
        | ok ρ' S' fl =>
          cases fl with
          | nx => exact fun f' H' σ' st rep' same => let ⟨f1, ρ1, S1, _, r1, fi⟩ := h f' H' σ' st rep' same; ⟨z, f', ρ', S', ds, rep', q2.mv st.mv, (by
              have h3 : FinG X.K z W (slTs r) f' σ' H' (asTs o r ds ρ' S') Q := by
                have h4 : thenS (fun ρ S => asT o t d ρ S) (fun ρ S => asTs o r ds ρ S) ρ S = asTs o r ds ρ' S' := by
                  unfold thenS
                  simp only [q]
                have h5 := fin
                rw [h4] at h5
                have h6 := h5.from st
                cases q2 : asTs o r ds ρ' S' with
                | none => rw [q2] at h6; exact h6
                | some r3 =>
                  rw [q2] at h6
                  cases r3 with
                  | ex x ρ2 S2 => exact h6
                  | ok ρ2 S2 fl2 =>
                    cases fl2 with
                    | nx =>
                      refine fun f2 H2 σ2 s2 r4 same2 => h6 f2 H2 σ2 s2 r4 ⟨same2.1.trans same.1, fun j hj => ?_⟩
                      rw [List.mem_append, not_or] at hj
                      rw [same2.2 j hj.2, same.2 j hj.1]
                    | _ => exact h6
              exact h3)⟩
          | _ => exact h
theorem lenTs : ∀ {ts : Ts} {es : List Expr} {env : Env}, isTs s ts es = true → (assignEach es env).length = ts.len ∧ (assignEach es env).findIdx? (·.1) = none
  | .nil, [], _, _ => ⟨rfl, rfl⟩
  | .cons t r, e :: es, env, h => by
    obtain ⟨h1, h2⟩ := Bool.and_eq_true_iff.mp (show (isT s t e && isTs s r es) = true from h)
    obtain ⟨a, b⟩ := lenTs (env := env) h2
    obtain ⟨_, c, d⟩ := eachT (env := env) (es := es) h1
    exact ⟨by rw [d, a] <;> rfl, by rw [c, b] <;> rfl⟩
  | .nil, _ :: _, _, h => absurd h Bool.false_ne_true
  | .cons _ _, [], _, h => absurd h Bool.false_ne_true
theorem sg_tp (x : XOk o n s X) {ts : Ts} {es : List Expr} {k : Nat} {pos : Pos} (hx : isTs s ts es = true) (h : PGs X es (tGs X.K W (slTs ts) (asTs o ts))) : PG X (.Tuple es k pos) (tG X.K W (slT (.tp ts)) (asT o (.tp ts))) :=
  PGimp (pg_tup x.calm h (lenTs hx).1 (lenTs hx).2) fun v σ H Q ⟨z, f, ρ, S, d, rep, rv, fin⟩ => by
    have fin : FinG X.K z W (slTs ts) f σ H ((toTp d).bind fun ds => if ds.length = ts.len then asTs o ts ds ρ S else none) Q := fin
    cases e : toTp d with
    | none => rw [e] at fin; exact fin.elim
    | some ds =>
      rw [e, Option.bind_some] at fin
      rw [toTp_eq e] at rv
      obtain ⟨a, vs, rfl, hv, hr⟩ := rI_tup rv
      by_cases hl : ds.length = ts.len
      · rw [if_pos hl] at fin
        exact ⟨a, vs, rfl, hv.1, by rw [← hr.length]; exact hl, z, f, ρ, S, ds, rep, hr, fin⟩
      · rw [if_neg hl] at fin
        exact fin.elim
end
end Wk
end WkStmt_text

section WkComp_text
set_option Elab.async false
set_option linter.all false
set_option maxRecDepth 100000
set_option maxHeartbeats 4000000
/-! WkComp: list comprehensions, calls, the methods of lists. -/
namespace Wk
open PySem PySem.Spec PyProof.Rows L2 StX

abbrev WF : WX := fun _ _ _ _ => False
section
variable {K : PySem.W.Frag} {z f z' f' f1 : List Addr} {H H' H1 : Hp} {σ : L2.St} {ρ : Env'} {S : Store}
theorem Step.over (s : Step f H f' H') {D : Addr} (hD : H D = none) (o : HO) : Step f H f' (upd H' D o) :=
  ⟨s.ext, fun a u e n => by rw [upd_ne (ne_of_none e hD)]; exact s.keep a u e n, fun a ha => some_put (s.trk a ha)⟩
theorem Mg.under (s : Step f H f' H') {D : Addr} (hD : H D = none) : Mg z f H (D :: z) f' H' :=
  ⟨fun l a e => s.mv.get e (z := z) , fun a o e n1 n2 => ⟨s.keep a o e n2, fun q => by
      rcases List.mem_cons.mp q with q | q
      · rw [q] at e; rw [hD] at e; cases e
      · exact n1 q, s.out e n2⟩, fun a h n => by
    rcases h with h | h
    · rcases List.mem_cons.mp h with q | q
      · rw [q] at n; exact absurd hD n
      · exact .inl q
    · by_cases m : a ∈ f
      · exact .inr m
      · exact absurd (s.new h m) n⟩
theorem RepO.mg (s : Mg z f H z' f' H') {a : Addr} (h : H' a = H a) : ∀ {o : O}, RepO K z f H a o → RepO K z' f' H' a o
  | .lst ds, ⟨vs, e, r⟩ => ⟨vs, h.trans e, r.mg s⟩
  | .ins C ns ds, ⟨dx, fs, e, r⟩ => ⟨dx, fs, ⟨h.trans e.1, e.2⟩, r.mg s⟩
/-- the list under construction is done: no more of the store -/
theorem RepS.pop {D : Addr} (r : RepS K (D :: z) f H S) : RepS K z f H S ∧ Mg (D :: z) f H z f H := by
  have mg : Mg (D :: z) f H z f H := ⟨fun _ _ e => e, fun a o e n1 n2 => ⟨e, fun q => n1 (List.mem_cons_of_mem _ q), n2⟩, fun a h _ => h.imp (List.mem_cons_of_mem _) id⟩
  exact ⟨⟨r.len, r.nd, fun a ha => r.zf a (List.mem_cons_of_mem _ ha), fun a ha => r.zt a (List.mem_cons_of_mem _ ha), fun l a o e q => (r.obj l a o e q).mg mg rfl⟩, mg⟩
/-- .. or it joins the store -/
theorem RepS.join {D : Addr} (r : RepS K (D :: z) f H S) (hz : D ∉ z) {ds : List Wk.D} {vs : List V} (hD : H D = some (.lst vs)) (rv : RepVs K (D :: z) f H ds vs) : RepS K z (f ++ [D]) H (S ++ [.lst ds]) ∧ Mg (D :: z) f H z (f ++ [D]) H := by
  have nD : D ∉ f := r.zf D (List.mem_cons_self ..)
  have mg : Mg (D :: z) f H z (f ++ [D]) H := ⟨fun l a e => by rw [List.getElem?_append_left (List.getElem?_eq_some_iff.mp e).1]; exact e, fun a o e n1 n2 => ⟨e, fun q => n1 (List.mem_cons_of_mem _ q), fun q => by
      rcases List.mem_append.mp q with q | q
      · exact n2 q
      · exact n1 (by rw [List.mem_singleton.mp q]; exact List.mem_cons_self ..)⟩, fun a h _ => by
    rcases h with h | h
    · exact .inl (List.mem_cons_of_mem _ h)
    · rcases List.mem_append.mp h with q | q
      · exact .inr q
      · exact .inl (by rw [List.mem_singleton.mp q]; exact List.mem_cons_self ..)⟩
  refine ⟨⟨by rw [List.length_append, List.length_append, r.len] <;> rfl, ?_, fun a ha h => ?_, fun a ha => r.zt a (List.mem_cons_of_mem _ ha), fun l a o e1 e2 => ?_⟩, mg⟩
  · rw [List.nodup_append]
    refine ⟨r.nd, by simp, fun a ha b hb e => ?_⟩
    rw [List.mem_singleton.mp hb] at e
    rw [e] at ha
    exact nD ha
  · rcases List.mem_append.mp h with q | q
    · exact r.zf a (List.mem_cons_of_mem _ ha) q
    · rw [List.mem_singleton.mp q] at ha
      exact hz ha
  · rcases getElem?_snoc e1 with h1 | ⟨h1, h2⟩
    · have hl : l < S.length := by rw [← r.len]; exact (List.getElem?_eq_some_iff.mp h1).1
      rw [List.getElem?_append_left hl] at e2
      exact (r.obj l a o h1 e2).mg mg rfl
    · rw [h1, r.len, List.getElem?_append_right (Nat.le_refl _), Nat.sub_self] at e2
      have e3 : O.lst ds = o := Option.some.inj e2
      rw [← h2, ← e3]
      exact ⟨vs, hD, rv.mg mg⟩
theorem wipeE_some {i : Nat} {x : D} : ∀ {vs : List Nat}, (wipeE ρ vs)[i]? = some (some x) → ρ[i]? = some (some x) ∧ i ∉ vs
  | [], h => ⟨h, by simp⟩
  | v :: vs, h => by
    unfold wipeE at h
    by_cases hi : v = i
    · subst hi
      by_cases hv : v < (wipeE ρ vs).length
      · rw [List.getElem?_set_self hv] at h; cases h
      · rw [List.getElem?_eq_none (by simpa using hv)] at h; cases h
    · rw [List.getElem?_set_ne hi] at h
      obtain ⟨h1, h2⟩ := wipeE_some h
      exact ⟨h1, by simp only [List.mem_cons, not_or]; exact ⟨fun e => hi e.symm, h2⟩⟩
theorem wipeE_length : ∀ vs : List Nat, (wipeE ρ vs).length = ρ.length
  | [] => rfl
  | v :: vs => by unfold wipeE; rw [List.length_set, wipeE_length vs]
theorem RepE.wipe (r : RepE K z f H σ ρ) (vs : List Nat) : RepE K z f H (wipe σ vs) (wipeE ρ vs) :=
  ⟨by rw [wipe_length, wipeE_length, r.len], fun i d e => by
    obtain ⟨h1, h2⟩ := wipeE_some e
    obtain ⟨v, h3, h4⟩ := r.get i d h1
    exact ⟨v, by rw [wipe_out h2]; exact h3, h4⟩⟩
theorem wipe_in {i : Nat} : ∀ {vs : List Nat}, i ∈ vs → (wipe σ vs)[i]? = if i < σ.length then some none else none
  | v :: vs, h => by
    unfold wipe
    by_cases q : v = i
    · rw [q]
      by_cases hl : i < σ.length
      · rw [if_pos hl, List.getElem?_set_self (by rw [wipe_length]; exact hl)]
      · rw [if_neg hl, List.getElem?_eq_none (by rw [List.length_set, wipe_length]; omega)]
    · rw [List.getElem?_set_ne q]
      rcases List.mem_cons.mp h with e | e
      · exact absurd e.symm q
      · exact wipe_in e
theorem wipe_same {σ' : L2.St} {vs : List Nat} (hl : σ'.length = σ.length) (h : ∀ j, j ∉ vs → σ'[j]? = σ[j]?) : wipe σ' vs = wipe σ vs := by
  apply List.ext_getElem?
  intro i
  by_cases m : i ∈ vs
  · rw [wipe_in m, wipe_in m, hl]
  · rw [wipe_out m, wipe_out m, h i m]
end

section
variable {o : Ora} {n : Nat} {s : Sc} {X : Cx} {W : WX}
theorem unmark {e : Expr} {env : Env} (h : noSet e = true) : ∀ x, foldedSetIterable e env x = pure x := by
  intro x
  cases e <;> first | rfl | exact absurd h Bool.false_ne_true
theorem lc_imp {fz : Bool} {own : List (Str × Nat)} {t : T} {it : I} {cs : A} {e : E} (hsl : ∀ i ∈ slT t, i ∈ own.map (·.2)) :
    ∀ σ H Q, tE X.K W (evE o (.comp fz own t it cs e)) σ H Q → tLc (tI X.K W (evI o it)) (tG X.K WF (slT t) (asT o t)) (tT X.K WF (evAll o cs)) (tE X.K WF (evE o e)) (own.map (·.2)) σ H Q := by
  intro σ H Q ⟨z, f, ρ, S, rep, fin⟩
  refine ⟨z, f, ρ, S, rep, (Fin.bind fin).mono fun J H1 ⟨f1, S1, p, st1, r1, wk, fi⟩ => ?_⟩
  obtain ⟨g, items⟩ := p
  intro D hD
  generalize hvs : own.map (·.2) = vs0 at *
  have fi : Fin (rV X.K z) X.K z W f1 σ ρ H1 (M.bind (fun S => (compL (fun d ρ S => asT o t d ρ S) (fun ρ => evAll o cs ρ) (fun ρ => evE o e ρ) (wipeE ρ vs0) g [] items S).map fun p => Res.ok p.1 p.2 : M (List Wk.D)) (fun ds => mkL fz ds) S1) Q := fi
  unfold M.bind at fi
  cases hc : compL (fun d ρ S => asT o t d ρ S) (fun ρ => evAll o cs ρ) (fun ρ => evE o e ρ) (wipeE ρ vs0) g [] items S1 with
  | none => simp only [hc, Option.map_none] at fi; exact fi.elim
  | some q =>
    obtain ⟨dsF, SF⟩ := q
    simp only [hc, Option.map_some] at fi
    have nDz : D ∉ z := fun h => r1.s.zt D h hD
    refine ⟨fun i m H' => ∃ f' S' acc vs, Step f1 H1 f' H' ∧ RepS X.K (D :: z) f' H' S' ∧ H' D = some (.lst vs) ∧ RepVs X.K (D :: z) f' H' acc vs ∧ i ≤ items.length ∧ m = items.length - i ∧
      compL (fun d ρ S => asT o t d ρ S) (fun ρ => evAll o cs ρ) (fun ρ => evE o e ρ) (wipeE ρ vs0) g acc (items.drop i) S' = some (dsF, SF), ⟨items.length, f1, S1, [], [], ?_, ?_, upd_same, RepVs.nil_iff, Nat.zero_le _, rfl, hc⟩, ?_⟩
    · exact (r1.refl.over hD _)
    · refine r1.s.mv ⟨⟨[], by simp, by simp⟩, fun a u e _ _ => by rw [upd_ne (ne_of_none e hD)]; exact e, fun a h n => ?_⟩ (fun a ha => ?_) fun a ha => ?_
      · rcases List.mem_cons.mp h with q | q
        · rw [q]; exact hD
        · exact absurd q n
      · rw [upd_ne fun q => r1.s.trk a ha (by rw [q]; exact hD)]
      · rcases List.mem_cons.mp ha with q | q
        · rw [q, upd_same]; exact fun z => nomatch z
        · exact some_put (r1.s.zt a q)
    · rintro i m H' ⟨f', S', acc, vs, st, rs, hDv, racc, hi, rfl, hcl⟩
      have mg : Mg z f1 H1 (D :: z) f' H' := Mg.under st hD
      have re : RepE X.K (D :: z) f' H' σ ρ := r1.e.mg mg
      have nDf : D ∉ f' := rs.zf D (List.mem_cons_self ..)
      by_cases hlt : i < items.length
      · have hd : items.drop i = items[i] :: items.drop (i + 1) := (List.getElem_cons_drop hlt).symm
        rw [hd] at hcl
        unfold compL at hcl
        by_cases hst : still g S'
        · rw [if_pos hst] at hcl
          obtain ⟨hgo, hy⟩ := (wk (D :: z) f' H' S' mg rs hst).1 i items[i] (List.getElem?_eq_getElem hlt)
          refine .inr ⟨hgo, fun H'' => ∃ f' S' acc vs, Step f1 H1 f' H'' ∧ RepS X.K (D :: z) f' H'' S' ∧ H'' D = some (.lst vs) ∧ RepVs X.K (D :: z) f' H'' acc vs ∧
            compL (fun d ρ S => asT o t d ρ S) (fun ρ => evAll o cs ρ) (fun ρ => evE o e ρ) (wipeE ρ vs0) g acc (items.drop (i + 1)) S' = some (dsF, SF), fun H'' ⟨f2, S2, acc2, vs2, a1, a2, a3, a4, a5⟩ => ⟨items.length - (i + 1), by omega, f2, S2, acc2, vs2, a1, a2, a3, a4, hlt, rfl, a5⟩, fun x H2 hyl => ?_⟩
          obtain ⟨stY, repY, rx⟩ := hy x H2 hyl
          have rY := repY (wipe σ vs0) (wipeE ρ vs0) ⟨rs, re.wipe vs0⟩
          refine ⟨D :: z, f', wipeE ρ vs0, S', items[i], rY, rx, ?_⟩
          cases ha : asT o t items[i] (wipeE ρ vs0) S' with
          | none => simp only [ha] at hcl; cases hcl
          | some rs1 =>
            simp only [ha] at hcl
            cases rs1 with
            | ex _ _ _ => cases hcl
            | ok ρ1 S1' fl =>
              cases fl with
              | nx =>
                refine fun f3 H3 σ3 st3 r3 same => ⟨(wipe_same same.1 fun j hj => same.2 j fun q => hj (hsl j q)).trans (wipe_same (wipe_length _ _) fun j hj => wipe_out hj), ?_⟩
                refine ⟨D :: z, f3, ρ1, S1', r3, ?_⟩
                have stA : Step f' H' f3 H3 := stY.trans st3
                cases hb : evAll o cs ρ1 S1' with
                | none => simp only [hb] at hcl; cases hcl
                | some rb =>
                  simp only [hb] at hcl
                  cases rb with
                  | ex _ _ => cases hcl
                  | ok b S2 =>
                    intro f4 H4 b' st4 r4 eb
                    have eb : b = b' := eb
                    rw [← eb]
                    have stB : Step f' H' f4 H4 := stA.trans st4
                    cases b with
                    | false =>
                      rw [if_neg Bool.false_ne_true]
                      exact ⟨f4, S2, acc, vs, st.trans stB, r4.s, stB.keep D _ hDv nDf, racc.mv stB.mv, hcl⟩
                    | true =>
                      rw [if_pos rfl]
                      refine ⟨D :: z, f4, ρ1, S2, r4, ?_⟩
                      have hcl : (match evE o e ρ1 S2 with
                        | some (.ok y S3) => if lenOk (acc.length + 1) = true then compL (fun d ρ S => asT o t d ρ S) (fun ρ => evAll o cs ρ) (fun ρ => evE o e ρ) (wipeE ρ vs0) g (acc ++ [y]) (items.drop (i + 1)) S3 else none
                        | _ => none) = some (dsF, SF) := hcl
                      cases he : evE o e ρ1 S2 with
                      | none => simp only [he] at hcl; cases hcl
                      | some re5 =>
                        simp only [he] at hcl
                        cases re5 with
                        | ex _ _ => cases hcl
                        | ok y S3 =>
                          intro f5 H5 yv st5 r5 rv5
                          have stC : Step f' H' f5 H5 := stB.trans st5
                          have hD5 : H5 D = some (.lst vs) := stC.keep D _ hDv nDf
                          have nD5 : D ∉ f5 := r5.s.zf D (List.mem_cons_self ..)
                          by_cases hl : lenOk (acc.length + 1) = true
                          · have hcl : (if lenOk (acc.length + 1) = true then compL (fun d ρ S => asT o t d ρ S) (fun ρ => evAll o cs ρ) (fun ρ => evE o e ρ) (wipeE ρ vs0) g (acc ++ [y]) (items.drop (i + 1)) S3 else none) = some (dsF, SF) := hcl
                            rw [if_pos hl] at hcl
                            have mu : Mv (D :: z) f5 H5 (D :: z) f5 (upd H5 D (.lst (vs ++ [yv]))) := ⟨⟨[], by simp, by simp⟩, fun a u e n1 n2 => by rw [upd_ne fun q => n1 (by rw [q]; exact List.mem_cons_self ..)]; exact e, fun a h n => absurd h n⟩
                            refine ⟨vs, hD5, by rw [← racc.length]; exact lt_line hl, f5, S3, acc ++ [y], vs ++ [yv], (st.trans stC).over hD _, ?_, upd_same, ((racc.mv stC.mv).mv mu).append (RepVs.cons (rv5.mv mu) RepVs.nil_iff), hcl⟩
                            exact r5.s.mv mu (fun a ha => by rw [upd_ne fun q => nD5 (by rw [← q]; exact ha)]) fun a ha => some_put (r5.s.zt a ha)
                          · have hcl : (if lenOk (acc.length + 1) = true then compL (fun d ρ S => asT o t d ρ S) (fun ρ => evAll o cs ρ) (fun ρ => evE o e ρ) (wipeE ρ vs0) g (acc ++ [y]) (items.drop (i + 1)) S3 else none) = some (dsF, SF) := hcl
                            rw [if_neg hl] at hcl
                            cases hcl
              | _ => cases hcl
        · rw [if_neg hst] at hcl
          cases hcl
      · have e : i = items.length := by omega
        rw [e, List.drop_length] at hcl
        unfold compL at hcl
        by_cases hst : still g S'
        · rw [if_pos hst] at hcl
          have e1 := Option.some.inj hcl
          have e2 : acc = dsF := congrArg Prod.fst e1
          have e3 : S' = SF := congrArg Prod.snd e1
          rw [← e2, ← e3] at fi
          refine .inl ⟨by rw [e]; exact (wk (D :: z) f' H' S' mg rs hst).2, ?_⟩
          unfold mkL at fi
          by_cases hl : lenOk acc.length = true
          · rw [if_pos hl] at fi
            cases fz with
            | true =>
              obtain ⟨q1, q2⟩ := rs.pop
              refine fi f' H' _ st ⟨q1, r1.e.mg st.mv.mg⟩ ?_
              show RepV X.K z f' H' (.lst acc) (.ref D)
              simp only [RepV]
              exact ⟨D, vs, rfl, ⟨hDv, nDz, nDf⟩, racc.mg q2⟩
            | false =>
              obtain ⟨q1, q2⟩ := rs.join nDz hDv racc
              have st' : Step f1 H1 (f' ++ [D]) H' := ⟨by
                obtain ⟨g', e1, e2⟩ := st.ext
                refine ⟨g' ++ [D], by rw [e1, List.append_assoc], fun a ha => ?_⟩
                rcases List.mem_append.mp ha with q | q
                · exact e2 a q
                · rw [List.mem_singleton.mp q]; exact hD, st.keep, fun a ha => by
                rcases List.mem_append.mp ha with q | q
                · exact st.trk a q
                · rw [List.mem_singleton.mp q, hDv]; exact fun z => nomatch z⟩
              refine fi (f' ++ [D]) H' _ st' ⟨q1, r1.e.mg st'.mv.mg⟩ ?_
              show RepV X.K z (f' ++ [D]) H' (.ref S'.length) (.ref D)
              simp only [RepV]
              refine ⟨D, rfl, ?_⟩
              rw [← rs.len, List.getElem?_append_right (Nat.le_refl _), Nat.sub_self] <;> rfl
          · rw [if_neg hl] at fi
            exact fi.elim
        · rw [if_neg hst] at hcl
          cases hcl
end
end Wk
end WkComp_text

section WkStat_text
set_option Elab.async false
set_option linter.all false
set_option maxRecDepth 100000
set_option maxHeartbeats 4000000
/-! WkStat: calls, the methods of lists, statements. -/
namespace Wk
open PySem PySem.Spec PyProof.Rows L2 StX

section
variable {o : Ora} {n : Nat} {s : Sc} {X : Cx} {W : WX}
theorem noCall_base {e : Expr} {env : Env} {a : Str} (h : noCall e = true) : attributeBase e a env (eval e env) = eval e env := by
  cases e <;> first | exact absurd h Bool.false_ne_true | rfl
theorem lm_pre {K : PySem.W.Frag} {z f : List Addr} {H : Hp} {σ : L2.St} {ρ : Env'} {S : Store} {β : Type} {α : Type} {R : RR α β} {Q : β → Hp → Prop} {k : Unit → M α} {d : D} {v : V} (r : RepS K z f H S) (rv : RepV K z f H d v)
    (fi : Fin R K z W f σ ρ H ((isLs d >>= k) S) Q) : tyV K "list" v H ∧ Fin R K z W f σ ρ H (k () S) Q := by
  obtain ⟨ds, e, fi⟩ := Fin.mapB (m := isLs d) (o := ((toR d).bind fun l => atS S l).map fun _ => ()) (by unfold isLs; cases (toR d).bind fun l => atS S l <;> rfl) fi
  obtain ⟨ds, e, _⟩ := Option.map_eq_some_iff.mp e
  obtain ⟨l, e1, e2⟩ := Option.bind_eq_some_iff.mp e
  rw [toR_eq e1] at rv
  obtain ⟨a, vs, rfl, _, hH, _⟩ := atS_rep r rv e2
  exact ⟨.inl ⟨rfl, vs, SqL.of hH⟩, fi⟩
theorem lm_slot (m : LM) : ∃ id, lmId m = id ∧ Slot "list" (lmName m) id ∧ typeOf (.builtin id) = pure (.type "method_descriptor") := by
  cases m with
  | append => exact ⟨_, rfl, F.slot_list_append, F.type_list_append⟩
  | pop => exact ⟨_, rfl, F.slot_list_pop, F.type_list_pop⟩
  | popAt => exact ⟨_, rfl, F.slot_list_pop, F.type_list_pop⟩
theorem so_lm {m : LM} {a : E} {xs : A} {ea : Expr} {es : List Expr} {ap cp : Pos} (hl : (ap.endLine == cp.line) = true) (hb : noCall ea = true) (hp : es.all noStar = true) (hn : es.length < 20) (ha : PE X ea (tE X.K W (evE o a))) (h : PA X es (tA X.K W (evA o xs))) (hA : es = [] → xs = .nil) :
    PE X (.Call (.Attribute ea (lmName m) ap) es [] cp) (tE X.K W (evE o (.lm m a xs))) := by
  obtain ⟨id, hid, slot, ty⟩ := lm_slot m
  cases es with
  | nil =>
    refine PEimp (pe_bm0 F.plainAttrs_list slot ty (by rw [← hid]; exact mt_lm m) ha (noCall_base hb) hl) fun σ H Q ⟨z, f, ρ, S, rep, fin⟩ => seqE rep fin fun f1 H1 S1 d v st1 r1 rv fi1 => ?_
    obtain ⟨q1, fi⟩ := lm_pre r1.s rv fi1
    rw [hA rfl] at fi
    obtain ⟨a', vs, _, _, q⟩ := lm_fin r1 rv RepVs.nil_iff (show Fin (rV X.K z) X.K z W f1 σ ρ H1 (lmD m d [] S1) Q from fi)
    exact ⟨q1, q⟩
  | cons e es =>
    obtain ⟨h1, h2⟩ := Bool.and_eq_true_iff.mp (show (noStar e && es.all noStar) = true from hp)
    have hfew : ((backTo cp (starEach (e :: es) X.env)).all (fun x => !x.1) && (backToKw cp (keywordEach [] X.env)).all (fun x => x.1.isSome) && decide ((e :: es).length + ([] : List Keyword).length + (if ([] : List Keyword).isEmpty then 0 else 1) < 30)) = true := by
      rw [plain_all hp]
      have : (e :: es).length < 20 := hn
      simp only [List.length_nil, List.isEmpty_nil, if_true, Bool.true_and]
      exact (Bool.and_eq_true_iff.mpr ⟨rfl, decide_eq_true (by omega)⟩)
    refine PEimp (pe_bm F.plainAttrs_list slot ty (by rw [← hid]; exact mt_lm m) ha h (noCall_base hb) hfew hl (plain_star h1) (plain_any h2)) fun σ H Q ⟨z, f, ρ, S, rep, fin⟩ => seqE rep fin fun f1 H1 S1 d v st1 r1 rv fi1 => ?_
    obtain ⟨q1, fi⟩ := lm_pre r1.s rv fi1
    refine ⟨q1, seqA r1 fi fun f2 H2 S2 es w st2 r2 rw' fi2 => ?_⟩
    obtain ⟨a', vs, _, _, q⟩ := lm_fin r2 (rv.mv st2.mv) rw' fi2
    exact q
/-! calls of the program's own functions -/
theorem call_fin {g : List D → List (Str × D) → M D} {z f : List Addr} {H : Hp} {σ : L2.St} {ρ : Env'} {S : Store} {ds : List D} {vs : List V} {kd : List (Str × D)} {kv : List (Str × V)} {Q : VK} (r : Rep X.K z f H σ ρ S) (rv : RepVs X.K z f H ds vs) (rk : RepKw X.K z f H kd kv)
    (fi : Fin (rV X.K z) X.K z W f σ ρ H (g ds kd S) Q) : SpF X.K g vs kv H Q (WE W σ) := by
  refine ⟨z, f, S, ds, kd, r.s, rv, rk, ?_⟩
  cases e : g ds kd S with
  | none => rw [e] at fi; exact fi
  | some q =>
    rw [e] at fi
    cases q with
    | ok d S' => exact fun f' H' v st rs rv => fi f' H' v st ⟨rs, r.e.mv st.mv⟩ rv
    | ex x S' => exact fun f' H' c dd st rs rx => fi f' H' c dd st ⟨rs, r.e.mv st.mv⟩ rx
theorem run_call {pins : List (Addr × Obj)} {σ : L2.St} {H : Hp} {s1 : Shared} {Q : VK} {fa : Addr} {g : List D → List (Str × D) → M D} {us : List Value} {kws : List (Str × Value)} {vs : List V} {kvs : List (Str × V)} (x : XOk o n s X) (tk : Takes X W)
    (F : FnC X.prog X.w X.K X.mg X.base n fa g) (I : Inv X pins σ H s1) (rv : Vals vs us) (rk : KwRel kvs kws) (q : SpF X.K g vs kvs H Q (WE W σ)) : wpAny (model X.prog X.w) X.A (call (.ref fa) us kws) (EP X pins σ Q) X.xe s1 := by
  refine wpAny_call (codeAny_mono (F X.A X.stack s1 H us kws vs kvs Q (WE W σ) x.room I.env0 rv rk q) fun r s' hq => ?_)
  cases r with
  | error e => exact passAt tk σ pins H s1 e s' I hq
  | ok fl =>
    cases fl with
    | ret u => exact I.after hq
    | next => exact False.elim hq
    | brk => exact False.elim hq
    | cont => exact False.elim hq
theorem so_call (x : XOk o n s X) (tk : Takes X W) {th : Bool} {f : Str} {xs : A} {e : Expr} {es : List Expr} {p pos : Pos} (hf : f ∈ s.fns) (hg : glB s f = true) (hd : (f == ("__debug__" : Str)) = false) (hp : (e :: es).all noStar = true) (h : PA X (e :: es) (tA X.K W (evA o xs))) :
    PE X (.Call (.Name f p) (e :: es) [] pos) (tE X.K W (evE o (.call th f xs .nil))) := by
  obtain ⟨fa, hm, hk, F⟩ := x.facts.call f hf
  obtain ⟨h1, h2⟩ := Bool.and_eq_true_iff.mp (show (noStar e && es.all noStar) = true from hp)
  refine ⟨fun pins s σ H Q I ⟨z, f, ρ, S, rep, fin⟩ => ?_⟩
  refine wpAny_Call_Name_kw (ld_glob I (glB_ok x hg) hm ?_ hd)
  refine PySem.W.callWith_K (h₀ := X.base) I.ok.mod.kin hk (thn (h.run pos pins s σ H _ I (seqA (Q' := fun vs H1 => SpF X.K (o.call th _) vs [] H1 Q (WE W σ)) rep fin fun f1 H1 S1 ds vs st1 r1 rv fi1 => ?_)) fun us s1 ⟨vs, H1, I1, r, q⟩ => ⟨I1.kIn, run_call x tk (F th) I1 r ⟨rfl, .nil⟩ q⟩) (plain_star h1) (plain_any h2)
  exact call_fin r1 rv ⟨rfl, RepVs.nil_iff⟩ fi1
theorem so_call0 (x : XOk o n s X) (tk : Takes X W) {th : Bool} {f : Str} {p pos : Pos} (hf : f ∈ s.fns) (hg : glB s f = true) (hd : (f == ("__debug__" : Str)) = false) :
    PE X (.Call (.Name f p) [] [] pos) (tE X.K W (evE o (.call th f .nil .nil))) := by
  obtain ⟨fa, hm, hk, F⟩ := x.facts.call f hf
  refine ⟨fun pins s σ H Q I ⟨z, f, ρ, S, rep, fin⟩ => ?_⟩
  refine wpAny_Call_Name_kw (ld_glob I (glB_ok x hg) hm ?_ hd)
  refine PySem.W.callWith_K0 I.kIn hk (run_call x tk (F th) I .nil ⟨rfl, .nil⟩ (call_fin (kd := []) (kv := []) rep RepVs.nil_iff ⟨rfl, RepVs.nil_iff⟩ fin))

/-! ### statements -/
theorem FinS.seq {m k : MS} {K : PySem.W.Frag} {z f : List Addr} {H : Hp} {ρ : Env'} {S : Store} {D : Ends} (h : FinS K z W f H (thenS m k ρ S) D) :
    FinS K z W f H (m ρ S) { D with nx := fun σ1 H1 => ∃ f1 ρ1 S1, Rep K z f1 H1 σ1 ρ1 S1 ∧ FinS K z W f1 H1 (k ρ1 S1) D } := by
  unfold thenS at h
  cases q : m ρ S with
  | none => rw [q] at h; exact h
  | some r =>
    rw [q] at h
    cases r with
    | ex x ρ' S' => exact h
    | ok ρ' S' fl =>
      cases fl with
      | nx =>
        have h1 : FinS K z W f H (k ρ' S') D := h
        exact fun f' H' σ' st r2 => ⟨f', ρ', S', r2, h1.from st⟩
      | rt d => exact h
      | bk => exact h
      | ct => exact h
theorem ss_nil : PSs X [] (tS X.K W (evB o .nil)) := PSsimp pss_nil fun D σ H ⟨z, f, ρ, S, rep, fin⟩ => fin f H σ rep.refl rep
theorem ss_cons {a : Wk.S} {r : B} {st : Stmt} {rest : List Stmt} (h1 : PS X st (tS X.K W (evS o a))) (h2 : PSs X rest (tS X.K W (evB o r))) : PSs X (st :: rest) (tS X.K W (evB o (.cons a r))) :=
  PSsimp (pss_cons h1 h2) fun D σ H ⟨z, f, ρ, S, rep, fin⟩ => ⟨z, f, ρ, S, rep, by
    have h := FinS.seq fin
    cases q : evS o a ρ S with
    | none => rw [q] at h; exact h
    | some r =>
      rw [q] at h
      cases r with
      | ex x ρ' S' => exact h
      | ok ρ' S' fl =>
        cases fl with
        | nx => exact fun f' H' σ' st r2 => let ⟨f1, ρ1, S1, r1, fi⟩ := h f' H' σ' st r2; ⟨z, f1, ρ1, S1, r1, fi⟩
        | rt d => exact h
        | bk => exact h
        | ct => exact h⟩
theorem noSwap {e : Expr} {t : Option Expr} {l : Nat} {env : Env} (h : noComp e = true) : swapsWith e t l env = pure false := by
  cases e <;> first | exact absurd h Bool.false_ne_true | rfl
theorem ss_expr {e : E} {x : Expr} {pos : Pos} (hc : noComp x = true) (h : PE X x (tE X.K W (evE o e))) : PS X (.Expr x pos) (tS X.K W (evS o (.expr e))) :=
  PSimp (ps_expr h (noSwap hc)) fun D σ H ⟨z, f, ρ, S, rep, fin⟩ => by
    have fin : FinS X.K z W f H (exS (evE o e) (fun _ ρ S => some (.ok ρ S .nx)) ρ S) D := fin
    have h1 := FinS.exS (σ := σ) (R := rV X.K z) fin
    exact ⟨z, f, ρ, S, rep, h1.mono fun b H1 ⟨f1, S1, a, st, r1, _, fi⟩ => fi f1 H1 σ r1.refl r1⟩
theorem ss_ret {e : E} {x : Expr} {pos : Pos} (h : PE X x (tE X.K W (evE o e))) : PS X (.Return (some x) pos) (tS X.K W (evS o (.ret e))) :=
  PSimp (ps_ret h) fun D σ H ⟨z, f, ρ, S, rep, fin⟩ => by
    have fin : FinS X.K z W f H (exS (evE o e) (fun d ρ S => some (.ok ρ S (.rt d))) ρ S) D := fin
    have h1 := FinS.exS (σ := σ) (R := rV X.K z) fin
    exact ⟨z, f, ρ, S, rep, h1.mono fun b H1 ⟨f1, S1, a, st, r1, rv, fi⟩ => fi f1 H1 σ b r1.refl r1 rv⟩
theorem ss_retN {pos : Pos} : PS X (.Return none pos) (tS X.K W (evS o .retN)) := PSimp ps_retN fun D σ H ⟨z, f, ρ, S, rep, fin⟩ => fin f H σ .non rep.refl rep mI_non
theorem ss_brk {pos : Pos} : PS X (.Break pos) (tS X.K W (evS o .brk)) := PSimp ps_break fun D σ H ⟨z, f, ρ, S, rep, fin⟩ => fin f H σ rep.refl rep
theorem ss_cont {pos : Pos} : PS X (.Continue pos) (tS X.K W (evS o .cont)) := PSimp ps_continue fun D σ H ⟨z, f, ρ, S, rep, fin⟩ => fin f H σ rep.refl rep
theorem ss_pass {pos : Pos} : PS X (.Pass pos) (tS X.K W (evS o .pass)) := PSimp ps_pass fun D σ H ⟨z, f, ρ, S, rep, fin⟩ => fin f H σ rep.refl rep
theorem ss_if {c : E} {a b : B} {ec : Expr} {ea eb : List Stmt} {pos : Pos} (hc : PT X ec (tT X.K W (evT o c))) (ha : PSs X ea (tS X.K W (evB o a))) (hb : PSs X eb (tS X.K W (evB o b))) : PS X (.If ec ea eb pos) (tS X.K W (evS o (.if_ c a b))) :=
  PSimp (ps_if hc ha hb) fun D σ H ⟨z, f, ρ, S, rep, fin⟩ => by
    have fin : FinS X.K z W f H (exS (evT o c) (fun k => match k with | true => evB o a | false => evB o b) ρ S) D := fin
    have h1 := FinS.exS (σ := σ) (R := rEq' Bool) fin
    refine ⟨z, f, ρ, S, rep, h1.mono fun b' H1 ⟨f1, S1, a', st, r1, eb, fi⟩ => ?_⟩
    have eb : a' = b' := eb
    rw [← eb]
    cases a' with
    | true => exact ⟨z, f1, ρ, S1, r1, fi⟩
    | false => exact ⟨z, f1, ρ, S1, r1, fi⟩
theorem FinS.toG {m : MS} {K : PySem.W.Frag} {z f : List Addr} {H : Hp} {σ : L2.St} {ρ : Env'} {S : Store} {D : Ends} {vs : List Nat} (h : FinS K z W f H (onlyNx m ρ S) D) : FinG K z W vs f σ H (m ρ S) D.nx := by
  unfold onlyNx at h
  cases q : m ρ S with
  | none => rw [q] at h; exact h
  | some r =>
    rw [q] at h
    cases r with
    | ex x ρ' S' => exact h
    | ok ρ' S' fl =>
      cases fl with
      | nx => exact fun f' H' σ' st r2 _ => h f' H' σ' st r2
      | rt d => exact h
      | bk => exact h
      | ct => exact h
theorem asg_imp {e : E} {t : T} : ∀ D σ H, tS X.K W (evS o (.asg t e)) D σ H → tAsg (tE X.K W (evE o e)) (tG X.K W (slT t) (asT o t)) D σ H := fun D σ H ⟨z, f, ρ, S, rep, fin⟩ => by
  have fin : FinS X.K z W f H (exS (evE o e) (fun d => onlyNx fun ρ S => asT o t d ρ S) ρ S) D := fin
  have h1 := FinS.exS (σ := σ) (R := rV X.K z) fin
  exact ⟨z, f, ρ, S, rep, h1.mono fun b H1 ⟨f1, S1, a, st, r1, rv, fi⟩ => ⟨z, f1, ρ, S1, a, r1, rv, fi.toG⟩⟩
theorem ss_asg {e : E} {t : T} {x tg : Expr} {pos : Pos} (ht : isT s t tg = true) (h : PE X x (tE X.K W (evE o e))) (hg : PG X tg (tG X.K W (slT t) (asT o t))) (hs : swapsWithSole [tg] x pos.line X.env = pure false) (hw : swappedStores [tg] x X.env = pure none) :
    PS X (.Assign [tg] x pos) (tS X.K W (evS o (.asg t e))) :=
  PSimp (ps_asg h hg hs hw (eachT ht).1) asg_imp
theorem aug_ip {p : BOp} {op : Operator} (ha : augOk p = true) (hop : isBOp p op = true) : PIp X op (fun x y H Q => ∃ i j d, x = .int i ∧ y = .int j ∧ binO p (.int i) (.int j) = some (.int d) ∧ Q (.int d) H) := by
  intro pins s σ H x y v u Q I r1 r2 ⟨i, j, d, e1, e2, e3, q⟩
  cases p with
  | add =>
    cases op <;> first | exact absurd hop Bool.false_ne_true | skip
    have e4 : i + j = d := by
      have : some (D.int (i + j)) = some (D.int d) := e3
      exact D.int.inj (Option.some.inj this)
    exact ip_add pins s σ H x y v u Q I r1 r2 ⟨i, j, e1, e2, by rw [← e4] at q; exact q⟩
  | sub =>
    cases op <;> first | exact absurd hop Bool.false_ne_true | skip
    have e4 : i - j = d := by
      have : some (D.int (i - j)) = some (D.int d) := e3
      exact D.int.inj (Option.some.inj this)
    exact ip_sub pins s σ H x y v u Q I r1 r2 ⟨i, j, e1, e2, by rw [← e4] at q; exact q⟩
  | _ => exact absurd ha Bool.false_ne_true
theorem aug_int {p : BOp} {i j : Int} {d : D} (ha : augOk p = true) (h : binO p (.int i) (.int j) = some d) : ∃ k, d = .int k := by
  cases p with
  | add => exact ⟨i + j, (Option.some.inj (show some (D.int (i + j)) = some d from h)).symm⟩
  | sub => exact ⟨i - j, (Option.some.inj (show some (D.int (i - j)) = some d from h)).symm⟩
  | _ => exact absurd ha Bool.false_ne_true
theorem ss_aug (x : XOk o n s X) {p : BOp} {op : Operator} {i : Nat} {y : Str} {e : E} {ee : Expr} {py pos : Pos} (h1 : atB s i y = true) (h2 : locB s y = true) (h3 : s.sto y = true) (ha : augOk p = true) (hop : isBOp p op = true) (h : PE X ee (tE X.K W (evE o e))) :
    PS X (.AugAssign (.Name y py) op ee pos) (tS X.K W (evS o (.aug i p e))) := by
  refine PSimp (ps_aug (by rw [x.N]; exact x.nd) (atB_ok x h1) (locB_ok x h2) h (aug_ip ha hop) (x.sto y h3)) fun D σ H ⟨z, f, ρ, S, rep, fin⟩ => ?_
  have fin : FinS X.K z W f H (exS (fun ρ => do let x ← varD ρ i; let y ← evE o e ρ; let i ← M.opt (toI x); let j ← M.opt (toI y); binD p (.int i) (.int j)) (fun d ρ S => if i < ρ.length then some (.ok (ρ.set i (some d)) S .nx) else none) ρ S) D := fin
  have h1 := FinS.exS (σ := σ) (R := rV X.K z) fin
  cases e0 : ρ[i]? with
  | none =>
    have e1 : varD ρ i = fun _ => none := by funext S; unfold varD; rw [e0]
    have h2 : Fin (rV X.K z) X.K z W f σ ρ H (M.bind (varD ρ i) _ S) _ := h1
    rw [e1] at h2
    exact h2.elim
  | some dd =>
    cases dd with
    | none =>
      have e1 : varD ρ i = fun _ => none := by funext S; unfold varD; rw [e0]
      have h2 : Fin (rV X.K z) X.K z W f σ ρ H (M.bind (varD ρ i) _ S) _ := h1
      rw [e1] at h2
      exact h2.elim
    | some d =>
      have e1 : varD ρ i = M.ret d := by funext S; unfold varD; rw [e0]; rfl
      have h2 : Fin (rV X.K z) X.K z W f σ ρ H (M.bind (varD ρ i) _ S) _ := h1
      rw [e1] at h2
      obtain ⟨v, ev, rv⟩ := rep.e.get i d e0
      refine ⟨v, ev, seqE rep h2 fun f1 H1 S1 d1 v1 st1 r1 rv1 fi1 => ?_⟩
      obtain ⟨a, ea, fi⟩ := Fin.opt fi1
      obtain ⟨b, eb, fi⟩ := Fin.opt fi
      obtain ⟨c, ec, fi⟩ := Fin.optE (o := binO p (.int a) (.int b)) fi
      obtain ⟨k, rfl⟩ := aug_int ha ec
      rw [toI_eq ea] at rv
      rw [toI_eq eb] at rv1
      refine ⟨a, b, k, rI_int rv, rI_int rv1, ec, ?_⟩
      obtain ⟨f3, S3, a3, st3, r3, q3, fi3⟩ := Fin.here (b := V.int k) fi r1 (mI_int k)
      by_cases hl : i < ρ.length
      · rw [if_pos hl] at fi3
        exact fi3 f3 _ _ r3.refl (r3.set q3)
      · rw [if_neg hl] at fi3
        exact fi3.elim
/-! loops -/
theorem ss_while {c : E} {b : B} {ec : Expr} {eb : List Stmt} {pos : Pos} (hp : PassesOwn (model X.prog X.w) X.A X.env X.xe) (hc : PT X ec (tT X.K W (evT o c))) (hb : PSs X eb (tS X.K W (evB o b))) : PS X (.While ec eb [] pos) (tS X.K W (evS o (.while_ c b))) :=
  PSimp (ps_while hp hc hb) fun D σ H ⟨z, f, ρ, S, rep, fin⟩ => by
    have fin : FinS X.K z W f H (whileF (evT o c) (evB o b) ρ S) D := fin
    unfold whileF at fin
    by_cases hn : ∃ n, (whileN (evT o c) (evB o b) n ρ S).isSome = true
    · rw [dif_pos hn] at fin
      generalize Classical.choose hn = N at fin
      refine ⟨fun m σ' H' => ∃ f' ρ' S', Rep X.K z f' H' σ' ρ' S' ∧ FinS X.K z W f' H' (whileN (evT o c) (evB o b) m ρ' S') D, ⟨N, f, ρ, S, rep, fin⟩, fun m σ' H' ⟨f', ρ', S', r, fi⟩ => ?_⟩
      cases m with
      | zero => exact fi.elim
      | succ m =>
        unfold whileN at fi
        refine ⟨z, f', ρ', S', r, ?_⟩
        cases et : evT o c ρ' S' with
        | none => rw [et] at fi; exact fi
        | some rt =>
          rw [et] at fi
          cases rt with
          | ex x S1 => exact fun f2 H2 cc dd st r2 q => fi f2 H2 σ' cc dd st r2 q
          | ok k S1 =>
            intro f2 H2 k' st2 r2 ek
            have ek : k = k' := ek
            rw [← ek]
            cases k with
            | false =>
              rw [if_neg Bool.false_ne_true]
              exact fi f2 H2 σ' st2 r2
            | true =>
              rw [if_pos rfl]
              refine ⟨fun σ3 H3 => ∃ f3 ρ3 S3, Rep X.K z f3 H3 σ3 ρ3 S3 ∧ FinS X.K z W f3 H3 (whileN (evT o c) (evB o b) m ρ3 S3) D, fun σ3 H3 q => ⟨m, Nat.lt_succ_self m, q⟩, z, f2, ρ', S1, r2, ?_⟩
              have fi := fi.from st2
              cases ebd : evB o b ρ' S1 with
              | none => simp only [ebd] at fi; exact fi
              | some rb =>
                simp only [ebd] at fi
                cases rb with
                | ex x ρ3 S3 => exact fi
                | ok ρ3 S3 fl =>
                  cases fl with
                  | nx => exact fun f4 H4 σ4 st4 r4 => ⟨f4, ρ3, S3, r4, fi.from st4⟩
                  | ct => exact fun f4 H4 σ4 st4 r4 => ⟨f4, ρ3, S3, r4, fi.from st4⟩
                  | bk => exact fi
                  | rt d => exact fi
    · rw [dif_neg hn] at fin
      exact fin.elim
theorem ss_for {t : T} {it : I} {b : B} {tg ei : Expr} {eb : List Stmt} {pos : Pos} (hp : PassesOwn (model X.prog X.w) X.A X.env X.xe) (hc : X.calm = true) (hs : noSet ei = true) (hi : PI X tg ei (tI X.K W (evI o it))) (hg : PG X tg (tG X.K W (slT t) (asT o t))) (hb : PSs X eb (tS X.K W (evB o b))) :
    PS X (.For tg ei eb [] pos) (tS X.K W (evS o (.for_ t it b))) :=
  PSimp (ps_for hp hc hi hg hb (unmark hs)) fun D σ H ⟨z, f, ρ, S, rep, fin⟩ => by
    have fin : FinS X.K z W f H (exS (evI o it) (fun p => forL (fun d ρ S => asT o t d ρ S) (evB o b) p.1 p.2) ρ S) D := fin
    have h1 := FinS.exS (σ := σ) (R := rW X.K z) fin
    refine ⟨z, f, ρ, S, rep, h1.mono fun J H1 ⟨f1, S1, p, st1, r1, wk, fi⟩ => ?_⟩
    obtain ⟨g, items⟩ := p
    have fi : FinS X.K z W f1 H1 (forL (fun d ρ S => asT o t d ρ S) (evB o b) g items ρ S1) D := fi
    refine ⟨fun i m σ' H' => ∃ f' ρ' S', Step f1 H1 f' H' ∧ Rep X.K z f' H' σ' ρ' S' ∧ i ≤ items.length ∧ m = items.length - i ∧ FinS X.K z W f' H' (forL (fun d ρ S => asT o t d ρ S) (evB o b) g (items.drop i) ρ' S') D, ⟨items.length, f1, ρ, S1, r1.refl, r1, Nat.zero_le _, rfl, fi⟩, ?_⟩
    rintro i m σ' H' ⟨f', ρ', S', st, r, hi, rfl, fi⟩
    by_cases hlt : i < items.length
    · have hd : items.drop i = items[i] :: items.drop (i + 1) := (List.getElem_cons_drop hlt).symm
      rw [hd] at fi
      unfold forL at fi
      by_cases hst : still g S'
      · rw [if_pos hst] at fi
        obtain ⟨hgo, hy⟩ := (wk z f' H' S' (st.mv.mg) r.s hst).1 i items[i] (List.getElem?_eq_getElem hlt)
        refine .inr ⟨hgo, fun σ3 H3 => ∃ f' ρ' S', Step f1 H1 f' H3 ∧ Rep X.K z f' H3 σ3 ρ' S' ∧ FinS X.K z W f' H3 (forL (fun d ρ S => asT o t d ρ S) (evB o b) g (items.drop (i + 1)) ρ' S') D, fun σ3 H3 ⟨f3, ρ3, S3, a1, a2, a3⟩ => ⟨items.length - (i + 1), by omega, f3, ρ3, S3, a1, a2, hlt, rfl, a3⟩, fun x H2 hyl => ?_⟩
        obtain ⟨stY, repY, rx⟩ := hy x H2 hyl
        refine ⟨z, f', ρ', S', items[i], repY _ _ r, rx, ?_⟩
        have fi := fi.from stY
        have stI : Step f1 H1 f' H2 := st.trans stY
        cases ha : asT o t items[i] ρ' S' with
        | none => simp only [ha] at fi; exact fi
        | some ra =>
          simp only [ha] at fi
          cases ra with
          | ex x ρ1 S1' => exact fi
          | ok ρ1 S1' fl =>
            cases fl with
            | nx =>
              refine fun f3 H3 σ3 st3 r3 same => ⟨z, f3, ρ1, S1', r3, ?_⟩
              have fi := fi.from st3
              have stJ := stI.trans st3
              cases ebd : evB o b ρ1 S1' with
              | none => simp only [ebd] at fi; exact fi
              | some rb =>
                simp only [ebd] at fi
                cases rb with
                | ex x ρ3 S3 => exact fi
                | ok ρ3 S3 fl =>
                  cases fl with
                  | nx => exact fun f4 H4 σ4 st4 r4 => ⟨f4, ρ3, S3, stJ.trans st4, r4, fi.from st4⟩
                  | ct => exact fun f4 H4 σ4 st4 r4 => ⟨f4, ρ3, S3, stJ.trans st4, r4, fi.from st4⟩
                  | bk => exact fi
                  | rt d => exact fi
            | _ => exact fi
      · rw [if_neg hst] at fi
        exact fi.elim
    · have e : i = items.length := by omega
      rw [e, List.drop_length] at fi
      unfold forL at fi
      by_cases hst : still g S'
      · rw [if_pos hst] at fi
        refine .inl ⟨by rw [e]; exact (wk z f' H' S' (st.mv.mg) r.s hst).2, fi f' H' σ' r.refl r⟩
      · rw [if_neg hst] at fi
        exact fi.elim
end
end Wk
end WkStat_text

section WkAll_text
set_option Elab.async false
set_option linter.all false
set_option maxRecDepth 100000
set_option maxHeartbeats 4000000
/-! WkAll: the small language's runs are the text's runs. -/
namespace Wk
open PySem PySem.Spec PyProof.Rows L2 StX

section
variable {o : Ora} {n : Nat} {s : Sc} {X : Cx} {W : WX}
theorem XOk.blk (x : XOk o n s X) {scope : Scope} {own : List (Str × Nat)} (hb : blkB s.N s.sc scope own = true) (s' : Shared) (H : Hp) (C : Addr) (cl : List (Str × Addr)) (fp : List Addr) : XOk o n (s.blk scope) (X.blk s' H scope (compEnvC scope cl C X.env) fp) := by
  have ok := blkB_ok hb
  refine ⟨x.N, x.nd, ?_, fun y hy => ?_, x.facts, x.room, x.calm, ok.kind, PassesOwn.never⟩
  · show relabel scope X.env = relS scope s.sc
    rw [← x.sc]
    rfl
  · have hy : (decide (scope.names.lookup y = some .local) || decide (scope.names.lookup y = some .cell)) = true := hy
    rcases Bool.or_eq_true_iff.mp hy with q | q
    · exact .inr (lookup_relS_keep (sc := X.env.scope) (by decide) (of_decide_eq_true q))
    · refine .inl ?_
      show (scope.names.lookup y == some .cell) = true
      rw [of_decide_eq_true q] <;> rfl
theorem takesF {X : Cx} : Takes X WF := fun u s' ⟨_, _, _, _, _, _, _, _, _, _, _, _, _, _, _, _, q⟩ => q.elim
theorem blk_ok (x : XOk o n s X) {scope : Scope} {own : List (Str × Nat)} (hb : blkB s.N s.sc scope own = true) : BlkOk X.N X.env.scope scope own := by
  rw [x.N, x.sc]
  exact blkB_ok hb
theorem pts_of {cs : A} {ifs : List Expr} (hl : ifs.length ≤ 1) (hx : isA s cs ifs = true) (h : ∀ e c, cs = .cons e .nil → ifs = [c] → PT X c (tT X.K W (evT o e))) : PTs X ifs (tT X.K W (evAll o cs)) := by
  have imp : ∀ {t : TT}, PTs X ifs t → (∀ σ H Q, tT X.K W (evAll o cs) σ H Q → t σ H Q) → PTs X ifs (tT X.K W (evAll o cs)) := fun h i => ⟨fun pins s σ H Q I q => h.run pins s σ H Q I (i σ H Q q)⟩
  cases ifs with
  | nil =>
    refine imp pts_nil fun σ H Q ⟨z, f, ρ, S, rep, fin⟩ => ?_
    cases cs with
    | nil => exact Fin.here (Fin.pure fin) rep rfl
    | cons _ _ => exact absurd hx Bool.false_ne_true
    | star _ _ => exact absurd hx Bool.false_ne_true
  | cons c r =>
    cases r with
    | cons _ _ => simp only [List.length_cons] at hl; omega
    | nil =>
      cases cs with
      | nil => exact absurd hx Bool.false_ne_true
      | star e r => exact ⟨fun pins s σ H Q I ⟨z, f, ρ, S, rep, fin⟩ => (show False from fin).elim⟩
      | cons e r =>
        obtain ⟨h1, h2⟩ := Bool.and_eq_true_iff.mp (show (isE s e c && isA s r []) = true from hx)
        cases r with
        | cons _ _ => exact absurd h2 Bool.false_ne_true
        | star _ _ => exact absurd h2 Bool.false_ne_true
        | nil =>
          refine imp (pts_one (h e c rfl rfl)) fun σ H Q ⟨z, f, ρ, S, rep, fin⟩ => seqT rep fin fun f1 H1 S1 k st1 r1 fi1 => ?_
          cases k with
          | true => exact Fin.here (Fin.pure fi1) r1 rfl
          | false => exact Fin.here (Fin.pure fi1) r1 rfl
/-! two forms of = with an order of their own -/
theorem swap_ok (x : XOk o n s X) {ts : List Expr} {v : Expr} {k : Nat} {p : Pos} {r : Option (List Str)} (h : swapR s ts v = some r) : swappedStores [.Tuple ts k p] v X.env = pure r := by
  have hk : (X.env.blockKind != .function) = false := by
    unfold Env.blockKind
    rw [x.kind] <;> rfl
  have hl : ∀ id, X.env.kindOf id = s.sc.names.lookup id := fun id => by
    show X.env.scope.names.lookup id = _
    rw [x.sc]
  unfold swapR at h
  unfold swappedStores
  cases v with
  | Tuple vs k2 p2 =>
    simp only [hk, Bool.or_false, hl] at h ⊢
    split at h
    · rename_i c; refine (if_pos c).trans ?_; rw [← Option.some.inj h]
    · rename_i c
      refine (if_neg c).trans ?_
      split at h
      · rename_i c; refine (if_pos c).trans ?_; rw [← Option.some.inj h]
      · rename_i c
        refine (if_neg c).trans ?_
        split at h
        · rename_i c; refine (if_pos c).trans ?_; rw [← Option.some.inj h]
        · rename_i c
          refine (if_neg c).trans ?_
          split at h
          · rename_i c; refine (if_pos c).trans ?_; rw [← Option.some.inj h]
          · rename_i c
            refine (if_neg c).trans ?_
            split at h
            · cases h
            · rename_i c; refine (if_neg c).trans ?_; rw [← Option.some.inj h] <;> rfl
  | _ => rw [← Option.some.inj h] <;> rfl
end
end Wk
end WkAll_text

section WkMain_text
set_option Elab.async false
set_option linter.all false
set_option maxRecDepth 100000
set_option maxHeartbeats 4000000
/-! WkMain: the one theorem, by recursion on the small tree. -/
namespace Wk
open PySem PySem.Spec PyProof.Rows L2 StX

section
variable {o : Ora} {n : Nat} {s : Sc} {X : Cx} {W : WX}
/-- a display of a tuple whose pair is taken apart at once -/
theorem FinS.tupS {K : PySem.W.Frag} {z f : List Addr} {H : Hp} {σ : L2.St} {ρ : Env'} {S : Store} {D : Ends} {xs : A} {k : Wk.D → MS} (h : FinS K z W f H (Wk.exS (evE o (.tup xs)) k ρ S) D) :
    Fin (rVs K z) K z W f σ ρ H (evA o xs ρ S) (fun vs H1 => ∃ f1 S1 ds, Step f H f1 H1 ∧ Rep K z f1 H1 σ ρ S1 ∧ RepVs K z f1 H1 ds vs ∧ FinS K z W f1 H1 (k (.tup ds) ρ S1) D) := by
  have h : FinS K z W f H (Wk.exS (fun ρ => M.bind (evA o xs ρ) mkT) k ρ S) D := h
  unfold Wk.exS M.bind at h
  cases q : evA o xs ρ S with
  | none => simp only [q] at h; exact h
  | some r =>
    simp only [q] at h
    cases r with
    | ex x S' => exact fun f' H' c dd st r rx => h f' H' σ c dd st r rx
    | ok ds S' =>
      simp only [mkT] at h
      by_cases hl : lenOk ds.length = true
      · rw [if_pos hl] at h
        exact fun f' H' vs st r rv => ⟨f', S', ds, st, r, rv, h.from st⟩
      · rw [if_neg hl] at h
        exact h.elim
theorem ss_pair (x : XOk o n s X) {xs : A} {a b : Expr} {i j : Nat} {y w : Str} {py pw pt pt2 pos : Pos} {kt k2 : Nat} {ns : List Str} (hyT : isT s (.nm i) (.Name y py) = true) (hwT : isT s (.nm j) (.Name w pw) = true)
    (hp : isPair s [.Name y py, .Name w pw] (.Tuple [a, b] k2 pt2) ns = true) (hw : swapR s [.Name y py, .Name w pw] (.Tuple [a, b] k2 pt2) = some (some ns)) (ha : PA X [a, b] (tA X.K W (evA o xs))) :
    PS X (.Assign [.Tuple [.Name y py, .Name w pw] kt pt] (.Tuple [a, b] k2 pt2) pos) (tS X.K W (evS o (.asg (.tp (.cons (.nm i) (.cons (.nm j) .nil))) (.tup xs)))) := by
  obtain ⟨g1, g⟩ := Bool.and_eq_true_iff.mp (show (atB s i y && (locB s y && s.sto y)) = true from hyT)
  obtain ⟨g2, g⟩ := Bool.and_eq_true_iff.mp (show (atB s j w && (locB s w && s.sto w)) = true from hwT)
  have hns : ∃ p q, ns = [p, q] := by
    cases ns with
    | nil => exact absurd hp Bool.false_ne_true
    | cons p r => cases r with
      | nil => exact absurd hp Bool.false_ne_true
      | cons q r => cases r with
        | nil => exact ⟨p, q, rfl⟩
        | cons _ _ => exact absurd hp Bool.false_ne_true
  obtain ⟨p, q, rfl⟩ := hns
  obtain ⟨e1, hp⟩ := Bool.and_eq_true_iff.mp (show (decide (y = p) && (decide (w = q) && (decide (y ≠ w) && (decide (s.sc.names.lookup y = some .local) && decide (s.sc.names.lookup w = some .local))))) = true from hp)
  obtain ⟨e2, hp⟩ := Bool.and_eq_true_iff.mp hp
  obtain ⟨e3, hp⟩ := Bool.and_eq_true_iff.mp hp
  obtain ⟨e4, e5⟩ := Bool.and_eq_true_iff.mp hp
  have e1 := of_decide_eq_true e1
  have e2 := of_decide_eq_true e2
  have e3 := of_decide_eq_true e3
  have e4 := of_decide_eq_true e4
  have e5 := of_decide_eq_true e5
  rw [← e1, ← e2] at hw
  have hsw := swap_ok (k := kt) (p := pt) x hw
  have hij : i ≠ j := fun q => e3 (by
    have a1 := of_decide_eq_true g1
    have a2 := of_decide_eq_true g2
    rw [q, a2] at a1
    exact (Option.some.inj a1).symm)
  refine PSimp (ps_par x.calm (by rw [x.N]; exact x.nd) (atB_ok x g1) (atB_ok x g2) hij (by rw [x.sc]; exact e4) (by rw [x.sc]; exact e5) ha hsw) fun D σ H ⟨z, f, ρ, S, rep, fin⟩ => ?_
  refine ⟨z, f, ρ, S, rep, (FinS.tupS (show FinS X.K z W f H (Wk.exS (evE o (.tup xs)) (fun d => onlyNx fun ρ S => asT o (.tp (.cons (.nm i) (.cons (.nm j) .nil))) d ρ S) ρ S) D from fin)).mono fun vs H1 ⟨f1, S1, ds, st, r1, rv, fi⟩ => ?_⟩
  cases ds with
  | nil => exact (show False from fi).elim
  | cons d1 r => cases r with
    | nil => exact (show False from fi).elim
    | cons d2 r => cases r with
      | cons d3 r => exact (show False by
          have fi : FinS X.K z W f1 H1 (onlyNx (fun ρ S => if r.length + 1 + 1 + 1 = 2 then asTs o (.cons (.nm i) (.cons (.nm j) .nil)) (d1 :: d2 :: d3 :: r) ρ S else none) ρ S1) D := fi
          unfold onlyNx at fi
          simp only [show ¬ (r.length + 1 + 1 + 1 = 2) by omega, if_false] at fi
          exact fi).elim
      | nil =>
        obtain ⟨v1, v2, rfl, q1, q2⟩ := rep2 rv
        have fi : FinS X.K z W f1 H1 (onlyNx (fun ρ S => thenS (fun ρ S => if i < ρ.length then some (.ok (ρ.set i (some d1)) S .nx) else none) (fun ρ S => thenS (fun ρ S => if j < ρ.length then some (.ok (ρ.set j (some d2)) S .nx) else none) (fun ρ S => some (.ok ρ S .nx)) ρ S) ρ S) ρ S1) D := fi
        unfold onlyNx thenS at fi
        by_cases h1 : i < ρ.length
        · simp only [h1, if_true] at fi
          by_cases h2 : j < (ρ.set i (some d1)).length
          · simp only [h2, if_true] at fi
            exact ⟨v1, v2, rfl, fi f1 H1 _ r1.refl ((r1.set q1).set q2)⟩
          · simp only [h2, if_false] at fi
            exact fi.elim
        · simp only [h1, if_false] at fi
          exact fi.elim
/-! name = [.. for ..] -/
theorem nm_imp {i : Nat} {v : V} {σ : L2.St} {H : Hp} {Q : L2.St → Hp → Prop} (h : tG X.K W (slT (.nm i)) (asT o (.nm i)) v σ H Q) : gName i v σ H Q := by
  obtain ⟨z, f, ρ, S, d, rep, rv, fin⟩ := h
  have fin : FinG X.K z W [i] f σ H (if i < ρ.length then some (.ok (ρ.set i (some d)) S .nx) else none) Q := fin
  by_cases hl : i < ρ.length
  · rw [if_pos hl] at fin
    refine fin f H _ rep.refl (rep.set rv) ⟨List.length_set, fun j hj => ?_⟩
    rw [List.getElem?_set_ne fun e => hj (by rw [e]; exact List.mem_singleton_self _)]
  · rw [if_neg hl] at fin
    exact fin.elim
theorem ss_setLc (x : XOk o n s X) {i : Nat} {y : Str} {py : Pos} {fz : Bool} {own : List (Str × Nat)} {t : T} {it : I} {cs : A} {e : E} {elt tg iter : Expr} {ifs : List Expr} {scope : Scope} {pos spos : Pos}
    (hy : isT s (.nm i) (.Name y py) = true) (hsl : ∀ i ∈ slT t, i ∈ own.map (·.2)) (hb : blkB s.N s.sc scope own = true) (hs : noSet iter = true) (hi : PI X tg iter (tI X.K W (evI o it)))
    (hg : ∀ (s : Shared) (H : Hp) (C : Addr) (cl : List (Str × Addr)) (fp : List Addr), PG (X.blk s H scope (compEnvC scope cl C X.env) fp) tg (tG X.K WF (slT t) (asT o t)))
    (ht : ∀ (s : Shared) (H : Hp) (C : Addr) (cl : List (Str × Addr)) (fp : List Addr), PTs (X.blk s H scope (compEnvC scope cl C X.env) fp) ifs (tT X.K WF (evAll o cs)))
    (he : ∀ (s : Shared) (H : Hp) (C : Addr) (cl : List (Str × Addr)) (fp : List Addr), PE (X.blk s H scope (compEnvC scope cl C X.env) fp) elt (tE X.K WF (evE o e))) :
    PS X (.Assign [.Name y py] (.ListComp elt [⟨tg, iter, ifs, 0⟩] scope pos) spos) (tS X.K W (evS o (.asg (.nm i) (.comp fz own t it cs e)))) := by
  obtain ⟨g1, g⟩ := Bool.and_eq_true_iff.mp (show (atB s i y && (locB s y && s.sto y)) = true from hy)
  have hN : X.N.Nodup := by rw [x.N]; exact x.nd
  have ok := blk_ok x hb
  by_cases hsw : (X.env.blockKind == .function && X.env.kindOf y == some .local && py.line == pos.line && !(scope.names.any fun (n, k) => n == y && (k == .local || k == .cell))) = true
  · have hyl : X.env.scope.names.lookup y = some .local := by
      simp only [Bool.and_eq_true, beq_iff_eq] at hsw
      exact hsw.1.1.2
    refine PSimp (ps_setLc x.calm hN (atB_ok x g1) hyl (congrArg (pure (f := Sem)) hsw) hi ok hg ht he (unmark hs)) fun D σ H q => ?_
    obtain ⟨z, f, ρ, S, rep, fi⟩ := asg_imp D σ H q
    exact lc_imp hsl σ H _ ⟨z, f, ρ, S, rep, fi.mono fun v H1 q => nm_imp q⟩
  · have hsw' : swapsWithSole [.Name y py] (.ListComp elt [⟨tg, iter, ifs, 0⟩] scope pos) spos.line X.env = pure false := by
      rw [Bool.not_eq_true] at hsw
      exact congrArg (pure (f := Sem)) hsw
    exact ss_asg hy (PEimp (pe_lc x.calm hN hi ok hg ht he (unmark hs)) (lc_imp hsl)) (sg_nm x hy) hsw' (by rfl)
end
end Wk
end WkMain_text

section WkThm_text
set_option Elab.async false
set_option linter.all false
set_option maxRecDepth 100000
set_option maxHeartbeats 8000000
/-! WkThm: the recursion. -/
namespace Wk
open PySem PySem.Spec PyProof.Rows L2 StX

theorem and2 {a b : Bool} (h : (a && b) = true) : a = true ∧ b = true := Bool.and_eq_true_iff.mp h
section
variable {o : Ora} {n : Nat}
mutual
theorem sndE : ∀ (m : E) {s : Sc} {X : Cx} {W : WX} (x : XOk o n s X) (tk : Takes X W) (e : Expr), isE s m e = true → PE X e (tE X.K W (evE o m))
  | .v i, s, X, W, x, tk, e, h => by
    cases e with
    | Name y p => exact so_var x h
    | _ => exact absurd h Bool.false_ne_true
  | .g y, s, X, W, x, tk, e, h => by
    cases e with
    | Name w p =>
      obtain ⟨h1, h2⟩ := and2 (show (decide (y = w) && (glB s y && !(y == ("__debug__" : Str)))) = true from h)
      have h1 := of_decide_eq_true h1
      subst h1
      exact so_glob x h
    | _ => exact absurd h Bool.false_ne_true
  | .cint i, s, X, W, x, tk, e, h => by
    cases e with
    | Constant c k p =>
      cases c with
      | int j => rw [show j = i from (of_decide_eq_true h).symm]; exact so_int
      | _ => exact absurd h Bool.false_ne_true
    | _ => exact absurd h Bool.false_ne_true
  | .cstr i, s, X, W, x, tk, e, h => by
    cases e with
    | Constant c k p =>
      cases c with
      | str j => rw [show j = i from (of_decide_eq_true h).symm]; exact so_str
      | _ => exact absurd h Bool.false_ne_true
    | _ => exact absurd h Bool.false_ne_true
  | .cbl i, s, X, W, x, tk, e, h => by
    cases e with
    | Constant c k p =>
      cases c with
      | bool j => rw [show j = i from (of_decide_eq_true h).symm]; exact so_bl
      | _ => exact absurd h Bool.false_ne_true
    | _ => exact absurd h Bool.false_ne_true
  | .cnon, s, X, W, x, tk, e, h => by
    cases e with
    | Constant c k p =>
      cases c with
      | none => exact so_non
      | _ => exact absurd h Bool.false_ne_true
    | _ => exact absurd h Bool.false_ne_true
  | .bin p a b, s, X, W, x, tk, e, h => by
    cases e with
    | BinOp ea op eb pos =>
      obtain ⟨h1, h⟩ := and2 h
      obtain ⟨h2, h3⟩ := and2 h
      exact so_bin h1 (sndE a x tk ea h2) (sndE b x tk eb h3)
    | _ => exact absurd h Bool.false_ne_true
  | .neg a, s, X, W, x, tk, e, h => by
    cases e with
    | UnaryOp op ea pos =>
      cases op with
      | USub => exact so_neg (sndE a x tk ea h)
      | _ => exact absurd h Bool.false_ne_true
    | _ => exact absurd h Bool.false_ne_true
  | .cmp p a b, s, X, W, x, tk, e, h => by
    cases e with
    | Compare ea ops es pos =>
      match ops, es, h with
      | [op], [eb], h =>
        obtain ⟨h1, h⟩ := and2 h
        obtain ⟨h2, h⟩ := and2 h
        obtain ⟨h3, h4⟩ := and2 h
        exact so_cmp x h1 h4 (sndE a x tk ea h2) (sndE b x tk eb h3)
    | _ => exact absurd h Bool.false_ne_true
  | .chain p q a b c, s, X, W, x, tk, e, h => by
    cases e with
    | Compare ea ops es pos =>
      match ops, es, h with
      | [op, op'], [eb, ec], h =>
        obtain ⟨h1, h⟩ := and2 h
        obtain ⟨g1, g2⟩ := and2 h1
        obtain ⟨h2, h⟩ := and2 h
        obtain ⟨h3, h⟩ := and2 h
        obtain ⟨h4, h5⟩ := and2 h
        exact so_chain x g1 g2 h5 (sndE a x tk ea h2) (sndE b x tk eb h3) (sndE c x tk ec h4)
    | _ => exact absurd h Bool.false_ne_true
  | .and_ xs, s, X, W, x, tk, e, h => by
    cases e with
    | BoolOp op es pos =>
      cases op with
      | And => exact sndAnd xs x tk es h
      | _ => exact absurd h Bool.false_ne_true
    | _ => exact absurd h Bool.false_ne_true
  | .or_ xs, s, X, W, x, tk, e, h => by
    cases e with
    | BoolOp op es pos =>
      cases op with
      | Or => exact sndOr xs x tk es h
      | _ => exact absurd h Bool.false_ne_true
    | _ => exact absurd h Bool.false_ne_true
  | .not_ a, s, X, W, x, tk, e, h => by
    cases e with
    | UnaryOp op ea pos =>
      cases op with
      | Not => exact so_not (sndE a x tk ea h)
      | _ => exact absurd h Bool.false_ne_true
    | _ => exact absurd h Bool.false_ne_true
  | .ife c a b, s, X, W, x, tk, e, h => by
    cases e with
    | IfExp ec ea eb pos =>
      obtain ⟨h1, h⟩ := and2 h
      obtain ⟨h2, h3⟩ := and2 h
      exact so_ife (sndT c x tk ec h1) (sndE a x tk ea h2) (sndE b x tk eb h3)
    | _ => exact absurd h Bool.false_ne_true
  | .tup xs, s, X, W, x, tk, e, h => by
    cases e with
    | Tuple es k pos => exact so_tup (sndA xs x tk es h)
    | _ => exact absurd h Bool.false_ne_true
  | .lst fz xs, s, X, W, x, tk, e, h => by
    cases e with
    | List es pos => exact so_lst (sndA xs x tk es h)
    | _ => exact absurd h Bool.false_ne_true
  | .ix a b, s, X, W, x, tk, e, h => by
    cases e with
    | Subscript ea eb pos =>
      obtain ⟨h1, h⟩ := and2 h
      obtain ⟨h2, h3⟩ := and2 h
      exact so_ix h3 (sndE a x tk ea h1) (sndE b x tk eb h2)
    | _ => exact absurd h Bool.false_ne_true
  | .slL a b, s, X, W, x, tk, e, h => by
    cases e with
    | Subscript ea eb pos =>
      cases eb with
      | Slice lo hi st p2 =>
        match lo, hi, st, h with
        | some lo, none, none, h =>
          obtain ⟨h1, h2⟩ := and2 h
          exact so_slL (sndE a x tk ea h1) (sndE b x tk lo h2)
      | _ => exact absurd h Bool.false_ne_true
    | _ => exact absurd h Bool.false_ne_true
  | .slH a b, s, X, W, x, tk, e, h => by
    cases e with
    | Subscript ea eb pos =>
      cases eb with
      | Slice lo hi st p2 =>
        match lo, hi, st, h with
        | none, some hi, none, h =>
          obtain ⟨h1, h2⟩ := and2 h
          exact so_slH (sndE a x tk ea h1) (sndE b x tk hi h2)
      | _ => exact absurd h Bool.false_ne_true
    | _ => exact absurd h Bool.false_ne_true
  | .slLH a b c, s, X, W, x, tk, e, h => by
    cases e with
    | Subscript ea eb pos =>
      cases eb with
      | Slice lo hi st p2 =>
        match lo, hi, st, h with
        | some lo, some hi, none, h =>
          obtain ⟨h1, h⟩ := and2 h
          obtain ⟨h2, h3⟩ := and2 h
          exact so_slLH (sndE a x tk ea h1) (sndE b x tk lo h2) (sndE c x tk hi h3)
      | _ => exact absurd h Bool.false_ne_true
    | _ => exact absurd h Bool.false_ne_true
  | .comp fz own t it cs el, s, X, W, x, tk, e, h => by
    cases e with
    | ListComp elt gens scope pos =>
      match gens, h with
      | [⟨tg, iter, ifs, as⟩], h =>
        obtain ⟨h0, h⟩ := and2 (show ((decide (as = 0) && ((slT t).all (fun i => decide (i ∈ own.map (·.2))) && decide (ifs.length ≤ 1))) && (blkB s.N s.sc scope own && (noSet iter && (isI s it tg iter && (isT (s.blk scope) t tg && (isA (s.blk scope) cs ifs && isE (s.blk scope) el elt)))))) = true from h)
        obtain ⟨g0, g⟩ := and2 h0
        obtain ⟨g1, g2⟩ := and2 g
        obtain ⟨h1, h⟩ := and2 h
        obtain ⟨h2, h⟩ := and2 h
        obtain ⟨h3, h⟩ := and2 h
        obtain ⟨h4, h⟩ := and2 h
        obtain ⟨h5, h6⟩ := and2 h
        have g0 := of_decide_eq_true g0
        subst g0
        have hsl : ∀ i ∈ slT t, i ∈ own.map (·.2) := fun i hi => of_decide_eq_true (List.all_eq_true.mp g1 i hi)
        exact PEimp (pe_lc x.calm (by rw [x.N]; exact x.nd) (sndI it x tk tg iter h3) (blk_ok x h1) (fun s' H C cl fp => sndG t (x.blk h1 s' H C cl fp) takesF tg h4)
          (fun s' H C cl fp => pts_of (of_decide_eq_true g2) h5 (sndPT cs (x.blk h1 s' H C cl fp) takesF ifs h5)) (fun s' H C cl fp => sndE el (x.blk h1 s' H C cl fp) takesF elt h6) (unmark h2)) (lc_imp hsl)
    | _ => exact absurd h Bool.false_ne_true
  | .call th f xs ks, s, X, W, x, tk, e, h => by
    cases e with
    | Call fn es kws pos =>
      cases fn with
      | Name g p =>
        match kws, h with
        | [], h =>
          obtain ⟨h0, h⟩ := and2 (show ((kwNil ks && decide (f = g)) && (decide (f ∈ s.fns) && (glB s f && (!(f == ("__debug__" : Str)) && (es.all noStar && isA s xs es))))) = true from h)
          obtain ⟨k0, k1⟩ := and2 h0
          obtain ⟨h1, h⟩ := and2 h
          obtain ⟨h2, h⟩ := and2 h
          obtain ⟨h3, h⟩ := and2 h
          obtain ⟨h4, h5⟩ := and2 h
          have k1 := of_decide_eq_true k1
          subst k1
          have hd : (f == ("__debug__" : Str)) = false := by simpa using h3
          cases ks with
          | cons _ _ _ => exact absurd k0 Bool.false_ne_true
          | nil =>
            cases es with
            | nil =>
              cases xs with
              | nil => exact so_call0 x tk (of_decide_eq_true h1) h2 hd
              | _ => exact absurd h5 Bool.false_ne_true
            | cons e es => exact so_call x tk (of_decide_eq_true h1) h2 hd h4 (sndA xs x tk _ h5)
      | _ => exact absurd h Bool.false_ne_true
    | _ => exact absurd h Bool.false_ne_true
  | .bi b xs, s, X, W, x, tk, e, h => by
    cases e with
    | Call fn es kws pos =>
      cases fn with
      | Name g p =>
        match kws, h with
        | [], h =>
          obtain ⟨h1, h⟩ := and2 (show (decide (biName b = g) && (glB s (biName b) && (es.all noStar && isA s xs es))) = true from h)
          obtain ⟨h2, h⟩ := and2 h
          obtain ⟨h3, h4⟩ := and2 h
          have h1 := of_decide_eq_true h1
          subst h1
          refine so_bi x h2 h3 (sndA xs x tk es h4) fun he ρ S => ?_
          subst he
          cases xs with
          | nil => cases b <;> rfl
          | _ => exact absurd h4 Bool.false_ne_true
      | _ => exact absurd h Bool.false_ne_true
    | _ => exact absurd h Bool.false_ne_true
  | .listOf fz a, s, X, W, x, tk, e, h => by
    cases e with
    | Call fn es kws pos =>
      cases fn with
      | Name g p =>
        match es, kws, h with
        | [ea], [], h =>
          obtain ⟨h1, h⟩ := and2 (show (decide (g = ("list" : Str)) && (glB s "list" && isE s a ea)) = true from h)
          obtain ⟨h2, h3⟩ := and2 h
          have h1 := of_decide_eq_true h1
          subst h1
          exact so_listOf x h2 h3 (sndE a x tk ea h3)
      | _ => exact absurd h Bool.false_ne_true
    | _ => exact absurd h Bool.false_ne_true
  | .rep fz a b, s, X, W, x, tk, e, h => by
    cases e with
    | BinOp ea op eb pos =>
      cases op with
      | Mult =>
        obtain ⟨h2, h3⟩ := and2 h
        exact so_rep (sndE a x tk ea h2) (sndE b x tk eb h3)
      | _ => exact absurd h Bool.false_ne_true
    | _ => exact absurd h Bool.false_ne_true
  | .lm m a xs, s, X, W, x, tk, e, h => by
    cases e with
    | Call fn es kws pos =>
      cases fn with
      | Attribute ea g p =>
        match kws, h with
        | [], h =>
          obtain ⟨h1, h⟩ := and2 (show (decide (g = lmName m) && (((p.endLine == pos.line) && (noCall ea && (es.all noStar && decide (es.length < 20)))) && (isE s a ea && isA s xs es))) = true from h)
          obtain ⟨h2, h⟩ := and2 h
          obtain ⟨g2, h2⟩ := and2 h2
          obtain ⟨g3, h2⟩ := and2 h2
          obtain ⟨g4, g5⟩ := and2 h2
          obtain ⟨h3, h4⟩ := and2 h
          have h1 := of_decide_eq_true h1
          subst h1
          refine so_lm g2 g3 g4 (of_decide_eq_true g5) (sndE a x tk ea h3) (sndA xs x tk es h4) fun he => ?_
          subst he
          cases xs with
          | nil => rfl
          | _ => exact absurd h4 Bool.false_ne_true
      | _ => exact absurd h Bool.false_ne_true
    | _ => exact absurd h Bool.false_ne_true
theorem sndT : ∀ (m : E) {s : Sc} {X : Cx} {W : WX} (x : XOk o n s X) (tk : Takes X W) (e : Expr), isE s m e = true → PT X e (tT X.K W (evT o m))
  | .and_ xs, s, X, W, x, tk, e, h => by
    cases e with
    | BoolOp op es pos =>
      cases op with
      | And => exact (sndAll xs x tk es h).pt
      | _ => exact absurd h Bool.false_ne_true
    | _ => exact absurd h Bool.false_ne_true
  | .or_ xs, s, X, W, x, tk, e, h => by
    cases e with
    | BoolOp op es pos =>
      cases op with
      | Or => exact (sndAny xs x tk es h).pt
      | _ => exact absurd h Bool.false_ne_true
    | _ => exact absurd h Bool.false_ne_true
  | .not_ a, s, X, W, x, tk, e, h => by
    cases e with
    | UnaryOp op ea pos =>
      cases op with
      | Not => exact st_not (sndT a x tk ea h)
      | _ => exact absurd h Bool.false_ne_true
    | _ => exact absurd h Bool.false_ne_true
  | .cmp p a b, s, X, W, x, tk, e, h => by
    cases e with
    | Compare ea ops es pos =>
      match ops, es, h with
      | [op], [eb], h =>
        obtain ⟨h1, h⟩ := and2 h
        obtain ⟨h2, h⟩ := and2 h
        obtain ⟨h3, h4⟩ := and2 h
        exact st_cmp x h1 h4 (sndE a x tk ea h2) (sndE b x tk eb h3)
    | _ => exact absurd h Bool.false_ne_true
  | .chain p q a b c, s, X, W, x, tk, e, h => by
    cases e with
    | Compare ea ops es pos =>
      match ops, es, h with
      | [op, op'], [eb, ec], h =>
        obtain ⟨h1, h⟩ := and2 h
        obtain ⟨g1, g2⟩ := and2 h1
        obtain ⟨h2, h⟩ := and2 h
        obtain ⟨h3, h⟩ := and2 h
        obtain ⟨h4, h5⟩ := and2 h
        exact st_chain x g1 g2 h5 (sndE a x tk ea h2) (sndE b x tk eb h3) (sndE c x tk ec h4)
    | _ => exact absurd h Bool.false_ne_true
  | .v i, s, X, W, x, tk, e, h => by
    cases e with
    | Name y p => exact st_tru (so_var x h) (fun _ => rfl) (fun _ => rfl)
    | _ => exact absurd h Bool.false_ne_true
  | .cbl i, s, X, W, x, tk, e, h => by
    cases e with
    | Constant c k p =>
      cases c with
      | bool j => rw [show j = i from (of_decide_eq_true h).symm]; exact st_bl
      | _ => exact absurd h Bool.false_ne_true
    | _ => exact absurd h Bool.false_ne_true
  | .bi b xs, s, X, W, x, tk, e, h => by
    cases e with
    | Call fn es kws pos =>
      cases fn with
      | Name g p =>
        match kws, h with
        | [], h =>
          obtain ⟨h1, h⟩ := and2 (show (decide (biName b = g) && (glB s (biName b) && (es.all noStar && isA s xs es))) = true from h)
          obtain ⟨h2, h⟩ := and2 h
          obtain ⟨h3, h4⟩ := and2 h
          have h1 := of_decide_eq_true h1
          subst h1
          refine st_tru (so_bi x h2 h3 (sndA xs x tk es h4) fun he ρ S => ?_) (fun ρ => ?_) (fun _ => rfl)
          · subst he
            cases xs with
            | nil => cases b <;> rfl
            | _ => exact absurd h4 Bool.false_ne_true
          · exact (M.assoc (evA o xs ρ) (fun ds => biD b ds) truD).symm
      | _ => exact absurd h Bool.false_ne_true
    | _ => exact absurd h Bool.false_ne_true
  | .call th f xs ks, s, X, W, x, tk, e, h => by
    cases e with
    | Call fn es kws pos =>
      cases fn with
      | Name g p =>
        match kws, h with
        | [], h =>
          obtain ⟨h0, h⟩ := and2 (show ((kwNil ks && decide (f = g)) && (decide (f ∈ s.fns) && (glB s f && (!(f == ("__debug__" : Str)) && (es.all noStar && isA s xs es))))) = true from h)
          obtain ⟨k0, k1⟩ := and2 h0
          obtain ⟨h1, h⟩ := and2 h
          obtain ⟨h2, h⟩ := and2 h
          obtain ⟨h3, h⟩ := and2 h
          obtain ⟨h4, h5⟩ := and2 h
          have k1 := of_decide_eq_true k1
          subst k1
          have hd : (f == ("__debug__" : Str)) = false := by simpa using h3
          cases ks with
          | cons _ _ _ => exact absurd k0 Bool.false_ne_true
          | nil =>
            cases es with
            | nil =>
              cases xs with
              | nil => exact st_tru (so_call0 x tk (of_decide_eq_true h1) h2 hd) (fun _ => rfl) (fun _ => rfl)
              | _ => exact absurd h5 Bool.false_ne_true
            | cons e es => exact st_tru (so_call x tk (of_decide_eq_true h1) h2 hd h4 (sndA xs x tk _ h5)) (fun ρ => (M.assoc (evA o xs ρ) (fun ds => o.call th f ds []) truD).symm) (fun _ => rfl)
      | _ => exact absurd h Bool.false_ne_true
    | _ => exact absurd h Bool.false_ne_true
  | .ix a b, s, X, W, x, tk, e, h => by
    cases e with
    | Subscript ea eb pos =>
      obtain ⟨h1, h⟩ := and2 h
      obtain ⟨h2, h3⟩ := and2 h
      refine st_tru (so_ix h3 (sndE a x tk ea h1) (sndE b x tk eb h2)) (fun ρ => ?_) (fun _ => rfl)
      have e1 : (evE o (.ix a b) ρ >>= truD) = (evE o a ρ >>= fun x => (evE o b ρ >>= fun y => ixD x y) >>= truD) := M.assoc _ _ _
      rw [e1]
      show (evE o a ρ >>= fun x => evE o b ρ >>= fun y => ixD x y >>= truD) = _
      congr 1
      funext x
      exact (M.assoc _ _ _).symm
    | _ => exact absurd h Bool.false_ne_true
  | .g _, s, X, W, x, tk, e, h => pt_fail fun _ _ => rfl
  | .cint _, s, X, W, x, tk, e, h => pt_fail fun _ _ => rfl
  | .cstr _, s, X, W, x, tk, e, h => pt_fail fun _ _ => rfl
  | .cnon, s, X, W, x, tk, e, h => pt_fail fun _ _ => rfl
  | .bin _ _ _, s, X, W, x, tk, e, h => pt_fail fun _ _ => rfl
  | .neg _, s, X, W, x, tk, e, h => pt_fail fun _ _ => rfl
  | .ife _ _ _, s, X, W, x, tk, e, h => pt_fail fun _ _ => rfl
  | .tup _, s, X, W, x, tk, e, h => pt_fail fun _ _ => rfl
  | .lst _ _, s, X, W, x, tk, e, h => pt_fail fun _ _ => rfl
  | .slL _ _, s, X, W, x, tk, e, h => pt_fail fun _ _ => rfl
  | .slH _ _, s, X, W, x, tk, e, h => pt_fail fun _ _ => rfl
  | .slLH _ _ _, s, X, W, x, tk, e, h => pt_fail fun _ _ => rfl
  | .comp _ _ _ _ _ _, s, X, W, x, tk, e, h => pt_fail fun _ _ => rfl
  | .listOf _ _, s, X, W, x, tk, e, h => pt_fail fun _ _ => rfl
  | .rep _ _ _, s, X, W, x, tk, e, h => pt_fail fun _ _ => rfl
  | .lm _ _ _, s, X, W, x, tk, e, h => pt_fail fun _ _ => rfl
theorem sndAll : ∀ (xs : A) {s : Sc} {X : Cx} {W : WX} (x : XOk o n s X) (tk : Takes X W) (es : List Expr) {pos : Pos}, isA s xs es = true → PW X (.BoolOp .And es pos) (tT X.K W (evAll o xs))
  | .nil, s, X, W, x, tk, es, pos, h => by
    cases es with
    | nil => exact st_allN
    | cons _ _ => exact absurd h Bool.false_ne_true
  | .cons e r, s, X, W, x, tk, es, pos, h => by
    cases es with
    | nil => exact absurd h Bool.false_ne_true
    | cons c cs =>
      obtain ⟨h1, h2⟩ := and2 h
      exact st_all (sndT e x tk c h1) (sndAll r x tk cs h2)
  | .star _ _, s, X, W, x, tk, es, pos, h => pw_fail fun _ _ => rfl
theorem sndAny : ∀ (xs : A) {s : Sc} {X : Cx} {W : WX} (x : XOk o n s X) (tk : Takes X W) (es : List Expr) {pos : Pos}, isA s xs es = true → PW X (.BoolOp .Or es pos) (tT X.K W (evAny o xs))
  | .nil, s, X, W, x, tk, es, pos, h => by
    cases es with
    | nil => exact st_anyN
    | cons _ _ => exact absurd h Bool.false_ne_true
  | .cons e r, s, X, W, x, tk, es, pos, h => by
    cases es with
    | nil => exact absurd h Bool.false_ne_true
    | cons c cs =>
      obtain ⟨h1, h2⟩ := and2 h
      exact st_any (sndT e x tk c h1) (sndAny r x tk cs h2)
  | .star _ _, s, X, W, x, tk, es, pos, h => pw_fail fun _ _ => rfl
theorem sndAnd : ∀ (xs : A) {s : Sc} {X : Cx} {W : WX} (x : XOk o n s X) (tk : Takes X W) (es : List Expr) {pos : Pos}, isA s xs es = true → PE X (.BoolOp .And es pos) (tE X.K W (evAnd o xs))
  | .nil, s, X, W, x, tk, es, pos, h => pe_fail fun _ _ => rfl
  | .star _ _, s, X, W, x, tk, es, pos, h => pe_fail fun _ _ => rfl
  | .cons e r, s, X, W, x, tk, es, pos, h => by
    cases es with
    | nil => exact absurd h Bool.false_ne_true
    | cons c cs =>
      obtain ⟨h1, h2⟩ := and2 h
      have ih := fun p => sndAnd r x tk cs (pos := p) h2
      cases r with
      | nil =>
        cases cs with
        | nil => exact so_and1 (sndE e x tk c h1)
        | cons _ _ => exact absurd h2 Bool.false_ne_true
      | cons e2 r2 =>
        cases cs with
        | nil => exact absurd h2 Bool.false_ne_true
        | cons _ _ => exact so_and (sndE e x tk c h1) (ih _)
      | star e2 r2 =>
        cases cs with
        | nil => exact absurd h2 Bool.false_ne_true
        | cons c2 cs2 =>
          refine PEimp (pe_and (sndE e x tk c h1) (ih _)) fun σ H Q ⟨z, f, ρ, S, rep, fin⟩ => seqE rep fin fun f1 H1 S1 d v st1 r1 rv fi1 => ?_
          obtain ⟨i, e', fi⟩ := Fin.opt fi1
          rw [toB_eq e'] at rv
          refine ⟨i, rI_bl rv, ?_⟩
          cases i with
          | true => exact ⟨z, f1, ρ, S1, r1, fi⟩
          | false => exact Fin.here (Fin.pure fi) r1 (mI_bl _)
theorem sndOr : ∀ (xs : A) {s : Sc} {X : Cx} {W : WX} (x : XOk o n s X) (tk : Takes X W) (es : List Expr) {pos : Pos}, isA s xs es = true → PE X (.BoolOp .Or es pos) (tE X.K W (evOr o xs))
  | .nil, s, X, W, x, tk, es, pos, h => pe_fail fun _ _ => rfl
  | .star _ _, s, X, W, x, tk, es, pos, h => pe_fail fun _ _ => rfl
  | .cons e r, s, X, W, x, tk, es, pos, h => by
    cases es with
    | nil => exact absurd h Bool.false_ne_true
    | cons c cs =>
      obtain ⟨h1, h2⟩ := and2 h
      have ih := fun p => sndOr r x tk cs (pos := p) h2
      cases r with
      | nil =>
        cases cs with
        | nil => exact so_or1 (sndE e x tk c h1)
        | cons _ _ => exact absurd h2 Bool.false_ne_true
      | cons e2 r2 =>
        cases cs with
        | nil => exact absurd h2 Bool.false_ne_true
        | cons _ _ => exact so_or (sndE e x tk c h1) (ih _)
      | star e2 r2 =>
        cases cs with
        | nil => exact absurd h2 Bool.false_ne_true
        | cons c2 cs2 =>
          refine PEimp (pe_or (sndE e x tk c h1) (ih _)) fun σ H Q ⟨z, f, ρ, S, rep, fin⟩ => seqE rep fin fun f1 H1 S1 d v st1 r1 rv fi1 => ?_
          obtain ⟨i, e', fi⟩ := Fin.opt fi1
          rw [toB_eq e'] at rv
          refine ⟨i, rI_bl rv, ?_⟩
          cases i with
          | false => exact ⟨z, f1, ρ, S1, r1, fi⟩
          | true => exact Fin.here (Fin.pure fi) r1 (mI_bl _)
theorem sndA : ∀ (xs : A) {s : Sc} {X : Cx} {W : WX} (x : XOk o n s X) (tk : Takes X W) (es : List Expr), isA s xs es = true → PA X es (tA X.K W (evA o xs))
  | .nil, s, X, W, x, tk, es, h => by
    cases es with
    | nil => exact so_nil
    | cons _ _ => exact absurd h Bool.false_ne_true
  | .cons e r, s, X, W, x, tk, es, h => by
    cases es with
    | nil => exact absurd h Bool.false_ne_true
    | cons c cs =>
      obtain ⟨h1, h2⟩ := and2 h
      exact so_cons h1 (sndE e x tk c h1) (sndA r x tk cs h2)
  | .star e r, s, X, W, x, tk, es, h => by
    cases es with
    | nil => exact absurd h Bool.false_ne_true
    | cons c cs =>
      cases c with
      | Starred c p =>
        obtain ⟨h1, h2⟩ := and2 h
        exact so_star (sndE e x tk c h1) (sndA r x tk cs h2)
      | _ => exact absurd h Bool.false_ne_true
theorem sndPT : ∀ (cs : A) {s : Sc} {X : Cx} {W : WX} (x : XOk o n s X) (tk : Takes X W) (ifs : List Expr), isA s cs ifs = true → ∀ e c, cs = .cons e .nil → ifs = [c] → PT X c (tT X.K W (evT o e))
  | .cons e r, s, X, W, x, tk, ifs, h => fun e' c h1 h2 => by
    subst h2
    obtain ⟨g1, g2⟩ := and2 (show (isE s e c && isA s r []) = true from h)
    have q := sndT e x tk c g1
    cases h1
    exact q
  | .nil, s, X, W, x, tk, ifs, h => fun e' c h1 h2 => nomatch h1
  | .star _ _, s, X, W, x, tk, ifs, h => fun e' c h1 h2 => nomatch h1
theorem sndI : ∀ (m : I) {s : Sc} {X : Cx} {W : WX} (x : XOk o n s X) (tk : Takes X W) (tg e : Expr), isI s m tg e = true → PI X tg e (tI X.K W (evI o m))
  | .seq m, s, X, W, x, tk, tg, e, h => si_seq (sndE m x tk e h)
  | .r1 a, s, X, W, x, tk, tg, e, h => by
    cases e with
    | Call fn es kws pos =>
      cases fn with
      | Name g p =>
        match es, kws, h with
        | [ea], [], h =>
          obtain ⟨h1, h⟩ := and2 (show (decide (g = ("range" : Str)) && (glB s "range" && isE s a ea)) = true from h)
          obtain ⟨h2, h3⟩ := and2 h
          have h1 := of_decide_eq_true h1
          subst h1
          exact si_r1 x h2 h3 (sndE a x tk ea h3)
      | _ => exact absurd h Bool.false_ne_true
    | _ => exact absurd h Bool.false_ne_true
  | .r2 a b, s, X, W, x, tk, tg, e, h => by
    cases e with
    | Call fn es kws pos =>
      cases fn with
      | Name g p =>
        match es, kws, h with
        | [ea, eb], [], h =>
          obtain ⟨h1, h⟩ := and2 (show (decide (g = ("range" : Str)) && (glB s "range" && (isE s a ea && isE s b eb))) = true from h)
          obtain ⟨h2, h⟩ := and2 h
          obtain ⟨h3, h4⟩ := and2 h
          have h1 := of_decide_eq_true h1
          subst h1
          exact si_r2 x h2 h3 h4 (sndE a x tk ea h3) (sndE b x tk eb h4)
      | _ => exact absurd h Bool.false_ne_true
    | _ => exact absurd h Bool.false_ne_true
  | .zip a b, s, X, W, x, tk, tg, e, h => by
    cases e with
    | Call fn es kws pos =>
      cases fn with
      | Name g p =>
        match es, kws, h with
        | [ea, eb], [], h =>
          obtain ⟨h0, h⟩ := and2 (show (isTup tg && (decide (g = ("zip" : Str)) && (glB s "zip" && (isE s a ea && isE s b eb)))) = true from h)
          obtain ⟨h1, h⟩ := and2 h
          obtain ⟨h2, h⟩ := and2 h
          obtain ⟨h3, h4⟩ := and2 h
          have h1 := of_decide_eq_true h1
          subst h1
          cases tg with
          | Tuple ts k p => exact si_zip x h2 h3 h4 (sndE a x tk ea h3) (sndE b x tk eb h4)
          | _ => exact absurd h0 Bool.false_ne_true
      | _ => exact absurd h Bool.false_ne_true
    | _ => exact absurd h Bool.false_ne_true
  | .enum a, s, X, W, x, tk, tg, e, h => by
    cases e with
    | Call fn es kws pos =>
      cases fn with
      | Name g p =>
        match es, kws, h with
        | [ea], [], h =>
          obtain ⟨h0, h⟩ := and2 (show (isTup tg && (decide (g = ("enumerate" : Str)) && (glB s "enumerate" && isE s a ea))) = true from h)
          obtain ⟨h1, h⟩ := and2 h
          obtain ⟨h2, h3⟩ := and2 h
          have h1 := of_decide_eq_true h1
          subst h1
          cases tg with
          | Tuple ts k p => exact si_enum x h2 h3 (sndE a x tk ea h3)
          | _ => exact absurd h0 Bool.false_ne_true
      | _ => exact absurd h Bool.false_ne_true
    | _ => exact absurd h Bool.false_ne_true
theorem sndG : ∀ (t : T) {s : Sc} {X : Cx} {W : WX} (x : XOk o n s X) (tk : Takes X W) (e : Expr), isT s t e = true → PG X e (tG X.K W (slT t) (asT o t))
  | .nm i, s, X, W, x, tk, e, h => by
    cases e with
    | Name y p => exact sg_nm x h
    | _ => exact absurd h Bool.false_ne_true
  | .sub a i, s, X, W, x, tk, e, h => by
    cases e with
    | Subscript ea ei p =>
      obtain ⟨h1, h⟩ := and2 h
      obtain ⟨h2, h3⟩ := and2 h
      exact sg_sub h3 (sndE a x tk ea h1) (sndE i x tk ei h2)
    | _ => exact absurd h Bool.false_ne_true
  | .tp ts, s, X, W, x, tk, e, h => by
    cases e with
    | Tuple es k p => exact sg_tp x h (sndGs ts x tk es h)
    | _ => exact absurd h Bool.false_ne_true
theorem sndGs : ∀ (ts : Ts) {s : Sc} {X : Cx} {W : WX} (x : XOk o n s X) (tk : Takes X W) (es : List Expr), isTs s ts es = true → PGs X es (tGs X.K W (slTs ts) (asTs o ts))
  | .nil, s, X, W, x, tk, es, h => by
    cases es with
    | nil => exact sg_nil
    | cons _ _ => exact absurd h Bool.false_ne_true
  | .cons t r, s, X, W, x, tk, es, h => by
    cases es with
    | nil => exact absurd h Bool.false_ne_true
    | cons e es =>
      obtain ⟨h1, h2⟩ := and2 h
      exact sg_cons h1 (sndG t x tk e h1) (sndGs r x tk es h2)
end
end
end Wk
end WkThm_text

section WkFn_text
set_option Elab.async false
set_option linter.all false
set_option maxRecDepth 100000
set_option maxHeartbeats 8000000
/-! WkFn: statements; a def by its body. -/
namespace Wk
open PySem PySem.Spec PyProof.Rows L2 StX

section
variable {o : Ora} {n : Nat}
theorem asgS {s : Sc} {X : Cx} {W : WX} (x : XOk o n s X) (tk : Takes X W) {t : T} {e : E} {tg v : Expr} {pos : Pos} (ht : isT s t tg = true) (he : isE s e v = true) (hst : stoB s tg v = true) : PS X (.Assign [tg] v pos) (tS X.K W (evS o (.asg t e))) := by
  have hp := sndE e x tk v he
  have hg := sndG t x tk tg ht
  cases tg with
  | Name y p =>
    cases t with
    | nm i =>
      cases v with
      | ListComp elt gens scope p2 =>
        cases e with
        | comp fz own t it cs el =>
          match gens, he with
          | [⟨tg, iter, ifs, as⟩], he =>
            obtain ⟨h0, h⟩ := and2 (show ((decide (as = 0) && ((slT t).all (fun i => decide (i ∈ own.map (·.2))) && decide (ifs.length ≤ 1))) && (blkB s.N s.sc scope own && (noSet iter && (isI s it tg iter && (isT (s.blk scope) t tg && (isA (s.blk scope) cs ifs && isE (s.blk scope) el elt)))))) = true from he)
            obtain ⟨g0, g⟩ := and2 h0
            obtain ⟨g1, g2⟩ := and2 g
            obtain ⟨h1, h⟩ := and2 h
            obtain ⟨h2, h⟩ := and2 h
            obtain ⟨h3, h⟩ := and2 h
            obtain ⟨h4, h⟩ := and2 h
            obtain ⟨h5, h6⟩ := and2 h
            have g0 := of_decide_eq_true g0
            subst g0
            have hsl : ∀ i ∈ slT t, i ∈ own.map (·.2) := fun i hi => of_decide_eq_true (List.all_eq_true.mp g1 i hi)
            exact ss_setLc x ht hsl h1 h2 (sndI it x tk tg iter h3) (fun s' H C cl fp => sndG t (x.blk h1 s' H C cl fp) takesF tg h4)
              (fun s' H C cl fp => pts_of (of_decide_eq_true g2) h5 (sndPT cs (x.blk h1 s' H C cl fp) takesF ifs h5)) (fun s' H C cl fp => sndE el (x.blk h1 s' H C cl fp) takesF elt h6)
        | _ => exact absurd he Bool.false_ne_true
      | _ => first | exact absurd hst Bool.false_ne_true | exact ss_asg ht hp hg (by rfl) (by rfl)
    | _ => exact absurd ht Bool.false_ne_true
  | Tuple ts k p =>
    have hst : (match swapR s ts v with
      | some none => true
      | some (some ns) => isPair s ts v ns
      | none => false) = true := hst
    cases hw : swapR s ts v with
    | none => rw [hw] at hst; exact absurd hst Bool.false_ne_true
    | some r =>
      rw [hw] at hst
      cases r with
      | none => exact ss_asg ht hp hg (by cases v <;> rfl) (swap_ok x hw)
      | some ns =>
        have hst : isPair s ts v ns = true := hst
        match ts, v, ns, hst, hw, he, ht with
        | [.Name y py, .Name w pw], .Tuple [a, b] k2 pt2, [a', b'], hst, hw, he, ht =>
          cases e with
          | tup xs =>
            cases t with
            | tp ts =>
              cases ts with
              | nil => exact absurd ht Bool.false_ne_true
              | cons t1 r =>
                obtain ⟨q1, q2⟩ := and2 (show (isT s t1 (.Name y py) && isTs s r [.Name w pw]) = true from ht)
                cases r with
                | nil => exact absurd q2 Bool.false_ne_true
                | cons t2 r =>
                  obtain ⟨q4, q3⟩ := and2 (show (isT s t2 (.Name w pw) && isTs s r []) = true from q2)
                  cases r with
                  | cons _ _ => exact absurd q3 Bool.false_ne_true
                  | nil =>
                    cases t1 with
                    | nm i =>
                      cases t2 with
                      | nm j => exact ss_pair x q1 q4 hst hw (sndA xs x tk _ he)
                      | _ => exact absurd q4 Bool.false_ne_true
                    | _ => exact absurd q1 Bool.false_ne_true
            | _ => exact absurd ht Bool.false_ne_true
          | _ => exact absurd he Bool.false_ne_true
  | Subscript a b p => exact ss_asg ht hp hg (by cases v <;> rfl) (by rfl)
  | _ => exact absurd hst Bool.false_ne_true
mutual
theorem sndS : ∀ (m : Wk.S) {s : Sc} {X : Cx} {W : WX} (x : XOk o n s X) (tk : Takes X W) (st : Stmt), isS s m st = true → PS X st (tS X.K W (evS o m))
  | .expr e, s, X, W, x, tk, st, h => by
    cases st with
    | Expr v p =>
      obtain ⟨h1, h2⟩ := and2 h
      exact ss_expr h2 (sndE e x tk v h1)
    | _ => exact absurd h Bool.false_ne_true
  | .asg t e, s, X, W, x, tk, st, h => by
    cases st with
    | Assign tgs v p =>
      match tgs, h with
      | [tg], h =>
        obtain ⟨h1, h⟩ := and2 h
        obtain ⟨h2, h3⟩ := and2 h
        exact asgS x tk h1 h2 h3
    | _ => exact absurd h Bool.false_ne_true
  | .aug i p e, s, X, W, x, tk, st, h => by
    cases st with
    | AugAssign tg op v pos =>
      cases tg with
      | Name y py =>
        obtain ⟨h1, h⟩ := and2 (show (atB s i y && (locB s y && (s.sto y && ((augOk p && isBOp p op) && isE s e v)))) = true from h)
        obtain ⟨h2, h⟩ := and2 h
        obtain ⟨h3, h⟩ := and2 h
        obtain ⟨h4, h5⟩ := and2 h
        obtain ⟨h6, h7⟩ := and2 h4
        exact ss_aug x h1 h2 h3 h6 h7 (sndE e x tk v h5)
      | _ => exact absurd h Bool.false_ne_true
    | _ => exact absurd h Bool.false_ne_true
  | .if_ c a b, s, X, W, x, tk, st, h => by
    cases st with
    | If ec ea eb p =>
      obtain ⟨h1, h⟩ := and2 h
      obtain ⟨h2, h3⟩ := and2 h
      exact ss_if (sndT c x tk ec h1) (sndB a x tk ea h2) (sndB b x tk eb h3)
    | _ => exact absurd h Bool.false_ne_true
  | .while_ c b, s, X, W, x, tk, st, h => by
    cases st with
    | While ec eb els p =>
      match els, h with
      | [], h =>
        obtain ⟨h1, h2⟩ := and2 h
        exact ss_while x.own (sndT c x tk ec h1) (sndB b x tk eb h2)
    | _ => exact absurd h Bool.false_ne_true
  | .for_ t it b, s, X, W, x, tk, st, h => by
    cases st with
    | For tg ei eb els p =>
      match els, h with
      | [], h =>
        obtain ⟨h1, h⟩ := and2 h
        obtain ⟨h2, h⟩ := and2 h
        obtain ⟨h3, h4⟩ := and2 h
        exact ss_for x.own x.calm h1 (sndI it x tk tg ei h2) (sndG t x tk tg h3) (sndB b x tk eb h4)
    | _ => exact absurd h Bool.false_ne_true
  | .ret e, s, X, W, x, tk, st, h => by
    cases st with
    | Return v p =>
      cases v with
      | some v => exact ss_ret (sndE e x tk v h)
      | none => exact absurd h Bool.false_ne_true
    | _ => exact absurd h Bool.false_ne_true
  | .retN, s, X, W, x, tk, st, h => by
    cases st with
    | Return v p =>
      cases v with
      | none => exact ss_retN
      | some v => exact absurd h Bool.false_ne_true
    | _ => exact absurd h Bool.false_ne_true
  | .brk, s, X, W, x, tk, st, h => by
    cases st with
    | Break p => exact ss_brk
    | _ => exact absurd h Bool.false_ne_true
  | .cont, s, X, W, x, tk, st, h => by
    cases st with
    | Continue p => exact ss_cont
    | _ => exact absurd h Bool.false_ne_true
  | .pass, s, X, W, x, tk, st, h => by
    cases st with
    | Pass p => exact ss_pass
    | _ => exact absurd h Bool.false_ne_true
theorem sndB : ∀ (m : B) {s : Sc} {X : Cx} {W : WX} (x : XOk o n s X) (tk : Takes X W) (sts : List Stmt), isB s m sts = true → PSs X sts (tS X.K W (evB o m))
  | .nil, s, X, W, x, tk, sts, h => by
    cases sts with
    | nil => exact ss_nil
    | cons _ _ => exact absurd h Bool.false_ne_true
  | .cons a r, s, X, W, x, tk, sts, h => by
    cases sts with
    | nil => exact absurd h Bool.false_ne_true
    | cons st sts =>
      obtain ⟨h1, h2⟩ := and2 h
      exact ss_cons (sndS a x tk st h1) (sndB r x tk sts h2)
end
end
end Wk
end WkFn_text

section WkCall_text
set_option Elab.async false
set_option linter.all false
set_option maxRecDepth 100000
set_option maxHeartbeats 4000000
/-! WkCall: what leaves a call (frozen), the evaluator of calls by depth, each def keeps its promise. -/
namespace Wk
open PySem PySem.Spec PyProof.Rows L2 StX

def mapO {α β : Type} (f : α → Option β) : List α → Option (List β)
  | [] => some []
  | a :: r => (f a).bind fun b => (mapO f r).map fun s => b :: s
/-- without places of the store at n or above -/
def frz (T : Nat → Option O) (n : Nat) : Nat → D → Option D
  | 0, _ => none
  | k + 1, d => match d with
    | .tup ds => (mapO (frz T n k) ds).map .tup
    | .lst ds => (mapO (frz T n k) ds).map .lst
    | .rol ds => (mapO (frz T n k) ds).map .rol
    | .obj C ns ds => (mapO (frz T n k) ds).map (.obj C ns)
    | .exc C ns ds => (mapO (frz T n k) ds).map (.exc C ns)
    | .ref l => if l < n then some (.ref l) else match T l with
      | some (.lst ds) => (mapO (frz T n k) ds).map .lst
      | some (.ins C ns ds) => (mapO (frz T n k) ds).map (.obj C ns)
      | none => none
    | d => some d
abbrev deep : Nat := 12
def frzO (T : Nat → Option O) (n : Nat) : O → Option O
  | .lst ds => (mapO (frz T n deep) ds).map .lst
  | .ins C ns ds => (mapO (frz T n deep) ds).map (.ins C ns)
mutual
def noRef : D → Bool
  | .tup ds => noRefs ds
  | .lst ds => noRefs ds
  | .rol ds => noRefs ds
  | .obj _ _ ds => noRefs ds
  | .exc _ _ ds => noRefs ds
  | .ref _ => false
  | _ => true
def noRefs : List D → Bool
  | [] => true
  | d :: ds => noRef d && noRefs ds
end

section
variable {K : PySem.W.Frag} {z1 f1 z2 f2 z f : List Addr} {H H' : Hp} {S : Store}
/-- the sets turn, the heap stands -/
structure Turn2 (T : Nat → Option O) (n : Nat) (z1 f1 z2 f2 : List Addr) (S : Store) : Prop where
  sub : ∀ a, a ∈ z2 ∨ a ∈ f2 → a ∈ z1 ∨ a ∈ f1
  low : ∀ (l : Nat) a, l < n → f1[l]? = some a → f2[l]? = some a
  up : ∀ (l : Nat) o, n ≤ l → T l = some o → S[l]? = some o ∧ ∀ a, f1[l]? = some a → a ∉ z2 ∧ a ∉ f2
theorem mapO_rep {g : D → Option D} : ∀ {ds es : List D} {vs : List V}, RepVs K z1 f1 H ds vs → mapO g ds = some es → (∀ d e v, RepV K z1 f1 H d v → g d = some e → RepV K z2 f2 H e v) → RepVs K z2 f2 H es vs
  | [], es, vs, h, e, _ => by
    have := h.length
    cases vs with
    | nil => rw [← Option.some.inj e]; exact RepVs.nil_iff
    | cons _ _ => cases this
  | d :: ds, es, vs, h, e, i => by
    obtain ⟨v, ws, rfl, h1, h2⟩ := h.uncons
    obtain ⟨b, e1, e2⟩ := Option.bind_eq_some_iff.mp (show ((g d).bind fun b => (mapO g ds).map fun s => b :: s) = some es from e)
    obtain ⟨s, e3, e4⟩ := Option.map_eq_some_iff.mp e2
    rw [← e4]
    exact RepVs.cons (i d b v h1 e1) (mapO_rep h2 e3 i)
theorem frz_rep {T : Nat → Option O} {n : Nat} (t : Turn2 T n z1 f1 z2 f2 S) (r : RepS K z1 f1 H S) : ∀ (k : Nat) (d e : D) (v : V), RepV K z1 f1 H d v → frz T n k d = some e → RepV K z2 f2 H e v
  | 0, _, _, _, _, e => nomatch e
  | k + 1, d, e, v, h, q => by
    have ih := frz_rep t r k
    cases d with
    | non => rw [← Option.some.inj q, rI_non h]; exact mI_non
    | bl b => rw [← Option.some.inj q, rI_bl h]; exact mI_bl _
    | int b => rw [← Option.some.inj q, rI_int h]; exact mI_int _
    | str b => rw [← Option.some.inj q, rI_str h]; exact mI_str _
    | ty b => rw [← Option.some.inj q]; simpa only [RepV] using h
    | cls b => rw [← Option.some.inj q]; simpa only [RepV] using h
    | exc C ns ds => simp only [RepV] at h
    | tup ds =>
      obtain ⟨es, e1, e2⟩ := Option.map_eq_some_iff.mp (show (mapO (frz T n k) ds).map D.tup = some e from q)
      rw [← e2]
      simp only [RepV] at h ⊢
      obtain ⟨a, vs, ea, qa, rv⟩ := h
      exact ⟨a, vs, ea, ⟨qa.1, fun m => qa.2 (t.sub a m)⟩, mapO_rep rv e1 ih⟩
    | rol ds =>
      obtain ⟨es, e1, e2⟩ := Option.map_eq_some_iff.mp (show (mapO (frz T n k) ds).map D.rol = some e from q)
      rw [← e2]
      simp only [RepV] at h ⊢
      obtain ⟨a, vs, ea, qa, rv⟩ := h
      exact ⟨a, vs, ea, ⟨qa.1, fun m => qa.2 (t.sub a m)⟩, mapO_rep rv e1 ih⟩
    | lst ds =>
      obtain ⟨es, e1, e2⟩ := Option.map_eq_some_iff.mp (show (mapO (frz T n k) ds).map D.lst = some e from q)
      rw [← e2]
      simp only [RepV] at h ⊢
      obtain ⟨a, vs, ea, qa, rv⟩ := h
      have no : ¬ (a ∈ z2 ∨ a ∈ f2) := fun m => (t.sub a m).elim qa.2.1 qa.2.2
      exact ⟨a, vs, ea, ⟨qa.1, fun m => no (.inl m), fun m => no (.inr m)⟩, mapO_rep rv e1 ih⟩
    | obj C ns ds =>
      obtain ⟨es, e1, e2⟩ := Option.map_eq_some_iff.mp (show (mapO (frz T n k) ds).map (D.obj C ns) = some e from q)
      rw [← e2]
      simp only [RepV] at h ⊢
      obtain ⟨a, dx, fs, ea, qa, rv⟩ := h
      have no : ¬ (a ∈ z2 ∨ a ∈ f2) := fun m => (t.sub a m).elim qa.2.1.1 qa.2.1.2
      exact ⟨a, dx, fs, ea, ⟨qa.1, ⟨fun m => no (.inl m), fun m => no (.inr m)⟩, qa.2.2⟩, mapO_rep rv e1 ih⟩
    | ref l =>
      have q : (if l < n then some (D.ref l) else match T l with
        | some (.lst ds) => (mapO (frz T n k) ds).map .lst
        | some (.ins C ns ds) => (mapO (frz T n k) ds).map (.obj C ns)
        | none => none) = some e := q
      obtain ⟨a, rfl, hf⟩ := rI_ref h
      by_cases hl : l < n
      · rw [if_pos hl] at q
        rw [← Option.some.inj q]
        simp only [RepV]
        exact ⟨a, rfl, t.low l a hl hf⟩
      · rw [if_neg hl] at q
        cases hT : T l with
        | none => rw [hT] at q; cases q
        | some o =>
          rw [hT] at q
          obtain ⟨hS, hu⟩ := t.up l o (by omega) hT
          have ho := r.obj l a o hf hS
          obtain ⟨n1, n2⟩ := hu a hf
          cases o with
          | lst ds =>
            obtain ⟨es, e1, e2⟩ := Option.map_eq_some_iff.mp q
            obtain ⟨vs, h1, h2⟩ := ho
            rw [← e2]
            simp only [RepV]
            exact ⟨a, vs, rfl, ⟨h1, n1, n2⟩, mapO_rep h2 e1 ih⟩
          | ins C ns ds =>
            obtain ⟨es, e1, e2⟩ := Option.map_eq_some_iff.mp q
            obtain ⟨dx, fs, h1, h2⟩ := ho
            rw [← e2]
            simp only [RepV]
            exact ⟨a, dx, fs, rfl, ⟨h1.1, ⟨n1, n2⟩, h1.2⟩, mapO_rep h2 e1 ih⟩
theorem frz_repX {T : Nat → Option O} {n : Nat} (t : Turn2 T n z1 f1 z2 f2 S) (r : RepS K z1 f1 H S) {k : Nat} {d e : D} {c : Value} {dd : Option Addr} (h : RepX K z1 f1 H d c dd) (q : frz T n k d = some e) : RepX K z2 f2 H e c dd := by
  cases k with
  | zero => cases q
  | succ k =>
    cases d with
    | exc C ns ds =>
      obtain ⟨es, e1, e2⟩ := Option.map_eq_some_iff.mp (show (mapO (frz T n k) ds).map (D.exc C ns) = some e from q)
      rw [← e2]
      obtain ⟨h0, h⟩ := h
      refine ⟨h0, ?_⟩
      rcases h with ⟨h1, h2, h3⟩ | ⟨d', fs, h1, h2, h3, h4⟩
      · rw [h3] at e1
        exact .inl ⟨h1, h2, (Option.some.inj e1).symm⟩
      · have no : ¬ (d' ∈ z2 ∨ d' ∈ f2) := fun m => (t.sub d' m).elim h2.2.1 h2.2.2
        exact .inr ⟨d', fs, h1, ⟨h2.1, fun m => no (.inl m), fun m => no (.inr m)⟩, h3, mapO_rep h4 e1 (frz_rep t r k)⟩
    | _ => exact h.elim
theorem frzO_rep {T : Nat → Option O} {n : Nat} (t : Turn2 T n z1 f1 z2 f2 S) (r : RepS K z1 f1 H S) {a : Addr} {o p : O} (h : RepO K z1 f1 H a o) (q : frzO T n o = some p) : RepO K z2 f2 H a p := by
  cases o with
  | lst ds =>
    obtain ⟨es, e1, e2⟩ := Option.map_eq_some_iff.mp q
    obtain ⟨vs, h1, h2⟩ := h
    rw [← e2]
    exact ⟨vs, h1, mapO_rep h2 e1 (frz_rep t r deep)⟩
  | ins C ns ds =>
    obtain ⟨es, e1, e2⟩ := Option.map_eq_some_iff.mp q
    obtain ⟨dx, fs, h1, h2⟩ := h
    rw [← e2]
    exact ⟨dx, fs, h1, mapO_rep h2 e1 (frz_rep t r deep)⟩
mutual
/-- data without places of the store: the store may be put aside -/
theorem RepV.free : ∀ (d : D) (v : V), noRef d = true → RepV K z f H d v → RepV K (z ++ f) [] H d v
  | .non, _, _, h => by simpa only [RepV] using h
  | .bl _, _, _, h => by simpa only [RepV] using h
  | .int _, _, _, h => by simpa only [RepV] using h
  | .str _, _, _, h => by simpa only [RepV] using h
  | .ty _, _, _, h => by simpa only [RepV] using h
  | .cls _, _, _, h => by simpa only [RepV] using h
  | .tup ds, v, n, h => by
    simp only [RepV] at h ⊢
    obtain ⟨a, vs, e, q, r⟩ := h
    exact ⟨a, vs, e, ⟨q.1, fun m => q.2 (by simpa using m)⟩, RepVs.free ds vs n r⟩
  | .rol ds, v, n, h => by
    simp only [RepV] at h ⊢
    obtain ⟨a, vs, e, q, r⟩ := h
    exact ⟨a, vs, e, ⟨q.1, fun m => q.2 (by simpa using m)⟩, RepVs.free ds vs n r⟩
  | .lst ds, v, n, h => by
    simp only [RepV] at h ⊢
    obtain ⟨a, vs, e, q, r⟩ := h
    exact ⟨a, vs, e, ⟨q.1, by simp only [List.mem_append, not_or]; exact q.2, by simp⟩, RepVs.free ds vs n r⟩
  | .obj C ns ds, v, n, h => by
    simp only [RepV] at h ⊢
    obtain ⟨a, dx, fs, e, q, r⟩ := h
    exact ⟨a, dx, fs, e, ⟨q.1, ⟨by simp only [List.mem_append, not_or]; exact q.2.1, by simp⟩, q.2.2⟩, RepVs.free ds _ n r⟩
  | .exc _ _ _, _, _, h => by simp only [RepV] at h
  | .ref _, _, n, _ => absurd n Bool.false_ne_true
theorem RepVs.free : ∀ (ds : List D) (vs : List V), noRefs ds = true → RepVs K z f H ds vs → RepVs K (z ++ f) [] H ds vs
  | [], _, _, h => by simpa only [RepVs] using h
  | d :: ds, vs, n, h => by
    simp only [RepVs] at h ⊢
    obtain ⟨v, ws, e, h1, h2⟩ := h
    obtain ⟨n1, n2⟩ := Bool.and_eq_true_iff.mp (show (noRef d && noRefs ds) = true from n)
    exact ⟨v, ws, e, RepV.free d v n1 h1, RepVs.free ds ws n2 h2⟩
end
end

/-! ### the evaluator of calls -/
structure Def where
  name : Str
  ps : List Str
  N : List Str
  body : B
def startE (N : List Str) (ds : List D) : Env' := ds.map some ++ List.replicate (N.length - ds.length) none
/-- a body's end, as the call's value -/
def endR (r : Option RS) : Option (Res D) := match r with
  | some (.ok _ S .nx) => some (.ok .non S)
  | some (.ok _ S (.rt d)) => some (.ok d S)
  | some (.ex x _ S) => some (.ex x S)
  | _ => none
def atT (S : Store) : Nat → Option O := fun l => S[l]?
/-- a call without places of the store: its own store is put away -/
def shutP (th : Bool) (S : Store) : Option (Res D) → Option (Res D)
  | some (.ok d S') => if th then (match d with
      | .ref l => (match S'[l]? with
        | some (.lst ds) => (mapO (frz (fun i => if i = l then none else S'[i]?) 0 deep) ds).map fun es => .ok (.ref S.length) (S ++ [.lst es])
        | _ => none)
      | _ => none)
    else (frz (atT S') 0 deep d).map fun d' => .ok d' S
  | some (.ex x S') => (frz (atT S') 0 deep x).map fun d' => .ex d' S
  | none => none
/-- .. with places -/
def shutS (n : Nat) : Option (Res D) → Option (Res D)
  | some (.ok d S') => (frz (atT S') n deep d).bind fun d' => (mapO (frzO (atT S') n) (S'.take n)).map fun S2 => .ok d' S2
  | some (.ex x S') => (frz (atT S') n deep x).bind fun d' => (mapO (frzO (atT S') n) (S'.take n)).map fun S2 => .ex d' S2
  | none => none
noncomputable def runF (gl : Str → Option D) (defs : List Def) : Nat → Ora
  | 0 => ⟨gl, fun _ _ _ _ _ => none⟩
  | n + 1 => ⟨gl, fun th f ds kds S => match defs.find? (fun d => d.name == f) with
    | none => none
    | some F => if kds.isEmpty && decide (ds.length = F.ps.length) then
        (if noRefs ds then shutP th S (endR (evB (runF gl defs n) F.body (startE F.N ds) [])) else if th then none else shutS S.length (endR (evB (runF gl defs n) F.body (startE F.N ds) S)))
      else none⟩
end Wk
end WkCall_text

section WkCall2_text
set_option Elab.async false
set_option linter.all false
set_option maxRecDepth 100000
set_option maxHeartbeats 4000000
/-! WkCall2: each def keeps its promise, at every depth. -/
namespace Wk
open PySem PySem.Spec PyProof.Rows L2 StX

theorem mapO_len {α β : Type} {g : α → Option β} : ∀ {l : List α} {l' : List β}, mapO g l = some l' → l'.length = l.length
  | [], l', e => by rw [← Option.some.inj e] <;> rfl
  | a :: r, l', e => by
    obtain ⟨b, e1, e2⟩ := Option.bind_eq_some_iff.mp (show ((g a).bind fun b => (mapO g r).map fun s => b :: s) = some l' from e)
    obtain ⟨s, e3, e4⟩ := Option.map_eq_some_iff.mp e2
    rw [← e4, List.length_cons, List.length_cons, mapO_len e3]
theorem mapO_at {α β : Type} {g : α → Option β} : ∀ {l : List α} {l' : List β} {i : Nat} {b : β}, mapO g l = some l' → l'[i]? = some b → ∃ a, l[i]? = some a ∧ g a = some b
  | [], l', i, b, e, h => by rw [← Option.some.inj e] at h; cases h
  | a :: r, l', i, b, e, h => by
    obtain ⟨b', e1, e2⟩ := Option.bind_eq_some_iff.mp (show ((g a).bind fun b => (mapO g r).map fun s => b :: s) = some l' from e)
    obtain ⟨s, e3, e4⟩ := Option.map_eq_some_iff.mp e2
    rw [← e4] at h
    cases i with
    | zero => exact ⟨a, rfl, by rw [e1]; exact congrArg some (Option.some.inj h)⟩
    | succ i =>
      obtain ⟨a', q1, q2⟩ := mapO_at e3 (show s[i]? = some b from h)
      exact ⟨a', q1, q2⟩
section
variable {K : PySem.W.Frag} {z f : List Addr} {H : Hp} {S : Store} {Q : VK} {E : XK}
theorem start_rep {N : List Str} {ds : List D} {vs : List V} (h : RepVs K z f H ds vs) : RepE K z f H (L2.start N vs) (startE N ds) := by
  refine ⟨?_, fun i d e => ?_⟩
  · unfold L2.start startE
    rw [List.length_append, List.length_append, List.length_map, List.length_map, List.length_replicate, List.length_replicate, h.length]
  · unfold startE at e
    have hl : i < ds.length := by
      by_cases hl : i < ds.length
      · exact hl
      · rw [List.getElem?_append_right (by rw [List.length_map]; omega), List.getElem?_replicate] at e
        split at e <;> cases e
    rw [List.getElem?_append_left (by rw [List.length_map]; exact hl), List.getElem?_map] at e
    obtain ⟨d', e1, e2⟩ := Option.map_eq_some_iff.mp e
    have e2 : d' = d := Option.some.inj e2
    obtain ⟨v, h1, h2⟩ := h.get e1
    refine ⟨v, ?_, by rw [← e2]; exact h2⟩
    unfold L2.start
    rw [List.getElem?_append_left (by rw [List.length_map, ← h.length]; exact hl), List.getElem?_map, h1] <;> rfl
theorem mem_nil {a : Addr} : a ∉ ([] : List Addr) := by simp
/-- a call without places of the store -/
theorem shutP_ok {th : Bool} {r : Option RS} (rs : RepS K z f H S) (h : FinF K z f H (shutP th S (endR r)) Q E) : FinS K (z ++ f) (fun c d _ H => E c d H) [] H r { nx := fun _ H' => Q .non H', rt := Q } := by
  have thr : ∀ {f' : List Addr} {H' : Hp}, Step [] H f' H' → ∀ a, H a ≠ none → H' a = H a := fun st a n => by
    cases q : H a with
    | none => exact absurd q n
    | some o => exact st.keep a o q mem_nil
  have mvP : ∀ {f' : List Addr} {H' : Hp} {S' : Store}, Step [] H f' H' → RepS K (z ++ f) f' H' S' → Turn2 (atT S') 0 (z ++ f) f' z f S' := fun st r2 => ⟨fun a m => .inl (List.mem_append.mpr m), fun l a h => absurd h (Nat.not_lt_zero _), fun l o _ e => ⟨e, fun a ea => ⟨fun m => r2.zf a (List.mem_append_left _ m) (List.mem_of_getElem? ea), fun m => r2.zf a (List.mem_append_right _ m) (List.mem_of_getElem? ea)⟩⟩⟩
  have stF : ∀ {f' : List Addr} {H' : Hp}, Step [] H f' H' → Step f H f H' := fun st => ⟨⟨[], by simp, by simp⟩, fun a o e _ => st.keep a o e mem_nil, fun a ha => by rw [thr st a (rs.trk a ha)]; exact rs.trk a ha⟩
  have rsF : ∀ {f' : List Addr} {H' : Hp}, Step [] H f' H' → RepS K z f H' S := fun st => rs.mv (stF st).mv (fun a ha => thr st a (rs.trk a ha)) fun a ha => by rw [thr st a (rs.zt a ha)]; exact rs.zt a ha
  have val : ∀ {S' : Store} {d : D}, FinF K z f H (shutP th S (some (.ok d S'))) Q E → ∀ f' H' v, Step [] H f' H' → RepS K (z ++ f) f' H' S' → RepV K (z ++ f) f' H' d v → Q v H' := by
    intro S' d h f' H' v st r2 rv
    unfold shutP at h
    cases th with
    | false =>
      simp only [Bool.false_eq_true, if_false] at h
      cases q : frz (atT S') 0 deep d with
      | none => rw [q] at h; exact h.elim
      | some d' =>
        rw [q] at h
        exact h f H' v (stF st) (rsF st) (frz_rep (mvP st r2) r2 deep d d' v rv q)
    | true =>
      simp only [if_true] at h
      cases d with
      | ref l =>
        obtain ⟨a, rfl, hf⟩ := rI_ref rv
        simp only at h
        cases q : S'[l]? with
        | none => rw [q] at h; exact h.elim
        | some o =>
          rw [q] at h
          cases o with
          | ins _ _ _ => exact h.elim
          | lst ds =>
            simp only at h
            cases q2 : mapO (frz (fun i => if i = l then none else S'[i]?) 0 deep) ds with
            | none => rw [q2] at h; exact h.elim
            | some es =>
              rw [q2] at h
              obtain ⟨vs, h1, h2⟩ := r2.obj l a _ hf q
              have na : a ∉ z ++ f := fun m => r2.zf a m (List.mem_of_getElem? hf)
              have new : H a = none := st.new (List.mem_of_getElem? hf) mem_nil
              have t2 : Turn2 (fun i => if i = l then none else S'[i]?) 0 (z ++ f) f' z (f ++ [a]) S' := ⟨fun b m => by
                  rcases m with m | m
                  · exact .inl (List.mem_append_left _ m)
                  · rcases List.mem_append.mp m with m | m
                    · exact .inl (List.mem_append_right _ m)
                    · exact .inr (by rw [List.mem_singleton.mp m]; exact List.mem_of_getElem? hf), fun l a h => absurd h (Nat.not_lt_zero _), fun i o _ e => by
                have e : (if i = l then none else S'[i]?) = some o := e
                by_cases q3 : i = l
                · rw [if_pos q3] at e; cases e
                · rw [if_neg q3] at e
                  refine ⟨e, fun b eb => ⟨fun m => r2.zf b (List.mem_append_left _ m) (List.mem_of_getElem? eb), fun m => ?_⟩⟩
                  rcases List.mem_append.mp m with m | m
                  · exact r2.zf b (List.mem_append_right _ m) (List.mem_of_getElem? eb)
                  · rw [List.mem_singleton.mp m] at eb
                    exact q3 (nodup_get r2.nd eb hf)⟩
              have st2 : Step f H (f ++ [a]) H' := ⟨⟨[a], rfl, fun b hb => by rw [List.mem_singleton.mp hb]; exact new⟩, (stF st).keep, fun b hb => by
                rcases List.mem_append.mp hb with m | m
                · exact (stF st).trk b m
                · rw [List.mem_singleton.mp m, h1]; exact fun z => nomatch z⟩
              refine h (f ++ [a]) H' (.ref a) st2 ?_ ?_
              · refine ⟨by rw [List.length_append, List.length_append, rs.len] <;> rfl, ?_, fun b hb m => ?_, (rsF st).zt, fun i b o e1 e2 => ?_⟩
                · rw [List.nodup_append]
                  refine ⟨rs.nd, by simp, fun x hx y hy e => ?_⟩
                  rw [List.mem_singleton.mp hy] at e
                  rw [e] at hx
                  exact na (List.mem_append_right _ hx)
                · rcases List.mem_append.mp m with m | m
                  · exact rs.zf b hb m
                  · rw [List.mem_singleton.mp m] at hb
                    exact na (List.mem_append_left _ hb)
                · rcases getElem?_snoc e1 with g1 | ⟨g1, g2⟩
                  · have hl : i < S.length := by rw [← rs.len]; exact (List.getElem?_eq_some_iff.mp g1).1
                    rw [List.getElem?_append_left hl] at e2
                    exact (rs.obj i b o g1 e2).mv st2.mv (thr st b (rs.trk b (List.mem_of_getElem? g1)))
                  · rw [g1, rs.len, List.getElem?_append_right (Nat.le_refl _), Nat.sub_self] at e2
                    have e3 : O.lst es = o := Option.some.inj e2
                    rw [← g2, ← e3]
                    exact ⟨vs, h1, mapO_rep h2 q2 (frz_rep t2 r2 deep)⟩
              · simp only [RepV]
                refine ⟨a, rfl, ?_⟩
                rw [← rs.len, List.getElem?_append_right (Nat.le_refl _), Nat.sub_self] <;> rfl
      | _ => exact h.elim
  cases r with
  | none => exact h.elim
  | some r =>
    cases r with
    | ex x ρ' S' =>
      intro f' H' σ' c dd st r2 rx
      have h : FinF K z f H ((frz (atT S') 0 deep x).map fun d' => Res.ex d' S) Q E := h
      cases q : frz (atT S') 0 deep x with
      | none => rw [q] at h; exact h.elim
      | some d' =>
        rw [q] at h
        exact h f H' c dd (stF st) (rsF st) (frz_repX (mvP st r2.s) r2.s rx q)
    | ok ρ' S' fl =>
      cases fl with
      | nx => exact fun f' H' σ' st r2 => val h f' H' .non st r2.s mI_non
      | rt d => exact fun f' H' σ' v st r2 rv => val h f' H' v st r2.s rv
      | bk => exact h.elim
      | ct => exact h.elim
theorem take_get {α : Type} {l : List α} {n i : Nat} {a : α} (h : (l.take n)[i]? = some a) : i < n ∧ l[i]? = some a := by
  rw [List.getElem?_take] at h
  by_cases hi : i < n
  · rw [if_pos hi] at h; exact ⟨hi, h⟩
  · rw [if_neg hi] at h; cases h
theorem shutS_ok {r : Option RS} (rs : RepS K z f H S) (h : FinF K z f H (shutS S.length (endR r)) Q E) : FinS K z (fun c d _ H => E c d H) f H r { nx := fun _ H' => Q .non H', rt := Q } := by
  have base : ∀ {f' : List Addr} {H' : Hp} {S' S2 : Store}, Step f H f' H' → RepS K z f' H' S' → mapO (frzO (atT S') S.length) (S'.take S.length) = some S2 → Turn2 (atT S') S.length z f' z f S' ∧ Step f H f H' ∧ RepS K z f H' S2 := fun {f' H' S' S2} st r2 q => by
    obtain ⟨g, e1, e2⟩ := st.ext
    have ft : f'.take S.length = f := by rw [e1, ← rs.len, List.take_left]
    have tk : ∀ (l : Nat) a, l < S.length → f'[l]? = some a → f[l]? = some a := fun l a hl e => by rw [← ft, List.getElem?_take, if_pos hl]; exact e
    have t2 : Turn2 (atT S') S.length z f' z f S' := ⟨fun a m => m.imp id fun m => by rw [e1]; exact List.mem_append_left _ m, tk, fun l o hl e => ⟨e, fun a ea => ⟨fun m => r2.zf a m (List.mem_of_getElem? ea), fun m => by
      obtain ⟨i, hi⟩ := List.getElem?_of_mem m
      have hi2 : f'[i]? = some a := by rw [e1, List.getElem?_append_left (List.getElem?_eq_some_iff.mp hi).1]; exact hi
      have := nodup_get r2.nd ea hi2
      have h3 := (List.getElem?_eq_some_iff.mp hi).1
      rw [rs.len] at h3
      omega⟩⟩⟩
    have s2 : Step f H f H' := ⟨⟨[], by simp, by simp⟩, st.keep, fun a ha => st.trk a (by rw [e1]; exact List.mem_append_left _ ha)⟩
    refine ⟨t2, s2, ?_, rs.nd, rs.zf, r2.zt, fun l a o e3 e4 => ?_⟩
    · have l1 := mapO_len q
      have l2 := r2.len
      have l3 := rs.len
      rw [List.length_take] at l1
      have l4 : f'.length = f.length + g.length := by rw [e1, List.length_append]
      rw [l1]
      omega
    · obtain ⟨p, e5, e6⟩ := mapO_at q e4
      obtain ⟨hl, e7⟩ := take_get e5
      have e8 : f'[l]? = some a := by rw [e1, List.getElem?_append_left (List.getElem?_eq_some_iff.mp e3).1]; exact e3
      exact frzO_rep t2 r2 (r2.obj l a p e8 e7) e6
  have val : ∀ {S' : Store} {d : D}, FinF K z f H (shutS S.length (some (.ok d S'))) Q E → ∀ f' H' v, Step f H f' H' → RepS K z f' H' S' → RepV K z f' H' d v → Q v H' := by
    intro S' d h f' H' v st r2 rv
    unfold shutS at h
    cases q : frz (atT S') S.length deep d with
    | none => simp only [q, Option.bind_none] at h; exact h.elim
    | some d' =>
      simp only [q, Option.bind_some] at h
      cases q2 : mapO (frzO (atT S') S.length) (S'.take S.length) with
      | none => rw [q2] at h; exact h.elim
      | some S2 =>
        rw [q2] at h
        obtain ⟨t2, s2, r3⟩ := base st r2 q2
        exact h f H' v s2 r3 (frz_rep t2 r2 deep d d' v rv q)
  cases r with
  | none => exact h.elim
  | some r =>
    cases r with
    | ex x ρ' S' =>
      intro f' H' σ' c dd st r2 rx
      have h : FinF K z f H ((frz (atT S') S.length deep x).bind fun d' => (mapO (frzO (atT S') S.length) (S'.take S.length)).map fun S2 => Res.ex d' S2) Q E := h
      cases q : frz (atT S') S.length deep x with
      | none => simp only [q, Option.bind_none] at h; exact h.elim
      | some d' =>
        simp only [q, Option.bind_some] at h
        cases q2 : mapO (frzO (atT S') S.length) (S'.take S.length) with
        | none => rw [q2] at h; exact h.elim
        | some S2 =>
          rw [q2] at h
          obtain ⟨t2, s2, r3⟩ := base st r2.s q2
          exact h f H' c dd s2 r3 (frz_repX t2 r2.s rx q)
    | ok ρ' S' fl =>
      cases fl with
      | nx => exact fun f' H' σ' st r2 => val h f' H' .non st r2.s mI_non
      | rt d => exact fun f' H' σ' v st r2 rv => val h f' H' v st r2.s rv
      | bk => exact h.elim
      | ct => exact h.elim
end

/-! ### the defs -/
structure DefOk (K : PySem.W.Frag) (mg : Str → Option Value) (fns : List Str) (F : Def) : Prop where
  ex : ∃ (f : Addr) (fd : FuncData) (qual : Str) (params : Arguments) (body : List Stmt) (scope : Scope) (kws : List (Str × V)), mg F.name = some (.ref f) ∧ FunD K F.name qual params body scope [] kws f fd ∧ FnScope F.N F.ps scope ∧ (∀ (s : Shared) (us : List Value), us.length = F.ps.length → BindsTo s fd ⟨us, []⟩ (F.ps.zip us)) ∧
    isB ⟨F.N, scope, fun _ => true, fns⟩ F.body body = true
structure Base (gl : Str → Option D) (defs : List Def) (K : PySem.W.Frag) (mg : Str → Option Value) : Prop where
  glob : ∀ x d, gl x = some d → ∃ v u, (∀ z f H, RepV K z f H d v) ∧ L2.RelV v u ∧ (mg x = some u ∨ (mg x = none ∧ bootBuiltins x = some u ∧ x ≠ "__name__"))
  free : ∀ b : BI, mg (biName b) = none
  freeL : mg "list" = none
  freeR : mg "range" = none
  freeZ : mg "zip" = none
  freeE : mg "enumerate" = none
  kit : ∀ m n b, isT2 m n = some b → m ∈ ["int", "bool", "tuple", "NoneType"] → PySem.W.kitOne K (.type m) (.type n) = some b
  defs : ∀ F ∈ defs, DefOk K mg (defs.map (·.name)) F
/-- what a def promises, by values -/
def spD (gl : Str → Option D) (defs : List Def) (K : PySem.W.Frag) (n : Nat) (th : Bool) (F : Def) : Sp := fun vs H Q E => vs.length = F.ps.length ∧ ∃ z f0 S ds, RepS K z f0 H S ∧ RepVs K z f0 H ds vs ∧
  FinF K z f0 H (if noRefs ds = true then shutP th S (endR (evB (runF gl defs n) F.body (startE F.N ds) [])) else if th = true then none else shutS S.length (endR (evB (runF gl defs n) F.body (startE F.N ds) S))) Q E
theorem defFn {gl : Str → Option D} {defs : List Def} {K : PySem.W.Frag} {mg : Str → Option Value} {F : Def} (B : DefOk K mg (defs.map (·.name)) F) :
    ∃ f fd, mg F.name = some (.ref f) ∧ PySem.W.keepIn K (.ref f) = true ∧ (∀ (s : Shared) (us : List Value), us.length = F.ps.length → BindsTo s fd ⟨us, []⟩ (F.ps.zip us)) ∧
      ∀ (P : Program) (w : World) (base : Heap) (n : Nat), Facts (runF gl defs n) (defs.map (·.name)) n P w K mg base → ∀ th, FnOk P w K mg base (L2.CX P w) (n + 1) f fd F.ps (spD gl defs K n th F) := by
  obtain ⟨f, fd, qual, params, body, scope, kws, hm, fun_, fsc, bnd, hB⟩ := B.ex
  refine ⟨f, fd, hm, fun_.kp, bnd, fun P w base n fs th => fun_.ok fsc (fun vs H Q E h => h.1) fun cdv A outer s H vs Q E hr ⟨hl, z, f0, S, ds, rs, rd, h⟩ => ?_⟩
  let X := cxOf (L2.CX P w) P w K mg base F.N qual scope f cdv A outer s H E
  have x : XOk (runF gl defs n) n ⟨F.N, scope, fun _ => true, defs.map (·.name)⟩ X := ⟨rfl, fsc.nd, rfl, fun _ _ => .inl rfl, fs, hr, rfl, fsc.kind, L2.passes_of rfl⟩
  have tk : Takes X (fun cls d _ H => E cls d H) := takes_of rfl rfl rfl rfl
  refine ⟨_, sndB F.body x tk body hB, ?_⟩
  by_cases hnr : noRefs ds = true
  · rw [if_pos hnr] at h
    have rE := (start_rep (N := F.N) (RepVs.free ds vs hnr rd))
    have rS : RepS K (z ++ f0) [] H [] := ⟨rfl, List.nodup_nil, fun _ _ => mem_nil, fun a ha => (List.mem_append.mp ha).elim (rs.zt a) (rs.trk a), fun l a o e => nomatch e⟩
    exact ⟨z ++ f0, [], startE F.N ds, [], ⟨rS, rE⟩, shutP_ok rs h⟩
  · rw [if_neg hnr] at h
    by_cases hth : th = true
    · rw [if_pos hth] at h
      exact h.elim
    · rw [if_neg hth] at h
      exact ⟨z, f0, startE F.N ds, S, ⟨rs, start_rep rd⟩, shutS_ok rs h⟩
theorem Base.facts {gl : Str → Option D} {defs : List Def} {P : Program} {w : World} {K : PySem.W.Frag} {mg : Str → Option Value} {base : Heap} (B : Base gl defs K mg) : ∀ n, Facts (runF gl defs n) (defs.map (·.name)) n P w K mg base := by
  have mk : ∀ n, (∀ g ∈ defs.map (·.name), ∃ f, mg g = some (.ref f) ∧ PySem.W.keepIn K (.ref f) = true ∧ ∀ th, FnC P w K mg base n f ((runF gl defs n).call th g)) → Facts (runF gl defs n) (defs.map (·.name)) n P w K mg base := fun n hc =>
    ⟨fun x d e => B.glob x d (by cases n <;> exact e), B.free, B.freeL, B.freeR, B.freeZ, B.freeE, B.kit, hc⟩
  intro n
  induction n with
  | zero =>
    refine mk 0 fun g hg => ?_
    obtain ⟨F, hF, rfl⟩ := List.mem_map.mp hg
    obtain ⟨f, fd, qual, params, body, scope, kws, hm, fun_, _⟩ := (B.defs F hF).ex
    exact ⟨f, hm, fun_.kp, fun th A outer s H us kws vs kvs Q E _ _ _ _ ⟨z, f, S, ds, kds, _, _, _, h⟩ => h.elim⟩
  | succ n ih =>
    refine mk (n + 1) fun g hg => ?_
    obtain ⟨F0, hF0, e0⟩ := List.mem_map.mp hg
    cases hfd : defs.find? (fun d => d.name == g) with
    | none =>
      have := List.find?_eq_none.mp hfd F0 hF0
      rw [e0] at this
      exact absurd (beq_self_eq_true g) this
    | some F =>
      have hF : F ∈ defs := List.mem_of_find?_eq_some hfd
      have hn : F.name = g := by
        have := List.find?_some hfd
        exact eq_of_beq this
      obtain ⟨f, fd, hm, kp, bnd, ok'⟩ := defFn (gl := gl) (B.defs F hF)
      rw [hn] at hm
      refine ⟨f, hm, kp, fun th A outer s H us kws vs kvs Q E hr e0 rv rk ⟨z, f0, S, ds, kds, rs, rd, rkd, h0⟩ => ?_⟩
      have ok := ok' P w base n ih th
      have h : FinF K z f0 H (if (kds.isEmpty && decide (ds.length = F.ps.length)) = true then
        (if noRefs ds = true then shutP th S (endR (evB (runF gl defs n) F.body (startE F.N ds) [])) else if th = true then none else shutS S.length (endR (evB (runF gl defs n) F.body (startE F.N ds) S)))
        else none) Q E := by
        have e1 : (runF gl defs (n + 1)).call th g ds kds S = (match defs.find? (fun d => d.name == g) with
          | none => none
          | some F => if (kds.isEmpty && decide (ds.length = F.ps.length)) = true then
              (if noRefs ds = true then shutP th S (endR (evB (runF gl defs n) F.body (startE F.N ds) [])) else if th = true then none else shutS S.length (endR (evB (runF gl defs n) F.body (startE F.N ds) S)))
            else none) := rfl
        rw [e1, hfd] at h0
        exact h0
      clear h0
      by_cases hk : (kds.isEmpty && decide (ds.length = F.ps.length)) = true
      · rw [if_pos hk] at h
        obtain ⟨k1, k2⟩ := and2 hk
        have k2 := of_decide_eq_true k2
        have hkd : kds = [] := List.isEmpty_iff.mp k1
        subst hkd
        have hkv : kvs = [] := by
          have := rkd.1
          cases kvs with
          | nil => rfl
          | cons _ _ => cases this
        subst hkv
        have hkw : kws = [] := by
          have := rk.1
          cases kws with
          | nil => rfl
          | cons _ _ => cases this
        subst hkw
        have hl : vs.length = F.ps.length := by rw [← rd.length]; exact k2
        have b := bnd s us (by rw [← rv.length]; exact hl)
        exact ok.run A outer s H ⟨us, []⟩ us vs Q E hr e0 b rv ⟨hl, z, f0, S, ds, rs, rd, h⟩
      · rw [if_neg hk] at h
        exact h.elim
end Wk
end WkCall2_text

section WkEnd_text
set_option Elab.async false
set_option linter.all false
set_option maxRecDepth 100000
set_option maxHeartbeats 4000000
/-! WkEnd: from the run over data to the law. -/
namespace Wk
open PySem PySem.Spec PyProof.Rows L2 StX

theorem repScript {K : PySem.W.Frag} {z f : List Addr} {H : Hp} : ∀ ns : List Int, RepVs K z f H (ns.map D.int) (ns.map V.int)
  | [] => RepVs.nil_iff
  | n :: ns => RepVs.cons (mI_int n) (repScript ns)
theorem noRefs_ints : ∀ ns : List Int, noRefs (ns.map D.int) = true
  | [] => rfl
  | _ :: ns => noRefs_ints ns
/-- the law's run over data ends with True -/
def Ends1 (gl : Str → Option D) (defs : List Def) (k : Nat) (F : Def) (ns : List Int) : Prop :=
  ∃ S, endR (evB (runF gl defs k) F.body (startE F.N [.rol (ns.map D.int)]) []) = some (.ok (.bl true) S)
theorem law_walk {l : PySem.W.OpenLaw} {n k : Nat} {q : Program} {loose : List Str} {XP : (Str → Option Value) → Heap → Prop} {YP : World → Heap → Prop} {d : DefRec} {gl : Str → Option D} {defs : List Def} {F : Def} {x : Str}
    (hn : l.most = some n) (hz : n ≤ sizeLine) (hdf : d.params.defaults = []) (hr : Room (k + 1) callerA) (hF : F ∈ defs) (hps : F.ps = [x]) (hnm : F.name = d.name)
    (hK : ∀ (w : World) (mg : Str → Option Value) (h : Heap), YP w h → h.Ns mainGlobals mg → ∃ K : PySem.W.Frag, K.In h ∧ Base gl defs K mg)
    (hrun : ∀ ns : List Int, ns.length ≤ n → (∀ z ∈ ns, Builtin.Int.intBits z ≤ 1048576) → Ends1 gl defs k F ns) :
    PySem.W.WalkO q loose XP YP l.row.toRowW d [] (fun f vs => PySem.call f vs) := by
  refine Att.attach_callB hn hdf fun w s₀ s₁ mg mb fa o pm cd doc a vs ns G Y _ _ _ hmg hobj hints hlen hbits hg => ?_
  obtain ⟨K, KX, B⟩ := hK w mg _ Y G.T.g
  obtain ⟨f, fd, hm, _, bnd, ok⟩ := defFn (gl := gl) (B.defs F hF)
  rw [hnm, hmg] at hm
  cases hm
  have hb : ∀ (s : Shared) (u : Value), BindsTo s fd ⟨[u], []⟩ [(x, u)] := fun s u => by
    have := bnd s [u] (by rw [hps] <;> rfl)
    rw [hps] at this
    exact this
  have hF2 : ∀ base : Heap, FnOk l.prog w K mg base (L2.CX l.prog w) (k + 1) fa fd [x] (spD gl defs K k false F) := fun base => by
    have := ok l.prog w base k (B.facts k) false
    rw [hps] at this
    exact this
  refine law_call KX G.T.g G.T.b G.T.builtins G.T.nolimit hg hobj hints (Nat.le_trans hlen hz) hr (fun base _ _ => hF2 base) hb (fun H _ hS => ?_) fun H e s' hc => ?_
  · obtain ⟨S, e⟩ := hrun ns hlen hbits
    refine ⟨by rw [hps] <;> rfl, [], [], [], [.rol (ns.map D.int)], ⟨rfl, List.nodup_nil, fun _ h => absurd h mem_nil, fun _ h => absurd h mem_nil, fun l a o e => nomatch e⟩, RepVs.cons ?_ RepVs.nil_iff, ?_⟩
    · simp only [RepV]
      exact ⟨a, ns.map V.int, rfl, ⟨hS, fun m => absurd m (by simp)⟩, repScript ns⟩
    · have e1 : noRefs [D.rol (ns.map D.int)] = true := by
        show (noRefs (ns.map D.int) && true) = true
        rw [noRefs_ints] <;> rfl
      rw [if_pos e1, e]
      show FinF K [] [] H (some (.ok (.bl true) [])) _ _
      exact fun f' H' v _ _ rv => rI_bl rv
  · obtain ⟨_, _, _, _, _, _, _, _, _, _, _, _, z⟩ := hc
    exact z
end Wk
end WkEnd_text

section WkRun_text
set_option Elab.async false
set_option linter.all false
set_option maxRecDepth 100000
set_option maxHeartbeats 4000000
/-! WkRun: rules for runs over data, to be applied one after another. -/
namespace Wk
open PySem PySem.Spec PyProof.Rows L2 StX

section
variable {o : Ora} {ρ ρ1 ρ2 : Env'} {S S1 S2 S3 S4 : Store} {a b c e : E} {xs r : A} {x y w d : D} {ds es : List D} {i n : Nat} {p q : BOp}
theorem bindOk {α β : Type} {m : M α} {k : α → M β} {v : α} {R : Option (Res β)} (h : m S = some (.ok v S1)) (h2 : k v S1 = R) : (m >>= k) S = R := by
  show M.bind m k S = R
  unfold M.bind
  rw [h]
  exact h2
theorem xV (h : ρ[i]? = some (some d)) : evE o (.v i) ρ S = some (.ok d S) := by
  show varD ρ i S = _
  unfold varD
  rw [h]
theorem xG {g : Str} (h : o.glob g = some d) : evE o (.g g) ρ S = some (.ok d S) := by
  show (o.glob g).map (fun a => Res.ok a S) = _
  rw [h] <;> rfl
theorem xI {j : Int} : evE o (.cint j) ρ S = some (.ok (.int j) S) := rfl
theorem xS {j : Str} : evE o (.cstr j) ρ S = some (.ok (.str j) S) := rfl
theorem xB {j : Bool} : evE o (.cbl j) ρ S = some (.ok (.bl j) S) := rfl
theorem xN : evE o .cnon ρ S = some (.ok .non S) := rfl
theorem optOk {α : Type} {u : Option α} {v : α} (h : u = some v) : M.opt u S = some (.ok v S) := by rw [h] <;> rfl
theorem xBin (h1 : evE o a ρ S = some (.ok x S1)) (h2 : evE o b ρ S1 = some (.ok y S2)) (h3 : binO p x y = some d) : evE o (.bin p a b) ρ S = some (.ok d S2) :=
  bindOk h1 (bindOk h2 (optOk h3))
theorem xNeg {j : Int} (h1 : evE o a ρ S = some (.ok (.int j) S1)) : evE o (.neg a) ρ S = some (.ok (.int (-j)) S1) := bindOk h1 rfl
theorem xCmp {p : COp} {k : Bool} (h1 : evE o a ρ S = some (.ok x S1)) (h2 : evE o b ρ S1 = some (.ok y S2)) (h3 : cmpO S2 p x y = some k) : evE o (.cmp p a b) ρ S = some (.ok (.bl k) S2) :=
  bindOk h1 (bindOk h2 (by show (cmpO S2 p x y).map _ = _; rw [h3] <;> rfl))
theorem xChT {p q : COp} {k : Bool} (h1 : evE o a ρ S = some (.ok x S1)) (h2 : evE o b ρ S1 = some (.ok y S2)) (h3 : cmpO S2 p x y = some true) (h4 : evE o c ρ S2 = some (.ok w S3)) (h5 : cmpO S3 q y w = some k) : evE o (.chain p q a b c) ρ S = some (.ok (.bl k) S3) :=
  bindOk h1 (bindOk h2 (bindOk (v := true) (by show (cmpO S2 p x y).map _ = _; rw [h3] <;> rfl) (bindOk h4 (by show (cmpO S3 q y w).map _ = _; rw [h5] <;> rfl))))
theorem xChF {p q : COp} (h1 : evE o a ρ S = some (.ok x S1)) (h2 : evE o b ρ S1 = some (.ok y S2)) (h3 : cmpO S2 p x y = some false) : evE o (.chain p q a b c) ρ S = some (.ok (.bl false) S2) :=
  bindOk h1 (bindOk h2 (bindOk (v := false) (by show (cmpO S2 p x y).map _ = _; rw [h3] <;> rfl) rfl))
theorem xNot {k : Bool} (h1 : evE o a ρ S = some (.ok (.bl k) S1)) : evE o (.not_ a) ρ S = some (.ok (.bl (!k)) S1) := bindOk h1 rfl
theorem xIfT (h1 : evT o c ρ S = some (.ok true S1)) {R : Option (Res D)} (h2 : evE o a ρ S1 = R) : evE o (.ife c a b) ρ S = R := bindOk h1 h2
theorem xIfF (h1 : evT o c ρ S = some (.ok false S1)) {R : Option (Res D)} (h2 : evE o b ρ S1 = R) : evE o (.ife c a b) ρ S = R := bindOk h1 h2
theorem xAnd (h : evAnd o xs ρ S = some (.ok d S1)) : evE o (.and_ xs) ρ S = some (.ok d S1) := h
theorem xOr (h : evOr o xs ρ S = some (.ok d S1)) : evE o (.or_ xs) ρ S = some (.ok d S1) := h
theorem nAnd1 (h : evE o a ρ S = some (.ok d S1)) : evAnd o (.cons a .nil) ρ S = some (.ok d S1) := h
theorem nAndT (h : evE o a ρ S = some (.ok (.bl true) S1)) (h2 : evAnd o (.cons b r) ρ S1 = some (.ok d S2)) : evAnd o (.cons a (.cons b r)) ρ S = some (.ok d S2) := bindOk h h2
theorem nAndF (h : evE o a ρ S = some (.ok (.bl false) S1)) : evAnd o (.cons a (.cons b r)) ρ S = some (.ok (.bl false) S1) := bindOk h rfl
theorem nOr1 (h : evE o a ρ S = some (.ok d S1)) : evOr o (.cons a .nil) ρ S = some (.ok d S1) := h
theorem nOrF (h : evE o a ρ S = some (.ok (.bl false) S1)) (h2 : evOr o (.cons b r) ρ S1 = some (.ok d S2)) : evOr o (.cons a (.cons b r)) ρ S = some (.ok d S2) := bindOk h h2
theorem nOrT (h : evE o a ρ S = some (.ok (.bl true) S1)) : evOr o (.cons a (.cons b r)) ρ S = some (.ok (.bl true) S1) := bindOk h rfl
theorem mkTOk (hl : lenOk ds.length = true) : mkT ds S = some (.ok (.tup ds) S) := by unfold mkT; rw [if_pos hl]
theorem mkLF (hl : lenOk ds.length = true) : mkL true ds S = some (.ok (.lst ds) S) := by unfold mkL; rw [if_pos hl] <;> rfl
theorem mkLN (hl : lenOk ds.length = true) : mkL false ds S = some (.ok (.ref S.length) (S ++ [.lst ds])) := by unfold mkL; rw [if_pos hl] <;> rfl
theorem xTup (h : evA o xs ρ S = some (.ok ds S1)) (hl : lenOk ds.length = true) : evE o (.tup xs) ρ S = some (.ok (.tup ds) S1) := bindOk h (mkTOk hl)
theorem xLst {fz : Bool} (h : evA o xs ρ S = some (.ok ds S1)) (hl : mkL fz ds S1 = some (.ok d S2)) : evE o (.lst fz xs) ρ S = some (.ok d S2) := bindOk h hl
theorem xIx (h1 : evE o a ρ S = some (.ok x S1)) (h2 : evE o b ρ S1 = some (.ok y S2)) (h3 : ixO S2 x y = some d) : evE o (.ix a b) ρ S = some (.ok d S2) :=
  bindOk h1 (bindOk h2 (by show (ixO S2 x y).map _ = _; rw [h3] <;> rfl))
theorem slOk {lo hi : Option Int} (h : slO S x lo hi = some d) : slD x lo hi S = some (.ok d S) := by
  show (slO S x lo hi).map _ = _
  rw [h] <;> rfl
theorem xSlL {j : Int} (h1 : evE o a ρ S = some (.ok x S1)) (h2 : evE o b ρ S1 = some (.ok (.int j) S2)) (h3 : slO S2 x (some j) none = some d) : evE o (.slL a b) ρ S = some (.ok d S2) := bindOk h1 (bindOk h2 (slOk h3))
theorem xSlH {j : Int} (h1 : evE o a ρ S = some (.ok x S1)) (h2 : evE o b ρ S1 = some (.ok (.int j) S2)) (h3 : slO S2 x none (some j) = some d) : evE o (.slH a b) ρ S = some (.ok d S2) := bindOk h1 (bindOk h2 (slOk h3))
theorem xCall {th : Bool} {f : Str} (h : evA o xs ρ S = some (.ok ds S1)) (hc : o.call th f ds [] S1 = some (.ok d S2)) : evE o (.call th f xs .nil) ρ S = some (.ok d S2) := bindOk h hc
theorem xBi {f : BI} (h : evA o xs ρ S = some (.ok ds S1)) (hb : biO S1 f ds = some d) : evE o (.bi f xs) ρ S = some (.ok d S1) := bindOk h (by show (biO S1 f ds).map _ = _; rw [hb] <;> rfl)
theorem getOk (h : getQO S x = some ds) : getQ x S = some (.ok ds S) := by rw [getQ_map, h] <;> rfl
theorem xLo {fz : Bool} (h : evE o a ρ S = some (.ok x S1)) (hq : getQO S1 x = some ds) (hl : mkL fz ds S1 = some (.ok d S2)) : evE o (.listOf fz a) ρ S = some (.ok d S2) := bindOk h (bindOk (getOk hq) hl)
theorem xRep {fz : Bool} {k : Int} (h1 : evE o a ρ S = some (.ok (.lst ds) S1)) (h2 : evE o b ρ S1 = some (.ok (.int k) S2)) (hk : 0 ≤ k ∧ k ≤ 1000) (hl : mkL fz (List.replicate k.toNat ds).flatten S2 = some (.ok d S3)) : evE o (.rep fz a b) ρ S = some (.ok d S3) :=
  bindOk h1 (bindOk h2 (by show (if 0 ≤ k ∧ k ≤ 1000 then _ else _ : M D) S2 = _; rw [if_pos hk]; exact hl))
theorem xLm {m : LM} {l : Nat} (h1 : evE o a ρ S = some (.ok (.ref l) S1)) (h2 : atS S1 l = some es) (h3 : evA o xs ρ S1 = some (.ok ds S2)) (h4 : lmD m (.ref l) ds S2 = some (.ok d S3)) : evE o (.lm m a xs) ρ S = some (.ok d S3) :=
  bindOk h1 (bindOk (v := ()) (by show (((toR (.ref l)).bind fun l => atS S1 l).map fun _ => Res.ok () S1) = _; rw [show (toR (.ref l)).bind (fun l => atS S1 l) = atS S1 l from rfl, h2] <;> rfl) (bindOk h3 h4))
theorem lmApp {l : Nat} (h : atS S l = some es) (hl : lenOk (es.length + 1) = true) : lmD .append (.ref l) [x] S = some (.ok .non (S.set l (.lst (es ++ [x])))) := by
  show ((atS S l).bind fun ds => (lmO S l ds .append [x]).map fun p => Res.ok p.1 (S.set l (.lst p.2))) = _
  rw [h]
  show (if lenOk (es.length + 1) = true then some (D.non, es ++ [x]) else none).map _ = _
  rw [if_pos hl] <;> rfl
theorem lmPopAt {l : Nat} {k : Int} (h : atS S l = some es) (hk : 0 ≤ k ∧ k < es.length) (hd : es[k.toNat]? = some d) : lmD .popAt (.ref l) [.int k] S = some (.ok d (S.set l (.lst (es.eraseIdx k.toNat)))) := by
  show ((atS S l).bind fun ds => (lmO S l ds .popAt [.int k]).map fun p => Res.ok p.1 (S.set l (.lst p.2))) = _
  rw [h]
  show (if 0 ≤ k ∧ k < es.length then (es[k.toNat]?).map fun y => (y, es.eraseIdx k.toNat) else none).map _ = _
  rw [if_pos hk, hd] <;> rfl
theorem xComp {fz : Bool} {own : List (Str × Nat)} {t : T} {it : I} {cs : A} {g : Option (Nat × List D)} (h : evI o it ρ S = some (.ok (g, es) S1))
    (hc : compL (fun d ρ S => asT o t d ρ S) (fun ρ => evAll o cs ρ) (fun ρ => evE o e ρ) (wipeE ρ (own.map (·.2))) g [] es S1 = some (ds, S2)) (hl : mkL fz ds S2 = some (.ok d S3)) : evE o (.comp fz own t it cs e) ρ S = some (.ok d S3) :=
  bindOk h (bindOk (v := ds) (S1 := S2) (by show (compL _ _ _ _ g [] es S1).map _ = _; rw [hc] <;> rfl) hl)
/-! arguments -/
theorem aNil : evA o .nil ρ S = some (.ok [] S) := rfl
theorem aCons (h : evE o a ρ S = some (.ok d S1)) (h2 : evA o xs ρ S1 = some (.ok ds S2)) : evA o (.cons a xs) ρ S = some (.ok (d :: ds) S2) := bindOk h (bindOk h2 rfl)
theorem aStar (h : evE o a ρ S = some (.ok x S1)) (hq : getQO S1 x = some es) (h2 : evA o xs ρ S1 = some (.ok ds S2)) : evA o (.star a xs) ρ S = some (.ok (es ++ ds) S2) := bindOk h (bindOk (getOk hq) (bindOk h2 rfl))
/-! tests -/
theorem tCmp {p : COp} {k : Bool} (h1 : evE o a ρ S = some (.ok x S1)) (h2 : evE o b ρ S1 = some (.ok y S2)) (h3 : cmpO S2 p x y = some k) : evT o (.cmp p a b) ρ S = some (.ok k S2) :=
  bindOk h1 (bindOk h2 (by show (cmpO S2 p x y).map _ = _; rw [h3] <;> rfl))
theorem tChT {p q : COp} {k : Bool} (h1 : evE o a ρ S = some (.ok x S1)) (h2 : evE o b ρ S1 = some (.ok y S2)) (h3 : cmpO S2 p x y = some true) (h4 : evE o c ρ S2 = some (.ok w S3)) (h5 : cmpO S3 q y w = some k) : evT o (.chain p q a b c) ρ S = some (.ok k S3) :=
  bindOk h1 (bindOk h2 (bindOk (v := true) (by show (cmpO S2 p x y).map _ = _; rw [h3] <;> rfl) (bindOk h4 (by show (cmpO S3 q y w).map _ = _; rw [h5] <;> rfl))))
theorem tChF {p q : COp} (h1 : evE o a ρ S = some (.ok x S1)) (h2 : evE o b ρ S1 = some (.ok y S2)) (h3 : cmpO S2 p x y = some false) : evT o (.chain p q a b c) ρ S = some (.ok false S2) :=
  bindOk h1 (bindOk h2 (bindOk (v := false) (by show (cmpO S2 p x y).map _ = _; rw [h3] <;> rfl) rfl))
theorem tNot {k : Bool} (h1 : evT o a ρ S = some (.ok k S1)) : evT o (.not_ a) ρ S = some (.ok (!k) S1) := bindOk h1 rfl
theorem tBl {j : Bool} : evT o (.cbl j) ρ S = some (.ok j S) := rfl
theorem truOk {k : Bool} (h : truO S x = some k) : truD x S = some (.ok k S) := by
  show (truO S x).map _ = _
  rw [h] <;> rfl
theorem tV {k : Bool} (h : ρ[i]? = some (some d)) (h2 : truO S d = some k) : evT o (.v i) ρ S = some (.ok k S) := bindOk (xV (o := o) h) (truOk h2)
theorem tCall {th : Bool} {f : Str} {k : Bool} (h : evA o xs ρ S = some (.ok ds S1)) (hc : o.call th f ds [] S1 = some (.ok d S2)) (h2 : truO S2 d = some k) : evT o (.call th f xs .nil) ρ S = some (.ok k S2) := bindOk h (bindOk (v := []) rfl (bindOk hc (truOk h2)))
theorem tBi {f : BI} {k : Bool} (h : evA o xs ρ S = some (.ok ds S1)) (hb : biO S1 f ds = some d) (h2 : truO S1 d = some k) : evT o (.bi f xs) ρ S = some (.ok k S1) :=
  bindOk h (bindOk (v := d) (S1 := S1) (by show (biO S1 f ds).map _ = _; rw [hb] <;> rfl) (truOk h2))
theorem tAnd {k : Bool} (h : evAll o xs ρ S = some (.ok k S1)) : evT o (.and_ xs) ρ S = some (.ok k S1) := h
theorem tOr {k : Bool} (h : evAny o xs ρ S = some (.ok k S1)) : evT o (.or_ xs) ρ S = some (.ok k S1) := h
theorem allN : evAll o .nil ρ S = some (.ok true S) := rfl
theorem allT {k : Bool} (h : evT o a ρ S = some (.ok true S1)) (h2 : evAll o xs ρ S1 = some (.ok k S2)) : evAll o (.cons a xs) ρ S = some (.ok k S2) := bindOk h h2
theorem allF (h : evT o a ρ S = some (.ok false S1)) : evAll o (.cons a xs) ρ S = some (.ok false S1) := bindOk h rfl
theorem anyN : evAny o .nil ρ S = some (.ok false S) := rfl
theorem anyF {k : Bool} (h : evT o a ρ S = some (.ok false S1)) (h2 : evAny o xs ρ S1 = some (.ok k S2)) : evAny o (.cons a xs) ρ S = some (.ok k S2) := bindOk h h2
theorem anyT (h : evT o a ρ S = some (.ok true S1)) : evAny o (.cons a xs) ρ S = some (.ok true S1) := bindOk h rfl
/-! what is walked -/
theorem iSeq (h : evE o a ρ S = some (.ok x S1)) (hq : getQO S1 x = some ds) : evI o (.seq a) ρ S = some (.ok ((toR x).map (fun l => (l, ds)), ds) S1) := bindOk h (bindOk (getOk hq) rfl)
theorem iR1 {k : Int} (h : evE o a ρ S = some (.ok (.int k) S1)) (hb : k ≤ 4611686018427387903 ∧ -4611686018427387904 ≤ k) : evI o (.r1 a) ρ S = some (.ok (none, (List.range k.toNat).map fun (i : Nat) => D.int i) S1) :=
  bindOk h (by show (if _ then _ else _ : M _) S1 = _; rw [if_pos hb] <;> rfl)
theorem iR2 {k l : Int} (h : evE o a ρ S = some (.ok (.int k) S1)) (h2 : evE o b ρ S1 = some (.ok (.int l) S2)) (hb : (k ≤ 4611686018427387903 ∧ -4611686018427387904 ≤ k) ∧ l ≤ 4611686018427387903 ∧ -4611686018427387904 ≤ l) :
    evI o (.r2 a b) ρ S = some (.ok (none, (List.range (l - k).toNat).map fun (i : Nat) => D.int (k + i)) S2) :=
  bindOk h (bindOk h2 (by show (if _ then _ else _ : M _) S2 = _; rw [if_pos hb] <;> rfl))
theorem iZip (h : evE o a ρ S = some (.ok x S1)) (h2 : evE o b ρ S1 = some (.ok y S2)) (hx : getQO S2 x = some ds) (hy : getQO S2 y = some es) (hr : ((toR x).isNone && (toR y).isNone) = true) : evI o (.zip a b) ρ S = some (.ok (none, (ds.zip es).map fun p => D.tup [p.1, p.2]) S2) :=
  bindOk h (bindOk h2 (bindOk (getOk hx) (bindOk (getOk hy) (by show (if _ then _ else _ : M _) S2 = _; rw [if_pos hr] <;> rfl))))
theorem iEnum (h : evE o a ρ S = some (.ok x S1)) (hx : getQO S1 x = some ds) (hl : isL x = true) : evI o (.enum a) ρ S = some (.ok ((toR x).map (fun l => (l, ds)), ds.zipIdx.map fun p => D.tup [.int p.2, p.1]) S1) :=
  bindOk h (bindOk (getOk hx) (by show (if _ then _ else _ : M _) S1 = _; rw [if_pos hl] <;> rfl))
theorem exOk {α : Type} {m : Env' → M α} {k : α → MS} {v : α} {R : Option RS} (h : m ρ S = some (.ok v S1)) (h2 : k v ρ S1 = R) : exS m k ρ S = R := by
  unfold exS
  rw [h]
  exact h2
/-! targets -/
theorem gNm (h : i < ρ.length) : asT o (.nm i) d ρ S = some (.ok (ρ.set i (some d)) S .nx) := by
  show (if i < ρ.length then _ else _) = _
  rw [if_pos h]
theorem gTp {ts : Ts} {R : Option RS} (hl : ds.length = ts.len) (h : asTs o ts ds ρ S = R) : asT o (.tp ts) (.tup ds) ρ S = R := by
  show (if ds.length = ts.len then asTs o ts ds ρ S else none) = _
  rw [if_pos hl]
  exact h
theorem gsN : asTs o .nil [] ρ S = some (.ok ρ S .nx) := rfl
theorem gsC {t : T} {ts : Ts} {R : Option RS} (h : asT o t d ρ S = some (.ok ρ1 S1 .nx)) (h2 : asTs o ts ds ρ1 S1 = R) : asTs o (.cons t ts) (d :: ds) ρ S = R := by
  show thenS (fun ρ S => asT o t d ρ S) (fun ρ S => asTs o ts ds ρ S) ρ S = R
  unfold thenS
  simp only [h]
  exact h2
theorem gSub {l : Nat} {k : Int} {j : Nat} (h1 : evE o a ρ S = some (.ok (.ref l) S1)) (h2 : evE o b ρ S1 = some (.ok (.int k) S2)) (h3 : atS S2 l = some es) (h4 : ixN es.length k = some j) : asT o (.sub a b) d ρ S = some (.ok ρ (S2.set l (.lst (es.set j d))) .nx) := by
  refine exOk (m := fun ρ => do let x ← evE o a ρ; let y ← evE o b ρ; pure (x, y)) (k := fun p ρ S => (toR p.1).bind fun l => (toI p.2).bind fun k => (atS S l).bind fun ds => (ixN ds.length k).map fun j => .ok ρ (S.set l (.lst (ds.set j d))) .nx) (v := (.ref l, .int k)) (S1 := S2) (bindOk h1 (bindOk h2 rfl)) ?_
  show ((atS S2 l).bind fun ds => (ixN ds.length k).map fun j => RS.ok ρ (S2.set l (.lst (ds.set j d))) .nx) = _
  rw [h3]
  show (ixN es.length k).map _ = _
  rw [h4] <;> rfl
/-! statements -/
theorem sExpr (h : evE o a ρ S = some (.ok d S1)) : evS o (.expr a) ρ S = some (.ok ρ S1 .nx) := exOk (k := fun _ ρ S => some (.ok ρ S .nx)) h rfl
theorem sAsg {t : T} (h : evE o a ρ S = some (.ok d S1)) (h2 : asT o t d ρ S1 = some (.ok ρ1 S2 .nx)) : evS o (.asg t a) ρ S = some (.ok ρ1 S2 .nx) :=
  exOk h (by show onlyNx (fun ρ S => asT o t d ρ S) ρ S1 = _; unfold onlyNx; simp only [h2])
theorem sAug {j k : Int} {p : BOp} (h0 : ρ[i]? = some (some (.int j))) (h : evE o a ρ S = some (.ok (.int k) S1)) (h2 : binO p (.int j) (.int k) = some d) (hl : i < ρ.length) : evS o (.aug i p a) ρ S = some (.ok (ρ.set i (some d)) S1 .nx) :=
  exOk (m := fun ρ => do let x ← varD ρ i; let y ← evE o a ρ; let i ← M.opt (toI x); let j ← M.opt (toI y); binD p (.int i) (.int j)) (k := fun d ρ S => if i < ρ.length then some (.ok (ρ.set i (some d)) S .nx) else none) (v := d) (S1 := S1) (bindOk (xV (o := o) h0) (bindOk h (bindOk (v := j) (S1 := S1) rfl (bindOk (v := k) (S1 := S1) rfl (optOk h2))))) (if_pos hl)
theorem sIfT {B1 B2 : B} {R : Option RS} (h : evT o c ρ S = some (.ok true S1)) (h2 : evB o B1 ρ S1 = R) : evS o (.if_ c B1 B2) ρ S = R := exOk h h2
theorem sIfF {B1 B2 : B} {R : Option RS} (h : evT o c ρ S = some (.ok false S1)) (h2 : evB o B2 ρ S1 = R) : evS o (.if_ c B1 B2) ρ S = R := exOk h h2
theorem sRet (h : evE o a ρ S = some (.ok d S1)) : evS o (.ret a) ρ S = some (.ok ρ S1 (.rt d)) := exOk (k := fun d ρ S => some (.ok ρ S (.rt d))) h rfl
theorem sFor {t : T} {it : I} {B1 : B} {g : Option (Nat × List D)} {R : Option RS} (h : evI o it ρ S = some (.ok (g, ds) S1)) (h2 : forL (fun d ρ S => asT o t d ρ S) (evB o B1) g ds ρ S1 = R) : evS o (.for_ t it B1) ρ S = R := exOk h h2
theorem bNil : evB o .nil ρ S = some (.ok ρ S .nx) := rfl
theorem bCons {s : Wk.S} {r : B} {R : Option RS} (h : evS o s ρ S = some (.ok ρ1 S1 .nx)) (h2 : evB o r ρ1 S1 = R) : evB o (.cons s r) ρ S = R := by
  show thenS (evS o s) (evB o r) ρ S = R
  unfold thenS
  rw [h]
  exact h2
theorem bRet {s : Wk.S} {r : B} (h : evS o s ρ S = some (.ok ρ1 S1 (.rt d))) : evB o (.cons s r) ρ S = some (.ok ρ1 S1 (.rt d)) := by
  show thenS (evS o s) (evB o r) ρ S = _
  unfold thenS
  rw [h]
/-! loops -/
/-- a for by an invariant of the turn; the body falls through -/
theorem forInv {as : D → MS} {b : MS} {g : Option (Nat × List D)} {items : List D} (Pv : Nat → Env' → Store → Prop) (h0 : Pv 0 ρ S) (hst : ∀ i ρ S, i ≤ items.length → Pv i ρ S → still g S)
    (hs : ∀ i d ρ S, items[i]? = some d → Pv i ρ S → ∃ ρ1 S1 ρ2 S2, as d ρ S = some (.ok ρ1 S1 .nx) ∧ b ρ1 S1 = some (.ok ρ2 S2 .nx) ∧ Pv (i + 1) ρ2 S2) : ∃ ρ' S', forL as b g items ρ S = some (.ok ρ' S' .nx) ∧ Pv items.length ρ' S' := by
  induction items generalizing Pv ρ S with
  | nil =>
    refine ⟨ρ, S, ?_, h0⟩
    unfold forL
    rw [if_pos (hst 0 ρ S (Nat.le_refl _) h0)]
  | cons d ds ih =>
    obtain ⟨ρ1, S1, ρ2, S2, e1, e2, p⟩ := hs 0 d ρ S rfl h0
    obtain ⟨ρ', S', e3, p'⟩ := ih (fun i ρ S => Pv (i + 1) ρ S) p (fun i ρ S hi hp => hst (i + 1) ρ S (by simp only [List.length_cons]; omega) hp) fun i d ρ S e hp => hs (i + 1) d ρ S e hp
    refine ⟨ρ', S', ?_, p'⟩
    unfold forL
    rw [if_pos (hst 0 ρ S (Nat.zero_le _) h0)]
    simp only [e1, e2]
    exact e3
/-- .. where the body may return -/
theorem forInvR {as : D → MS} {b : MS} {g : Option (Nat × List D)} {items : List D} (Pv : Nat → Env' → Store → Prop) (Rv : D → Store → Prop) (h0 : Pv 0 ρ S) (hst : ∀ i ρ S, i ≤ items.length → Pv i ρ S → still g S)
    (hs : ∀ i d ρ S, items[i]? = some d → Pv i ρ S → ∃ ρ1 S1 ρ2 S2, as d ρ S = some (.ok ρ1 S1 .nx) ∧ ((b ρ1 S1 = some (.ok ρ2 S2 .nx) ∧ Pv (i + 1) ρ2 S2) ∨ ∃ v, b ρ1 S1 = some (.ok ρ2 S2 (.rt v)) ∧ Rv v S2)) :
    ∃ ρ' S', (forL as b g items ρ S = some (.ok ρ' S' .nx) ∧ Pv items.length ρ' S') ∨ ∃ v, forL as b g items ρ S = some (.ok ρ' S' (.rt v)) ∧ Rv v S' := by
  induction items generalizing Pv ρ S with
  | nil =>
    refine ⟨ρ, S, .inl ⟨?_, h0⟩⟩
    unfold forL
    rw [if_pos (hst 0 ρ S (Nat.le_refl _) h0)]
  | cons d ds ih =>
    obtain ⟨ρ1, S1, ρ2, S2, e1, e2⟩ := hs 0 d ρ S rfl h0
    rcases e2 with ⟨e2, p⟩ | ⟨v, e2, hv⟩
    · obtain ⟨ρ', S', e3⟩ := ih (fun i ρ S => Pv (i + 1) ρ S) p (fun i ρ S hi hp => hst (i + 1) ρ S (by simp only [List.length_cons]; omega) hp) fun i d ρ S e hp => hs (i + 1) d ρ S e hp
      refine ⟨ρ', S', e3.imp (fun ⟨e3, p'⟩ => ⟨?_, p'⟩) fun ⟨v, e3, hv⟩ => ⟨v, ?_, hv⟩⟩
      all_goals
        unfold forL
        rw [if_pos (hst 0 ρ S (Nat.zero_le _) h0)]
        simp only [e1, e2]
        exact e3
    · refine ⟨ρ2, S2, .inr ⟨v, ?_, hv⟩⟩
      unfold forL
      rw [if_pos (hst 0 ρ S (Nat.zero_le _) h0)]
      simp only [e1, e2]
/-- a comprehension whose store may turn by an invariant -/
theorem compInv {as : D → MS} {c : Env' → M Bool} {e : Env' → M D} {g : Option (Nat × List D)} {items : List D} (Pv : Nat → List D → Store → Prop) {acc : List D} (h0 : Pv 0 acc S) (hst : ∀ i acc S, i ≤ items.length → Pv i acc S → still g S)
    (hs : ∀ i d acc S, items[i]? = some d → Pv i acc S → ∃ ρ1 S1 S2, as d ρ S = some (.ok ρ1 S1 .nx) ∧ ((c ρ1 S1 = some (.ok false S2) ∧ Pv (i + 1) acc S2) ∨ ∃ y S3, c ρ1 S1 = some (.ok true S2) ∧ e ρ1 S2 = some (.ok y S3) ∧ lenOk (acc.length + 1) = true ∧ Pv (i + 1) (acc ++ [y]) S3)) :
    ∃ acc' S', compL as c e ρ g acc items S = some (acc', S') ∧ Pv items.length acc' S' := by
  induction items generalizing Pv acc S with
  | nil =>
    refine ⟨acc, S, ?_, h0⟩
    unfold compL
    rw [if_pos (hst 0 acc S (Nat.le_refl _) h0)]
  | cons d ds ih =>
    obtain ⟨ρ1, S1, S2, e1, e2⟩ := hs 0 d acc S rfl h0
    rcases e2 with ⟨e2, p⟩ | ⟨y, S3, e2, e3, hl, p⟩
    · obtain ⟨acc', S', e4, p'⟩ := ih (fun i acc S => Pv (i + 1) acc S) p (fun i acc S hi hp => hst (i + 1) acc S (by simp only [List.length_cons]; omega) hp) fun i d acc S e hp => hs (i + 1) d acc S e hp
      refine ⟨acc', S', ?_, p'⟩
      unfold compL
      rw [if_pos (hst 0 acc S (Nat.zero_le _) h0)]
      simp only [e1, e2]
      exact e4
    · obtain ⟨acc', S', e4, p'⟩ := ih (fun i acc S => Pv (i + 1) acc S) p (fun i acc S hi hp => hst (i + 1) acc S (by simp only [List.length_cons]; omega) hp) fun i d acc S e hp => hs (i + 1) d acc S e hp
      refine ⟨acc', S', ?_, p'⟩
      unfold compL
      rw [if_pos (hst 0 acc S (Nat.zero_le _) h0)]
      simp only [e1, e2, e3]
      rw [if_pos hl]
      exact e4
/-- a comprehension that leaves the store: each item gives h, or is passed over -/
theorem compMap {as : D → MS} {c : Env' → M Bool} {e : Env' → M D} {g : Option (Nat × List D)} {items : List D} (h : D → Option D) (hst : still g S) (hl : items.length ≤ 1000000)
    (hs : ∀ d ∈ items, ∃ ρ1, as d ρ S = some (.ok ρ1 S .nx) ∧ ((h d = none ∧ c ρ1 S = some (.ok false S)) ∨ ∃ y, h d = some y ∧ c ρ1 S = some (.ok true S) ∧ e ρ1 S = some (.ok y S))) :
    compL as c e ρ g [] items S = some (items.filterMap h, S) := by
  have key : ∀ (items : List D) (acc : List D), acc.length + items.length ≤ 1000000 → (∀ d ∈ items, ∃ ρ1, as d ρ S = some (.ok ρ1 S .nx) ∧ ((h d = none ∧ c ρ1 S = some (.ok false S)) ∨ ∃ y, h d = some y ∧ c ρ1 S = some (.ok true S) ∧ e ρ1 S = some (.ok y S))) →
      compL as c e ρ g acc items S = some (acc ++ items.filterMap h, S) := by
    intro items
    induction items with
    | nil =>
      intro acc _ _
      unfold compL
      rw [if_pos hst, List.filterMap_nil, List.append_nil]
    | cons d ds ih =>
      intro acc hl hs
      simp only [List.length_cons] at hl
      obtain ⟨ρ1, e1, e2⟩ := hs d (List.mem_cons_self ..)
      unfold compL
      rw [if_pos hst]
      rcases e2 with ⟨e2, e3⟩ | ⟨y, e2, e3, e4⟩
      · simp only [e1, e3]
        rw [ih acc (by omega) fun d hd => hs d (List.mem_cons_of_mem _ hd), List.filterMap_cons, e2]
      · simp only [e1, e3, e4]
        rw [if_pos (show lenOk (acc.length + 1) = true from decide_eq_true (by show acc.length + 1 ≤ 1000000; omega))]
        rw [ih (acc ++ [y]) (by rw [List.length_append, List.length_singleton]; omega) fun d hd => hs d (List.mem_cons_of_mem _ hd), List.filterMap_cons, e2, List.append_assoc] <;> rfl
  have := key items [] (by simpa using hl) hs
  simpa using this
/-- .. each item gives f -/
theorem compMap1 {as : D → MS} {c : Env' → M Bool} {e : Env' → M D} {g : Option (Nat × List D)} {items : List D} (f : D → D) (hst : still g S) (hl : items.length ≤ 1000000)
    (hs : ∀ d ∈ items, ∃ ρ1, as d ρ S = some (.ok ρ1 S .nx) ∧ c ρ1 S = some (.ok true S) ∧ e ρ1 S = some (.ok (f d) S)) : compL as c e ρ g [] items S = some (items.map f, S) := by
  rw [compMap (fun d => some (f d)) hst hl fun d hd => by
    obtain ⟨ρ1, e1, e2, e3⟩ := hs d hd
    exact ⟨ρ1, e1, .inr ⟨f d, rfl, e2, e3⟩⟩]
  rw [List.filterMap_eq_map']
/-- a while that ends in n turns -/
theorem whileF_of {t : Env' → M Bool} {b : MS} {n : Nat} {r : RS} (e : whileN t b n ρ S = some r) : whileF t b ρ S = some r := by
  have mono : ∀ (n m : Nat) (ρ : Env') (S : Store) (r : RS), whileN t b n ρ S = some r → whileN t b (n + m) ρ S = some r := by
    intro n
    induction n with
    | zero => intro m ρ S r h; cases h
    | succ n ih =>
      intro m ρ S r h
      rw [Nat.succ_add]
      unfold whileN at h ⊢
      cases et : t ρ S with
      | none => rw [et] at h; cases h
      | some rt =>
        rw [et] at h
        cases rt with
        | ex x S1 => exact h
        | ok k S1 =>
          cases k with
          | false => exact h
          | true =>
            simp only at h ⊢
            cases eb : b ρ S1 with
            | none => rw [eb] at h; cases h
            | some rb =>
              rw [eb] at h
              cases rb with
              | ex x ρ2 S2 => exact h
              | ok ρ2 S2 fl =>
                cases fl with
                | nx => exact ih m ρ2 S2 r h
                | ct => exact ih m ρ2 S2 r h
                | bk => exact h
                | rt d => exact h
  unfold whileF
  have hn : ∃ n, (whileN t b n ρ S).isSome = true := ⟨n, by rw [e] <;> rfl⟩
  rw [dif_pos hn]
  have h1 := Classical.choose_spec hn
  generalize Classical.choose hn = N at h1
  cases eN : whileN t b N ρ S with
  | none => rw [eN] at h1; cases h1
  | some r =>
    have a1 := mono N n ρ S r eN
    have a2 := mono n N ρ S _ e
    rw [Nat.add_comm] at a2
    rw [a1] at a2
    exact a2
/-- a while by a measure -/
theorem whileInv {t : Env' → M Bool} {b : MS} (Pv : Env' → Store → Prop) (Ev : Env' → Store → Prop) (μ : Env' → Store → Nat) (h0 : Pv ρ S)
    (hs : ∀ ρ S, Pv ρ S → (∃ S1, t ρ S = some (.ok false S1) ∧ Ev ρ S1) ∨ ∃ S1 ρ2 S2, t ρ S = some (.ok true S1) ∧ b ρ S1 = some (.ok ρ2 S2 .nx) ∧ Pv ρ2 S2 ∧ μ ρ2 S2 < μ ρ S) : ∃ ρ' S', whileF t b ρ S = some (.ok ρ' S' .nx) ∧ Ev ρ' S' := by
  have key : ∀ (m : Nat) (ρ : Env') (S : Store), μ ρ S ≤ m → Pv ρ S → ∃ n ρ' S', whileN t b n ρ S = some (.ok ρ' S' .nx) ∧ Ev ρ' S' := by
    intro m
    induction m with
    | zero =>
      intro ρ S hm hp
      rcases hs ρ S hp with ⟨S1, e1, ev⟩ | ⟨S1, ρ2, S2, e1, e2, p, hlt⟩
      · exact ⟨1, ρ, S1, by unfold whileN; simp only [e1], ev⟩
      · omega
    | succ m ih =>
      intro ρ S hm hp
      rcases hs ρ S hp with ⟨S1, e1, ev⟩ | ⟨S1, ρ2, S2, e1, e2, p, hlt⟩
      · exact ⟨1, ρ, S1, by unfold whileN; simp only [e1], ev⟩
      · obtain ⟨n, ρ', S', e3, ev⟩ := ih ρ2 S2 (by omega) p
        exact ⟨n + 1, ρ', S', by unfold whileN; simp only [e1, e2]; exact e3, ev⟩
  obtain ⟨n, ρ', S', e, ev⟩ := key (μ ρ S) ρ S (Nat.le_refl _) h0
  refine ⟨ρ', S', ?_, ev⟩
  exact whileF_of e
end
end Wk
end WkRun_text

section WkTest_text
set_option Elab.async false
set_option linter.all false
set_option maxRecDepth 100000
set_option maxHeartbeats 4000000
namespace Wk
open PySem PySem.Spec PyProof.Rows L2 StX
/-- the questions of isinstance about built-in types: any written part answers -/
theorem kitA (K : PySem.W.Frag) : ∀ m n b, isT2 m n = some b → m ∈ ["int", "bool", "tuple", "NoneType"] → PySem.W.kitOne K (.type m) (.type n) = some b := by
  intro m n b h hm
  have hn : n = "int" ∨ n = "bool" ∨ n = "tuple" := by
    unfold isT2 at h
    by_cases q : n = "int" ∨ n = "bool" ∨ n = "tuple"
    · exact q
    · rw [if_neg q] at h; cases h
  simp only [List.mem_cons, List.not_mem_nil, or_false] at hm
  rcases hm with rfl | rfl | rfl | rfl <;> rcases hn with rfl | rfl | rfl <;> (have hb := (Option.some.inj h).symm; subst hb; with_unfolding_all rfl)
end Wk
end WkTest_text

section WkTac_text
set_option Elab.async false
set_option linter.all false
set_option maxRecDepth 100000
set_option maxHeartbeats 4000000
/-! WkTac: small rules for the symbolic runs; calls. -/
namespace Wk
open PySem PySem.Spec PyProof.Rows L2 StX

section
variable {o : Ora} {ρ ρ1 ρ2 : Env'} {S S1 S2 S3 S4 : Store} {a b c e : E} {xs r : A} {x y w d : D} {ds es : List D} {i j : Int} {n : Nat}
theorem binAdd : binO .add (.int i) (.int j) = some (.int (i + j)) := rfl
theorem binSub : binO .sub (.int i) (.int j) = some (.int (i - j)) := rfl
theorem binMul (h : mulOk i j = true) : binO .mul (.int i) (.int j) = some (.int (i * j)) := if_pos h
theorem binPow (h : powOk i j = true) : binO .pow (.int i) (.int j) = some (.int (i ^ j.toNat)) := if_pos h
theorem binMod (h : j ≠ 0) : binO .mod (.int i) (.int j) = some (.int (i.fmod j)) := if_pos (decide_eq_true h)
theorem binFdiv (h : divOk j = true) : binO .fdiv (.int i) (.int j) = some (.int (i.fdiv j)) := if_pos h
theorem cLtT (h : i < j) : cmpO S .lt (.int i) (.int j) = some true := congrArg some (decide_eq_true h)
theorem cLtF (h : ¬ i < j) : cmpO S .lt (.int i) (.int j) = some false := congrArg some (decide_eq_false h)
theorem cGtT (h : j < i) : cmpO S .gt (.int i) (.int j) = some true := congrArg some (decide_eq_true h)
theorem cGtF (h : ¬ j < i) : cmpO S .gt (.int i) (.int j) = some false := congrArg some (decide_eq_false h)
theorem cEqI : cmpO S .eq (.int i) (.int j) = some (i == j) := rfl
theorem cNeI : cmpO S .ne (.int i) (.int j) = some (!(i == j)) := rfl
theorem cEqT (h : i = j) : cmpO S .eq (.int i) (.int j) = some true := by rw [cEqI, h]; simp
theorem cEqF (h : i ≠ j) : cmpO S .eq (.int i) (.int j) = some false := by rw [cEqI]; simp [h]
theorem cNeF (h : i = j) : cmpO S .ne (.int i) (.int j) = some false := by rw [cNeI, h]; simp
theorem cNeT (h : i ≠ j) : cmpO S .ne (.int i) (.int j) = some true := by rw [cNeI]; simp [h]
theorem kCmp {p : COp} {k : Bool} (h : cmpO S p x y = some k) : cmpO S p x y = some k := h
theorem kIx (h : ixO S x y = some d) : ixO S x y = some d := h
theorem kBi {f : BI} (h : biO S f ds = some d) : biO S f ds = some d := h
theorem kQ (h : getQO S x = some ds) : getQO S x = some ds := h
theorem kTru {k : Bool} (h : truO S x = some k) : truO S x = some k := h
theorem kAt {l : Nat} (h : atS S l = some ds) : atS S l = some ds := h
theorem kIxN {k : Int} {m : Nat} (h : ixN n k = some m) : ixN n k = some m := h
theorem kMk {fz : Bool} {R : Option (Res D)} (h : mkL fz ds S = R) : mkL fz ds S = R := h
theorem kBin {p : BOp} (h : binO p x y = some d) : binO p x y = some d := h
theorem kB {u : Bool} (h : u = true) : u = true := h
theorem kLen (h : lenOk n = true) : lenOk n = true := h
theorem bRet1 {B1 : B} (h : evE o a ρ S = some (.ok d S1)) : evB o (.cons (.ret a) B1) ρ S = some (.ok ρ S1 (.rt d)) := bRet (sRet h)
theorem bAsg {t : T} {B1 : B} {R : Option RS} (h : evE o a ρ S = some (.ok d S1)) (h2 : asT o t d ρ S1 = some (.ok ρ1 S2 .nx)) (h3 : evB o B1 ρ1 S2 = R) : evB o (.cons (.asg t a) B1) ρ S = R := bCons (sAsg h h2) h3
theorem bExpr {B1 : B} {R : Option RS} (h : evE o a ρ S = some (.ok d S1)) (h3 : evB o B1 ρ S1 = R) : evB o (.cons (.expr a) B1) ρ S = R := bCons (sExpr h) h3
theorem bIfT {B1 B2 B3 : B} {R : Option RS} (h : evT o c ρ S = some (.ok true S1)) (h2 : evB o B1 ρ S1 = some (.ok ρ1 S2 .nx)) (h3 : evB o B3 ρ1 S2 = R) : evB o (.cons (.if_ c B1 B2) B3) ρ S = R := bCons (sIfT h h2) h3
theorem bIfF {B1 B2 B3 : B} {R : Option RS} (h : evT o c ρ S = some (.ok false S1)) (h2 : evB o B2 ρ S1 = some (.ok ρ1 S2 .nx)) (h3 : evB o B3 ρ1 S2 = R) : evB o (.cons (.if_ c B1 B2) B3) ρ S = R := bCons (sIfF h h2) h3
theorem bIfTR {B1 B2 B3 : B} (h : evT o c ρ S = some (.ok true S1)) (h2 : evB o B1 ρ S1 = some (.ok ρ1 S2 (.rt d))) : evB o (.cons (.if_ c B1 B2) B3) ρ S = some (.ok ρ1 S2 (.rt d)) := bRet (sIfT h h2)
theorem bIfFN {B1 B3 : B} {R : Option RS} (h : evT o c ρ S = some (.ok false S1)) (h3 : evB o B3 ρ S1 = R) : evB o (.cons (.if_ c B1 .nil) B3) ρ S = R := bCons (sIfF h bNil) h3
end
theorem getQ_ref {T : Store} {l : Nat} {ds : List D} (h : atS T l = some ds) : getQO T (.ref l) = some ds := by
  unfold atS at h
  cases q : T[l]? with
  | none => rw [q] at h; cases h
  | some o =>
    rw [q] at h
    cases o with
    | ins _ _ _ => cases h
    | lst xs =>
      show (match (getL (.ref l) T) with | some (.ok ds _) => some ds | _ => none) = some ds
      simp only [getL, q]
      exact h
theorem ix_ref {T : Store} {l : Nat} {ds : List D} {j : Int} {d : D} (h : atS T l = some ds) (h2 : atI ds j = some d) : ixO T (.ref l) (.int j) = some d := by
  unfold ixO
  rw [getQ_ref h]
  exact h2
theorem atS_lt {T : Store} {l : Nat} {ds : List D} (h : atS T l = some ds) : l < T.length := by
  unfold atS at h
  by_cases q : l < T.length
  · exact q
  · rw [List.getElem?_eq_none (by omega)] at h; cases h
theorem atS_set {T : Store} {l : Nat} {ds : List D} (h : l < T.length) : atS (T.set l (.lst ds)) l = some ds := by
  unfold atS
  rw [List.getElem?_set_self h]
/-- a comprehension over l, told by what each element gives (or that it is passed over) -/
theorem compOfF {α : Type} {as : D → MS} {c : Env' → M Bool} {e : Env' → M D} {ρ : Env'} {S : Store} {g : Option (Nat × List D)} (l : List α) (emb : α → D) (h : α → Option D) (hst : still g S) (hl : l.length ≤ 1000000)
    (hs : ∀ a ∈ l, ∃ ρ1, as (emb a) ρ S = some (.ok ρ1 S .nx) ∧ ((h a = none ∧ c ρ1 S = some (.ok false S)) ∨ ∃ y, h a = some y ∧ c ρ1 S = some (.ok true S) ∧ e ρ1 S = some (.ok y S))) :
    compL as c e ρ g [] (l.map emb) S = some (l.filterMap h, S) := by
  have key : ∀ (l : List α) (acc : List D), acc.length + l.length ≤ 1000000 → (∀ a ∈ l, ∃ ρ1, as (emb a) ρ S = some (.ok ρ1 S .nx) ∧ ((h a = none ∧ c ρ1 S = some (.ok false S)) ∨ ∃ y, h a = some y ∧ c ρ1 S = some (.ok true S) ∧ e ρ1 S = some (.ok y S))) →
      compL as c e ρ g acc (l.map emb) S = some (acc ++ l.filterMap h, S) := by
    intro l
    induction l with
    | nil =>
      intro acc _ _
      rw [List.map_nil]
      unfold compL
      rw [if_pos hst, List.filterMap_nil, List.append_nil]
    | cons d ds ih =>
      intro acc hl hs
      simp only [List.length_cons] at hl
      obtain ⟨ρ1, e1, e2⟩ := hs d (List.mem_cons_self ..)
      rw [List.map_cons]
      unfold compL
      rw [if_pos hst]
      rcases e2 with ⟨e2, e3⟩ | ⟨y, e2, e3, e4⟩
      · simp only [e1, e3]
        rw [ih acc (by omega) fun d hd => hs d (List.mem_cons_of_mem _ hd), List.filterMap_cons, e2]
      · simp only [e1, e3, e4]
        rw [if_pos (show lenOk (acc.length + 1) = true from decide_eq_true (by show acc.length + 1 ≤ 1000000; omega))]
        rw [ih (acc ++ [y]) (by rw [List.length_append, List.length_singleton]; omega) fun d hd => hs d (List.mem_cons_of_mem _ hd), List.filterMap_cons, e2, List.append_assoc] <;> rfl
  have := key l [] (by simpa using hl) hs
  simpa using this
theorem compOf {α : Type} {as : D → MS} {c : Env' → M Bool} {e : Env' → M D} {ρ : Env'} {S : Store} {g : Option (Nat × List D)} (l : List α) (emb h : α → D) (hst : still g S) (hl : l.length ≤ 1000000)
    (hs : ∀ a ∈ l, ∃ ρ1, as (emb a) ρ S = some (.ok ρ1 S .nx) ∧ c ρ1 S = some (.ok true S) ∧ e ρ1 S = some (.ok (h a) S)) : compL as c e ρ g [] (l.map emb) S = some (l.map h, S) := by
  rw [compOfF l emb (fun a => some (h a)) hst hl fun a ha => by
    obtain ⟨ρ1, e1, e2, e3⟩ := hs a ha
    exact ⟨ρ1, e1, .inr ⟨h a, rfl, e2, e3⟩⟩]
  rw [List.filterMap_eq_map']
/-- a tuple of whole numbers, a pair -/
def ti (xs : List Int) : D := .tup (xs.map D.int)
def emb2 (p : Int × Int) : D := .tup [.int p.1, .int p.2]
theorem zip_items (xs ys : List Int) : ((xs.map D.int).zip (ys.map D.int)).map (fun p => D.tup [p.1, p.2]) = (xs.zip ys).map emb2 := by
  rw [List.zip_map, List.map_map]
  rfl
theorem lenOk_of {n : Nat} (h : n ≤ 1000000) : lenOk n = true := decide_eq_true h
theorem noRef_ti (xs : List Int) : noRef (ti xs) = true := noRefs_ints xs
theorem ixN_nat {n k : Nat} (h : k < n) : ixN n (k : Int) = some k := by
  unfold ixN
  rw [if_pos (by omega)]
  simp [h]
theorem atI_nat {ds : List D} {k : Nat} {d : D} (h : ds[k]? = some d) : atI ds (k : Int) = some d := by
  unfold atI
  rw [ixN_nat (List.getElem?_eq_some_iff.mp h).1]
  exact h
theorem ix_tup {S : Store} {ds : List D} {k : Nat} {d : D} (h : ds[k]? = some d) : ixO S (.tup ds) (.int k) = some d := by
  show atI ds k = _
  exact atI_nat h
theorem ix_lst {S : Store} {ds : List D} {k : Nat} {d : D} (h : ds[k]? = some d) : ixO S (.lst ds) (.int k) = some d := by
  show atI ds k = _
  exact atI_nat h
theorem ix_ti {S : Store} {xs : List Int} {k : Nat} (h : k < xs.length) : ixO S (ti xs) (.int k) = some (.int (xs.getD k 0)) := by
  refine ix_tup ?_
  rw [List.getElem?_map, List.getElem?_eq_getElem h, List.getD_eq_getElem?_getD, List.getElem?_eq_getElem h] <;> rfl
/-- a while whose body may return; the measure goes with the invariant -/
theorem whileRet {ρ : Env'} {S : Store} {t : Env' → M Bool} {b : MS} (Pv : Nat → Env' → Store → Prop) (Rv : D → Store → Prop) {m0 : Nat} (h0 : Pv m0 ρ S)
    (hs : ∀ m ρ S, Pv m ρ S → t ρ S = some (.ok true S) ∧ ((∃ ρ2 S2 v, b ρ S = some (.ok ρ2 S2 (.rt v)) ∧ Rv v S2) ∨ ∃ ρ2 S2 m', b ρ S = some (.ok ρ2 S2 .nx) ∧ Pv m' ρ2 S2 ∧ m' < m)) : ∃ ρ' S' v, whileF t b ρ S = some (.ok ρ' S' (.rt v)) ∧ Rv v S' := by
  have key : ∀ (k m : Nat) (ρ : Env') (S : Store), m ≤ k → Pv m ρ S → ∃ n ρ' S' v, whileN t b n ρ S = some (.ok ρ' S' (.rt v)) ∧ Rv v S' := by
    intro k
    induction k with
    | zero =>
      intro m ρ S hm hp
      obtain ⟨e1, ⟨ρ2, S2, v, e2, hv⟩ | ⟨ρ2, S2, m', e2, p, hlt⟩⟩ := hs m ρ S hp
      · exact ⟨1, ρ2, S2, v, by unfold whileN; simp only [e1, e2], hv⟩
      · omega
    | succ k ih =>
      intro m ρ S hm hp
      obtain ⟨e1, ⟨ρ2, S2, v, e2, hv⟩ | ⟨ρ2, S2, m', e2, p, hlt⟩⟩ := hs m ρ S hp
      · exact ⟨1, ρ2, S2, v, by unfold whileN; simp only [e1, e2], hv⟩
      · obtain ⟨n, ρ', S', v, e3, hv⟩ := ih m' ρ2 S2 (by omega) p
        exact ⟨n + 1, ρ', S', v, by unfold whileN; simp only [e1, e2]; exact e3, hv⟩
  obtain ⟨n, ρ', S', v, e, hv⟩ := key m0 m0 ρ S (Nat.le_refl _) h0
  exact ⟨ρ', S', v, whileF_of e, hv⟩
/-- a while that ends by its test -/
theorem whileEnd {ρ : Env'} {S : Store} {t : Env' → M Bool} {b : MS} (Pv : Nat → Env' → Store → Prop) (Ev : Env' → Store → Prop) {m0 : Nat} (h0 : Pv m0 ρ S)
    (hs : ∀ m ρ S, Pv m ρ S → (∃ S1, t ρ S = some (.ok false S1) ∧ Ev ρ S1) ∨ ∃ S1 ρ2 S2 m', t ρ S = some (.ok true S1) ∧ b ρ S1 = some (.ok ρ2 S2 .nx) ∧ Pv m' ρ2 S2 ∧ m' < m) : ∃ ρ' S', whileF t b ρ S = some (.ok ρ' S' .nx) ∧ Ev ρ' S' := by
  have key : ∀ (k m : Nat) (ρ : Env') (S : Store), m ≤ k → Pv m ρ S → ∃ n ρ' S', whileN t b n ρ S = some (.ok ρ' S' .nx) ∧ Ev ρ' S' := by
    intro k
    induction k with
    | zero =>
      intro m ρ S hm hp
      rcases hs m ρ S hp with ⟨S1, e1, ev⟩ | ⟨S1, ρ2, S2, m', e1, e2, p, hlt⟩
      · exact ⟨1, ρ, S1, by unfold whileN; simp only [e1], ev⟩
      · omega
    | succ k ih =>
      intro m ρ S hm hp
      rcases hs m ρ S hp with ⟨S1, e1, ev⟩ | ⟨S1, ρ2, S2, m', e1, e2, p, hlt⟩
      · exact ⟨1, ρ, S1, by unfold whileN; simp only [e1], ev⟩
      · obtain ⟨n, ρ', S', e3, ev⟩ := ih m' ρ2 S2 (by omega) p
        exact ⟨n + 1, ρ', S', by unfold whileN; simp only [e1, e2]; exact e3, ev⟩
  obtain ⟨n, ρ', S', e, ev⟩ := key m0 m0 ρ S (Nat.le_refl _) h0
  exact ⟨ρ', S', whileF_of e, ev⟩
theorem fNil {as : D → MS} {b : MS} {ρ : Env'} {S : Store} {g : Option (Nat × List D)} (hst : still g S) : forL as b g [] ρ S = some (.ok ρ S .nx) := by
  unfold forL
  rw [if_pos hst]
theorem fCons {as : D → MS} {b : MS} {ρ ρ1 ρ2 : Env'} {S S1 S2 : Store} {g : Option (Nat × List D)} {d : D} {ds : List D} {R : Option RS} (hst : still g S) (h1 : as d ρ S = some (.ok ρ1 S1 .nx)) (h2 : b ρ1 S1 = some (.ok ρ2 S2 .nx)) (h3 : forL as b g ds ρ2 S2 = R) : forL as b g (d :: ds) ρ S = R := by
  unfold forL
  rw [if_pos hst]
  simp only [h1, h2]
  exact h3
theorem fRet {as : D → MS} {b : MS} {ρ ρ1 ρ2 : Env'} {S S1 S2 : Store} {g : Option (Nat × List D)} {d v : D} {ds : List D} (hst : still g S) (h1 : as d ρ S = some (.ok ρ1 S1 .nx)) (h2 : b ρ1 S1 = some (.ok ρ2 S2 (.rt v))) : forL as b g (d :: ds) ρ S = some (.ok ρ2 S2 (.rt v)) := by
  unfold forL
  rw [if_pos hst]
  simp only [h1, h2]
theorem intsOf_map : ∀ xs : List Int, intsOf (xs.map D.int) = some xs
  | [] => rfl
  | x :: xs => by
    show (intsOf (xs.map D.int)).map (fun q => x :: q) = _
    rw [intsOf_map xs] <;> rfl
theorem bi_sum {S : Store} {xs : List Int} : biO S .sum [.lst (xs.map D.int)] = some (.int xs.sum) := by
  show ((intsOf (xs.map D.int)).map fun ns => D.int ns.sum) = _
  rw [intsOf_map] <;> rfl
/-! ### frozen data that stays as it is -/
def Fix (k : Nat) (d : D) : Prop := ∀ T n, frz T n k d = some d
theorem Fix.int {k : Nat} {i : Int} : Fix (k + 1) (.int i) := fun _ _ => rfl
theorem Fix.non {k : Nat} : Fix (k + 1) .non := fun _ _ => rfl
theorem Fix.bl {k : Nat} {b : Bool} : Fix (k + 1) (.bl b) := fun _ _ => rfl
theorem mapO_id {g : D → Option D} : ∀ {ds : List D}, (∀ d ∈ ds, g d = some d) → mapO g ds = some ds
  | [], _ => rfl
  | d :: ds, h => by
    show (g d).bind (fun b => (mapO g ds).map fun s => b :: s) = _
    rw [h d (List.mem_cons_self ..), mapO_id fun e he => h e (List.mem_cons_of_mem _ he)] <;> rfl
theorem Fix.tup {k : Nat} {ds : List D} (h : ∀ d ∈ ds, Fix k d) : Fix (k + 1) (.tup ds) := fun T n => by
  show (mapO (frz T n k) ds).map D.tup = _
  rw [mapO_id fun d hd => h d hd T n] <;> rfl
theorem Fix.lst {k : Nat} {ds : List D} (h : ∀ d ∈ ds, Fix k d) : Fix (k + 1) (.lst ds) := fun T n => by
  show (mapO (frz T n k) ds).map D.lst = _
  rw [mapO_id fun d hd => h d hd T n] <;> rfl
theorem Fix.ints {k : Nat} {ns : List Int} : ∀ d ∈ ns.map D.int, Fix (k + 1) d := fun d hd => by
  obtain ⟨n, _, rfl⟩ := List.mem_map.mp hd
  exact Fix.int
theorem Fix.ti {k : Nat} {xs : List Int} : Fix (k + 2) (ti xs) := Fix.tup Fix.ints
theorem Fix.nil {k : Nat} : ∀ d ∈ ([] : List D), Fix k d := fun _ h => absurd h (by simp)
theorem Fix.cons {k : Nat} {d : D} {ds : List D} (h : Fix k d) (r : ∀ d ∈ ds, Fix k d) : ∀ e ∈ d :: ds, Fix k e := fun e he => by
  rcases List.mem_cons.mp he with q | q
  · rw [q]; exact h
  · exact r e q
/-! ### calls -/
section
variable {gl : Str → Option D} {defs : List Def} {n : Nat} {f : Str} {F : Def} {ds : List D} {S S' : Store} {d d' : D} {ρ : Env'}
/-- .. of no places; the result stays as it is -/
theorem callP (hf : defs.find? (fun d => d.name == f) = some F) (hl : ds.length = F.ps.length) (hn : noRefs ds = true) (hb : evB (runF gl defs n) F.body (startE F.N ds) [] = some (.ok ρ S' (.rt d))) (hd : Fix deep d) : (runF gl defs (n + 1)).call false f ds [] S = some (.ok d S) := by
  show (match defs.find? (fun d => d.name == f) with
    | none => none
    | some F => if (([] : List (Str × D)).isEmpty && decide (ds.length = F.ps.length)) = true then
        (if noRefs ds = true then shutP false S (endR (evB (runF gl defs n) F.body (startE F.N ds) [])) else if false = true then none else shutS S.length (endR (evB (runF gl defs n) F.body (startE F.N ds) S)))
      else none) = _
  rw [hf]
  simp only [hl, decide_true, Bool.and_true, List.isEmpty_nil, if_true, hn, hb]
  show (frz (atT S') 0 deep d).map (fun d' => Res.ok d' S) = _
  rw [hd] <;> rfl
/-- .. a list of its own -/
theorem callPL (hf : defs.find? (fun d => d.name == f) = some F) (hl : ds.length = F.ps.length) (hn : noRefs ds = true) (hb : evB (runF gl defs n) F.body (startE F.N ds) [] = some (.ok ρ S' (.rt d))) (hd : frz (atT S') 0 deep d = some d') : (runF gl defs (n + 1)).call false f ds [] S = some (.ok d' S) := by
  show (match defs.find? (fun d => d.name == f) with
    | none => none
    | some F => if (([] : List (Str × D)).isEmpty && decide (ds.length = F.ps.length)) = true then
        (if noRefs ds = true then shutP false S (endR (evB (runF gl defs n) F.body (startE F.N ds) [])) else if false = true then none else shutS S.length (endR (evB (runF gl defs n) F.body (startE F.N ds) S)))
      else none) = _
  rw [hf]
  simp only [hl, decide_true, Bool.and_true, List.isEmpty_nil, if_true, hn, hb]
  show (frz (atT S') 0 deep d).map (fun d' => Res.ok d' S) = _
  rw [hd] <;> rfl
/-- .. a list that becomes a place of the caller's -/
theorem callT {l : Nat} {es : List D} (hf : defs.find? (fun d => d.name == f) = some F) (hl : ds.length = F.ps.length) (hn : noRefs ds = true) (hb : evB (runF gl defs n) F.body (startE F.N ds) [] = some (.ok ρ S' (.rt (.ref l)))) (hS : S'[l]? = some (.lst es)) (hd : ∀ d ∈ es, Fix deep d) :
    (runF gl defs (n + 1)).call true f ds [] S = some (.ok (.ref S.length) (S ++ [.lst es])) := by
  show (match defs.find? (fun d => d.name == f) with
    | none => none
    | some F => if (([] : List (Str × D)).isEmpty && decide (ds.length = F.ps.length)) = true then
        (if noRefs ds = true then shutP true S (endR (evB (runF gl defs n) F.body (startE F.N ds) [])) else if true = true then none else shutS S.length (endR (evB (runF gl defs n) F.body (startE F.N ds) S)))
      else none) = _
  rw [hf]
  simp only [hl, decide_true, Bool.and_true, List.isEmpty_nil, if_true, hn, hb]
  show (match S'[l]? with
    | some (.lst ds) => (mapO (frz (fun i => if i = l then none else S'[i]?) 0 deep) ds).map fun es => Res.ok (D.ref S.length) (S ++ [O.lst es])
    | _ => none) = _
  rw [hS]
  show (mapO _ es).map _ = _
  rw [mapO_id fun d hd' => hd d hd' _ _] <;> rfl
/-- a store whose objects stay as they are -/
def FixS (S : Store) : Prop := ∀ o ∈ S, ∃ ds, o = .lst ds ∧ ∀ d ∈ ds, Fix deep d
theorem FixS.map {S : Store} (h : FixS S) (T : Nat → Option O) (n : Nat) : mapO (frzO T n) S = some S := by
  induction S with
  | nil => rfl
  | cons o S ih =>
    obtain ⟨ds, rfl, hd⟩ := h o (List.mem_cons_self ..)
    show (frzO T n (.lst ds)).bind (fun b => (mapO (frzO T n) S).map fun s => b :: s) = _
    rw [ih fun o ho => h o (List.mem_cons_of_mem _ ho)]
    show ((mapO (frz T n deep) ds).map O.lst).bind _ = _
    rw [mapO_id fun d hd' => hd d hd' T n] <;> rfl
/-- .. with places: the caller's store turns -/
theorem callS (hf : defs.find? (fun d => d.name == f) = some F) (hl : ds.length = F.ps.length) (hn : noRefs ds = false) (hb : evB (runF gl defs n) F.body (startE F.N ds) S = some (.ok ρ S' (.rt d))) (hd : Fix deep d) (hS : FixS (S'.take S.length)) :
    (runF gl defs (n + 1)).call false f ds [] S = some (.ok d (S'.take S.length)) := by
  show (match defs.find? (fun d => d.name == f) with
    | none => none
    | some F => if (([] : List (Str × D)).isEmpty && decide (ds.length = F.ps.length)) = true then
        (if noRefs ds = true then shutP false S (endR (evB (runF gl defs n) F.body (startE F.N ds) [])) else if false = true then none else shutS S.length (endR (evB (runF gl defs n) F.body (startE F.N ds) S)))
      else none) = _
  rw [hf]
  simp only [hl, decide_true, Bool.and_true, List.isEmpty_nil, if_true, hn, hb, Bool.false_eq_true, if_false]
  show (frz (atT S') S.length deep d).bind (fun d' => (mapO (frzO (atT S') S.length) (S'.take S.length)).map fun S2 => Res.ok d' S2) = _
  rw [hd, Option.bind_some, hS.map] <;> rfl
end
end Wk
end WkTac_text

section WkDraw_text
set_option Elab.async false
set_option linter.all false
set_option maxRecDepth 100000
set_option maxHeartbeats 4000000
/-! WkDraw: the laws' drawing of numbers. -/
local macro_rules | `(tactic| get_elem_tactic_trivial) => `(tactic| first
  | with_reducible exact Wk.xI | with_reducible exact Wk.xB | with_reducible exact Wk.xN | with_reducible exact Wk.xS | with_reducible exact Wk.aNil | with_reducible exact Wk.bNil | with_reducible exact Wk.allN | with_reducible exact Wk.anyN | with_reducible exact Wk.tBl
  | ((with_reducible apply Wk.xV); exact rfl) | ((with_reducible apply Wk.xG); exact rfl) | ((with_reducible apply Wk.gNm); exact Nat.le_of_ble_eq_true rfl)
  | with_reducible apply Wk.xBin | with_reducible apply Wk.xNeg | with_reducible apply Wk.xCmp | with_reducible apply Wk.xTup | with_reducible apply Wk.xLst | with_reducible apply Wk.xIx | with_reducible apply Wk.xSlL | with_reducible apply Wk.xSlH
  | with_reducible apply Wk.xBi | with_reducible apply Wk.xCall | with_reducible apply Wk.xLo | with_reducible apply Wk.xRep | with_reducible apply Wk.xLm | with_reducible apply Wk.xComp | with_reducible apply Wk.aCons | with_reducible apply Wk.aStar
  | with_reducible apply Wk.bRet1 | with_reducible apply Wk.sAsg | with_reducible apply Wk.sExpr | with_reducible exact Wk.gsN | with_reducible apply Wk.gsC | ((with_reducible apply Wk.gTp); exact rfl) | with_reducible apply Wk.gSub
  | with_reducible apply Wk.iSeq | with_reducible apply Wk.iR1 | with_reducible apply Wk.iR2 | with_reducible apply Wk.iZip | with_reducible apply Wk.iEnum
  | with_reducible apply Wk.bAsg | with_reducible apply Wk.bExpr
  | with_reducible apply Wk.tCmp | with_reducible apply Wk.tNot | with_reducible apply Wk.tBi | with_reducible apply Wk.tCall | ((with_reducible apply Wk.tV); exact rfl)
  | with_reducible exact Wk.binAdd | with_reducible exact Wk.binSub | ((with_reducible apply Wk.binMul); first | assumption | decide +kernel) | ((with_reducible apply Wk.binPow); first | assumption | decide +kernel) | ((with_reducible apply Wk.binMod); first | assumption | decide +kernel) | ((with_reducible apply Wk.binFdiv); first | assumption | decide +kernel)
  | ((with_reducible apply Wk.kBin); first | assumption | exact rfl | exact Wk.binMul (by assumption) | exact Wk.binFdiv (by assumption) | exact Wk.binMod (by assumption))
  | ((with_reducible apply Wk.cLtT); assumption) | ((with_reducible apply Wk.cLtF); assumption) | ((with_reducible apply Wk.cGtT); assumption) | ((with_reducible apply Wk.cGtF); assumption) | ((with_reducible apply Wk.cEqT); assumption) | ((with_reducible apply Wk.cEqF); assumption) | ((with_reducible apply Wk.cNeT); assumption) | ((with_reducible apply Wk.cNeF); assumption) | ((with_reducible apply Wk.kCmp); first | assumption | exact rfl)
  | ((with_reducible apply Wk.kIx); first | assumption | exact rfl) | ((with_reducible apply Wk.kBi); first | assumption | exact rfl) | ((with_reducible apply Wk.kQ); first | assumption | exact rfl) | ((with_reducible apply Wk.kTru); first | assumption | exact rfl)
  | ((with_reducible apply Wk.kAt); first | assumption | exact rfl) | ((with_reducible apply Wk.kIxN); first | assumption | exact rfl) | ((with_reducible apply Wk.kLen); first | assumption | exact rfl)
  | ((with_reducible apply Wk.kMk); first | assumption | exact Wk.mkLF rfl | exact Wk.mkLN rfl | exact Wk.mkLF (by assumption) | exact Wk.mkLN (by assumption)) | assumption | ((with_reducible apply Wk.kB); exact rfl))
namespace Wk
open PySem PySem.Spec PyProof.Rows L2 StX

def d_law_source : Def := ⟨"_law_source", ["script", "index"], ["script", "index", "cell"],
  (.cons (.asg (.nm 2) (.cint 0)) (.cons (.if_ (.cmp .lt (.v 1) (.bi .len (.cons (.v 0) .nil))) (.cons (.asg (.nm 2) (.ix (.v 0) (.v 1))) .nil) .nil) (.cons (.ret (.lst false (.cons (.bi .max (.cons (.cint 0) (.cons (.bin .sub (.v 2) (.bin .pow (.cint 10) (.cint 18))) .nil))) (.cons (.bin .add (.bin .mod (.v 2) (.bin .add (.bin .pow (.cint 10) (.cint 37)) (.cint 43))) (.bin .mul (.cint 1299709) (.v 1))) (.cons (.cint 0) .nil))))) .nil)))⟩
def d_law_draw : Def := ⟨"_law_draw", ["source", "bound"], ["source", "bound", "mixed", "digit"],
  (.cons (.if_ (.cmp .gt (.ix (.v 0) (.cint 0)) (.cint 0)) (.cons (.asg (.nm 3) (.bin .mod (.ix (.v 0) (.cint 0)) (.v 1))) (.cons (.asg (.sub (.v 0) (.cint 0)) (.bin .fdiv (.ix (.v 0) (.cint 0)) (.v 1))) (.cons (.ret (.v 3)) .nil))) .nil) (.cons (.asg (.sub (.v 0) (.cint 2)) (.bin .add (.ix (.v 0) (.cint 2)) (.cint 1))) (.cons (.asg (.nm 2) (.bin .mod (.bin .pow (.bin .add (.ix (.v 0) (.cint 1)) (.bin .mul (.cint 15485863) (.ix (.v 0) (.cint 2)))) (.cint 3)) (.bin .add (.bin .pow (.cint 10) (.cint 35)) (.cint 69)))) (.cons (.asg (.nm 2) (.bin .mod (.bin .pow (.bin .add (.v 2) (.bin .mul (.cint 32452843) (.ix (.v 0) (.cint 2)))) (.cint 3)) (.bin .add (.bin .pow (.cint 10) (.cint 32)) (.cint 49)))) (.cons (.ret (.bin .mod (.bin .fdiv (.v 2) (.cint 8191)) (.v 1))) .nil)))))⟩
def d_law_shuffled : Def := ⟨"_law_shuffled", ["source", "things"], ["source", "things", "left", "step"],
  (.cons (.asg (.nm 2) (.listOf false (.v 1))) (.cons (.ret (.comp true [("step", 3)] (.nm 3) (.r1 (.bi .len (.cons (.v 2) .nil))) .nil (.lm .popAt (.v 2) (.cons (.call false "_law_draw" (.cons (.v 0) (.cons (.bi .len (.cons (.v 2) .nil)) .nil)) .nil) .nil)))) .nil))⟩
theorem p18 : powOk 10 18 = true := by decide +kernel
theorem p37 : powOk 10 37 = true := by decide +kernel
theorem p35 : powOk 10 35 = true := by decide +kernel
theorem p32 : powOk 10 32 = true := by decide +kernel
theorem n37 : ((10 : Int) ^ (37 : Int).toNat + 43) ≠ 0 := by decide +kernel
theorem n35 : ((10 : Int) ^ (35 : Int).toNat + 69) ≠ 0 := by decide +kernel
theorem n32 : ((10 : Int) ^ (32 : Int).toNat + 49) ≠ 0 := by decide +kernel
theorem d8191 : divOk 8191 = true := by decide +kernel
theorem log2_lt {x k : Nat} (h : x < 2 ^ k) : x.log2 < k + 1 := by
  by_cases hx : x = 0
  · rw [hx]; simp
  · have := (Nat.log2_lt hx (k := k)).mpr h
    omega
theorem mul_small {i j : Int} (h1 : i.natAbs < 2 ^ 400000) (h2 : j.natAbs < 2 ^ 400000) : mulOk i j = true := by
  unfold mulOk
  have a1 := log2_lt h1
  have a2 := log2_lt h2
  exact decide_eq_true (by omega)
section
variable {gl : Str → Option D} {defs : List Def}
theorem source_run (n : Nat) (ns : List Int) (i : Nat) (hi : i < 1000) : ∃ ρ, evB (runF gl defs n) d_law_source.body (startE d_law_source.N [.rol (ns.map D.int), .int i]) [] =
    some (.ok ρ [.lst [.int (if ns.getD i 0 - 10 ^ (18 : Int).toNat > 0 then ns.getD i 0 - 10 ^ (18 : Int).toNat else 0), .int ((ns.getD i 0).fmod (10 ^ (37 : Int).toNat + 43) + 1299709 * i), .int 0]] (.rt (.ref 0))) := by
  have m1 : mulOk 1299709 i = true := by
    unfold mulOk
    refine decide_eq_true ?_
    have : (i : Int).natAbs.log2 ≤ i := by
      rw [Int.natAbs_natCast]
      exact Nat.log2_le_self i
    have h2 : (1299709 : Int).natAbs.log2 < 30 := by decide +kernel
    omega
  have a1 := p18
  have a2 := p37
  have a3 := n37
  rw [show startE d_law_source.N [.rol (ns.map D.int), .int i] = [some (.rol (ns.map D.int)), some (.int i), none] from rfl]
  simp only [d_law_source]
  by_cases h : (i : Int) < (ns.map D.int).length
  · have hl : i < ns.length := by rw [List.length_map] at h; omega
    have hx : ixO [] (.rol (ns.map D.int)) (.int i) = some (.int (ns.getD i 0)) := by
      show atI (ns.map D.int) i = _
      unfold atI ixN
      rw [if_pos (by omega)]
      simp [hl]
    exact ⟨_, by
      repeat' get_elem_tactic_trivial
      apply bIfT
      · repeat' get_elem_tactic_trivial
      · repeat' get_elem_tactic_trivial
      · repeat' get_elem_tactic_trivial⟩
  · have hx : ns.getD i 0 = 0 := by
      rw [List.length_map] at h
      rw [List.getD_eq_getElem?_getD, List.getElem?_eq_none (by omega)] <;> rfl
    rw [hx]
    exact ⟨_, by
      repeat' get_elem_tactic_trivial
      apply bIfFN
      · repeat' get_elem_tactic_trivial
      · repeat' get_elem_tactic_trivial⟩
theorem draw_run (n : Nat) (S : Store) (l : Nat) (a b c bound : Int) (hS : atS S l = some [.int a, .int b, .int c]) (ha : 0 ≤ a) (hb : 0 ≤ b) (hb2 : b < 10 ^ 39) (hc : 0 ≤ c) (hc2 : c < 10 ^ 9) (h0 : 0 < bound) (h1 : bound < 10 ^ 40) :
    ∃ ρ d a' c', evB (runF gl defs n) d_law_draw.body (startE d_law_draw.N [.ref l, .int bound]) S = some (.ok ρ (S.set l (.lst [.int a', .int b, .int c'])) (.rt (.int d))) ∧ 0 ≤ d ∧ d < bound ∧ 0 ≤ a' ∧ c ≤ c' ∧ c' ≤ c + 1 := by
  have a1 := p35
  have a2 := p32
  have a3 := n35
  have a4 := n32
  have a5 := d8191
  have b0 : bound ≠ 0 := by omega
  have dv : divOk bound = true := by
    unfold divOk
    have : bound.natAbs.log2 < 134 + 1 := log2_lt (by omega)
    rw [Bool.and_eq_true]
    exact ⟨decide_eq_true b0, decide_eq_true (by omega)⟩
  have hl := atS_lt hS
  rw [show startE d_law_draw.N [.ref l, .int bound] = [some (.ref l), some (.int bound), none, none] from rfl]
  have i0 : ixO S (.ref l) (.int 0) = some (.int a) := ix_ref hS rfl
  have x3 : ixN [D.int a, D.int b, D.int c].length 0 = some 0 := rfl
  by_cases h : 0 < a
  · have run : ∃ ρ T, evB (runF gl defs n) d_law_draw.body [some (.ref l), some (.int bound), none, none] S = some (.ok ρ T (.rt (.int (a.fmod bound)))) ∧ T = S.set l (.lst [.int (a.fdiv bound), .int b, .int c]) := ⟨_, _, by
      simp only [d_law_draw]
      apply bIfTR
      · repeat' get_elem_tactic_trivial
      · repeat' get_elem_tactic_trivial, by exact rfl⟩
    obtain ⟨ρ, _, e, rfl⟩ := run
    refine ⟨ρ, a.fmod bound, a.fdiv bound, c, e, ?_, ?_, ?_, Int.le_refl _, by omega⟩
    · rw [Int.fmod_eq_emod_of_nonneg _ (by omega)]; exact Int.emod_nonneg _ b0
    · rw [Int.fmod_eq_emod_of_nonneg _ (by omega)]; exact Int.emod_lt_of_pos _ h0
    · rw [Int.fdiv_eq_ediv_of_nonneg _ (by omega)]; exact Int.ediv_nonneg ha (by omega)
  · have i2 : ixO S (.ref l) (.int 2) = some (.int c) := ix_ref hS rfl
    have x2 : ixN [D.int a, D.int b, D.int c].length 2 = some 2 := rfl
    have hS1 := atS_set (T := S) (ds := [.int a, .int b, .int (c + 1)]) hl
    have j1 : ixO (S.set l (.lst [.int a, .int b, .int (c + 1)])) (.ref l) (.int 1) = some (.int b) := ix_ref hS1 rfl
    have j2 : ixO (S.set l (.lst [.int a, .int b, .int (c + 1)])) (.ref l) (.int 2) = some (.int (c + 1)) := ix_ref hS1 rfl
    have m1 : mulOk 15485863 (c + 1) = true := mul_small (by omega) (by omega)
    have m2 : mulOk 32452843 (c + 1) = true := mul_small (by omega) (by omega)
    have pw : ∀ x : Int, x.natAbs < 2 ^ 1000 → powOk x 3 = true := fun x hx => by
      unfold powOk
      have h3 : Builtin.Int.intBits x ≤ 1000 := PySem.intBits_le_iff.mpr hx
      rw [Bool.and_eq_true]
      exact ⟨rfl, decide_eq_true (by omega)⟩
    have p1 := pw (b + 15485863 * (c + 1)) (by omega)
    have r1 : ∀ x y : Int, 0 < y → 0 ≤ x.fmod y ∧ x.fmod y < y := fun x y hy => by
      rw [Int.fmod_eq_emod_of_nonneg _ (by omega)]
      exact ⟨Int.emod_nonneg _ (by omega), Int.emod_lt_of_pos _ hy⟩
    have q1 := r1 ((b + 15485863 * (c + 1)) ^ (3 : Int).toNat) ((10 : Int) ^ (35 : Int).toNat + 69) (by decide +kernel)
    have e35 : ((10 : Int) ^ (35 : Int).toNat + 69) < 2 ^ 200 := by decide +kernel
    have p2 := pw (((b + 15485863 * (c + 1)) ^ (3 : Int).toNat).fmod ((10 : Int) ^ (35 : Int).toNat + 69) + 32452843 * (c + 1)) (by omega)
    have run : ∃ ρ T d, evB (runF gl defs n) d_law_draw.body [some (.ref l), some (.int bound), none, none] S = some (.ok ρ T (.rt (.int (Int.fmod d bound)))) ∧ T = S.set l (.lst [.int a, .int b, .int (c + 1)]) := ⟨_, _, _, by
      simp only [d_law_draw]
      apply bIfFN
      · repeat' get_elem_tactic_trivial
      · repeat' get_elem_tactic_trivial, by exact rfl⟩
    obtain ⟨ρ, _, d, e, rfl⟩ := run
    have q := r1 d bound h0
    exact ⟨ρ, d.fmod bound, a, c + 1, e, q.1, q.2, ha, by omega, by omega⟩
/-- a source of the store at l, its third number at most m -/
def Src (S : Store) (l : Nat) (m : Int) : Prop := ∃ a b c : Int, atS S l = some [.int a, .int b, .int c] ∧ 0 ≤ a ∧ 0 ≤ b ∧ b < 10 ^ 39 ∧ 0 ≤ c ∧ c ≤ m
theorem Src.mono {S : Store} {l : Nat} {m m' : Int} (h : Src S l m) (hm : m ≤ m') : Src S l m' := by
  obtain ⟨a, b, c, h1, h2, h3, h4, h5, h6⟩ := h
  exact ⟨a, b, c, h1, h2, h3, h4, h5, by omega⟩
theorem FixS.set {S : Store} {l : Nat} {ds : List D} (h : FixS S) (hd : ∀ d ∈ ds, Fix deep d) : FixS (S.set l (.lst ds)) := fun o ho => by
  rcases List.mem_or_eq_of_mem_set ho with q | q
  · exact h o q
  · exact ⟨ds, q, hd⟩
theorem FixS.snoc {S : Store} {ds : List D} (h : FixS S) (hd : ∀ d ∈ ds, Fix deep d) : FixS (S ++ [.lst ds]) := fun o ho => by
  rcases List.mem_append.mp ho with q | q
  · exact h o q
  · exact ⟨ds, List.mem_singleton.mp q, hd⟩
theorem fix3 {a b c : Int} : ∀ d ∈ [D.int a, D.int b, D.int c], Fix deep d := Fix.cons Fix.int (Fix.cons Fix.int (Fix.cons Fix.int Fix.nil))
/-- a draw: a number below the bound; the source alone turns -/
theorem draw_ok (hf : defs.find? (fun d => d.name == ("_law_draw" : Str)) = some d_law_draw) {n : Nat} {S : Store} {l : Nat} {m bound : Int} (h : Src S l m) (hm : m < 10 ^ 9) (h0 : 0 < bound) (h1 : bound < 10 ^ 40) (hS : FixS S) :
    ∃ d ds, (runF gl defs (n + 1)).call false "_law_draw" [.ref l, .int bound] [] S = some (.ok (.int d) (S.set l (.lst ds))) ∧ 0 ≤ d ∧ d < bound ∧ Src (S.set l (.lst ds)) l (m + 1) ∧ FixS (S.set l (.lst ds)) := by
  obtain ⟨a, b, c, e, ha, hb, hb2, hc, hc2⟩ := h
  obtain ⟨ρ, d, a', c', e2, d0, d1, ha', hc3, hc4⟩ := draw_run (gl := gl) (defs := defs) n S l a b c bound e ha hb hb2 hc (by omega) h0 h1
  have hl := atS_lt e
  have tk : (S.set l (.lst [.int a', .int b, .int c'])).take S.length = S.set l (.lst [.int a', .int b, .int c']) := List.take_of_length_le (by rw [List.length_set]; exact Nat.le_refl _)
  refine ⟨d, [.int a', .int b, .int c'], ?_, d0, d1, ⟨a', b, c', atS_set hl, ha', hb, hb2, by omega, by omega⟩, hS.set fix3⟩
  have := callS (S := S) hf (ds := [.ref l, .int bound]) rfl rfl e2 Fix.int (by rw [tk]; exact hS.set fix3)
  rw [tk] at this
  exact this
/-- a new source -/
theorem source_ok (hf : defs.find? (fun d => d.name == ("_law_source" : Str)) = some d_law_source) {n : Nat} {S : Store} {ns : List Int} {i : Nat} (hi : i < 1000) (hS : FixS S) :
    ∃ ds, (runF gl defs (n + 1)).call true "_law_source" [.rol (ns.map D.int), .int i] [] S = some (.ok (.ref S.length) (S ++ [.lst ds])) ∧ Src (S ++ [.lst ds]) S.length 0 ∧ FixS (S ++ [.lst ds]) := by
  obtain ⟨ρ, e⟩ := source_run (gl := gl) (defs := defs) n ns i hi
  have nr : noRefs [.rol (ns.map D.int), .int i] = true := by
    show (noRefs (ns.map D.int) && (true && true)) = true
    rw [noRefs_ints] <;> rfl
  refine ⟨_, callT (S := S) hf (ds := [.rol (ns.map D.int), .int i]) rfl nr e rfl fix3, ⟨(if ns.getD i 0 - 10 ^ (18 : Int).toNat > 0 then ns.getD i 0 - 10 ^ (18 : Int).toNat else 0), (ns.getD i 0).fmod (10 ^ (37 : Int).toNat + 43) + 1299709 * i, 0, ?_, ?_, ?_, ?_, Int.le_refl _, Int.le_refl _⟩, hS.snoc fix3⟩
  · unfold atS
    rw [List.getElem?_append_right (Nat.le_refl _), Nat.sub_self] <;> rfl
  · split <;> omega
  · have h1 : 0 ≤ (ns.getD i 0).fmod (10 ^ (37 : Int).toNat + 43) := by
      rw [Int.fmod_eq_emod_of_nonneg _ (by decide +kernel)]
      exact Int.emod_nonneg _ n37
    omega
  · have h1 : (ns.getD i 0).fmod (10 ^ (37 : Int).toNat + 43) < 10 ^ 38 := by
      rw [Int.fmod_eq_emod_of_nonneg _ (by decide +kernel)]
      have h2 := Int.emod_lt_of_pos (ns.getD i 0) (show (0 : Int) < 10 ^ (37 : Int).toNat + 43 by decide +kernel)
      have h3 : (10 : Int) ^ (37 : Int).toNat + 43 < 10 ^ 38 := by decide +kernel
      omega
    omega
end
end Wk
end WkDraw_text

section K07Trees_text
set_option Elab.async false
set_option linter.all false
set_option maxRecDepth 100000
set_option maxHeartbeats 4000000
/-! K07Trees: the small trees of k07's defs (printed by genhead.py). -/
namespace K07
open PySem PySem.Spec PyProof.Rows L2 StX Wk
def dwithout : Def := ⟨"without", ["row", "other", "factor"], ["row", "other", "factor", "number", "taken"],
  (.cons (.ret (.bi .tuple (.cons (.comp true [("number", 3), ("taken", 4)] (.tp (.cons (.nm 3) (.cons (.nm 4) .nil))) (.zip (.v 0) (.v 1)) .nil (.bin .sub (.v 3) (.bin .mul (.v 2) (.v 4)))) .nil))) .nil)⟩
def deliminated : Def := ⟨"eliminated", ["rows", "side"], ["rows", "side", "active", "least", "index", "row"],
  (.cons (.asg (.nm 0) (.listOf false (.v 0))) (.cons (.while_ (.cbl true) (.cons (.asg (.nm 2) (.comp true [("index", 4), ("row", 5)] (.tp (.cons (.nm 4) (.cons (.nm 5) .nil))) (.enum (.v 0)) (.cons (.cmp .ne (.ix (.v 5) (.v 1)) (.cint 0)) .nil) (.v 4))) (.cons (.if_ (.cmp .lt (.bi .len (.cons (.v 2) .nil)) (.cint 2)) (.cons (.ret (.v 0)) .nil) .nil) (.cons (.asg (.nm 3) (.ix (.v 2) (.cint 0))) (.cons (.for_ (.nm 4) (.seq (.v 2)) (.cons (.if_ (.cmp .lt (.bi .abs (.cons (.ix (.ix (.v 0) (.v 4)) (.v 1)) .nil)) (.bi .abs (.cons (.ix (.ix (.v 0) (.v 3)) (.v 1)) .nil))) (.cons (.asg (.nm 3) (.v 4)) .nil) .nil) .nil)) (.cons (.for_ (.nm 4) (.seq (.v 2)) (.cons (.if_ (.cmp .ne (.v 4) (.v 3)) (.cons (.asg (.sub (.v 0) (.v 4)) (.call false "without" (.cons (.ix (.v 0) (.v 4)) (.cons (.ix (.v 0) (.v 3)) (.cons (.bin .fdiv (.ix (.ix (.v 0) (.v 4)) (.v 1)) (.ix (.ix (.v 0) (.v 3)) (.v 1))) .nil))) .nil)) .nil) .nil) .nil)) .nil)))))) .nil))⟩
def dsplit_rows : Def := ⟨"split_rows", ["rows", "side"], ["rows", "side", "leading", "others", "row"],
  (.cons (.asg (.nm 2) .cnon) (.cons (.asg (.nm 3) (.lst false .nil)) (.cons (.for_ (.nm 4) (.seq (.call false "eliminated" (.cons (.v 0) (.cons (.v 1) .nil)) .nil)) (.cons (.if_ (.cmp .ne (.ix (.v 4) (.v 1)) (.cint 0)) (.cons (.asg (.nm 2) (.v 4)) .nil) (.cons (.expr (.lm .append (.v 3) (.cons (.v 4) .nil))) .nil)) .nil)) (.cons (.ret (.tup (.cons (.v 2) (.cons (.v 3) .nil)))) .nil))))⟩
def dstaircase : Def := ⟨"staircase", ["vectors"], ["vectors", "size", "units", "first", "others", "second", "relations", "place", "row", "index", "vector", "unit"],
  (.cons (.asg (.nm 1) (.bi .len (.cons (.v 0) .nil))) (.cons (.asg (.nm 2) (.comp true [("place", 7)] (.nm 7) (.r1 (.v 1)) .nil (.bi .tuple (.cons (.comp true [("index", 9)] (.nm 9) (.r1 (.v 1)) .nil (.bi .int (.cons (.cmp .eq (.v 9) (.v 7)) .nil))) .nil)))) (.cons (.asg (.tp (.cons (.nm 3) (.cons (.nm 4) .nil))) (.call false "split_rows" (.cons (.comp true [("vector", 10), ("unit", 11)] (.tp (.cons (.nm 10) (.cons (.nm 11) .nil))) (.zip (.v 0) (.v 2)) .nil (.bi .tuple (.cons (.lst true (.star (.v 10) (.star (.v 11) .nil))) .nil))) (.cons (.cint 0) .nil)) .nil)) (.cons (.asg (.tp (.cons (.nm 5) (.cons (.nm 6) .nil))) (.call false "split_rows" (.cons (.v 4) (.cons (.cint 1) .nil)) .nil)) (.cons (.ret (.tup (.cons (.v 3) (.cons (.v 5) (.cons (.comp true [("row", 8)] (.nm 8) (.seq (.v 6)) .nil (.slL (.v 8) (.g "PLANE"))) .nil))))) .nil)))))⟩
def dtaken_off : Def := ⟨"taken_off", ["rest", "row", "side"], ["rest", "row", "side"],
  (.cons (.if_ (.cmp .eq (.ix (.v 0) (.v 2)) (.cint 0)) (.cons (.ret (.v 0)) .nil) .nil) (.cons (.if_ (.or_ (.cons (.cmp .isN (.v 1) .cnon) (.cons (.cmp .ne (.bin .mod (.ix (.v 0) (.v 2)) (.ix (.v 1) (.v 2))) (.cint 0)) .nil))) (.cons (.ret .cnon) .nil) .nil) (.cons (.ret (.call false "without" (.cons (.v 0) (.cons (.v 1) (.cons (.bin .fdiv (.ix (.v 0) (.v 2)) (.ix (.v 1) (.v 2))) .nil))) .nil)) .nil)))⟩
def dshortened : Def := ⟨"shortened", ["coefficients", "relations"], ["coefficients", "relations", "relation", "square", "product", "number", "first", "second"],
  (.cons (.for_ (.nm 2) (.seq (.lst true (.star (.v 1) (.star (.v 1) (.star (.v 1) .nil))))) (.cons (.asg (.nm 3) (.bi .sum (.cons (.comp true [("number", 5)] (.nm 5) (.seq (.v 2)) .nil (.bin .mul (.v 5) (.v 5))) .nil))) (.cons (.asg (.nm 4) (.bi .sum (.cons (.comp true [("first", 6), ("second", 7)] (.tp (.cons (.nm 6) (.cons (.nm 7) .nil))) (.zip (.v 0) (.v 2)) .nil (.bin .mul (.v 6) (.v 7))) .nil))) (.cons (.asg (.nm 0) (.call false "without" (.cons (.v 0) (.cons (.v 2) (.cons (.bin .fdiv (.bin .add (.bin .mul (.cint 2) (.v 4)) (.v 3)) (.bin .mul (.cint 2) (.v 3))) .nil))) .nil)) .nil)))) (.cons (.ret (.v 0)) .nil))⟩
def dcombination : Def := ⟨"combination", ["vectors", "target"], ["vectors", "target", "rest", "first", "second", "relations", "row", "side", "number"],
  (.cons (.asg (.tp (.cons (.nm 3) (.cons (.nm 4) (.cons (.nm 5) .nil)))) (.call false "staircase" (.cons (.v 0) .nil) .nil)) (.cons (.asg (.nm 2) (.bi .tuple (.cons (.lst true (.star (.v 1) (.star (.rep true (.lst true (.cons (.cint 0) .nil)) (.bi .len (.cons (.v 0) .nil))) .nil))) .nil))) (.cons (.for_ (.tp (.cons (.nm 6) (.cons (.nm 7) .nil))) (.seq (.tup (.cons (.tup (.cons (.v 3) (.cons (.cint 0) .nil))) (.cons (.tup (.cons (.v 4) (.cons (.cint 1) .nil))) .nil)))) (.cons (.if_ (.cmp .notN (.v 2) .cnon) (.cons (.asg (.nm 2) (.call false "taken_off" (.cons (.v 2) (.cons (.v 6) (.cons (.v 7) .nil))) .nil)) .nil) .nil) .nil)) (.cons (.if_ (.cmp .isN (.v 2) .cnon) (.cons (.ret .cnon) .nil) .nil) (.cons (.ret (.call false "shortened" (.cons (.bi .tuple (.cons (.comp true [("number", 8)] (.nm 8) (.seq (.slL (.v 2) (.g "PLANE"))) .nil (.bin .sub (.cint 0) (.v 8))) .nil)) (.cons (.v 5) .nil)) .nil)) .nil)))))⟩
def d_law_source : Def := ⟨"_law_source", ["script", "index"], ["script", "index", "cell"],
  (.cons (.asg (.nm 2) (.cint 0)) (.cons (.if_ (.cmp .lt (.v 1) (.bi .len (.cons (.v 0) .nil))) (.cons (.asg (.nm 2) (.ix (.v 0) (.v 1))) .nil) .nil) (.cons (.ret (.lst false (.cons (.bi .max (.cons (.cint 0) (.cons (.bin .sub (.v 2) (.bin .pow (.cint 10) (.cint 18))) .nil))) (.cons (.bin .add (.bin .mod (.v 2) (.bin .add (.bin .pow (.cint 10) (.cint 37)) (.cint 43))) (.bin .mul (.cint 1299709) (.v 1))) (.cons (.cint 0) .nil))))) .nil)))⟩
def d_law_draw : Def := ⟨"_law_draw", ["source", "bound"], ["source", "bound", "mixed", "digit"],
  (.cons (.if_ (.cmp .gt (.ix (.v 0) (.cint 0)) (.cint 0)) (.cons (.asg (.nm 3) (.bin .mod (.ix (.v 0) (.cint 0)) (.v 1))) (.cons (.asg (.sub (.v 0) (.cint 0)) (.bin .fdiv (.ix (.v 0) (.cint 0)) (.v 1))) (.cons (.ret (.v 3)) .nil))) .nil) (.cons (.asg (.sub (.v 0) (.cint 2)) (.bin .add (.ix (.v 0) (.cint 2)) (.cint 1))) (.cons (.asg (.nm 2) (.bin .mod (.bin .pow (.bin .add (.ix (.v 0) (.cint 1)) (.bin .mul (.cint 15485863) (.ix (.v 0) (.cint 2)))) (.cint 3)) (.bin .add (.bin .pow (.cint 10) (.cint 35)) (.cint 69)))) (.cons (.asg (.nm 2) (.bin .mod (.bin .pow (.bin .add (.v 2) (.bin .mul (.cint 32452843) (.ix (.v 0) (.cint 2)))) (.cint 3)) (.bin .add (.bin .pow (.cint 10) (.cint 32)) (.cint 49)))) (.cons (.ret (.bin .mod (.bin .fdiv (.v 2) (.cint 8191)) (.v 1))) .nil)))))⟩
def d_law_shuffled : Def := ⟨"_law_shuffled", ["source", "things"], ["source", "things", "left", "step"],
  (.cons (.asg (.nm 2) (.listOf false (.v 1))) (.cons (.ret (.comp true [("step", 3)] (.nm 3) (.r1 (.bi .len (.cons (.v 2) .nil))) .nil (.lm .popAt (.v 2) (.cons (.call false "_law_draw" (.cons (.v 0) (.cons (.bi .len (.cons (.v 2) .nil)) .nil)) .nil) .nil)))) .nil))⟩
def d_law_common : Def := ⟨"_law_common", ["first", "second"], ["first", "second", "larger", "smaller"],
  (.cons (.asg (.tp (.cons (.nm 2) (.cons (.nm 3) .nil))) (.tup (.cons (.bi .abs (.cons (.v 0) .nil)) (.cons (.bi .abs (.cons (.v 1) .nil)) .nil)))) (.cons (.while_ (.cmp .gt (.v 3) (.cint 0)) (.cons (.asg (.tp (.cons (.nm 2) (.cons (.nm 3) .nil))) (.tup (.cons (.v 3) (.cons (.bin .mod (.v 2) (.v 3)) .nil)))) .nil)) (.cons (.ret (.v 2)) .nil)))⟩
def d_law_divisors : Def := ⟨"_law_divisors", ["vectors"], ["vectors", "content", "area", "first", "second"],
  (.cons (.asg (.nm 1) (.cint 0)) (.cons (.asg (.nm 2) (.cint 0)) (.cons (.for_ (.nm 3) (.seq (.v 0)) (.cons (.asg (.nm 1) (.call false "_law_common" (.cons (.v 1) (.cons (.call false "_law_common" (.cons (.ix (.v 3) (.cint 0)) (.cons (.ix (.v 3) (.cint 1)) .nil)) .nil) .nil)) .nil)) (.cons (.for_ (.nm 4) (.seq (.v 0)) (.cons (.asg (.nm 2) (.call false "_law_common" (.cons (.v 2) (.cons (.bin .sub (.bin .mul (.ix (.v 3) (.cint 0)) (.ix (.v 4) (.cint 1))) (.bin .mul (.ix (.v 3) (.cint 1)) (.ix (.v 4) (.cint 0)))) .nil)) .nil)) .nil)) .nil))) (.cons (.ret (.tup (.cons (.v 1) (.cons (.v 2) .nil)))) .nil))))⟩
def d_law_member : Def := ⟨"_law_member", ["vectors", "target"], ["vectors", "target", "content", "area", "more", "wider"],
  (.cons (.asg (.tp (.cons (.nm 2) (.cons (.nm 3) .nil))) (.call false "_law_divisors" (.cons (.v 0) .nil) .nil)) (.cons (.asg (.tp (.cons (.nm 4) (.cons (.nm 5) .nil))) (.call false "_law_divisors" (.cons (.bin .add (.listOf true (.v 0)) (.lst true (.cons (.v 1) .nil))) .nil) .nil)) (.cons (.ret (.and_ (.cons (.cmp .eq (.v 5) (.v 3)) (.cons (.or_ (.cons (.cmp .gt (.v 3) (.cint 0)) (.cons (.cmp .eq (.v 4) (.v 2)) .nil))) .nil)))) .nil)))⟩
def d_law_vectors : Def := ⟨"_law_vectors", ["source"], ["source", "way", "size", "vectors", "index", "base", "x", "y"],
  (.cons (.asg (.nm 1) (.call false "_law_draw" (.cons (.v 0) (.cons (.cint 6) .nil)) .nil)) (.cons (.asg (.nm 2) (.ix (.lst true (.cons (.cint 3) (.cons (.cint 9) (.cons (.cint 40) (.cons (.bin .pow (.cint 10) (.cint 13)) (.cons (.cint 6) (.cons (.cint 0) .nil))))))) (.v 1))) (.cons (.asg (.nm 3) (.lst false .nil)) (.cons (.for_ (.nm 4) (.r1 (.call false "_law_draw" (.cons (.v 0) (.cons (.cint 9) .nil)) .nil)) (.cons (.expr (.lm .append (.v 3) (.cons (.tup (.cons (.bin .sub (.call false "_law_draw" (.cons (.v 0) (.cons (.bin .add (.bin .mul (.cint 2) (.v 2)) (.cint 1)) .nil)) .nil) (.v 2)) (.cons (.bin .sub (.call false "_law_draw" (.cons (.v 0) (.cons (.bin .add (.bin .mul (.cint 2) (.v 2)) (.cint 1)) .nil)) .nil) (.v 2)) .nil))) .nil))) .nil)) (.cons (.if_ (.cmp .eq (.v 1) (.cint 4)) (.cons (.asg (.nm 5) (.tup (.cons (.bin .sub (.call false "_law_draw" (.cons (.v 0) (.cons (.cint 9) .nil)) .nil) (.cint 4)) (.cons (.bin .sub (.call false "_law_draw" (.cons (.v 0) (.cons (.cint 9) .nil)) .nil) (.cint 4)) .nil)))) (.cons (.asg (.nm 3) (.comp false [("x", 6), ("y", 7)] (.tp (.cons (.nm 6) (.cons (.nm 7) .nil))) (.seq (.v 3)) .nil (.tup (.cons (.bin .mul (.ix (.v 5) (.cint 0)) (.v 6)) (.cons (.bin .mul (.ix (.v 5) (.cint 1)) (.v 6)) .nil))))) .nil)) .nil) (.cons (.ret (.bi .tuple (.cons (.v 3) .nil))) .nil))))))⟩
def d_law_sum : Def := ⟨"_law_sum", ["vectors", "counts"], ["vectors", "counts", "x", "vector", "count"],
  (.cons (.asg (.nm 2) (.bi .sum (.cons (.comp true [("vector", 3), ("count", 4)] (.tp (.cons (.nm 3) (.cons (.nm 4) .nil))) (.zip (.v 0) (.v 1)) .nil (.bin .mul (.ix (.v 3) (.cint 0)) (.v 4))) .nil))) (.cons (.ret (.tup (.cons (.v 2) (.cons (.bi .sum (.cons (.comp true [("vector", 3), ("count", 4)] (.tp (.cons (.nm 3) (.cons (.nm 4) .nil))) (.zip (.v 0) (.v 1)) .nil (.bin .mul (.ix (.v 3) (.cint 1)) (.v 4))) .nil)) .nil)))) .nil))⟩
def d_law_right : Def := ⟨"_law_right", ["vectors", "target"], ["vectors", "target", "told", "wrong", "number"],
  (.cons (.asg (.nm 2) (.call false "combination" (.cons (.v 0) (.cons (.v 1) .nil)) .nil)) (.cons (.if_ (.not_ (.call false "_law_member" (.cons (.v 0) (.cons (.v 1) .nil)) .nil)) (.cons (.ret (.and_ (.cons (.cmp .isN (.v 2) .cnon) (.cons (.cmp .isN (.call false "combination" (.cons (.v 0) (.cons (.v 1) .nil)) .nil) .cnon) .nil)))) .nil) .nil) (.cons (.if_ (.or_ (.cons (.not_ (.bi .isinstance (.cons (.v 2) (.cons (.g "tuple") .nil)))) (.cons (.cmp .ne (.bi .len (.cons (.v 2) .nil)) (.bi .len (.cons (.v 0) .nil))) (.cons (.cmp .ne (.call false "_law_sum" (.cons (.v 0) (.cons (.v 2) .nil)) .nil) (.v 1)) .nil)))) (.cons (.ret (.cbl false)) .nil) .nil) (.cons (.asg (.nm 3) (.comp true [("number", 4)] (.nm 4) (.seq (.v 2)) (.cons (.or_ (.cons (.bi .isinstance (.cons (.v 4) (.cons (.g "bool") .nil))) (.cons (.not_ (.bi .isinstance (.cons (.v 4) (.cons (.g "int") .nil)))) .nil))) .nil) (.v 4))) (.cons (.ret (.and_ (.cons (.cmp .eq (.v 3) (.lst true .nil)) (.cons (.cmp .eq (.call false "combination" (.cons (.v 0) (.cons (.v 1) .nil)) .nil) (.v 2)) .nil)))) .nil)))))⟩
def dlaw : Def := ⟨"law", ["script"], ["script", "index", "source", "vectors", "turn", "counts", "target", "near", "far", "case", "vector"],
  (.cons (.for_ (.nm 1) (.r1 (.bi .max (.cons (.cint 1) (.cons (.bi .min (.cons (.cint 4) (.cons (.bi .len (.cons (.v 0) .nil)) .nil))) .nil)))) (.cons (.asg (.nm 2) (.call true "_law_source" (.cons (.v 0) (.cons (.v 1) .nil)) .nil)) (.cons (.asg (.nm 3) (.call false "_law_vectors" (.cons (.v 2) .nil) .nil)) (.cons (.for_ (.nm 4) (.r1 (.cint 6)) (.cons (.asg (.nm 5) (.comp true [("vector", 10)] (.nm 10) (.seq (.v 3)) .nil (.bin .sub (.call false "_law_draw" (.cons (.v 2) (.cons (.cint 21) .nil)) .nil) (.cint 10)))) (.cons (.asg (.nm 6) (.call false "_law_sum" (.cons (.v 3) (.cons (.v 5) .nil)) .nil)) (.cons (.asg (.nm 7) (.tup (.cons (.bin .sub (.bin .add (.ix (.v 6) (.cint 0)) (.call false "_law_draw" (.cons (.v 2) (.cons (.cint 3) .nil)) .nil)) (.cint 1)) (.cons (.bin .sub (.bin .add (.ix (.v 6) (.cint 1)) (.call false "_law_draw" (.cons (.v 2) (.cons (.cint 3) .nil)) .nil)) (.cint 1)) .nil)))) (.cons (.asg (.nm 8) (.tup (.cons (.call false "_law_draw" (.cons (.v 2) (.cons (.bin .pow (.cint 10) (.cint 12)) .nil)) .nil) (.cons (.bin .sub (.cint 0) (.call false "_law_draw" (.cons (.v 2) (.cons (.bin .pow (.cint 10) (.cint 12)) .nil)) .nil)) .nil)))) (.cons (.for_ (.nm 9) (.seq (.tup (.cons (.v 6) (.cons (.v 7) (.cons (.v 8) (.cons (.tup (.cons (.cint 0) (.cons (.cint 0) .nil))) .nil)))))) (.cons (.if_ (.not_ (.call false "_law_right" (.cons (.v 3) (.cons (.v 9) .nil)) .nil)) (.cons (.ret (.cbl false)) .nil) .nil) .nil)) .nil)))))) .nil)))) (.cons (.ret (.cbl true)) .nil))⟩
def defs : List Def := [dwithout, deliminated, dsplit_rows, dstaircase, dtaken_off, dshortened, dcombination, d_law_source, d_law_draw, d_law_shuffled, d_law_common, d_law_divisors, d_law_member, d_law_vectors, d_law_sum, d_law_right, dlaw]
def gl : Str → Option D := fun x =>
  if x = "PLANE" then some (.int 2) else
  if x = "tuple" then some (.ty "tuple") else
  if x = "int" then some (.ty "int") else
  if x = "bool" then some (.ty "bool") else
  none
end K07
end K07Trees_text

section K07Head_text
set_option Elab.async false
set_option linter.all false
set_option maxRecDepth 100000
set_option maxHeartbeats 0
/-! K07Head: the text's defs are those trees. -/
namespace K07
open PySem PySem.Spec PyProof.Rows L2 StX Wk
def top (i : Nat) : Stmt := PySem.Challenge.pw_walkagon_k07_combinations.main.body.getD i (.Pass ⟨0, 0, 0, 0⟩)
def hwithout : He.DefD := ⟨("without", none), "without", "without", defArgs (top 2), defBody (top 2), defScope (top 2), [], []⟩
def heliminated : He.DefD := ⟨("eliminated", none), "eliminated", "eliminated", defArgs (top 3), defBody (top 3), defScope (top 3), [], []⟩
def hsplit_rows : He.DefD := ⟨("split_rows", none), "split_rows", "split_rows", defArgs (top 4), defBody (top 4), defScope (top 4), [], []⟩
def hstaircase : He.DefD := ⟨("staircase", none), "staircase", "staircase", defArgs (top 5), defBody (top 5), defScope (top 5), [], []⟩
def htaken_off : He.DefD := ⟨("taken_off", none), "taken_off", "taken_off", defArgs (top 6), defBody (top 6), defScope (top 6), [], []⟩
def hshortened : He.DefD := ⟨("shortened", none), "shortened", "shortened", defArgs (top 7), defBody (top 7), defScope (top 7), [], []⟩
def hcombination : He.DefD := ⟨("combination", none), "combination", "combination", defArgs (top 8), defBody (top 8), defScope (top 8), [], []⟩
def h_law_source : He.DefD := ⟨("_law_source", none), "_law_source", "_law_source", defArgs (top 10), defBody (top 10), defScope (top 10), [], []⟩
def h_law_draw : He.DefD := ⟨("_law_draw", none), "_law_draw", "_law_draw", defArgs (top 11), defBody (top 11), defScope (top 11), [], []⟩
def h_law_shuffled : He.DefD := ⟨("_law_shuffled", none), "_law_shuffled", "_law_shuffled", defArgs (top 12), defBody (top 12), defScope (top 12), [], []⟩
def h_law_common : He.DefD := ⟨("_law_common", none), "_law_common", "_law_common", defArgs (top 13), defBody (top 13), defScope (top 13), [], []⟩
def h_law_divisors : He.DefD := ⟨("_law_divisors", none), "_law_divisors", "_law_divisors", defArgs (top 14), defBody (top 14), defScope (top 14), [], []⟩
def h_law_member : He.DefD := ⟨("_law_member", none), "_law_member", "_law_member", defArgs (top 15), defBody (top 15), defScope (top 15), [], []⟩
def h_law_vectors : He.DefD := ⟨("_law_vectors", none), "_law_vectors", "_law_vectors", defArgs (top 16), defBody (top 16), defScope (top 16), [], []⟩
def h_law_sum : He.DefD := ⟨("_law_sum", none), "_law_sum", "_law_sum", defArgs (top 17), defBody (top 17), defScope (top 17), [], []⟩
def h_law_right : He.DefD := ⟨("_law_right", none), "_law_right", "_law_right", defArgs (top 18), defBody (top 18), defScope (top 18), [], []⟩
def hlaw : He.DefD := ⟨("law", none), "law", "law", defArgs (top 19), defBody (top 19), defScope (top 19), [], []⟩
def fn : List He.DefD := [hwithout, heliminated, hsplit_rows, hstaircase, htaken_off, hshortened, hcombination, h_law_source, h_law_draw, h_law_shuffled, h_law_common, h_law_divisors, h_law_member, h_law_vectors, h_law_sum, h_law_right, hlaw]
def fa : List He.Fa := [.glo "without", .glo "eliminated", .glo "split_rows", .glo "staircase", .glo "taken_off", .glo "shortened", .glo "combination", .glo "_law_source", .glo "_law_draw", .glo "_law_shuffled", .glo "_law_common", .glo "_law_divisors", .glo "_law_member", .glo "_law_vectors", .glo "_law_sum", .glo "_law_right", .glo "law", .free "len", .free "tuple", .free "abs", .free "sum", .free "max", .free "min", .free "int", .free "isinstance", .free "list", .free "range", .free "zip", .free "enumerate", .free "bool", .int "PLANE" 2]
abbrev R : PySem.W.OpenRow := PySem.W.OpenLaw.row PySem.Challenge.rw_walkagon_k07_combinations
abbrev hk : PySem.W.Hook := He.hookD 4 fa fn
def ob (s : PySem.W.SharedT) : He.AlD := He.obsDG 4 fa fn (HandSHeadRun.getT s)
theorem ob_eq (s : PySem.W.SharedT) : ob s = hk.obs s.abs := He.obsDG_eq (HandSHeadRun.getT_eq s)
abbrev loose0 : List Str := ["PLANE", "without", "eliminated", "split_rows", "staircase", "taken_off", "shortened", "combination", "_law_source", "_law_draw", "_law_shuffled", "_law_common", "_law_divisors", "_law_member", "_law_vectors", "_law_sum", "_law_right"]
abbrev loose : List Str := loose0
theorem run (w : World) : HandSHeadRun.RunEq R (PySem.W.view R.prog [19]) hk ob 4000 loose w := by
  intro os
  kernel_rfl
section
variable {K : PySem.W.Frag} {h : Heap} {mg : Str → Option Value}
theorem okwithout (X : K.In h) (G : h.Ns mainGlobals mg) (c : He.SaysD fa fn K) : DefOk K mg (defs.map (·.name)) dwithout := by
  obtain ⟨fd, F⟩ := c.def_ 0 (d := hwithout) rfl
  exact ⟨_, fd, _, _, _, _, _, He.glo_ok X G (c.fact 0 (f := .glo "without") rfl), F, ⟨rfl, rfl, rfl, by decide +kernel, rfl, by decide +kernel, by decide +kernel⟩, F.bindsA fun _ _ _ _ _ _ us hl => match us, hl with | [_, _, _], _ => rfl, by decide +kernel⟩
theorem okeliminated (X : K.In h) (G : h.Ns mainGlobals mg) (c : He.SaysD fa fn K) : DefOk K mg (defs.map (·.name)) deliminated := by
  obtain ⟨fd, F⟩ := c.def_ 1 (d := heliminated) rfl
  exact ⟨_, fd, _, _, _, _, _, He.glo_ok X G (c.fact 1 (f := .glo "eliminated") rfl), F, ⟨rfl, rfl, rfl, by decide +kernel, rfl, by decide +kernel, by decide +kernel⟩, F.bindsA fun _ _ _ _ _ _ us hl => match us, hl with | [_, _], _ => rfl, by decide +kernel⟩
theorem oksplit_rows (X : K.In h) (G : h.Ns mainGlobals mg) (c : He.SaysD fa fn K) : DefOk K mg (defs.map (·.name)) dsplit_rows := by
  obtain ⟨fd, F⟩ := c.def_ 2 (d := hsplit_rows) rfl
  exact ⟨_, fd, _, _, _, _, _, He.glo_ok X G (c.fact 2 (f := .glo "split_rows") rfl), F, ⟨rfl, rfl, rfl, by decide +kernel, rfl, by decide +kernel, by decide +kernel⟩, F.bindsA fun _ _ _ _ _ _ us hl => match us, hl with | [_, _], _ => rfl, by decide +kernel⟩
theorem okstaircase (X : K.In h) (G : h.Ns mainGlobals mg) (c : He.SaysD fa fn K) : DefOk K mg (defs.map (·.name)) dstaircase := by
  obtain ⟨fd, F⟩ := c.def_ 3 (d := hstaircase) rfl
  exact ⟨_, fd, _, _, _, _, _, He.glo_ok X G (c.fact 3 (f := .glo "staircase") rfl), F, ⟨rfl, rfl, rfl, by decide +kernel, rfl, by decide +kernel, by decide +kernel⟩, F.bindsA fun _ _ _ _ _ _ us hl => match us, hl with | [_], _ => rfl, by decide +kernel⟩
theorem oktaken_off (X : K.In h) (G : h.Ns mainGlobals mg) (c : He.SaysD fa fn K) : DefOk K mg (defs.map (·.name)) dtaken_off := by
  obtain ⟨fd, F⟩ := c.def_ 4 (d := htaken_off) rfl
  exact ⟨_, fd, _, _, _, _, _, He.glo_ok X G (c.fact 4 (f := .glo "taken_off") rfl), F, ⟨rfl, rfl, rfl, by decide +kernel, rfl, by decide +kernel, by decide +kernel⟩, F.bindsA fun _ _ _ _ _ _ us hl => match us, hl with | [_, _, _], _ => rfl, by decide +kernel⟩
theorem okshortened (X : K.In h) (G : h.Ns mainGlobals mg) (c : He.SaysD fa fn K) : DefOk K mg (defs.map (·.name)) dshortened := by
  obtain ⟨fd, F⟩ := c.def_ 5 (d := hshortened) rfl
  exact ⟨_, fd, _, _, _, _, _, He.glo_ok X G (c.fact 5 (f := .glo "shortened") rfl), F, ⟨rfl, rfl, rfl, by decide +kernel, rfl, by decide +kernel, by decide +kernel⟩, F.bindsA fun _ _ _ _ _ _ us hl => match us, hl with | [_, _], _ => rfl, by decide +kernel⟩
theorem okcombination (X : K.In h) (G : h.Ns mainGlobals mg) (c : He.SaysD fa fn K) : DefOk K mg (defs.map (·.name)) dcombination := by
  obtain ⟨fd, F⟩ := c.def_ 6 (d := hcombination) rfl
  exact ⟨_, fd, _, _, _, _, _, He.glo_ok X G (c.fact 6 (f := .glo "combination") rfl), F, ⟨rfl, rfl, rfl, by decide +kernel, rfl, by decide +kernel, by decide +kernel⟩, F.bindsA fun _ _ _ _ _ _ us hl => match us, hl with | [_, _], _ => rfl, by decide +kernel⟩
theorem ok_law_source (X : K.In h) (G : h.Ns mainGlobals mg) (c : He.SaysD fa fn K) : DefOk K mg (defs.map (·.name)) d_law_source := by
  obtain ⟨fd, F⟩ := c.def_ 7 (d := h_law_source) rfl
  exact ⟨_, fd, _, _, _, _, _, He.glo_ok X G (c.fact 7 (f := .glo "_law_source") rfl), F, ⟨rfl, rfl, rfl, by decide +kernel, rfl, by decide +kernel, by decide +kernel⟩, F.bindsA fun _ _ _ _ _ _ us hl => match us, hl with | [_, _], _ => rfl, by decide +kernel⟩
theorem ok_law_draw (X : K.In h) (G : h.Ns mainGlobals mg) (c : He.SaysD fa fn K) : DefOk K mg (defs.map (·.name)) d_law_draw := by
  obtain ⟨fd, F⟩ := c.def_ 8 (d := h_law_draw) rfl
  exact ⟨_, fd, _, _, _, _, _, He.glo_ok X G (c.fact 8 (f := .glo "_law_draw") rfl), F, ⟨rfl, rfl, rfl, by decide +kernel, rfl, by decide +kernel, by decide +kernel⟩, F.bindsA fun _ _ _ _ _ _ us hl => match us, hl with | [_, _], _ => rfl, by decide +kernel⟩
theorem ok_law_shuffled (X : K.In h) (G : h.Ns mainGlobals mg) (c : He.SaysD fa fn K) : DefOk K mg (defs.map (·.name)) d_law_shuffled := by
  obtain ⟨fd, F⟩ := c.def_ 9 (d := h_law_shuffled) rfl
  exact ⟨_, fd, _, _, _, _, _, He.glo_ok X G (c.fact 9 (f := .glo "_law_shuffled") rfl), F, ⟨rfl, rfl, rfl, by decide +kernel, rfl, by decide +kernel, by decide +kernel⟩, F.bindsA fun _ _ _ _ _ _ us hl => match us, hl with | [_, _], _ => rfl, by decide +kernel⟩
theorem ok_law_common (X : K.In h) (G : h.Ns mainGlobals mg) (c : He.SaysD fa fn K) : DefOk K mg (defs.map (·.name)) d_law_common := by
  obtain ⟨fd, F⟩ := c.def_ 10 (d := h_law_common) rfl
  exact ⟨_, fd, _, _, _, _, _, He.glo_ok X G (c.fact 10 (f := .glo "_law_common") rfl), F, ⟨rfl, rfl, rfl, by decide +kernel, rfl, by decide +kernel, by decide +kernel⟩, F.bindsA fun _ _ _ _ _ _ us hl => match us, hl with | [_, _], _ => rfl, by decide +kernel⟩
theorem ok_law_divisors (X : K.In h) (G : h.Ns mainGlobals mg) (c : He.SaysD fa fn K) : DefOk K mg (defs.map (·.name)) d_law_divisors := by
  obtain ⟨fd, F⟩ := c.def_ 11 (d := h_law_divisors) rfl
  exact ⟨_, fd, _, _, _, _, _, He.glo_ok X G (c.fact 11 (f := .glo "_law_divisors") rfl), F, ⟨rfl, rfl, rfl, by decide +kernel, rfl, by decide +kernel, by decide +kernel⟩, F.bindsA fun _ _ _ _ _ _ us hl => match us, hl with | [_], _ => rfl, by decide +kernel⟩
theorem ok_law_member (X : K.In h) (G : h.Ns mainGlobals mg) (c : He.SaysD fa fn K) : DefOk K mg (defs.map (·.name)) d_law_member := by
  obtain ⟨fd, F⟩ := c.def_ 12 (d := h_law_member) rfl
  exact ⟨_, fd, _, _, _, _, _, He.glo_ok X G (c.fact 12 (f := .glo "_law_member") rfl), F, ⟨rfl, rfl, rfl, by decide +kernel, rfl, by decide +kernel, by decide +kernel⟩, F.bindsA fun _ _ _ _ _ _ us hl => match us, hl with | [_, _], _ => rfl, by decide +kernel⟩
theorem ok_law_vectors (X : K.In h) (G : h.Ns mainGlobals mg) (c : He.SaysD fa fn K) : DefOk K mg (defs.map (·.name)) d_law_vectors := by
  obtain ⟨fd, F⟩ := c.def_ 13 (d := h_law_vectors) rfl
  exact ⟨_, fd, _, _, _, _, _, He.glo_ok X G (c.fact 13 (f := .glo "_law_vectors") rfl), F, ⟨rfl, rfl, rfl, by decide +kernel, rfl, by decide +kernel, by decide +kernel⟩, F.bindsA fun _ _ _ _ _ _ us hl => match us, hl with | [_], _ => rfl, by decide +kernel⟩
theorem ok_law_sum (X : K.In h) (G : h.Ns mainGlobals mg) (c : He.SaysD fa fn K) : DefOk K mg (defs.map (·.name)) d_law_sum := by
  obtain ⟨fd, F⟩ := c.def_ 14 (d := h_law_sum) rfl
  exact ⟨_, fd, _, _, _, _, _, He.glo_ok X G (c.fact 14 (f := .glo "_law_sum") rfl), F, ⟨rfl, rfl, rfl, by decide +kernel, rfl, by decide +kernel, by decide +kernel⟩, F.bindsA fun _ _ _ _ _ _ us hl => match us, hl with | [_, _], _ => rfl, by decide +kernel⟩
theorem ok_law_right (X : K.In h) (G : h.Ns mainGlobals mg) (c : He.SaysD fa fn K) : DefOk K mg (defs.map (·.name)) d_law_right := by
  obtain ⟨fd, F⟩ := c.def_ 15 (d := h_law_right) rfl
  exact ⟨_, fd, _, _, _, _, _, He.glo_ok X G (c.fact 15 (f := .glo "_law_right") rfl), F, ⟨rfl, rfl, rfl, by decide +kernel, rfl, by decide +kernel, by decide +kernel⟩, F.bindsA fun _ _ _ _ _ _ us hl => match us, hl with | [_, _], _ => rfl, by decide +kernel⟩
theorem oklaw (X : K.In h) (G : h.Ns mainGlobals mg) (c : He.SaysD fa fn K) : DefOk K mg (defs.map (·.name)) dlaw := by
  obtain ⟨fd, F⟩ := c.def_ 16 (d := hlaw) rfl
  exact ⟨_, fd, _, _, _, _, _, He.glo_ok X G (c.fact 16 (f := .glo "law") rfl), F, ⟨rfl, rfl, rfl, by decide +kernel, rfl, by decide +kernel, by decide +kernel⟩, F.bindsA fun _ _ _ _ _ _ us hl => match us, hl with | [_], _ => rfl, by decide +kernel⟩
theorem base (X : K.In h) (G : h.Ns mainGlobals mg) (c : He.SaysD fa fn K) : Base gl defs K mg := by
  refine ⟨fun x d e => ?_, fun b => ?_, He.free_ok X G (c.fact 25 (f := .free "list") rfl), He.free_ok X G (c.fact 26 (f := .free "range") rfl), He.free_ok X G (c.fact 27 (f := .free "zip") rfl), He.free_ok X G (c.fact 28 (f := .free "enumerate") rfl), kitA K, fun F hF => ?_⟩
  · unfold gl at e
    by_cases q0 : x = "PLANE"
    · rw [if_pos q0] at e
      obtain ⟨t, ht⟩ := He.int_ok X G (c.fact 30 (f := .int "PLANE" 2) rfl)
      rw [q0, ← Option.some.inj e]
      exact ⟨.int 2, .int 2 t, fun _ _ _ => mI_int _, ⟨t, rfl⟩, .inl ht⟩
    rw [if_neg q0] at e
    by_cases t0 : x = "tuple"
    · rw [if_pos t0] at e
      rw [t0, ← Option.some.inj e]
      exact ⟨.ty "tuple", .type "tuple", fun _ _ _ => by simp only [RepV], rfl, .inr ⟨He.free_ok X G (c.fact 18 (f := .free "tuple") rfl), by rfl, by decide⟩⟩
    rw [if_neg t0] at e
    by_cases t1 : x = "int"
    · rw [if_pos t1] at e
      rw [t1, ← Option.some.inj e]
      exact ⟨.ty "int", .type "int", fun _ _ _ => by simp only [RepV], rfl, .inr ⟨He.free_ok X G (c.fact 23 (f := .free "int") rfl), by rfl, by decide⟩⟩
    rw [if_neg t1] at e
    by_cases t2 : x = "bool"
    · rw [if_pos t2] at e
      rw [t2, ← Option.some.inj e]
      exact ⟨.ty "bool", .type "bool", fun _ _ _ => by simp only [RepV], rfl, .inr ⟨He.free_ok X G (c.fact 29 (f := .free "bool") rfl), by rfl, by decide⟩⟩
    rw [if_neg t2] at e
    cases e
  · cases b with
    | len => exact He.free_ok X G (c.fact 17 (f := .free "len") rfl)
    | tuple => exact He.free_ok X G (c.fact 18 (f := .free "tuple") rfl)
    | abs => exact He.free_ok X G (c.fact 19 (f := .free "abs") rfl)
    | sum => exact He.free_ok X G (c.fact 20 (f := .free "sum") rfl)
    | max => exact He.free_ok X G (c.fact 21 (f := .free "max") rfl)
    | min => exact He.free_ok X G (c.fact 22 (f := .free "min") rfl)
    | int => exact He.free_ok X G (c.fact 23 (f := .free "int") rfl)
    | isinstance => exact He.free_ok X G (c.fact 24 (f := .free "isinstance") rfl)
  · simp only [defs, List.mem_cons, List.not_mem_nil, or_false] at hF
    rcases hF with rfl | rfl | rfl | rfl | rfl | rfl | rfl | rfl | rfl | rfl | rfl | rfl | rfl | rfl | rfl | rfl | rfl
    · exact okwithout X G c
    · exact okeliminated X G c
    · exact oksplit_rows X G c
    · exact okstaircase X G c
    · exact oktaken_off X G c
    · exact okshortened X G c
    · exact okcombination X G c
    · exact ok_law_source X G c
    · exact ok_law_draw X G c
    · exact ok_law_shuffled X G c
    · exact ok_law_common X G c
    · exact ok_law_divisors X G c
    · exact ok_law_member X G c
    · exact ok_law_vectors X G c
    · exact ok_law_sum X G c
    · exact ok_law_right X G c
    · exact oklaw X G c
end
end K07
end K07Head_text

section K07Joint_text
set_option Elab.async false
set_option linter.all false
set_option maxRecDepth 100000
set_option maxHeartbeats 0
open PySem PySem.W PySem.Calls PyProof.Rows
theorem PySem.Challenge.of_K07 (hrun : ∀ ns : List Int, ns.length ≤ 63 → (∀ z ∈ ns, PySem.Builtin.Int.intBits z ≤ 1048576) → Wk.Ends1 K07.gl K07.defs 20 K07.dlaw ns) : PySem.Challenge.rw_walkagon_k07_combinations.Holds := by
  w_on; o_law
  refine HandSHeadRun.head_any (r := OpenLaw.row PySem.Challenge.rw_walkagon_k07_combinations) (q := view (OpenLaw.row PySem.Challenge.rw_walkagon_k07_combinations).prog [19]) (H := K07.hk) (ob := K07.ob) (M := 4000) (loose := K07.loose) (d := HandSHeadRun.topDef (OpenLaw.row PySem.Challenge.rw_walkagon_k07_combinations).prog 19) (kwd := []) K07.ob_eq
    (by kernel_rfl) (fun s => by kernel_rfl) K07.run (by kernel_rfl) (by kernel_rfl) (by kernel_rfl) (by rfl) (by first | assumption | decide +kernel) (by decide +kernel) ⟨rfl, rfl, rfl, rfl, rfl, by decide +kernel⟩ ?hw ?hc
  case hw => w_witness2
  case hc =>
    refine Wk.law_walk (l := PySem.Challenge.rw_walkagon_k07_combinations) (n := 63) (k := 20) (x := "script") (gl := K07.gl) (defs := K07.defs) (F := K07.dlaw) rfl (by decide) (by kernel_rfl) ⟨rfl, by decide, by decide⟩ (by simp only [K07.defs]; exact List.mem_of_getElem? (i := 16) rfl) rfl (by kernel_rfl) ?_ hrun
    intro w mg h Y G
    obtain ⟨K, KX, c⟩ := Y
    exact ⟨K, KX, K07.base KX G c⟩
end K07Joint_text

section K07B_text
set_option Elab.async false
set_option linter.all false
set_option maxRecDepth 100000
set_option maxHeartbeats 4000000
local macro_rules | `(tactic| get_elem_tactic_trivial) => `(tactic| first
  | with_reducible exact Wk.xI | with_reducible exact Wk.xB | with_reducible exact Wk.xN | with_reducible exact Wk.xS | with_reducible exact Wk.aNil | with_reducible exact Wk.bNil | with_reducible exact Wk.allN | with_reducible exact Wk.anyN | with_reducible exact Wk.tBl
  | ((with_reducible apply Wk.xV); exact rfl) | ((with_reducible apply Wk.xG); exact rfl) | ((with_reducible apply Wk.gNm); exact Nat.le_of_ble_eq_true rfl)
  | with_reducible apply Wk.xBin | with_reducible apply Wk.xNeg | with_reducible apply Wk.xCmp | with_reducible apply Wk.xTup | with_reducible apply Wk.xLst | with_reducible apply Wk.xIx | with_reducible apply Wk.xSlL | with_reducible apply Wk.xSlH
  | with_reducible apply Wk.xBi | with_reducible apply Wk.xCall | with_reducible apply Wk.xLo | with_reducible apply Wk.xRep | with_reducible apply Wk.xLm | with_reducible apply Wk.xComp | with_reducible apply Wk.aCons | with_reducible apply Wk.aStar
  | with_reducible apply Wk.bRet1 | with_reducible apply Wk.sAsg | with_reducible apply Wk.sExpr | with_reducible exact Wk.gsN | with_reducible apply Wk.gsC | ((with_reducible apply Wk.gTp); exact rfl) | with_reducible apply Wk.gSub
  | with_reducible apply Wk.iSeq | with_reducible apply Wk.iR1 | with_reducible apply Wk.iR2 | with_reducible apply Wk.iZip | with_reducible apply Wk.iEnum
  | with_reducible apply Wk.bAsg | with_reducible apply Wk.bExpr
  | with_reducible apply Wk.tCmp | with_reducible apply Wk.tNot | with_reducible apply Wk.tBi | with_reducible apply Wk.tCall | ((with_reducible apply Wk.tV); exact rfl)
  | with_reducible exact Wk.binAdd | with_reducible exact Wk.binSub | ((with_reducible apply Wk.binMul); first | assumption | decide +kernel) | ((with_reducible apply Wk.binPow); first | assumption | decide +kernel) | ((with_reducible apply Wk.binMod); first | assumption | decide +kernel) | ((with_reducible apply Wk.binFdiv); first | assumption | decide +kernel)
  | ((with_reducible apply Wk.kBin); first | assumption | exact rfl | exact Wk.binMul (by assumption) | exact Wk.binFdiv (by assumption) | exact Wk.binMod (by assumption))
  | ((with_reducible apply Wk.cLtT); assumption) | ((with_reducible apply Wk.cLtF); assumption) | ((with_reducible apply Wk.cGtT); assumption) | ((with_reducible apply Wk.cGtF); assumption) | ((with_reducible apply Wk.cEqT); assumption) | ((with_reducible apply Wk.cEqF); assumption) | ((with_reducible apply Wk.cNeT); assumption) | ((with_reducible apply Wk.cNeF); assumption) | ((with_reducible apply Wk.kCmp); first | assumption | exact rfl)
  | ((with_reducible apply Wk.kIx); first | assumption | exact rfl) | ((with_reducible apply Wk.kBi); first | assumption | exact rfl) | ((with_reducible apply Wk.kQ); first | assumption | exact rfl) | ((with_reducible apply Wk.kTru); first | assumption | exact rfl)
  | ((with_reducible apply Wk.kAt); first | assumption | exact rfl) | ((with_reducible apply Wk.kIxN); first | assumption | exact rfl) | ((with_reducible apply Wk.kLen); first | assumption | exact rfl)
  | ((with_reducible apply Wk.kMk); first | assumption | exact Wk.mkLF rfl | exact Wk.mkLN rfl | exact Wk.mkLF (by assumption) | exact Wk.mkLN (by assumption)) | assumption | ((with_reducible apply Wk.kB); exact rfl))
namespace K07
open PySem PySem.Spec PyProof.Rows L2 StX Wk

def subR (f : Int) (xs ys : List Int) : List Int := List.zipWith (fun a b => a - f * b) xs ys
theorem subR_eq (f : Int) (xs ys : List Int) : subR f xs ys = (xs.zip ys).map fun p => p.1 - f * p.2 := by
  unfold subR
  rw [List.zip, List.map_zipWith]
theorem without_ok (n : Nat) (xs ys : List Int) (f : Int) (hx : xs.length ≤ 1000) (hm : ∀ y ∈ ys, mulOk f y = true) (S : Store) :
    (runF gl defs (n + 1)).call false "without" [ti xs, ti ys, .int f] [] S = some (.ok (ti (subR f xs ys)) S) := by
  have hc : compL (fun d ρ S => asT (runF gl defs n) (.tp (.cons (.nm 3) (.cons (.nm 4) .nil))) d ρ S) (fun ρ => evAll (runF gl defs n) .nil ρ) (fun ρ => evE (runF gl defs n) (.bin .sub (.v 3) (.bin .mul (.v 2) (.v 4))) ρ)
        (wipeE [some (ti xs), some (ti ys), some (.int f), none, none] ([(("number" : Str), 3), (("taken" : Str), 4)].map (·.2))) none [] (((xs.map D.int).zip (ys.map D.int)).map (fun p => D.tup [p.1, p.2])) [] = some ((subR f xs ys).map D.int, []) := by
    rw [zip_items, subR_eq, List.map_map]
    refine compOf _ _ _ trivial (by rw [List.length_zip]; omega) fun p hp => ?_
    have h1 := hm p.2 (List.of_mem_zip hp).2
    exact ⟨_, by unfold emb2; repeat' get_elem_tactic_trivial, by rfl, by repeat' get_elem_tactic_trivial⟩
  have hl : lenOk ((subR f xs ys).map D.int).length = true := lenOk_of (by rw [List.length_map]; unfold subR; rw [List.length_zipWith]; omega)
  have q1 : getQO [] (ti xs) = some (xs.map D.int) := rfl
  have q2 : getQO [] (ti ys) = some (ys.map D.int) := rfl
  have run : ∃ ρ, evB (runF gl defs n) dwithout.body [some (ti xs), some (ti ys), some (.int f), none, none] [] = some (.ok ρ [] (.rt (ti (subR f xs ys)))) := ⟨_, by
    simp only [dwithout]
    repeat' get_elem_tactic_trivial⟩
  obtain ⟨ρ, e⟩ := run
  exact callP (F := dwithout) rfl rfl (by show (noRef (ti xs) && (noRef (ti ys) && (true && true))) = true; rw [noRef_ti, noRef_ti] <;> rfl) e Fix.ti
end K07
end K07B_text

section K07C_text
set_option Elab.async false
set_option linter.all false
set_option maxRecDepth 100000
set_option maxHeartbeats 4000000
local macro_rules | `(tactic| get_elem_tactic_trivial) => `(tactic| first
  | with_reducible exact Wk.xI | with_reducible exact Wk.xB | with_reducible exact Wk.xN | with_reducible exact Wk.xS | with_reducible exact Wk.aNil | with_reducible exact Wk.bNil | with_reducible exact Wk.allN | with_reducible exact Wk.anyN | with_reducible exact Wk.tBl
  | ((with_reducible apply Wk.xV); exact rfl) | ((with_reducible apply Wk.xG); exact rfl) | ((with_reducible apply Wk.gNm); exact Nat.le_of_ble_eq_true rfl)
  | with_reducible apply Wk.xBin | with_reducible apply Wk.xNeg | with_reducible apply Wk.xCmp | with_reducible apply Wk.xTup | with_reducible apply Wk.xLst | with_reducible apply Wk.xIx | with_reducible apply Wk.xSlL | with_reducible apply Wk.xSlH
  | with_reducible apply Wk.xBi | with_reducible apply Wk.xCall | with_reducible apply Wk.xLo | with_reducible apply Wk.xRep | with_reducible apply Wk.xLm | with_reducible apply Wk.xComp | with_reducible apply Wk.aCons | with_reducible apply Wk.aStar
  | with_reducible apply Wk.bRet1 | with_reducible apply Wk.sAsg | with_reducible apply Wk.sExpr | with_reducible exact Wk.gsN | with_reducible apply Wk.gsC | ((with_reducible apply Wk.gTp); exact rfl) | with_reducible apply Wk.gSub
  | with_reducible apply Wk.iSeq | with_reducible apply Wk.iR1 | with_reducible apply Wk.iR2 | with_reducible apply Wk.iZip | with_reducible apply Wk.iEnum
  | with_reducible apply Wk.bAsg | with_reducible apply Wk.bExpr
  | with_reducible apply Wk.tCmp | with_reducible apply Wk.tNot | with_reducible apply Wk.tBi | with_reducible apply Wk.tCall | ((with_reducible apply Wk.tV); exact rfl)
  | with_reducible exact Wk.binAdd | with_reducible exact Wk.binSub | ((with_reducible apply Wk.binMul); first | assumption | decide +kernel) | ((with_reducible apply Wk.binPow); first | assumption | decide +kernel) | ((with_reducible apply Wk.binMod); first | assumption | decide +kernel) | ((with_reducible apply Wk.binFdiv); first | assumption | decide +kernel)
  | ((with_reducible apply Wk.kBin); first | assumption | exact rfl | exact Wk.binMul (by assumption) | exact Wk.binFdiv (by assumption) | exact Wk.binMod (by assumption))
  | ((with_reducible apply Wk.cLtT); assumption) | ((with_reducible apply Wk.cLtF); assumption) | ((with_reducible apply Wk.cGtT); assumption) | ((with_reducible apply Wk.cGtF); assumption) | ((with_reducible apply Wk.cEqT); assumption) | ((with_reducible apply Wk.cEqF); assumption) | ((with_reducible apply Wk.cNeT); assumption) | ((with_reducible apply Wk.cNeF); assumption) | ((with_reducible apply Wk.kCmp); first | assumption | exact rfl)
  | ((with_reducible apply Wk.kIx); first | assumption | exact rfl) | ((with_reducible apply Wk.kBi); first | assumption | exact rfl) | ((with_reducible apply Wk.kQ); first | assumption | exact rfl) | ((with_reducible apply Wk.kTru); first | assumption | exact rfl)
  | ((with_reducible apply Wk.kAt); first | assumption | exact rfl) | ((with_reducible apply Wk.kIxN); first | assumption | exact rfl) | ((with_reducible apply Wk.kLen); first | assumption | exact rfl)
  | ((with_reducible apply Wk.kMk); first | assumption | exact Wk.mkLF rfl | exact Wk.mkLN rfl | exact Wk.mkLF (by assumption) | exact Wk.mkLN (by assumption)) | assumption | ((with_reducible apply Wk.kB); exact rfl))
namespace K07
open PySem PySem.Spec PyProof.Rows L2 StX Wk

/-- the entry at side -/
def cv (side : Nat) (r : List Int) : Int := r.getD side 0
def row (R : List (List Int)) (i : Nat) : List Int := R.getD i []
def act (side : Nat) (R : List (List Int)) : List Nat := (R.zipIdx.filter fun p => decide (cv side p.1 ≠ 0)).map (·.2)
def less (side : Nat) (R : List (List Int)) (l i : Nat) : Nat := if (cv side (row R i)).natAbs < (cv side (row R l)).natAbs then i else l
def least (side : Nat) (R : List (List Int)) : Nat := (act side R).foldl (less side R) ((act side R).getD 0 0)
def stp (side l : Nat) (R : List (List Int)) (i : Nat) : List (List Int) := if i = l then R else R.set i (subR ((cv side (row R i)).fdiv (cv side (row R l))) (row R i) (row R l))
def round (side : Nat) (R : List (List Int)) : List (List Int) := (act side R).foldl (stp side (least side R)) R

theorem act_mem {side : Nat} {R : List (List Int)} {i : Nat} (h : i ∈ act side R) : i < R.length ∧ cv side (row R i) ≠ 0 := by
  unfold act at h
  obtain ⟨p, hp, e⟩ := List.mem_map.mp h
  obtain ⟨h1, h2⟩ := List.mem_filter.mp hp
  have h3 := List.mem_zipIdx h1
  simp only [Nat.zero_add, Nat.sub_zero] at h3
  rw [← e]
  refine ⟨by omega, ?_⟩
  have h4 : row R p.2 = p.1 := by
    unfold row
    rw [List.getD_eq_getElem?_getD, List.getElem?_eq_getElem (by omega), h3.2.2] <;> rfl
  rw [h4]
  exact of_decide_eq_true h2
theorem row_mem {R : List (List Int)} {i : Nat} (h : i < R.length) : row R i ∈ R := by
  unfold row
  rw [List.getD_eq_getElem?_getD, List.getElem?_eq_getElem h]
  exact List.getElem_mem h
theorem abs_eq (x : Int) : (if x < 0 then -x else x) = (x.natAbs : Int) := by
  split <;> omega
theorem at_rows {R : List (List Int)} {i : Nat} (h : i < R.length) : (R.map ti)[i]? = some (ti (row R i)) := by
  unfold row
  rw [List.getElem?_map, List.getElem?_eq_getElem h, List.getD_eq_getElem?_getD, List.getElem?_eq_getElem h] <;> rfl

section
variable {n side : Nat} {R : List (List Int)} {L : Nat}
/-- the indices of the active rows, as the text finds them -/
theorem active_run (hs : side < 2) (hL : ∀ r ∈ R, side < r.length) (hR : R.length ≤ 100) {a x3 : Option D} :
    compL (fun d ρ S => asT (runF gl defs n) (.tp (.cons (.nm 4) (.cons (.nm 5) .nil))) d ρ S) (fun ρ => evAll (runF gl defs n) (.cons (.cmp .ne (.ix (.v 5) (.v 1)) (.cint 0)) .nil) ρ) (fun ρ => evE (runF gl defs n) (.v 4) ρ)
      (wipeE [some (.ref 0), some (.int side), a, x3, x4, x5] ([(("index" : Str), 4), (("row" : Str), 5)].map (·.2))) (some (0, R.map ti)) [] ((R.map ti).zipIdx.map fun p => D.tup [.int p.2, p.1]) [.lst (R.map ti)] = some ((act side R).map fun (i : Nat) => D.int i, [.lst (R.map ti)]) := by
  have e1 : ((R.map ti).zipIdx.map fun p => D.tup [.int p.2, p.1]) = R.zipIdx.map fun p => D.tup [.int p.2, ti p.1] := by
    rw [List.zipIdx_map, List.map_map]
    rfl
  have e2 : ((act side R).map fun (i : Nat) => D.int i) = R.zipIdx.filterMap fun p => if cv side p.1 = 0 then none else some (D.int (p.2 : Nat)) := by
    unfold act
    rw [List.map_map]
    induction R.zipIdx with
    | nil => rfl
    | cons p ps ih =>
      by_cases h : cv side p.1 = 0
      · simpa [h] using ih
      · simpa [h] using ih
  rw [e1, e2]
  refine compOfF _ _ _ rfl (by rw [List.length_zipIdx]; omega) fun p hp => ?_
  have hp1 : p.1 ∈ R := by
    have := List.mem_zipIdx hp
    rw [this.2.2]
    exact List.getElem_mem _
  have hx : ixO [O.lst (R.map ti)] (ti p.1) (.int side) = some (.int (cv side p.1)) := ix_ti (hL _ hp1)
  by_cases h : cv side p.1 = 0
  · refine ⟨_, by repeat' get_elem_tactic_trivial, .inl ⟨by simp [h], ?_⟩⟩
    rw [h] at hx
    apply allF
    repeat' get_elem_tactic_trivial
  · refine ⟨_, by repeat' get_elem_tactic_trivial, .inr ⟨_, by simp [h]; rfl, ?_, ?_⟩⟩
    · apply allT
      · repeat' get_elem_tactic_trivial
      · exact allN
    · repeat' get_elem_tactic_trivial
/-- the least row, as the text finds it -/
theorem least_run (hs : side < 2) (hL : ∀ r ∈ R, side < r.length) {l0 : Nat} (hl0 : l0 < R.length) {as : D} {x4 x5 : Option D} {js : List Nat} (hj : ∀ j ∈ js, j < R.length) :
    ∃ x, forL (fun d ρ S => asT (runF gl defs n) (.nm 4) d ρ S) (evB (runF gl defs n) (.cons (.if_ (.cmp .lt (.bi .abs (.cons (.ix (.ix (.v 0) (.v 4)) (.v 1)) .nil)) (.bi .abs (.cons (.ix (.ix (.v 0) (.v 3)) (.v 1)) .nil))) (.cons (.asg (.nm 3) (.v 4)) .nil) .nil) .nil)) none
      (js.map fun (i : Nat) => D.int i) [some (.ref 0), some (.int side), some as, some (.int l0), x4, x5] [.lst (R.map ti)] = some (.ok [some (.ref 0), some (.int side), some as, some (.int (js.foldl (less side R) l0 : Nat)), x, x5] [.lst (R.map ti)] .nx) ∧ js.foldl (less side R) l0 < R.length := by
  induction js generalizing l0 x4 with
  | nil => exact ⟨x4, by unfold forL; rw [List.map_nil] <;> exact if_pos trivial, hl0⟩
  | cons j js ih =>
    have hj1 := hj j (List.mem_cons_self ..)
    have ax : atS [O.lst (R.map ti)] 0 = some (R.map ti) := rfl
    have i1 : ixO [O.lst (R.map ti)] (.ref 0) (.int j) = some (ti (row R j)) := ix_ref ax (Wk.atI_nat (at_rows hj1))
    have i2 : ixO [O.lst (R.map ti)] (.ref 0) (.int l0) = some (ti (row R l0)) := ix_ref ax (Wk.atI_nat (at_rows hl0))
    have i3 : ixO [O.lst (R.map ti)] (ti (row R j)) (.int side) = some (.int (cv side (row R j))) := ix_ti (hL _ (row_mem hj1))
    have i4 : ixO [O.lst (R.map ti)] (ti (row R l0)) (.int side) = some (.int (cv side (row R l0))) := ix_ti (hL _ (row_mem hl0))
    rw [List.map_cons]
    unfold forL
    rw [if_pos (show still none [O.lst (R.map ti)] from trivial)]
    have e1 : asT (runF gl defs n) (.nm 4) (.int j) [some (.ref 0), some (.int side), some as, some (.int l0), x4, x5] [.lst (R.map ti)] = some (.ok [some (.ref 0), some (.int side), some as, some (.int l0), some (.int j), x5] [.lst (R.map ti)] .nx) := gNm (Nat.le_of_ble_eq_true rfl)
    simp only [e1]
    by_cases hlt : (cv side (row R j)).natAbs < (cv side (row R l0)).natAbs
    · have e2 : less side R l0 j = j := if_pos hlt
      have hc : (if cv side (row R j) < 0 then -cv side (row R j) else cv side (row R j)) < (if cv side (row R l0) < 0 then -cv side (row R l0) else cv side (row R l0)) := by rw [abs_eq, abs_eq]; omega
      have eb : evB (runF gl defs n) (.cons (.if_ (.cmp .lt (.bi .abs (.cons (.ix (.ix (.v 0) (.v 4)) (.v 1)) .nil)) (.bi .abs (.cons (.ix (.ix (.v 0) (.v 3)) (.v 1)) .nil))) (.cons (.asg (.nm 3) (.v 4)) .nil) .nil) .nil) [some (.ref 0), some (.int side), some as, some (.int l0), some (.int j), x5] [.lst (R.map ti)]
          = some (.ok [some (.ref 0), some (.int side), some as, some (.int j), some (.int j), x5] [.lst (R.map ti)] .nx) := by
        apply bIfT
        · repeat' get_elem_tactic_trivial
        · apply bCons
          · apply sAsg
            · exact xV rfl
            · exact gNm (Nat.le_of_ble_eq_true rfl)
          · exact bNil
        · exact bNil
      simp only [eb, List.foldl_cons, e2]
      exact ih (l0 := j) hj1 fun i hi => hj i (List.mem_cons_of_mem _ hi)
    · have e2 : less side R l0 j = l0 := if_neg hlt
      have hc : ¬ (if cv side (row R j) < 0 then -cv side (row R j) else cv side (row R j)) < (if cv side (row R l0) < 0 then -cv side (row R l0) else cv side (row R l0)) := by rw [abs_eq, abs_eq]; omega
      have eb : evB (runF gl defs n) (.cons (.if_ (.cmp .lt (.bi .abs (.cons (.ix (.ix (.v 0) (.v 4)) (.v 1)) .nil)) (.bi .abs (.cons (.ix (.ix (.v 0) (.v 3)) (.v 1)) .nil))) (.cons (.asg (.nm 3) (.v 4)) .nil) .nil) .nil) [some (.ref 0), some (.int side), some as, some (.int l0), some (.int j), x5] [.lst (R.map ti)]
          = some (.ok [some (.ref 0), some (.int side), some as, some (.int l0), some (.int j), x5] [.lst (R.map ti)] .nx) := by
        apply bIfFN
        · repeat' get_elem_tactic_trivial
        · exact bNil
      simp only [eb, List.foldl_cons, e2]
      exact ih (l0 := l0) hl0 fun i hi => hj i (List.mem_cons_of_mem _ hi)
theorem stp_len {l : Nat} {R : List (List Int)} {i : Nat} : (stp side l R i).length = R.length := by
  unfold stp
  split
  · rfl
  · rw [List.length_set]
theorem row_set {R : List (List Int)} {i j : Nat} {r : List Int} : row (R.set i r) j = if i = j ∧ i < R.length then r else row R j := by
  unfold row
  rw [List.getD_eq_getElem?_getD, List.getD_eq_getElem?_getD]
  by_cases h : i = j
  · rw [h]
    by_cases hl : j < R.length
    · rw [List.getElem?_set_self hl, if_pos ⟨rfl, hl⟩] <;> rfl
    · rw [if_neg fun q => hl q.2, List.getElem?_eq_none (by rw [List.length_set]; omega), List.getElem?_eq_none (by omega)]
  · rw [List.getElem?_set_ne h, if_neg fun q => h q.1]
theorem row_stp {l : Nat} {R : List (List Int)} {i j : Nat} (hj : j ≠ i) : row (stp side l R i) j = row R j := by
  unfold stp
  split
  · rfl
  · rw [row_set, if_neg fun q => hj q.1.symm]
theorem row_stp_l {l : Nat} {R : List (List Int)} {i : Nat} : row (stp side l R i) l = row R l := by
  unfold stp
  split
  · rfl
  · next h => rw [row_set, if_neg fun q => h q.1]
/-- the rows' steps, as the text does them -/
theorem steps_run (hs : side < 2) {m : Nat} (hm : side < m) (hm2 : m ≤ 1000) {l : Nat} {as : D} {x4 x5 : Option D} {js : List Nat} {T : List (List Int)} (hl : l < T.length) (hlen : ∀ r ∈ T, r.length = m) (hnd : js.Nodup) (hj : ∀ j ∈ js, j < T.length)
    (hq : divOk (cv side (row T l)) = true) (hmul : ∀ j ∈ js, ∀ y ∈ row T l, mulOk ((cv side (row T j)).fdiv (cv side (row T l))) y = true) :
    ∃ x, forL (fun d ρ S => asT (runF gl defs (n + 1)) (.nm 4) d ρ S) (evB (runF gl defs (n + 1)) (.cons (.if_ (.cmp .ne (.v 4) (.v 3)) (.cons (.asg (.sub (.v 0) (.v 4)) (.call false "without" (.cons (.ix (.v 0) (.v 4)) (.cons (.ix (.v 0) (.v 3)) (.cons (.bin .fdiv (.ix (.ix (.v 0) (.v 4)) (.v 1)) (.ix (.ix (.v 0) (.v 3)) (.v 1))) .nil))) .nil)) .nil) .nil) .nil)) none
      (js.map fun (i : Nat) => D.int i) [some (.ref 0), some (.int side), some as, some (.int l), x4, x5] [.lst (T.map ti)] = some (.ok [some (.ref 0), some (.int side), some as, some (.int l), x, x5] [.lst ((js.foldl (stp side l) T).map ti)] .nx) := by
  induction js generalizing T x4 with
  | nil => exact ⟨x4, by unfold forL; rw [List.map_nil] <;> exact if_pos trivial⟩
  | cons j js ih =>
    have hj1 := hj j (List.mem_cons_self ..)
    have ax : atS [O.lst (T.map ti)] 0 = some (T.map ti) := rfl
    have i1 : ixO [O.lst (T.map ti)] (.ref 0) (.int j) = some (ti (row T j)) := ix_ref ax (Wk.atI_nat (at_rows hj1))
    have i2 : ixO [O.lst (T.map ti)] (.ref 0) (.int l) = some (ti (row T l)) := ix_ref ax (Wk.atI_nat (at_rows hl))
    have i3 : ixO [O.lst (T.map ti)] (ti (row T j)) (.int side) = some (.int (cv side (row T j))) := ix_ti (by rw [hlen _ (row_mem hj1)]; exact hm)
    have i4 : ixO [O.lst (T.map ti)] (ti (row T l)) (.int side) = some (.int (cv side (row T l))) := ix_ti (by rw [hlen _ (row_mem hl)]; exact hm)
    have nd := List.nodup_cons.mp hnd
    rw [List.map_cons]
    unfold forL
    rw [if_pos (show still none [O.lst (T.map ti)] from trivial)]
    have e1 : asT (runF gl defs (n + 1)) (.nm 4) (.int j) [some (.ref 0), some (.int side), some as, some (.int l), x4, x5] [.lst (T.map ti)] = some (.ok [some (.ref 0), some (.int side), some as, some (.int l), some (.int j), x5] [.lst (T.map ti)] .nx) := gNm (Nat.le_of_ble_eq_true rfl)
    simp only [e1]
    have next : ∀ T', T' = stp side l T j → ∃ x, forL (fun d ρ S => asT (runF gl defs (n + 1)) (.nm 4) d ρ S) (evB (runF gl defs (n + 1)) (.cons (.if_ (.cmp .ne (.v 4) (.v 3)) (.cons (.asg (.sub (.v 0) (.v 4)) (.call false "without" (.cons (.ix (.v 0) (.v 4)) (.cons (.ix (.v 0) (.v 3)) (.cons (.bin .fdiv (.ix (.ix (.v 0) (.v 4)) (.v 1)) (.ix (.ix (.v 0) (.v 3)) (.v 1))) .nil))) .nil)) .nil) .nil) .nil)) none
      (js.map fun (i : Nat) => D.int i) [some (.ref 0), some (.int side), some as, some (.int l), some (.int j), x5] [.lst (T'.map ti)] = some (.ok [some (.ref 0), some (.int side), some as, some (.int l), x, x5] [.lst (((j :: js).foldl (stp side l) T).map ti)] .nx) := by
      intro T' hT
      rw [List.foldl_cons, ← hT]
      refine ih (T := T') (by rw [hT, stp_len]; exact hl) (fun r hr => ?_) nd.2 (fun i hi => by rw [hT, stp_len]; exact hj i (List.mem_cons_of_mem _ hi)) (by rw [hT, row_stp_l]; exact hq) fun i hi y hy => ?_
      · rw [hT] at hr
        unfold stp at hr
        split at hr
        · exact hlen r hr
        · rcases List.mem_or_eq_of_mem_set hr with q | q
          · exact hlen r q
          · rw [q]
            unfold subR
            rw [List.length_zipWith, hlen _ (row_mem hj1), hlen _ (row_mem hl), Nat.min_self]
      · rw [hT, row_stp_l] at hy
        rw [hT, row_stp (fun q => nd.1 (by rw [← q]; exact hi)), row_stp_l]
        exact hmul i (List.mem_cons_of_mem _ hi) y hy
    by_cases hne : (j : Int) = l
    · have hjl : j = l := by omega
      have eb : evB (runF gl defs (n + 1)) (.cons (.if_ (.cmp .ne (.v 4) (.v 3)) (.cons (.asg (.sub (.v 0) (.v 4)) (.call false "without" (.cons (.ix (.v 0) (.v 4)) (.cons (.ix (.v 0) (.v 3)) (.cons (.bin .fdiv (.ix (.ix (.v 0) (.v 4)) (.v 1)) (.ix (.ix (.v 0) (.v 3)) (.v 1))) .nil))) .nil)) .nil) .nil) .nil) [some (.ref 0), some (.int side), some as, some (.int l), some (.int j), x5] [.lst (T.map ti)]
          = some (.ok [some (.ref 0), some (.int side), some as, some (.int l), some (.int j), x5] [.lst (T.map ti)] .nx) := by
        apply bIfFN
        · repeat' get_elem_tactic_trivial
        · exact bNil
      simp only [eb]
      exact next T (by unfold stp; rw [if_pos hjl])
    · have hjl : j ≠ l := fun q => hne (by rw [q])
      have cl : (runF gl defs (n + 1)).call false "without" [ti (row T j), ti (row T l), .int ((cv side (row T j)).fdiv (cv side (row T l)))] [] [.lst (T.map ti)] = some (.ok (ti (subR ((cv side (row T j)).fdiv (cv side (row T l))) (row T j) (row T l))) [.lst (T.map ti)]) :=
        without_ok n _ _ _ (by rw [hlen _ (row_mem hj1)]; exact hm2) (hmul j (List.mem_cons_self ..)) _
      have xN : ixN (T.map ti).length (j : Int) = some j := Wk.ixN_nat (by rw [List.length_map]; exact hj1)
      have eb : ∃ Z, evB (runF gl defs (n + 1)) (.cons (.if_ (.cmp .ne (.v 4) (.v 3)) (.cons (.asg (.sub (.v 0) (.v 4)) (.call false "without" (.cons (.ix (.v 0) (.v 4)) (.cons (.ix (.v 0) (.v 3)) (.cons (.bin .fdiv (.ix (.ix (.v 0) (.v 4)) (.v 1)) (.ix (.ix (.v 0) (.v 3)) (.v 1))) .nil))) .nil)) .nil) .nil) .nil) [some (.ref 0), some (.int side), some as, some (.int l), some (.int j), x5] [.lst (T.map ti)]
          = some (.ok [some (.ref 0), some (.int side), some as, some (.int l), some (.int j), x5] Z .nx) ∧ Z = [.lst ((stp side l T j).map ti)] := ⟨_, by
        apply bIfT
        · repeat' get_elem_tactic_trivial
        · repeat' get_elem_tactic_trivial
        · exact bNil, by
        unfold stp
        rw [if_neg hjl, List.map_set]
        exact rfl⟩
      obtain ⟨_, eb, rfl⟩ := eb
      simp only [eb]
      exact next _ rfl
end
end K07
end K07C_text

section K07D_text
set_option Elab.async false
set_option linter.all false
set_option maxRecDepth 100000
set_option maxHeartbeats 4000000
local macro_rules | `(tactic| get_elem_tactic_trivial) => `(tactic| first
  | with_reducible exact Wk.xI | with_reducible exact Wk.xB | with_reducible exact Wk.xN | with_reducible exact Wk.xS | with_reducible exact Wk.aNil | with_reducible exact Wk.bNil | with_reducible exact Wk.allN | with_reducible exact Wk.anyN | with_reducible exact Wk.tBl
  | ((with_reducible apply Wk.xV); exact rfl) | ((with_reducible apply Wk.xG); exact rfl) | ((with_reducible apply Wk.gNm); exact Nat.le_of_ble_eq_true rfl)
  | with_reducible apply Wk.xBin | with_reducible apply Wk.xNeg | with_reducible apply Wk.xCmp | with_reducible apply Wk.xTup | with_reducible apply Wk.xLst | with_reducible apply Wk.xIx | with_reducible apply Wk.xSlL | with_reducible apply Wk.xSlH
  | with_reducible apply Wk.xBi | with_reducible apply Wk.xCall | with_reducible apply Wk.xLo | with_reducible apply Wk.xRep | with_reducible apply Wk.xLm | with_reducible apply Wk.xComp | with_reducible apply Wk.aCons | with_reducible apply Wk.aStar
  | with_reducible apply Wk.bRet1 | with_reducible apply Wk.sAsg | with_reducible apply Wk.sExpr | with_reducible exact Wk.gsN | with_reducible apply Wk.gsC | ((with_reducible apply Wk.gTp); exact rfl) | with_reducible apply Wk.gSub
  | with_reducible apply Wk.iSeq | with_reducible apply Wk.iR1 | with_reducible apply Wk.iR2 | with_reducible apply Wk.iZip | with_reducible apply Wk.iEnum
  | with_reducible apply Wk.bAsg | with_reducible apply Wk.bExpr
  | with_reducible apply Wk.tCmp | with_reducible apply Wk.tNot | with_reducible apply Wk.tBi | with_reducible apply Wk.tCall | ((with_reducible apply Wk.tV); exact rfl)
  | with_reducible exact Wk.binAdd | with_reducible exact Wk.binSub | ((with_reducible apply Wk.binMul); first | assumption | decide +kernel) | ((with_reducible apply Wk.binPow); first | assumption | decide +kernel) | ((with_reducible apply Wk.binMod); first | assumption | decide +kernel) | ((with_reducible apply Wk.binFdiv); first | assumption | decide +kernel)
  | ((with_reducible apply Wk.kBin); first | assumption | exact rfl | exact Wk.binMul (by assumption) | exact Wk.binFdiv (by assumption) | exact Wk.binMod (by assumption))
  | ((with_reducible apply Wk.cLtT); assumption) | ((with_reducible apply Wk.cLtF); assumption) | ((with_reducible apply Wk.cGtT); assumption) | ((with_reducible apply Wk.cGtF); assumption) | ((with_reducible apply Wk.cEqT); assumption) | ((with_reducible apply Wk.cEqF); assumption) | ((with_reducible apply Wk.cNeT); assumption) | ((with_reducible apply Wk.cNeF); assumption) | ((with_reducible apply Wk.kCmp); first | assumption | exact rfl)
  | ((with_reducible apply Wk.kIx); first | assumption | exact rfl) | ((with_reducible apply Wk.kBi); first | assumption | exact rfl) | ((with_reducible apply Wk.kQ); first | assumption | exact rfl) | ((with_reducible apply Wk.kTru); first | assumption | exact rfl)
  | ((with_reducible apply Wk.kAt); first | assumption | exact rfl) | ((with_reducible apply Wk.kIxN); first | assumption | exact rfl) | ((with_reducible apply Wk.kLen); first | assumption | exact rfl)
  | ((with_reducible apply Wk.kMk); first | assumption | exact Wk.mkLF rfl | exact Wk.mkLN rfl | exact Wk.mkLF (by assumption) | exact Wk.mkLN (by assumption)) | assumption | ((with_reducible apply Wk.kB); exact rfl))
namespace K07
open PySem PySem.Spec PyProof.Rows L2 StX Wk

theorem act_nodup {side : Nat} {R : List (List Int)} : (act side R).Nodup := by
  unfold act
  have h : (R.zipIdx.map (·.2)).Nodup := by
    rw [List.zipIdx_map_snd]
    exact List.nodup_range'
  exact h.sublist ((List.filter_sublist).map _)
theorem fix_rows {R : List (List Int)} : ∀ d ∈ R.map ti, Fix deep d := fun d hd => by
  obtain ⟨r, _, rfl⟩ := List.mem_map.mp hd
  exact Fix.ti
theorem fix_rows' {R : List (List Int)} {k : Nat} : ∀ d ∈ R.map ti, Fix (k + 2) d := fun d hd => by
  obtain ⟨r, _, rfl⟩ := List.mem_map.mp hd
  exact Fix.ti
theorem cv_mem {side : Nat} {r : List Int} (h : side < r.length) : cv side r ∈ r := by
  unfold cv
  rw [List.getD_eq_getElem?_getD, List.getElem?_eq_getElem h]
  exact List.getElem_mem h
theorem fold_less_mem {side : Nat} {R : List (List Int)} : ∀ {js : List Nat} {l0 : Nat}, js.foldl (less side R) l0 = l0 ∨ js.foldl (less side R) l0 ∈ js
  | [], _ => .inl rfl
  | j :: js, l0 => by
    rw [List.foldl_cons]
    rcases fold_less_mem (side := side) (R := R) (js := js) (l0 := less side R l0 j) with h | h
    · rw [h]
      unfold less
      split
      · exact .inr (List.mem_cons_self ..)
      · exact .inl rfl
    · exact .inr (List.mem_cons_of_mem _ h)
theorem least_mem {side : Nat} {R : List (List Int)} (h : 2 ≤ (act side R).length) : least side R ∈ act side R := by
  unfold least
  rcases fold_less_mem (side := side) (R := R) (js := act side R) (l0 := (act side R).getD 0 0) with e | e
  · rw [e, List.getD_eq_getElem?_getD, List.getElem?_eq_getElem (by omega)]
    exact List.getElem_mem _
  · exact e
theorem noRefs_rows : ∀ R : List (List Int), noRefs (R.map ti) = true
  | [] => rfl
  | r :: R => by
    show (noRef (ti r) && noRefs (R.map ti)) = true
    rw [noRef_ti, noRefs_rows R] <;> rfl
/-- numbers that the text may handle -/
def Sm (x : Int) : Prop := Builtin.Int.intBits x ≤ 8000
theorem log2_bits (x : Int) : x.natAbs.log2 ≤ Builtin.Int.intBits x := by
  unfold Builtin.Int.intBits
  by_cases h : x = 0
  · rw [h]; simp
  · simp [h]
theorem mul_of {f y : Int} (h1 : Sm f) (h2 : Sm y) : mulOk f y = true := by
  have a1 := log2_bits f
  have a2 := log2_bits y
  unfold Sm at h1 h2
  exact decide_eq_true (by omega)
theorem div_of {y : Int} (h1 : Sm y) (h0 : y ≠ 0) : divOk y = true := by
  have a1 := log2_bits y
  unfold Sm at h1
  unfold divOk
  rw [Bool.and_eq_true]
  exact ⟨decide_eq_true h0, decide_eq_true (by omega)⟩
theorem fdiv_sm {x y : Int} (h : Sm x) : Sm (x.fdiv y) := PySem.intBits_fdiv_le h
theorem elim_ok {side : Nat} (n : Nat) (hs : side < 2) {m : Nat} (hm : side < m) (hm2 : m ≤ 1000) (R0 : List (List Int)) (Iv : List (List Int) → Prop) (μ : List (List Int) → Nat) (h0 : Iv R0)
    (hb : ∀ R, Iv R → (∀ r ∈ R, r.length = m) ∧ R.length ≤ 100 ∧ ∀ r ∈ R, ∀ x ∈ r, Sm x) (hst : ∀ R, Iv R → 2 ≤ (act side R).length → Iv (round side R) ∧ μ (round side R) < μ R) :
    ∃ R', Iv R' ∧ (act side R').length < 2 ∧ ∀ S, (runF gl defs (n + 2)).call false "eliminated" [.lst (R0.map ti), .int side] [] S = some (.ok (.lst (R'.map ti)) S) := by
  have hbd := hb R0 h0
  have hR0 : lenOk (R0.map ti).length = true := lenOk_of (by rw [List.length_map]; omega)
  let Pv : Nat → Env' → Store → Prop := fun k ρ S => ∃ R a x3 x4 x5, ρ = [some (.ref 0), some (.int side), a, x3, x4, x5] ∧ S = [.lst (R.map ti)] ∧ Iv R ∧ k = μ R
  let Rv : Wk.D → Store → Prop := fun v S => ∃ R, v = .ref 0 ∧ S = [O.lst (R.map ti)] ∧ Iv R ∧ (act side R).length < 2
  have loop := whileRet (ρ := [some (.ref 0), some (.int side), none, none, none, none]) (S := [.lst (R0.map ti)]) (t := evT (runF gl defs (n + 1)) (.cbl true)) (b := evB (runF gl defs (n + 1)) (.cons (.asg (.nm 2) (.comp true [("index", 4), ("row", 5)] (.tp (.cons (.nm 4) (.cons (.nm 5) .nil))) (.enum (.v 0)) (.cons (.cmp .ne (.ix (.v 5) (.v 1)) (.cint 0)) .nil) (.v 4))) (.cons (.if_ (.cmp .lt (.bi .len (.cons (.v 2) .nil)) (.cint 2)) (.cons (.ret (.v 0)) .nil) .nil) (.cons (.asg (.nm 3) (.ix (.v 2) (.cint 0))) (.cons (.for_ (.nm 4) (.seq (.v 2)) (.cons (.if_ (.cmp .lt (.bi .abs (.cons (.ix (.ix (.v 0) (.v 4)) (.v 1)) .nil)) (.bi .abs (.cons (.ix (.ix (.v 0) (.v 3)) (.v 1)) .nil))) (.cons (.asg (.nm 3) (.v 4)) .nil) .nil) .nil)) (.cons (.for_ (.nm 4) (.seq (.v 2)) (.cons (.if_ (.cmp .ne (.v 4) (.v 3)) (.cons (.asg (.sub (.v 0) (.v 4)) (.call false "without" (.cons (.ix (.v 0) (.v 4)) (.cons (.ix (.v 0) (.v 3)) (.cons (.bin .fdiv (.ix (.ix (.v 0) (.v 4)) (.v 1)) (.ix (.ix (.v 0) (.v 3)) (.v 1))) .nil))) .nil)) .nil) .nil) .nil)) .nil))))))
    Pv Rv (m0 := μ R0) ⟨R0, none, none, none, none, rfl, rfl, h0, rfl⟩ fun k ρ S hP => by
      obtain ⟨R, a, x3, x4, x5, rfl, rfl, hI, rfl⟩ := hP
      obtain ⟨hl, hR, hsm⟩ := hb R hI
      refine ⟨tBl, ?_⟩
      have q0 : getQO [O.lst (R.map ti)] (.ref 0) = some (R.map ti) := getQ_ref rfl
      have hc := active_run (n := n + 1) (R := R) (a := a) (x3 := x3) (x4 := x4) (x5 := x5) hs (fun r hr => by rw [hl r hr]; exact hm) hR
      have hla : lenOk ((act side R).map fun (i : Nat) => D.int i).length = true := lenOk_of (by
        rw [List.length_map]
        unfold act
        rw [List.length_map]
        have := List.length_filter_le (fun p : List Int × Nat => decide (cv side p.1 ≠ 0)) R.zipIdx
        rw [List.length_zipIdx] at this
        omega)
      have isl : isL (.ref 0) = true := rfl
      by_cases h2 : (((act side R).map fun (i : Nat) => D.int i).length : Int) < 2
      · exact .inl ⟨_, _, _, by
          apply bAsg
          · apply xComp
            · repeat' get_elem_tactic_trivial
            · exact hc
            · exact mkLF hla
          · exact gNm (Nat.le_of_ble_eq_true rfl)
          · apply bIfTR
            · repeat' get_elem_tactic_trivial
            · repeat' get_elem_tactic_trivial, ⟨R, rfl, rfl, hI, by rw [List.length_map] at h2; omega⟩⟩
      · have h3 : 2 ≤ (act side R).length := by rw [List.length_map] at h2; omega
        obtain ⟨hI', hlt⟩ := hst R hI h3
        have hmem : ∀ j ∈ act side R, j < R.length := fun j hj => (act_mem hj).1
        have h00 : (act side R).getD 0 0 ∈ act side R := by
          rw [List.getD_eq_getElem?_getD, List.getElem?_eq_getElem (by omega)]
          exact List.getElem_mem _
        have ix0 : ∀ S : Store, ixO S (.lst ((act side R).map fun (i : Nat) => D.int i)) (.int 0) = some (.int ((act side R).getD 0 0 : Nat)) := fun S => by
          refine ix_lst (k := 0) ?_
          rw [List.getElem?_map, List.getD_eq_getElem?_getD, List.getElem?_eq_getElem (by omega)] <;> rfl
        have ix0' := ix0 [O.lst (R.map ti)]
        have hL : ∀ r ∈ R, side < r.length := fun r hr => by rw [hl r hr]; exact hm
        obtain ⟨y4, e1, hll⟩ := least_run (n := n + 1) (R := R) hs hL (hmem _ h00) (as := .lst ((act side R).map fun (i : Nat) => D.int i)) (x4 := x4) (x5 := x5) hmem
        have hlm : least side R ∈ act side R := least_mem h3
        have hc0 := (act_mem hlm).2
        obtain ⟨y5, e2⟩ := steps_run (n := n) hs hm hm2 (l := least side R) (as := .lst ((act side R).map fun (i : Nat) => D.int i)) (x4 := y4) (x5 := x5) (js := act side R) (T := R) hll hl act_nodup hmem
          (div_of (hsm _ (row_mem hll) _ (cv_mem (hL _ (row_mem hll)))) hc0) fun j hj y hy => mul_of (fdiv_sm (hsm _ (row_mem (hmem j hj)) _ (cv_mem (hL _ (row_mem (hmem j hj)))))) (hsm _ (row_mem hll) _ hy)
        exact .inr ⟨_, _, _, by
          apply bAsg
          · apply xComp
            · repeat' get_elem_tactic_trivial
            · exact hc
            · exact mkLF hla
          · exact gNm (Nat.le_of_ble_eq_true rfl)
          · apply bIfFN
            · repeat' get_elem_tactic_trivial
            · apply bAsg
              · repeat' get_elem_tactic_trivial
              · exact gNm (Nat.le_of_ble_eq_true rfl)
              · apply bCons
                · apply sFor
                  · repeat' get_elem_tactic_trivial
                  · exact e1
                · apply bCons
                  · apply sFor
                    · repeat' get_elem_tactic_trivial
                    · exact e2
                  · exact bNil, ⟨round side R, _, _, _, _, by exact rfl, by exact rfl, hI', rfl⟩, hlt⟩
  obtain ⟨ρ', S', v, e, R', rfl, rfl, hI, h2⟩ := loop
  refine ⟨R', hI, h2, fun S => ?_⟩
  have q1 : getQO [] (.lst (R0.map ti)) = some (R0.map ti) := rfl
  have run : ∃ ρ, evB (runF gl defs (n + 1)) deliminated.body [some (.lst (R0.map ti)), some (.int side), none, none, none, none] [] = some (.ok ρ [.lst (R'.map ti)] (.rt (.ref 0))) := ⟨_, by
    simp only [deliminated]
    apply bAsg
    · apply xLo
      · exact xV rfl
      · exact q1
      · exact mkLN hR0
    · exact gNm (Nat.le_of_ble_eq_true rfl)
    · exact bRet e⟩
  obtain ⟨ρ2, e3⟩ := run
  refine callPL (F := deliminated) rfl rfl (by show (noRefs (R0.map ti) && (true && true)) = true; rw [noRefs_rows] <;> rfl) e3 ?_
  show (mapO (frz (atT [O.lst (R'.map ti)]) 0 11) (R'.map ti)).map D.lst = _
  rw [mapO_id fun d hd => fix_rows' d hd _ _] <;> rfl
end K07
end K07D_text

section K07E_text
set_option Elab.async false
set_option linter.all false
set_option maxRecDepth 100000
set_option maxHeartbeats 4000000
local macro_rules | `(tactic| get_elem_tactic_trivial) => `(tactic| first
  | with_reducible exact Wk.xI | with_reducible exact Wk.xB | with_reducible exact Wk.xN | with_reducible exact Wk.xS | with_reducible exact Wk.aNil | with_reducible exact Wk.bNil | with_reducible exact Wk.allN | with_reducible exact Wk.anyN | with_reducible exact Wk.tBl
  | ((with_reducible apply Wk.xV); exact rfl) | ((with_reducible apply Wk.xG); exact rfl) | ((with_reducible apply Wk.gNm); exact Nat.le_of_ble_eq_true rfl)
  | with_reducible apply Wk.xBin | with_reducible apply Wk.xNeg | with_reducible apply Wk.xCmp | with_reducible apply Wk.xTup | with_reducible apply Wk.xLst | with_reducible apply Wk.xIx | with_reducible apply Wk.xSlL | with_reducible apply Wk.xSlH
  | with_reducible apply Wk.xBi | with_reducible apply Wk.xCall | with_reducible apply Wk.xLo | with_reducible apply Wk.xRep | with_reducible apply Wk.xLm | with_reducible apply Wk.xComp | with_reducible apply Wk.aCons | with_reducible apply Wk.aStar
  | with_reducible apply Wk.bRet1 | with_reducible apply Wk.sAsg | with_reducible apply Wk.sExpr | with_reducible exact Wk.gsN | with_reducible apply Wk.gsC | ((with_reducible apply Wk.gTp); exact rfl) | with_reducible apply Wk.gSub
  | with_reducible apply Wk.iSeq | with_reducible apply Wk.iR1 | with_reducible apply Wk.iR2 | with_reducible apply Wk.iZip | with_reducible apply Wk.iEnum
  | with_reducible apply Wk.bAsg | with_reducible apply Wk.bExpr
  | with_reducible apply Wk.tCmp | with_reducible apply Wk.tNot | with_reducible apply Wk.tBi | with_reducible apply Wk.tCall | ((with_reducible apply Wk.tV); exact rfl)
  | with_reducible exact Wk.binAdd | with_reducible exact Wk.binSub | ((with_reducible apply Wk.binMul); first | assumption | decide +kernel) | ((with_reducible apply Wk.binPow); first | assumption | decide +kernel) | ((with_reducible apply Wk.binMod); first | assumption | decide +kernel) | ((with_reducible apply Wk.binFdiv); first | assumption | decide +kernel)
  | ((with_reducible apply Wk.kBin); first | assumption | exact rfl | exact Wk.binMul (by assumption) | exact Wk.binFdiv (by assumption) | exact Wk.binMod (by assumption))
  | ((with_reducible apply Wk.cLtT); assumption) | ((with_reducible apply Wk.cLtF); assumption) | ((with_reducible apply Wk.cGtT); assumption) | ((with_reducible apply Wk.cGtF); assumption) | ((with_reducible apply Wk.cEqT); assumption) | ((with_reducible apply Wk.cEqF); assumption) | ((with_reducible apply Wk.cNeT); assumption) | ((with_reducible apply Wk.cNeF); assumption) | ((with_reducible apply Wk.kCmp); first | assumption | exact rfl)
  | ((with_reducible apply Wk.kIx); first | assumption | exact rfl) | ((with_reducible apply Wk.kBi); first | assumption | exact rfl) | ((with_reducible apply Wk.kQ); first | assumption | exact rfl) | ((with_reducible apply Wk.kTru); first | assumption | exact rfl)
  | ((with_reducible apply Wk.kAt); first | assumption | exact rfl) | ((with_reducible apply Wk.kIxN); first | assumption | exact rfl) | ((with_reducible apply Wk.kLen); first | assumption | exact rfl)
  | ((with_reducible apply Wk.kMk); first | assumption | exact Wk.mkLF rfl | exact Wk.mkLN rfl | exact Wk.mkLF (by assumption) | exact Wk.mkLN (by assumption)) | assumption | ((with_reducible apply Wk.kB); exact rfl))
namespace K07
open PySem PySem.Spec PyProof.Rows L2 StX Wk

def zr (side : Nat) (R : List (List Int)) : List (List Int) := R.filter fun r => decide (cv side r = 0)
def ld (side : Nat) (R : List (List Int)) : Option (List Int) := (R.filter fun r => decide (cv side r ≠ 0)).getLast?
def oD : Option (List Int) → Wk.D
  | none => .non
  | some r => ti r
theorem split_for {side n m : Nat} (hm : side < m) {rs os : List (List Int)} {lead : Option (List Int)} {a0 : Option Wk.D} {x4 : Option Wk.D} (hl : ∀ r ∈ rs, r.length = m) (hsz : os.length + rs.length ≤ 1000) :
    ∃ x, forL (fun d ρ S => asT (runF gl defs n) (.nm 4) d ρ S) (evB (runF gl defs n) (.cons (.if_ (.cmp .ne (.ix (.v 4) (.v 1)) (.cint 0)) (.cons (.asg (.nm 2) (.v 4)) .nil) (.cons (.expr (.lm .append (.v 3) (.cons (.v 4) .nil))) .nil)) .nil)) none
      (rs.map ti) [a0, some (.int side), some (oD lead), some (.ref 0), x4] [.lst (os.map ti)] = some (.ok [a0, some (.int side), some (oD ((ld side rs).or lead)), some (.ref 0), x] [.lst ((os ++ zr side rs).map ti)] .nx) := by
  induction rs generalizing os lead x4 with
  | nil => exact ⟨x4, by rw [show zr side [] = [] from rfl, show ld side [] = none from rfl, List.append_nil, List.map_nil]; unfold forL; exact if_pos trivial⟩
  | cons r rs ih =>
    have hr := hl r (List.mem_cons_self ..)
    have i1 : ∀ S, ixO S (ti r) (.int side) = some (.int (cv side r)) := fun S => ix_ti (by rw [hr]; exact hm)
    have i2 := i1 [.lst (os.map ti)]
    rw [List.map_cons]
    unfold forL
    rw [if_pos (show still none [O.lst (os.map ti)] from trivial)]
    have e1 : asT (runF gl defs n) (.nm 4) (ti r) [a0, some (.int side), some (oD lead), some (.ref 0), x4] [.lst (os.map ti)] = some (.ok [a0, some (.int side), some (oD lead), some (.ref 0), some (ti r)] [.lst (os.map ti)] .nx) := gNm (Nat.le_of_ble_eq_true rfl)
    simp only [e1]
    simp only [List.length_cons] at hsz
    by_cases h : cv side r = 0
    · have at0 : atS [O.lst (os.map ti)] 0 = some (os.map ti) := rfl
      have la := lmApp (x := ti r) at0 (lenOk_of (by rw [List.length_map]; omega))
      have eb : ∃ Z, evB (runF gl defs n) (.cons (.if_ (.cmp .ne (.ix (.v 4) (.v 1)) (.cint 0)) (.cons (.asg (.nm 2) (.v 4)) .nil) (.cons (.expr (.lm .append (.v 3) (.cons (.v 4) .nil))) .nil)) .nil) [a0, some (.int side), some (oD lead), some (.ref 0), some (ti r)] [.lst (os.map ti)]
          = some (.ok [a0, some (.int side), some (oD lead), some (.ref 0), some (ti r)] Z .nx) ∧ Z = [.lst ((os ++ [r]).map ti)] := ⟨_, by
        apply bIfF
        · repeat' get_elem_tactic_trivial
        · repeat' get_elem_tactic_trivial
        · exact bNil, by rw [List.map_append] <;> exact rfl⟩
      obtain ⟨_, eb, rfl⟩ := eb
      simp only [eb]
      obtain ⟨x, e⟩ := ih (os := os ++ [r]) (lead := lead) (x4 := some (ti r)) (fun r hr => hl r (List.mem_cons_of_mem _ hr)) (by rw [List.length_append, List.length_singleton]; omega)
      refine ⟨x, ?_⟩
      rw [e]
      have z1 : zr side (r :: rs) = r :: zr side rs := by unfold zr; rw [List.filter_cons_of_pos (by simpa using h)]
      have z2 : ld side (r :: rs) = ld side rs := by unfold ld; rw [List.filter_cons_of_neg (by simpa using h)]
      rw [z1, z2, List.append_assoc] <;> rfl
    · have eb : evB (runF gl defs n) (.cons (.if_ (.cmp .ne (.ix (.v 4) (.v 1)) (.cint 0)) (.cons (.asg (.nm 2) (.v 4)) .nil) (.cons (.expr (.lm .append (.v 3) (.cons (.v 4) .nil))) .nil)) .nil) [a0, some (.int side), some (oD lead), some (.ref 0), some (ti r)] [.lst (os.map ti)]
          = some (.ok [a0, some (.int side), some (oD (some r)), some (.ref 0), some (ti r)] [.lst (os.map ti)] .nx) := by
        apply bIfT
        · repeat' get_elem_tactic_trivial
        · apply bAsg
          · exact xV rfl
          · exact gNm (Nat.le_of_ble_eq_true rfl)
          · exact bNil
        · exact bNil
      simp only [eb]
      obtain ⟨x, e⟩ := ih (os := os) (lead := some r) (x4 := some (ti r)) (fun r hr => hl r (List.mem_cons_of_mem _ hr)) (by omega)
      refine ⟨x, ?_⟩
      rw [e]
      have z1 : zr side (r :: rs) = zr side rs := by unfold zr; rw [List.filter_cons_of_neg (by simpa using h)]
      have z2 : (ld side (r :: rs)).or lead = (ld side rs).or (some r) := by
        unfold ld
        rw [List.filter_cons_of_pos (by simpa using h), List.getLast?_cons]
        cases (List.filter (fun r => decide (cv side r ≠ 0)) rs).getLast? <;> rfl
      rw [z1, z2]
theorem split_ok {side : Nat} (n : Nat) (hs : side < 2) {m : Nat} (hm : side < m) (hm2 : m ≤ 1000) (R0 : List (List Int)) (Iv : List (List Int) → Prop) (μ : List (List Int) → Nat) (h0 : Iv R0)
    (hb : ∀ R, Iv R → (∀ r ∈ R, r.length = m) ∧ R.length ≤ 100 ∧ ∀ r ∈ R, ∀ x ∈ r, Sm x) (hst : ∀ R, Iv R → 2 ≤ (act side R).length → Iv (round side R) ∧ μ (round side R) < μ R) :
    ∃ R', Iv R' ∧ (act side R').length < 2 ∧ ∀ S, (runF gl defs (n + 3)).call false "split_rows" [.lst (R0.map ti), .int side] [] S = some (.ok (.tup [oD (ld side R'), .lst ((zr side R').map ti)]) S) := by
  obtain ⟨R', hI, h2, hc⟩ := elim_ok n hs hm hm2 R0 Iv μ h0 hb hst
  obtain ⟨hl, hR, _⟩ := hb R' hI
  refine ⟨R', hI, h2, fun S => ?_⟩
  obtain ⟨x, e⟩ := split_for (n := n + 2) hm (rs := R') (os := []) (lead := none) (a0 := some (.lst (R0.map ti))) (x4 := none) hl (by rw [List.length_nil]; omega)
  rw [List.nil_append, Option.or_none] at e
  have hc1 := hc [.lst []]
  have q1 : getQO [.lst []] (.lst (R'.map ti)) = some (R'.map ti) := rfl
  have run : ∃ ρ, evB (runF gl defs (n + 2)) dsplit_rows.body [some (.lst (R0.map ti)), some (.int side), none, none, none] [] = some (.ok ρ [.lst ((zr side R').map ti)] (.rt (.tup [oD (ld side R'), .ref 0]))) := ⟨_, by
    simp only [dsplit_rows]
    apply bAsg
    · exact xN
    · exact gNm (Nat.le_of_ble_eq_true rfl)
    · apply bAsg
      · apply xLst
        · exact aNil
        · exact mkLN rfl
      · exact gNm (Nat.le_of_ble_eq_true rfl)
      · apply bCons
        · apply sFor
          · apply Wk.iSeq
            · apply xCall
              · repeat' get_elem_tactic_trivial
              · exact hc1
            · exact q1
          · exact e
        · repeat' get_elem_tactic_trivial⟩
  obtain ⟨ρ, e2⟩ := run
  refine callPL (F := dsplit_rows) rfl rfl (by show (noRefs (R0.map ti) && (true && true)) = true; rw [noRefs_rows] <;> rfl) e2 ?_
  have f1 : frz (atT [O.lst ((zr side R').map ti)]) 0 11 (oD (ld side R')) = some (oD (ld side R')) := by
    cases ld side R' with
    | none => rfl
    | some r => exact Fix.ti _ _
  have f2 : frz (atT [O.lst ((zr side R').map ti)]) 0 11 (.ref 0) = some (.lst ((zr side R').map ti)) := by
    show (mapO (frz (atT [O.lst ((zr side R').map ti)]) 0 10) ((zr side R').map ti)).map D.lst = _
    rw [mapO_id fun d hd => fix_rows' d hd _ _] <;> rfl
  show (mapO (frz (atT [O.lst ((zr side R').map ti)]) 0 11) [oD (ld side R'), .ref 0]).map D.tup = _
  show ((frz (atT [O.lst ((zr side R').map ti)]) 0 11 (oD (ld side R'))).bind fun b => ((frz (atT [O.lst ((zr side R').map ti)]) 0 11 (.ref 0)).bind fun c => some [c]).map fun s => b :: s).map D.tup = _
  rw [f1, f2] <;> rfl
end K07
end K07E_text

section K07F_text
set_option Elab.async false
set_option linter.all false
set_option maxRecDepth 100000
set_option maxHeartbeats 4000000
local macro_rules | `(tactic| get_elem_tactic_trivial) => `(tactic| first
  | with_reducible exact Wk.xI | with_reducible exact Wk.xB | with_reducible exact Wk.xN | with_reducible exact Wk.xS | with_reducible exact Wk.aNil | with_reducible exact Wk.bNil | with_reducible exact Wk.allN | with_reducible exact Wk.anyN | with_reducible exact Wk.tBl
  | ((with_reducible apply Wk.xV); exact rfl) | ((with_reducible apply Wk.xG); exact rfl) | ((with_reducible apply Wk.gNm); exact Nat.le_of_ble_eq_true rfl)
  | with_reducible apply Wk.xBin | with_reducible apply Wk.xNeg | with_reducible apply Wk.xCmp | with_reducible apply Wk.xTup | with_reducible apply Wk.xLst | with_reducible apply Wk.xIx | with_reducible apply Wk.xSlL | with_reducible apply Wk.xSlH
  | with_reducible apply Wk.xBi | with_reducible apply Wk.xCall | with_reducible apply Wk.xLo | with_reducible apply Wk.xRep | with_reducible apply Wk.xLm | with_reducible apply Wk.xComp | with_reducible apply Wk.aCons | with_reducible apply Wk.aStar
  | with_reducible apply Wk.bRet1 | with_reducible apply Wk.sAsg | with_reducible apply Wk.sExpr | with_reducible exact Wk.gsN | with_reducible apply Wk.gsC | ((with_reducible apply Wk.gTp); exact rfl) | with_reducible apply Wk.gSub
  | with_reducible apply Wk.iSeq | with_reducible apply Wk.iR1 | with_reducible apply Wk.iR2 | with_reducible apply Wk.iZip | with_reducible apply Wk.iEnum
  | with_reducible apply Wk.bAsg | with_reducible apply Wk.bExpr
  | with_reducible apply Wk.tCmp | with_reducible apply Wk.tNot | with_reducible apply Wk.tBi | with_reducible apply Wk.tCall | ((with_reducible apply Wk.tV); exact rfl)
  | with_reducible exact Wk.binAdd | with_reducible exact Wk.binSub | ((with_reducible apply Wk.binMul); first | assumption | decide +kernel) | ((with_reducible apply Wk.binPow); first | assumption | decide +kernel) | ((with_reducible apply Wk.binMod); first | assumption | decide +kernel) | ((with_reducible apply Wk.binFdiv); first | assumption | decide +kernel)
  | ((with_reducible apply Wk.kBin); first | assumption | exact rfl | exact Wk.binMul (by assumption) | exact Wk.binFdiv (by assumption) | exact Wk.binMod (by assumption))
  | ((with_reducible apply Wk.cLtT); assumption) | ((with_reducible apply Wk.cLtF); assumption) | ((with_reducible apply Wk.cGtT); assumption) | ((with_reducible apply Wk.cGtF); assumption) | ((with_reducible apply Wk.cEqT); assumption) | ((with_reducible apply Wk.cEqF); assumption) | ((with_reducible apply Wk.cNeT); assumption) | ((with_reducible apply Wk.cNeF); assumption) | ((with_reducible apply Wk.kCmp); first | assumption | exact rfl)
  | ((with_reducible apply Wk.kIx); first | assumption | exact rfl) | ((with_reducible apply Wk.kBi); first | assumption | exact rfl) | ((with_reducible apply Wk.kQ); first | assumption | exact rfl) | ((with_reducible apply Wk.kTru); first | assumption | exact rfl)
  | ((with_reducible apply Wk.kAt); first | assumption | exact rfl) | ((with_reducible apply Wk.kIxN); first | assumption | exact rfl) | ((with_reducible apply Wk.kLen); first | assumption | exact rfl)
  | ((with_reducible apply Wk.kMk); first | assumption | exact Wk.mkLF rfl | exact Wk.mkLN rfl | exact Wk.mkLF (by assumption) | exact Wk.mkLN (by assumption)) | assumption | ((with_reducible apply Wk.kB); exact rfl))
namespace K07
open PySem PySem.Spec PyProof.Rows L2 StX Wk

def Bi (k : Nat) (x : Int) : Prop := Builtin.Int.intBits x ≤ k
theorem mulB {f y : Int} {k l : Nat} (h1 : Bi k f) (h2 : Bi l y) (h : k + l < 1000000) : mulOk f y = true := by
  have a1 := log2_bits f
  have a2 := log2_bits y
  unfold Bi at h1 h2
  exact decide_eq_true (by omega)
theorem divB {y : Int} {k : Nat} (h1 : Bi k y) (hk : k < 9000) (h0 : y ≠ 0) : divOk y = true := by
  have a1 := log2_bits y
  unfold Bi at h1
  unfold divOk
  rw [Bool.and_eq_true]
  exact ⟨decide_eq_true h0, decide_eq_true (by omega)⟩
/-- a multiple of the row taken off -/
def tkO (side : Nat) (xs : List Int) (r : Option (List Int)) : Option (List Int) := if cv side xs = 0 then some xs else match r with
  | none => none
  | some y => if (cv side xs).fmod (cv side y) = 0 then some (subR ((cv side xs).fdiv (cv side y)) xs y) else none
theorem noRef_oD : ∀ r, noRef (oD r) = true
  | none => rfl
  | some r => noRef_ti r
theorem Fix_oD {k : Nat} : ∀ r, Fix (k + 2) (oD r)
  | none => Fix.non
  | some r => Fix.ti
theorem taken_ok (n : Nat) {side : Nat} {xs : List Int} {r : Option (List Int)} (hx : side < xs.length) (hx2 : xs.length ≤ 1000) (hr : ∀ y, r = some y → side < y.length ∧ cv side y ≠ 0 ∧ (∀ z ∈ y, Bi 8000 z)) (hb : Bi 100000 (cv side xs)) (S : Store) :
    (runF gl defs (n + 2)).call false "taken_off" [ti xs, oD r, .int side] [] S = some (.ok (oD (tkO side xs r)) S) := by
  have i1 : ixO [] (ti xs) (.int side) = some (.int (cv side xs)) := ix_ti hx
  have nr : noRefs [ti xs, oD r, .int side] = true := by show (noRef (ti xs) && (noRef (oD r) && (true && true))) = true; rw [noRef_ti, noRef_oD] <;> rfl
  have run : ∃ ρ, evB (runF gl defs (n + 1)) dtaken_off.body [some (ti xs), some (oD r), some (.int side)] [] = some (.ok ρ [] (.rt (oD (tkO side xs r)))) := by
    simp only [dtaken_off]
    unfold tkO
    by_cases h : cv side xs = 0
    · rw [if_pos h]
      exact ⟨_, by
        apply bIfTR
        · repeat' get_elem_tactic_trivial
        · exact bRet1 (xV rfl)⟩
    · rw [if_neg h]
      cases r with
      | none => exact ⟨_, by
          apply bIfFN
          · repeat' get_elem_tactic_trivial
          · apply bIfTR
            · apply Wk.tOr
              apply anyT
              repeat' get_elem_tactic_trivial
            · exact bRet1 (by exact Wk.xN)⟩
      | some y =>
        obtain ⟨hy, hy0, hyb⟩ := hr y rfl
        have i2 : ixO [] (oD (some y)) (.int side) = some (.int (cv side y)) := ix_ti hy
        have dv := divB (hyb _ (cv_mem hy)) (by omega) hy0
        by_cases h2 : (cv side xs).fmod (cv side y) = 0
        · simp only [h2, if_true]
          have c1 := without_ok n xs y ((cv side xs).fdiv (cv side y)) hx2 (fun z hz => mulB (PySem.intBits_fdiv_le hb) (hyb z hz) (by omega)) []
          have c1 : (runF gl defs (n + 1)).call false "without" [ti xs, oD (some y), .int ((cv side xs).fdiv (cv side y))] [] [] = some (.ok (oD (some (subR ((cv side xs).fdiv (cv side y)) xs y))) []) := c1
          exact ⟨_, by
            apply bIfFN
            · repeat' get_elem_tactic_trivial
            · apply bIfFN
              · apply Wk.tOr
                apply anyF
                · repeat' get_elem_tactic_trivial
                · apply anyF
                  · repeat' get_elem_tactic_trivial
                  · exact anyN
              · repeat' get_elem_tactic_trivial⟩
        · simp only [h2, if_false]
          exact ⟨_, by
            apply bIfFN
            · repeat' get_elem_tactic_trivial
            · apply bIfTR
              · apply Wk.tOr
                apply anyF
                · repeat' get_elem_tactic_trivial
                · apply anyT
                  repeat' get_elem_tactic_trivial
              · exact bRet1 (by exact Wk.xN)⟩
  obtain ⟨ρ, e⟩ := run
  exact callP (F := dtaken_off) rfl rfl nr e (Fix_oD _)
/-! shortened -/
def sq (r : List Int) : Int := (r.map fun x => x * x).sum
def dot (c r : List Int) : Int := ((c.zip r).map fun p => p.1 * p.2).sum
def sh (c r : List Int) : List Int := subR ((2 * dot c r + sq r).fdiv (2 * sq r)) c r
theorem sum_bits {k : Nat} : ∀ {l : List Int} {m : Nat}, (∀ x ∈ l, Bi k x) → l.length ≤ m → Bi (k + m) l.sum
  | [], m, _, _ => by unfold Bi; rw [List.sum_nil]; exact Nat.zero_le _
  | x :: l, 0, _, h => by simp only [List.length_cons] at h; omega
  | x :: l, m + 1, hx, h => by
    have ih := sum_bits (l := l) (m := m) (fun y hy => hx y (List.mem_cons_of_mem _ hy)) (by simp only [List.length_cons] at h; omega)
    rw [List.sum_cons]
    have h1 := PySem.intBits_add_le (hx x (List.mem_cons_self ..)) ih
    unfold Bi at *
    omega
theorem sq_bits {r : List Int} {k : Nat} (h : ∀ x ∈ r, Bi k x) (hl : r.length ≤ 10) : Bi (k + k + 10) (sq r) := by
  refine sum_bits (fun x hx => ?_) (by rw [List.length_map]; exact hl)
  obtain ⟨y, hy, rfl⟩ := List.mem_map.mp hx
  exact PySem.intBits_mul_le (h y hy) (h y hy)
theorem dot_bits {c r : List Int} {k l : Nat} (hc : ∀ x ∈ c, Bi l x) (h : ∀ x ∈ r, Bi k x) (hl : r.length ≤ 10) : Bi (l + k + 10) (dot c r) := by
  refine sum_bits (fun x hx => ?_) (by rw [List.length_map, List.length_zip]; omega)
  obtain ⟨p, hp, rfl⟩ := List.mem_map.mp hx
  exact PySem.intBits_mul_le (hc _ (List.of_mem_zip hp).1) (h _ (List.of_mem_zip hp).2)
theorem two_bits : Bi 2 2 := by unfold Bi; decide +kernel
theorem q_bits {c r : List Int} {k l : Nat} (hc : ∀ x ∈ c, Bi l x) (h : ∀ x ∈ r, Bi k x) (hl : r.length ≤ 10) (hkl : k ≤ l) : Bi (l + k + 13) ((2 * dot c r + sq r).fdiv (2 * sq r)) := by
  refine PySem.intBits_fdiv_le ?_
  have h1 := PySem.intBits_mul_le two_bits (dot_bits hc h hl)
  have h2 := PySem.intBits_add_le h1 (sq_bits h hl)
  omega
theorem sh_bits {c r : List Int} {k l : Nat} (hc : ∀ x ∈ c, Bi l x) (h : ∀ x ∈ r, Bi k x) (hl : r.length ≤ 10) (hkl : k ≤ l) : ∀ x ∈ sh c r, Bi (l + k + k + 14) x := fun x hx => by
  unfold sh at hx
  rw [subR_eq] at hx
  obtain ⟨p, hp, rfl⟩ := List.mem_map.mp hx
  have h1 := PySem.intBits_mul_le (q_bits hc h hl hkl) (h _ (List.of_mem_zip hp).2)
  have h2 := PySem.intBits_sub_le (hc _ (List.of_mem_zip hp).1) h1
  unfold Bi
  omega
theorem shortened_for (n : Nat) {k : Nat} (hk : k ≤ 4000) {a1 : Option Wk.D} : ∀ {rs : List (List Int)} {c : List Int} {l : Nat} {x2 x3 x4 : Option Wk.D}, (∀ r ∈ rs, (∀ x ∈ r, Bi k x) ∧ r.length ≤ 10 ∧ sq r ≠ 0) → c.length ≤ 10 → (∀ x ∈ c, Bi l x) → k ≤ l → l + rs.length * (k + k + 14) ≤ 400000 →
    ∃ y2 y3 y4, forL (fun d ρ S => asT (runF gl defs (n + 1)) (.nm 2) d ρ S) (evB (runF gl defs (n + 1)) (.cons (.asg (.nm 3) (.bi .sum (.cons (.comp true [("number", 5)] (.nm 5) (.seq (.v 2)) .nil (.bin .mul (.v 5) (.v 5))) .nil))) (.cons (.asg (.nm 4) (.bi .sum (.cons (.comp true [("first", 6), ("second", 7)] (.tp (.cons (.nm 6) (.cons (.nm 7) .nil))) (.zip (.v 0) (.v 2)) .nil (.bin .mul (.v 6) (.v 7))) .nil))) (.cons (.asg (.nm 0) (.call false "without" (.cons (.v 0) (.cons (.v 2) (.cons (.bin .fdiv (.bin .add (.bin .mul (.cint 2) (.v 4)) (.v 3)) (.bin .mul (.cint 2) (.v 3))) .nil))) .nil)) .nil)))) none
      (rs.map ti) [some (ti c), a1, x2, x3, x4, none, none, none] [] = some (.ok [some (ti (rs.foldl sh c)), a1, y2, y3, y4, none, none, none] [] .nx)
  | [], c, l, x2, x3, x4, _, _, _, _, _ => ⟨x2, x3, x4, fNil trivial⟩
  | r :: rs, c, l, x2, x3, x4, hr, hcl, hc, hkl, hb => by
    obtain ⟨r1, r2, r3⟩ := hr r (List.mem_cons_self ..)
    simp only [List.length_cons, Nat.add_mul, Nat.one_mul] at hb
    have ln : (sh c r).length ≤ 10 := by
      unfold sh subR
      rw [List.length_zipWith]
      omega
    obtain ⟨y2, y3, y4, e⟩ := shortened_for n hk (a1 := a1) (rs := rs) (c := sh c r) (l := l + k + k + 14) (x2 := some (ti r)) (x3 := some (.int (sq r))) (x4 := some (.int (dot c r))) (fun r hr' => hr r (List.mem_cons_of_mem _ hr')) ln (sh_bits hc r1 r2 hkl) (by omega) (by omega)
    refine ⟨y2, y3, y4, ?_⟩
    rw [List.map_cons, List.foldl_cons]
    refine fCons (ρ1 := [some (ti c), a1, some (ti r), x3, x4, none, none, none]) (S1 := []) trivial (gNm (Nat.le_of_ble_eq_true rfl)) ?_ e
    have q1 : getQO [] (ti r) = some (r.map D.int) := rfl
    have q0 : getQO [] (ti c) = some (c.map D.int) := rfl
    have s1 : compL (fun d ρ S => asT (runF gl defs (n + 1)) (.nm 5) d ρ S) (fun ρ => evAll (runF gl defs (n + 1)) .nil ρ) (fun ρ => evE (runF gl defs (n + 1)) (.bin .mul (.v 5) (.v 5)) ρ)
        (wipeE [some (ti c), a1, some (ti r), x3, x4, none, none, none] ([(("number" : Str), 5)].map (·.2))) none [] (r.map D.int) [] = some ((r.map fun x => x * x).map D.int, []) := by
      rw [List.map_map]
      refine compOf _ _ _ trivial (by omega) fun x hx => ?_
      have m := mulB (r1 x hx) (r1 x hx) (by omega)
      exact ⟨_, by repeat' get_elem_tactic_trivial, by rfl, by repeat' get_elem_tactic_trivial⟩
    have s2 : compL (fun d ρ S => asT (runF gl defs (n + 1)) (.tp (.cons (.nm 6) (.cons (.nm 7) .nil))) d ρ S) (fun ρ => evAll (runF gl defs (n + 1)) .nil ρ) (fun ρ => evE (runF gl defs (n + 1)) (.bin .mul (.v 6) (.v 7)) ρ)
        (wipeE ([some (ti c), a1, some (ti r), x3, x4, none, none, none].set 3 (some (.int (sq r)))) ([(("first" : Str), 6), (("second" : Str), 7)].map (·.2))) none [] (((c.map D.int).zip (r.map D.int)).map (fun p => D.tup [p.1, p.2])) [] = some (((c.zip r).map fun p => p.1 * p.2).map D.int, []) := by
      rw [zip_items, List.map_map]
      refine compOf _ _ _ trivial (by rw [List.length_zip]; omega) fun p hp => ?_
      have m := mulB (hc _ (List.of_mem_zip hp).1) (r1 _ (List.of_mem_zip hp).2) (by omega)
      exact ⟨_, by unfold emb2; repeat' get_elem_tactic_trivial, by rfl, by repeat' get_elem_tactic_trivial⟩
    have b1 : biO [] .sum [.lst ((r.map fun x => x * x).map D.int)] = some (.int (sq r)) := bi_sum
    have b2 : biO [] .sum [.lst (((c.zip r).map fun p => p.1 * p.2).map D.int)] = some (.int (dot c r)) := bi_sum
    have l1 : lenOk ((r.map fun x => x * x).map D.int).length = true := lenOk_of (by rw [List.length_map, List.length_map]; omega)
    have l2 : lenOk (((c.zip r).map fun p => p.1 * p.2).map D.int).length = true := lenOk_of (by rw [List.length_map, List.length_map, List.length_zip]; omega)
    have m1 := mulB two_bits (dot_bits hc r1 r2) (by omega)
    have m2 := mulB two_bits (sq_bits r1 r2) (by omega)
    have d1 : divOk (2 * sq r) = true := divB (PySem.intBits_mul_le two_bits (sq_bits r1 r2)) (by omega) (by omega)
    have cl : (runF gl defs (n + 1)).call false "without" [ti c, ti r, .int ((2 * dot c r + sq r).fdiv (2 * sq r))] [] [] = some (.ok (ti (sh c r)) []) :=
      without_ok n c r _ (by omega) (fun y hy => mulB (q_bits hc r1 r2 hkl) (r1 y hy) (by omega)) []
    apply bAsg
    · apply xBi
      · repeat' get_elem_tactic_trivial
      · exact b1
    · exact gNm (Nat.le_of_ble_eq_true rfl)
    · apply bAsg
      · apply xBi
        · repeat' get_elem_tactic_trivial
        · exact b2
      · exact gNm (Nat.le_of_ble_eq_true rfl)
      · apply bAsg
        · repeat' get_elem_tactic_trivial
        · exact gNm (Nat.le_of_ble_eq_true rfl)
        · exact bNil
end K07
end K07F_text

section K07G_text
set_option Elab.async false
set_option linter.all false
set_option maxRecDepth 100000
set_option maxHeartbeats 4000000
local macro_rules | `(tactic| get_elem_tactic_trivial) => `(tactic| first
  | with_reducible exact Wk.xI | with_reducible exact Wk.xB | with_reducible exact Wk.xN | with_reducible exact Wk.xS | with_reducible exact Wk.aNil | with_reducible exact Wk.bNil | with_reducible exact Wk.allN | with_reducible exact Wk.anyN | with_reducible exact Wk.tBl
  | ((with_reducible apply Wk.xV); exact rfl) | ((with_reducible apply Wk.xG); exact rfl) | ((with_reducible apply Wk.gNm); exact Nat.le_of_ble_eq_true rfl)
  | with_reducible apply Wk.xBin | with_reducible apply Wk.xNeg | with_reducible apply Wk.xCmp | with_reducible apply Wk.xTup | with_reducible apply Wk.xLst | with_reducible apply Wk.xIx | with_reducible apply Wk.xSlL | with_reducible apply Wk.xSlH
  | with_reducible apply Wk.xBi | with_reducible apply Wk.xCall | with_reducible apply Wk.xLo | with_reducible apply Wk.xRep | with_reducible apply Wk.xLm | with_reducible apply Wk.xComp | with_reducible apply Wk.aCons | with_reducible apply Wk.aStar
  | with_reducible apply Wk.bRet1 | with_reducible apply Wk.sAsg | with_reducible apply Wk.sExpr | with_reducible exact Wk.gsN | with_reducible apply Wk.gsC | ((with_reducible apply Wk.gTp); exact rfl) | with_reducible apply Wk.gSub
  | with_reducible apply Wk.iSeq | with_reducible apply Wk.iR1 | with_reducible apply Wk.iR2 | with_reducible apply Wk.iZip | with_reducible apply Wk.iEnum
  | with_reducible apply Wk.bAsg | with_reducible apply Wk.bExpr
  | with_reducible apply Wk.tCmp | with_reducible apply Wk.tNot | with_reducible apply Wk.tBi | with_reducible apply Wk.tCall | ((with_reducible apply Wk.tV); exact rfl)
  | with_reducible exact Wk.binAdd | with_reducible exact Wk.binSub | ((with_reducible apply Wk.binMul); first | assumption | decide +kernel) | ((with_reducible apply Wk.binPow); first | assumption | decide +kernel) | ((with_reducible apply Wk.binMod); first | assumption | decide +kernel) | ((with_reducible apply Wk.binFdiv); first | assumption | decide +kernel)
  | ((with_reducible apply Wk.kBin); first | assumption | exact rfl | exact Wk.binMul (by assumption) | exact Wk.binFdiv (by assumption) | exact Wk.binMod (by assumption))
  | ((with_reducible apply Wk.cLtT); assumption) | ((with_reducible apply Wk.cLtF); assumption) | ((with_reducible apply Wk.cGtT); assumption) | ((with_reducible apply Wk.cGtF); assumption) | ((with_reducible apply Wk.cEqT); assumption) | ((with_reducible apply Wk.cEqF); assumption) | ((with_reducible apply Wk.cNeT); assumption) | ((with_reducible apply Wk.cNeF); assumption) | ((with_reducible apply Wk.kCmp); first | assumption | exact rfl)
  | ((with_reducible apply Wk.kIx); first | assumption | exact rfl) | ((with_reducible apply Wk.kBi); first | assumption | exact rfl) | ((with_reducible apply Wk.kQ); first | assumption | exact rfl) | ((with_reducible apply Wk.kTru); first | assumption | exact rfl)
  | ((with_reducible apply Wk.kAt); first | assumption | exact rfl) | ((with_reducible apply Wk.kIxN); first | assumption | exact rfl) | ((with_reducible apply Wk.kLen); first | assumption | exact rfl)
  | ((with_reducible apply Wk.kMk); first | assumption | exact Wk.mkLF rfl | exact Wk.mkLN rfl | exact Wk.mkLF (by assumption) | exact Wk.mkLN (by assumption)) | assumption | ((with_reducible apply Wk.kB); exact rfl))
namespace K07
open PySem PySem.Spec PyProof.Rows L2 StX Wk

theorem shortened_ok (n : Nat) {k l : Nat} (hk : k ≤ 4000) {c : List Int} {rs : List (List Int)} (hr : ∀ r ∈ rs, (∀ x ∈ r, Bi k x) ∧ r.length ≤ 10 ∧ sq r ≠ 0) (hrs : rs.length ≤ 10) (hcl : c.length ≤ 10) (hc : ∀ x ∈ c, Bi l x) (hkl : k ≤ l) (hl : l ≤ 20000) (S : Store) :
    (runF gl defs (n + 2)).call false "shortened" [ti c, .lst (rs.map ti)] [] S = some (.ok (ti ((rs ++ (rs ++ rs)).foldl sh c)) S) := by
  obtain ⟨y2, y3, y4, e⟩ := shortened_for n hk (a1 := some (.lst (rs.map ti))) (rs := rs ++ (rs ++ rs)) (c := c) (l := l) (x2 := none) (x3 := none) (x4 := none) (fun r hr' => hr r (by simpa using hr')) hcl hc hkl (by
    rw [List.length_append, List.length_append]
    have h1 : (rs.length + (rs.length + rs.length)) * (k + k + 14) ≤ 30 * 8014 := Nat.mul_le_mul (by omega) (by omega)
    omega)
  have q1 : getQO [] (.lst (rs.map ti)) = some (rs.map ti) := rfl
  have e' : forL (fun d ρ S => asT (runF gl defs (n + 1)) (.nm 2) d ρ S) (evB (runF gl defs (n + 1)) (.cons (.asg (.nm 3) (.bi .sum (.cons (.comp true [("number", 5)] (.nm 5) (.seq (.v 2)) .nil (.bin .mul (.v 5) (.v 5))) .nil))) (.cons (.asg (.nm 4) (.bi .sum (.cons (.comp true [("first", 6), ("second", 7)] (.tp (.cons (.nm 6) (.cons (.nm 7) .nil))) (.zip (.v 0) (.v 2)) .nil (.bin .mul (.v 6) (.v 7))) .nil))) (.cons (.asg (.nm 0) (.call false "without" (.cons (.v 0) (.cons (.v 2) (.cons (.bin .fdiv (.bin .add (.bin .mul (.cint 2) (.v 4)) (.v 3)) (.bin .mul (.cint 2) (.v 3))) .nil))) .nil)) .nil)))) none
      (rs.map ti ++ (rs.map ti ++ (rs.map ti ++ []))) [some (ti c), some (.lst (rs.map ti)), none, none, none, none, none, none] [] = some (.ok [some (ti ((rs ++ (rs ++ rs)).foldl sh c)), some (.lst (rs.map ti)), y2, y3, y4, none, none, none] [] .nx) := by
    rw [List.append_nil, ← List.map_append, ← List.map_append]
    exact e
  have ll : lenOk (rs.map ti ++ (rs.map ti ++ (rs.map ti ++ []))).length = true := lenOk_of (by simp only [List.length_append, List.length_map, List.length_nil]; omega)
  have q2 : getQO [] (.lst (rs.map ti ++ (rs.map ti ++ (rs.map ti ++ [])))) = some (rs.map ti ++ (rs.map ti ++ (rs.map ti ++ []))) := rfl
  have nr : noRefs [ti c, .lst (rs.map ti)] = true := by show (noRef (ti c) && (noRefs (rs.map ti) && true)) = true; rw [noRef_ti, noRefs_rows] <;> rfl
  have run : ∃ ρ, evB (runF gl defs (n + 1)) dshortened.body [some (ti c), some (.lst (rs.map ti)), none, none, none, none, none, none] [] = some (.ok ρ [] (.rt (ti ((rs ++ (rs ++ rs)).foldl sh c)))) := ⟨_, by
    simp only [dshortened]
    apply bCons
    · apply sFor
      · apply Wk.iSeq
        · apply xLst
          · apply aStar
            · exact xV rfl
            · exact q1
            · apply aStar
              · exact xV rfl
              · exact q1
              · apply aStar
                · exact xV rfl
                · exact q1
                · exact aNil
          · exact mkLF ll
        · exact q2
      · exact e'
    · exact bRet1 (xV rfl)⟩
  obtain ⟨ρ, e2⟩ := run
  exact callP (F := dshortened) rfl rfl nr e2 Fix.ti
/-! staircase -/
abbrev Vec := Int × Int
def unitR (N k : Nat) : List Int := (List.range N).map fun i => if i = k then 1 else 0
def row0 (N : Nat) (p : Vec × Nat) : List Int := p.1.1 :: p.1.2 :: unitR N p.2
def rows0 (V : List Vec) : List (List Int) := V.zipIdx.map (row0 V.length)
def vD (V : List Vec) : List Wk.D := V.map emb2
theorem units_run (n : Nat) (N : Nat) (hN : N ≤ 100) {ρ : Env'} (hρ : ρ.length = 12) (h1 : ρ[1]? = some (some (.int (N : Nat)))) :
    compL (fun d ρ S => asT (runF gl defs n) (.nm 7) d ρ S) (fun ρ => evAll (runF gl defs n) .nil ρ) (fun ρ => evE (runF gl defs n) (.bi .tuple (.cons (.comp true [("index", 9)] (.nm 9) (.r1 (.v 1)) .nil (.bi .int (.cons (.cmp .eq (.v 9) (.v 7)) .nil))) .nil)) ρ)
      (wipeE ρ ([(("place" : Str), 7)].map (·.2))) none [] ((List.range N).map fun (i : Nat) => D.int i) [] = some (((List.range N).map fun k => ti (unitR N k)), []) := by
  refine compOf _ _ _ trivial (by rw [List.length_range]; omega) fun k hk => ?_
  have w1 : (wipeE ρ [7])[1]? = some (some (.int (N : Nat))) := by
    show (ρ.set 7 none)[1]? = _
    rw [List.getElem?_set_ne (by omega)]
    exact h1
  have wl : (wipeE ρ [7]).length = 12 := by rw [wipeE_length, hρ]
  have r1 : ((wipeE ρ [7]).set 7 (some (.int (k : Nat))))[1]? = some (some (.int (N : Nat))) := by
    rw [List.getElem?_set_ne (by omega)]
    exact w1
  have r7 : ((wipeE ρ [7]).set 7 (some (.int (k : Nat))))[7]? = some (some (.int (k : Nat))) := List.getElem?_set_self (by omega)
  have rl : ((wipeE ρ [7]).set 7 (some (.int (k : Nat)))).length = 12 := by rw [List.length_set, wl]
  refine ⟨_, gNm (by show 7 < (wipeE ρ [7]).length; omega), rfl, ?_⟩
  show evE _ _ ((wipeE ρ [7]).set 7 (some (.int (k : Nat)))) [] = _
  generalize (wipeE ρ [7]).set 7 (some (.int (k : Nat))) = ρ1 at r1 r7 rl ⊢
  have s : compL (fun d ρ S => asT (runF gl defs n) (.nm 9) d ρ S) (fun ρ => evAll (runF gl defs n) .nil ρ) (fun ρ => evE (runF gl defs n) (.bi .int (.cons (.cmp .eq (.v 9) (.v 7)) .nil)) ρ)
      (wipeE ρ1 ([(("index" : Str), 9)].map (·.2))) none [] ((List.range (N : Int).toNat).map fun (i : Nat) => D.int i) [] = some ((unitR N k).map D.int, []) := by
    rw [Int.toNat_natCast]
    unfold unitR
    rw [List.map_map]
    refine compOf _ _ _ trivial (by rw [List.length_range]; omega) fun i hi => ?_
    have g7 : ((wipeE ρ1 [9]).set 9 (some (.int (i : Nat))))[7]? = some (some (.int (k : Nat))) := by
      rw [List.getElem?_set_ne (by omega)]
      show (ρ1.set 9 none)[7]? = _
      rw [List.getElem?_set_ne (by omega)]
      exact r7
    have wl1 : 9 < (wipeE ρ1 [9]).length := by rw [wipeE_length]; omega
    have g9 : ((wipeE ρ1 [9]).set 9 (some (.int (i : Nat))))[9]? = some (some (.int (i : Nat))) := List.getElem?_set_self wl1
    refine ⟨_, gNm wl1, rfl, ?_⟩
    have c1 : biO [] .int [.bl ((i : Int) == (k : Int))] = some (.int (if i = k then 1 else 0)) := by
      by_cases h : i = k
      · rw [if_pos h, h]; simp; rfl
      · rw [if_neg h, show ((i : Int) == (k : Int)) = false by simp; omega] <;> rfl
    exact xBi (aCons (xCmp (xV g9) (xV g7) cEqI) aNil) c1
  have hl : lenOk ((unitR N k).map D.int).length = true := lenOk_of (by rw [List.length_map]; unfold unitR; rw [List.length_map, List.length_range]; omega)
  exact xBi (aCons (xComp (iR1 (xV r1) (by omega)) s (mkLF hl)) aNil) rfl
theorem rows_run (n : Nat) (V : List Vec) (hV : V.length ≤ 100) {ρ : Env'} (hρ : ρ.length = 12) :
    compL (fun d ρ S => asT (runF gl defs n) (.tp (.cons (.nm 10) (.cons (.nm 11) .nil))) d ρ S) (fun ρ => evAll (runF gl defs n) .nil ρ) (fun ρ => evE (runF gl defs n) (.bi .tuple (.cons (.lst true (.star (.v 10) (.star (.v 11) .nil))) .nil)) ρ)
      (wipeE ρ ([(("vector" : Str), 10), (("unit" : Str), 11)].map (·.2))) none [] (((vD V).zip ((List.range V.length).map fun k => ti (unitR V.length k))).map fun p => D.tup [p.1, p.2]) [] = some ((rows0 V).map ti, []) := by
  have e1 : (((vD V).zip ((List.range V.length).map fun k => ti (unitR V.length k))).map fun p => D.tup [p.1, p.2]) = V.zipIdx.map fun p => D.tup [emb2 p.1, ti (unitR V.length p.2)] := by
    unfold vD
    rw [List.zip_map, List.map_map, List.zipIdx_eq_zip_range', ← List.range_eq_range']
    rfl
  rw [e1]
  unfold rows0
  rw [List.map_map]
  refine compOf _ _ _ trivial (by rw [List.length_zipIdx]; omega) fun p hp => ?_
  have wl : (wipeE ρ [10, 11]).length = 12 := by rw [wipeE_length, hρ]
  refine ⟨_, gTp rfl (gsC (gNm (by show 10 < (wipeE ρ [10, 11]).length; omega)) (gsC (gNm (by rw [List.length_set]; show 11 < (wipeE ρ [10, 11]).length; omega)) gsN)), rfl, ?_⟩
  have g10 : (((wipeE ρ [10, 11]).set 10 (some (emb2 p.1))).set 11 (some (ti (unitR V.length p.2))))[10]? = some (some (emb2 p.1)) := by
    rw [List.getElem?_set_ne (by omega), List.getElem?_set_self (by omega)]
  have g11 : (((wipeE ρ [10, 11]).set 10 (some (emb2 p.1))).set 11 (some (ti (unitR V.length p.2))))[11]? = some (some (ti (unitR V.length p.2))) := List.getElem?_set_self (by rw [List.length_set]; omega)
  have q1 : getQO [] (emb2 p.1) = some [.int p.1.1, .int p.1.2] := rfl
  have q2 : getQO [] (ti (unitR V.length p.2)) = some ((unitR V.length p.2).map D.int) := rfl
  have hl : lenOk ([D.int p.1.1, .int p.1.2] ++ ((unitR V.length p.2).map D.int ++ [])).length = true := lenOk_of (by
    simp only [List.length_append, List.length_map, List.length_cons, List.length_nil]
    unfold unitR
    rw [List.length_map, List.length_range]
    omega)
  refine xBi (aCons (xLst (aStar (xV g10) q1 (aStar (xV g11) q2 aNil)) (mkLF hl)) aNil) ?_
  show some (D.tup ([D.int p.1.1, .int p.1.2] ++ ((unitR V.length p.2).map D.int ++ []))) = _
  rw [List.append_nil] <;> rfl
end K07
end K07G_text

section K07H_text
set_option Elab.async false
set_option linter.all false
set_option maxRecDepth 100000
set_option maxHeartbeats 4000000
local macro_rules | `(tactic| get_elem_tactic_trivial) => `(tactic| first
  | with_reducible exact Wk.xI | with_reducible exact Wk.xB | with_reducible exact Wk.xN | with_reducible exact Wk.xS | with_reducible exact Wk.aNil | with_reducible exact Wk.bNil | with_reducible exact Wk.allN | with_reducible exact Wk.anyN | with_reducible exact Wk.tBl
  | ((with_reducible apply Wk.xV); exact rfl) | ((with_reducible apply Wk.xG); exact rfl) | ((with_reducible apply Wk.gNm); exact Nat.le_of_ble_eq_true rfl)
  | with_reducible apply Wk.xBin | with_reducible apply Wk.xNeg | with_reducible apply Wk.xCmp | with_reducible apply Wk.xTup | with_reducible apply Wk.xLst | with_reducible apply Wk.xIx | with_reducible apply Wk.xSlL | with_reducible apply Wk.xSlH
  | with_reducible apply Wk.xBi | with_reducible apply Wk.xCall | with_reducible apply Wk.xLo | with_reducible apply Wk.xRep | with_reducible apply Wk.xLm | with_reducible apply Wk.xComp | with_reducible apply Wk.aCons | with_reducible apply Wk.aStar
  | with_reducible apply Wk.bRet1 | with_reducible apply Wk.sAsg | with_reducible apply Wk.sExpr | with_reducible exact Wk.gsN | with_reducible apply Wk.gsC | ((with_reducible apply Wk.gTp); exact rfl) | with_reducible apply Wk.gSub
  | with_reducible apply Wk.iSeq | with_reducible apply Wk.iR1 | with_reducible apply Wk.iR2 | with_reducible apply Wk.iZip | with_reducible apply Wk.iEnum
  | with_reducible apply Wk.bAsg | with_reducible apply Wk.bExpr
  | with_reducible apply Wk.tCmp | with_reducible apply Wk.tNot | with_reducible apply Wk.tBi | with_reducible apply Wk.tCall | ((with_reducible apply Wk.tV); exact rfl)
  | with_reducible exact Wk.binAdd | with_reducible exact Wk.binSub | ((with_reducible apply Wk.binMul); first | assumption | decide +kernel) | ((with_reducible apply Wk.binPow); first | assumption | decide +kernel) | ((with_reducible apply Wk.binMod); first | assumption | decide +kernel) | ((with_reducible apply Wk.binFdiv); first | assumption | decide +kernel)
  | ((with_reducible apply Wk.kBin); first | assumption | exact rfl | exact Wk.binMul (by assumption) | exact Wk.binFdiv (by assumption) | exact Wk.binMod (by assumption))
  | ((with_reducible apply Wk.cLtT); assumption) | ((with_reducible apply Wk.cLtF); assumption) | ((with_reducible apply Wk.cGtT); assumption) | ((with_reducible apply Wk.cGtF); assumption) | ((with_reducible apply Wk.cEqT); assumption) | ((with_reducible apply Wk.cEqF); assumption) | ((with_reducible apply Wk.cNeT); assumption) | ((with_reducible apply Wk.cNeF); assumption) | ((with_reducible apply Wk.kCmp); first | assumption | exact rfl)
  | ((with_reducible apply Wk.kIx); first | assumption | exact rfl) | ((with_reducible apply Wk.kBi); first | assumption | exact rfl) | ((with_reducible apply Wk.kQ); first | assumption | exact rfl) | ((with_reducible apply Wk.kTru); first | assumption | exact rfl)
  | ((with_reducible apply Wk.kAt); first | assumption | exact rfl) | ((with_reducible apply Wk.kIxN); first | assumption | exact rfl) | ((with_reducible apply Wk.kLen); first | assumption | exact rfl)
  | ((with_reducible apply Wk.kMk); first | assumption | exact Wk.mkLF rfl | exact Wk.mkLN rfl | exact Wk.mkLF (by assumption) | exact Wk.mkLN (by assumption)) | assumption | ((with_reducible apply Wk.kB); exact rfl))
namespace K07
open PySem PySem.Spec PyProof.Rows L2 StX Wk

theorem cut2 {α : Type} (xs : List α) (h : 2 ≤ xs.length) : Wk.cutD xs (some 2) none = xs.drop 2 := by
  unfold Wk.cutD
  have e1 : HT.sIx xs.length 0 (some 2) = 2 := by simp [HT.sIx]; omega
  have e2 : HT.sIx xs.length xs.length none = xs.length := by simp [HT.sIx]
  rw [e1, e2, List.take_of_length_le (by rw [List.length_drop]; exact Nat.le_refl _)]
theorem sl2 {S : Store} {r : List Int} (h : 2 ≤ r.length) : slO S (ti r) (some 2) none = some (ti (r.drop 2)) := by
  show some (D.tup (Wk.cutD (r.map D.int) (some 2) none)) = _
  rw [cut2 _ (by rw [List.length_map]; exact h), ← List.map_drop] <;> rfl
theorem plane : (runF gl defs n).glob "PLANE" = some (.int 2) := by cases n <;> rfl
theorem noRef_vD : ∀ V : List Vec, noRefs (vD V) = true
  | [] => rfl
  | v :: V => by
    show (noRef (emb2 v) && noRefs (vD V)) = true
    rw [noRef_vD V] <;> rfl
theorem staircase_ok (n : Nat) {V : List Vec} (hV : V.length ≤ 100) {R1 R2 : List (List Int)} (h1 : ∀ S, (runF gl defs (n + 3)).call false "split_rows" [.lst ((rows0 V).map ti), .int 0] [] S = some (.ok (.tup [oD (ld 0 R1), .lst ((zr 0 R1).map ti)]) S))
    (h2 : ∀ S, (runF gl defs (n + 3)).call false "split_rows" [.lst ((zr 0 R1).map ti), .int 1] [] S = some (.ok (.tup [oD (ld 1 R2), .lst ((zr 1 R2).map ti)]) S)) (hl : ∀ r ∈ zr 1 R2, 2 ≤ r.length) (hz : (zr 1 R2).length ≤ 100) (S : Store) :
    (runF gl defs (n + 4)).call false "staircase" [.tup (vD V)] [] S = some (.ok (.tup [oD (ld 0 R1), oD (ld 1 R2), .lst (((zr 1 R2).map (List.drop 2)).map ti)]) S) := by
  have nr : noRefs [.tup (vD V)] = true := by show (noRefs (vD V) && true) = true; rw [noRef_vD] <;> rfl
  have b1 : biO [] .len [.tup (vD V)] = some (.int V.length) := by
    show some (D.int (vD V).length) = _
    unfold vD
    rw [List.length_map]
  have q1 : getQO [] (.tup (vD V)) = some (vD V) := rfl
  have q2 : getQO [] (.lst ((List.range V.length).map fun k => ti (unitR V.length k))) = some ((List.range V.length).map fun k => ti (unitR V.length k)) := rfl
  have u := units_run (n + 3) V.length hV (ρ := [some (.tup (vD V)), some (.int V.length), none, none, none, none, none, none, none, none, none, none]) rfl rfl
  have u' : compL (fun d ρ S => asT (runF gl defs (n + 3)) (.nm 7) d ρ S) (fun ρ => evAll (runF gl defs (n + 3)) .nil ρ) (fun ρ => evE (runF gl defs (n + 3)) (.bi .tuple (.cons (.comp true [("index", 9)] (.nm 9) (.r1 (.v 1)) .nil (.bi .int (.cons (.cmp .eq (.v 9) (.v 7)) .nil))) .nil)) ρ)
      (wipeE [some (.tup (vD V)), some (.int V.length), none, none, none, none, none, none, none, none, none, none] ([(("place" : Str), 7)].map (·.2))) none [] ((List.range (V.length : Int).toNat).map fun (i : Nat) => D.int i) [] = some (((List.range V.length).map fun k => ti (unitR V.length k)), []) := by
    rw [Int.toNat_natCast]
    exact u
  have ul : lenOk ((List.range V.length).map fun k => ti (unitR V.length k)).length = true := lenOk_of (by rw [List.length_map, List.length_range]; omega)
  have w := rows_run (n + 3) V hV (ρ := [some (.tup (vD V)), some (.int V.length), some (.lst ((List.range V.length).map fun k => ti (unitR V.length k))), none, none, none, none, none, none, none, none, none]) rfl
  have wl : lenOk ((rows0 V).map ti).length = true := lenOk_of (by
    rw [List.length_map]
    unfold rows0
    rw [List.length_map, List.length_zipIdx]
    omega)
  have s : compL (fun d ρ S => asT (runF gl defs (n + 3)) (.nm 8) d ρ S) (fun ρ => evAll (runF gl defs (n + 3)) .nil ρ) (fun ρ => evE (runF gl defs (n + 3)) (.slL (.v 8) (.g "PLANE")) ρ)
      (wipeE [some (.tup (vD V)), some (.int V.length), some (.lst ((List.range V.length).map fun k => ti (unitR V.length k))), some (oD (ld 0 R1)), some (.lst ((zr 0 R1).map ti)), some (oD (ld 1 R2)), some (.lst ((zr 1 R2).map ti)), none, none, none, none, none] ([(("row" : Str), 8)].map (·.2))) none [] ((zr 1 R2).map ti) [] = some (((zr 1 R2).map (List.drop 2)).map ti, []) := by
    rw [List.map_map]
    refine compOf _ _ _ trivial (by omega) fun r hr => ?_
    exact ⟨_, gNm (Nat.le_of_ble_eq_true rfl), rfl, xSlL (xV rfl) (xG plane) (sl2 (hl r hr))⟩
  have sl : lenOk (((zr 1 R2).map (List.drop 2)).map ti).length = true := lenOk_of (by rw [List.length_map, List.length_map]; omega)
  have qz : getQO [] (.lst ((zr 1 R2).map ti)) = some ((zr 1 R2).map ti) := rfl
  have run : ∃ ρ, evB (runF gl defs (n + 3)) dstaircase.body [some (.tup (vD V)), none, none, none, none, none, none, none, none, none, none, none] [] = some (.ok ρ [] (.rt (.tup [oD (ld 0 R1), oD (ld 1 R2), .lst (((zr 1 R2).map (List.drop 2)).map ti)]))) := ⟨_, by
    simp only [dstaircase]
    apply bAsg
    · repeat' get_elem_tactic_trivial
    · exact gNm (Nat.le_of_ble_eq_true rfl)
    · apply bAsg
      · apply xComp
        · exact iR1 (xV rfl) (by omega)
        · exact u'
        · exact mkLF ul
      · exact gNm (Nat.le_of_ble_eq_true rfl)
      · apply bAsg
        · apply xCall
          · apply aCons
            · apply xComp
              · exact Wk.iZip (xV rfl) (xV rfl) q1 q2 rfl
              · exact w
              · exact mkLF wl
            · exact aCons xI aNil
          · exact h1 _
        · exact gTp rfl (gsC (gNm (Nat.le_of_ble_eq_true rfl)) (gsC (gNm (Nat.le_of_ble_eq_true rfl)) gsN))
        · apply bAsg
          · apply xCall
            · exact aCons (xV rfl) (aCons xI aNil)
            · exact h2 _
          · exact gTp rfl (gsC (gNm (Nat.le_of_ble_eq_true rfl)) (gsC (gNm (Nat.le_of_ble_eq_true rfl)) gsN))
          · apply bRet1
            apply xTup
            · apply aCons
              · exact xV rfl
              · apply aCons
                · exact xV rfl
                · apply aCons
                  · apply xComp
                    · exact Wk.iSeq (xV rfl) qz
                    · exact s
                    · exact mkLF sl
                  · exact aNil
            · rfl⟩
  obtain ⟨ρ, e⟩ := run
  exact callP (F := dstaircase) rfl rfl nr e (Fix.tup (Fix.cons (Fix_oD _) (Fix.cons (Fix_oD _) (Fix.cons (Fix.lst fix_rows') Fix.nil))))
/-! combination -/
def rest0 (V : List Vec) (t : Vec) : List Int := t.1 :: t.2 :: List.replicate V.length 0
def combR (V : List Vec) (t : Vec) (f s : Option (List Int)) (rels : List (List Int)) : Option (List Int) := ((tkO 0 (rest0 V t) f).bind fun x => tkO 1 x s).map fun x => (rels ++ (rels ++ rels)).foldl sh ((x.drop 2).map fun z => 0 - z)
end K07
end K07H_text

section K07I_text
set_option Elab.async false
set_option linter.all false
set_option maxRecDepth 100000
set_option maxHeartbeats 4000000
local macro_rules | `(tactic| get_elem_tactic_trivial) => `(tactic| first
  | with_reducible exact Wk.xI | with_reducible exact Wk.xB | with_reducible exact Wk.xN | with_reducible exact Wk.xS | with_reducible exact Wk.aNil | with_reducible exact Wk.bNil | with_reducible exact Wk.allN | with_reducible exact Wk.anyN | with_reducible exact Wk.tBl
  | ((with_reducible apply Wk.xV); exact rfl) | ((with_reducible apply Wk.xG); exact rfl) | ((with_reducible apply Wk.gNm); exact Nat.le_of_ble_eq_true rfl)
  | with_reducible apply Wk.xBin | with_reducible apply Wk.xNeg | with_reducible apply Wk.xCmp | with_reducible apply Wk.xTup | with_reducible apply Wk.xLst | with_reducible apply Wk.xIx | with_reducible apply Wk.xSlL | with_reducible apply Wk.xSlH
  | with_reducible apply Wk.xBi | with_reducible apply Wk.xCall | with_reducible apply Wk.xLo | with_reducible apply Wk.xRep | with_reducible apply Wk.xLm | with_reducible apply Wk.xComp | with_reducible apply Wk.aCons | with_reducible apply Wk.aStar
  | with_reducible apply Wk.bRet1 | with_reducible apply Wk.sAsg | with_reducible apply Wk.sExpr | with_reducible exact Wk.gsN | with_reducible apply Wk.gsC | ((with_reducible apply Wk.gTp); exact rfl) | with_reducible apply Wk.gSub
  | with_reducible apply Wk.iSeq | with_reducible apply Wk.iR1 | with_reducible apply Wk.iR2 | with_reducible apply Wk.iZip | with_reducible apply Wk.iEnum
  | with_reducible apply Wk.bAsg | with_reducible apply Wk.bExpr
  | with_reducible apply Wk.tCmp | with_reducible apply Wk.tNot | with_reducible apply Wk.tBi | with_reducible apply Wk.tCall | ((with_reducible apply Wk.tV); exact rfl)
  | with_reducible exact Wk.binAdd | with_reducible exact Wk.binSub | ((with_reducible apply Wk.binMul); first | assumption | decide +kernel) | ((with_reducible apply Wk.binPow); first | assumption | decide +kernel) | ((with_reducible apply Wk.binMod); first | assumption | decide +kernel) | ((with_reducible apply Wk.binFdiv); first | assumption | decide +kernel)
  | ((with_reducible apply Wk.kBin); first | assumption | exact rfl | exact Wk.binMul (by assumption) | exact Wk.binFdiv (by assumption) | exact Wk.binMod (by assumption))
  | ((with_reducible apply Wk.cLtT); assumption) | ((with_reducible apply Wk.cLtF); assumption) | ((with_reducible apply Wk.cGtT); assumption) | ((with_reducible apply Wk.cGtF); assumption) | ((with_reducible apply Wk.cEqT); assumption) | ((with_reducible apply Wk.cEqF); assumption) | ((with_reducible apply Wk.cNeT); assumption) | ((with_reducible apply Wk.cNeF); assumption) | ((with_reducible apply Wk.kCmp); first | assumption | exact rfl)
  | ((with_reducible apply Wk.kIx); first | assumption | exact rfl) | ((with_reducible apply Wk.kBi); first | assumption | exact rfl) | ((with_reducible apply Wk.kQ); first | assumption | exact rfl) | ((with_reducible apply Wk.kTru); first | assumption | exact rfl)
  | ((with_reducible apply Wk.kAt); first | assumption | exact rfl) | ((with_reducible apply Wk.kIxN); first | assumption | exact rfl) | ((with_reducible apply Wk.kLen); first | assumption | exact rfl)
  | ((with_reducible apply Wk.kMk); first | assumption | exact Wk.mkLF rfl | exact Wk.mkLN rfl | exact Wk.mkLF (by assumption) | exact Wk.mkLN (by assumption)) | assumption | ((with_reducible apply Wk.kB); exact rfl))
namespace K07
open PySem PySem.Spec PyProof.Rows L2 StX Wk

theorem isN_ti {S : Store} {x : List Int} : cmpO S .isN (oD (some x)) .non = some false := rfl
theorem isN_non {S : Store} : cmpO S .isN (oD none) .non = some true := rfl
theorem notN_ti {S : Store} {x : List Int} : cmpO S .notN (oD (some x)) .non = some true := rfl
theorem notN_non {S : Store} : cmpO S .notN (oD none) .non = some false := rfl
/-- one turn of the loop: what is left, if anything is -/
theorem turn_run (n : Nat) {v0 v1 v3 v4 v5 x6 x7 x8 : Option Wk.D} {r : Option (List Int)} {f : Option (List Int)} {side : Nat} (hc : ∀ x, r = some x → (runF gl defs n).call false "taken_off" [ti x, oD f, .int side] [] [] = some (.ok (oD (tkO side x f)) [])) :
    evB (runF gl defs n) (.cons (.if_ (.cmp .notN (.v 2) .cnon) (.cons (.asg (.nm 2) (.call false "taken_off" (.cons (.v 2) (.cons (.v 6) (.cons (.v 7) .nil))) .nil)) .nil) .nil) .nil) [v0, v1, some (oD r), v3, v4, v5, some (oD f), some (.int side), x8] []
      = some (.ok [v0, v1, some (oD (r.bind fun x => tkO side x f)), v3, v4, v5, some (oD f), some (.int side), x8] [] .nx) := by
  cases r with
  | none =>
    apply bIfFN
    · exact tCmp (xV rfl) Wk.xN notN_non
    · exact bNil
  | some x =>
    apply bIfT
    · exact tCmp (xV rfl) Wk.xN notN_ti
    · apply bAsg
      · exact xCall (aCons (xV rfl) (aCons (xV rfl) (aCons (xV rfl) aNil))) (hc x rfl)
      · exact gNm (Nat.le_of_ble_eq_true rfl)
      · exact bNil
    · exact bNil
theorem comb_ok (n : Nat) {V : List Vec} {t : Vec} {f s : Option (List Int)} {rels : List (List Int)} (hV : V.length ≤ 100)
    (hst : ∀ S, (runF gl defs n).call false "staircase" [.tup (vD V)] [] S = some (.ok (.tup [oD f, oD s, .lst (rels.map ti)]) S))
    (h1 : (runF gl defs n).call false "taken_off" [ti (rest0 V t), oD f, .int (0 : Nat)] [] [] = some (.ok (oD (tkO 0 (rest0 V t) f)) []))
    (h2 : ∀ x, tkO 0 (rest0 V t) f = some x → (runF gl defs n).call false "taken_off" [ti x, oD s, .int (1 : Nat)] [] [] = some (.ok (oD (tkO 1 x s)) []))
    (h3 : ∀ x y, tkO 0 (rest0 V t) f = some x → tkO 1 x s = some y → 2 ≤ y.length ∧ y.length ≤ 1000 ∧ (runF gl defs n).call false "shortened" [ti ((y.drop 2).map fun z => 0 - z), .lst (rels.map ti)] [] [] = some (.ok (ti ((rels ++ (rels ++ rels)).foldl sh ((y.drop 2).map fun z => 0 - z))) [])) (S : Store) :
    (runF gl defs (n + 1)).call false "combination" [.tup (vD V), emb2 t] [] S = some (.ok (oD (combR V t f s rels)) S) := by
  have nr : noRefs [.tup (vD V), emb2 t] = true := by show (noRefs (vD V) && (noRef (emb2 t) && true)) = true; rw [noRef_vD] <;> rfl
  have b1 : biO [] .len [.tup (vD V)] = some (.int V.length) := by
    show some (D.int (vD V).length) = _
    unfold vD
    rw [List.length_map]
  have q1 : getQO [] (emb2 t) = some [.int t.1, .int t.2] := rfl
  have rp : (List.replicate (V.length : Int).toNat [D.int 0]).flatten = (List.replicate V.length (0 : Int)).map D.int := by
    rw [Int.toNat_natCast]
    generalize V.length = N
    induction N with
    | zero => rfl
    | succ N ih => rw [List.replicate_succ, List.flatten_cons, ih] <;> rfl
  have ml : mkL true ((List.replicate (V.length : Int).toNat [D.int 0]).flatten) [] = some (.ok (.lst ((List.replicate V.length (0 : Int)).map D.int)) []) := by
    rw [rp]
    exact mkLF (lenOk_of (by rw [List.length_map, List.length_replicate]; omega))
  have q2 : getQO [] (.lst ((List.replicate V.length (0 : Int)).map D.int)) = some ((List.replicate V.length (0 : Int)).map D.int) := rfl
  have l2 : lenOk ([D.int t.1, .int t.2] ++ ((List.replicate V.length (0 : Int)).map D.int ++ [])).length = true := lenOk_of (by
    simp only [List.length_append, List.length_map, List.length_replicate, List.length_cons, List.length_nil]
    omega)
  have e2 : biO [] .tuple [.lst ([D.int t.1, .int t.2] ++ ((List.replicate V.length (0 : Int)).map D.int ++ []))] = some (ti (rest0 V t)) := by
    rw [List.append_nil] <;> rfl
  let r2 : Option (List Int) := (tkO 0 (rest0 V t) f).bind fun x => tkO 1 x s
  have t1 := turn_run n (v0 := some (.tup (vD V))) (v1 := some (emb2 t)) (v3 := some (oD f)) (v4 := some (oD s)) (v5 := some (.lst (rels.map ti))) (x6 := none) (x7 := none) (x8 := none) (r := some (rest0 V t)) (f := f) (side := 0) (fun x hx => by rw [← Option.some.inj hx]; exact h1)
  have t2 := turn_run n (v0 := some (.tup (vD V))) (v1 := some (emb2 t)) (v3 := some (oD f)) (v4 := some (oD s)) (v5 := some (.lst (rels.map ti))) (x6 := none) (x7 := none) (x8 := none) (r := tkO 0 (rest0 V t) f) (f := s) (side := 1) h2
  have loop : forL (fun d ρ S => asT (runF gl defs n) (.tp (.cons (.nm 6) (.cons (.nm 7) .nil))) d ρ S) (evB (runF gl defs n) (.cons (.if_ (.cmp .notN (.v 2) .cnon) (.cons (.asg (.nm 2) (.call false "taken_off" (.cons (.v 2) (.cons (.v 6) (.cons (.v 7) .nil))) .nil)) .nil) .nil) .nil)) none
      [.tup [oD f, .int 0], .tup [oD s, .int 1]] [some (.tup (vD V)), some (emb2 t), some (ti (rest0 V t)), some (oD f), some (oD s), some (.lst (rels.map ti)), none, none, none] []
      = some (.ok [some (.tup (vD V)), some (emb2 t), some (oD r2), some (oD f), some (oD s), some (.lst (rels.map ti)), some (oD s), some (.int 1), none] [] .nx) :=
    fCons trivial (gTp rfl (gsC (gNm (Nat.le_of_ble_eq_true rfl)) (gsC (gNm (Nat.le_of_ble_eq_true rfl)) gsN))) t1
      (fCons trivial (gTp rfl (gsC (gNm (Nat.le_of_ble_eq_true rfl)) (gsC (gNm (Nat.le_of_ble_eq_true rfl)) gsN))) t2 (fNil trivial))
  have last : ∃ ρ, evB (runF gl defs n) (.cons (.if_ (.cmp .isN (.v 2) .cnon) (.cons (.ret .cnon) .nil) .nil) (.cons (.ret (.call false "shortened" (.cons (.bi .tuple (.cons (.comp true [("number", 8)] (.nm 8) (.seq (.slL (.v 2) (.g "PLANE"))) .nil (.bin .sub (.cint 0) (.v 8))) .nil)) (.cons (.v 5) .nil)) .nil)) .nil))
      [some (.tup (vD V)), some (emb2 t), some (oD r2), some (oD f), some (oD s), some (.lst (rels.map ti)), some (oD s), some (.int 1), none] [] = some (.ok ρ [] (.rt (oD (combR V t f s rels)))) := by
    show ∃ ρ, evB _ _ [_, _, some (oD r2), _, _, _, _, _, _] [] = some (.ok ρ [] (.rt (oD (r2.map fun x => (rels ++ (rels ++ rels)).foldl sh ((x.drop 2).map fun z => 0 - z)))))
    cases hr : r2 with
    | none => exact ⟨_, by
        apply bIfTR
        · exact tCmp (xV rfl) Wk.xN isN_non
        · exact bRet1 (by exact Wk.xN)⟩
    | some y =>
      obtain ⟨x, hx, hy⟩ := Option.bind_eq_some_iff.mp hr
      obtain ⟨y1, y2, hs⟩ := h3 x y hx hy
      have sl := sl2 (S := []) y1
      have q3 : getQO [] (ti (y.drop 2)) = some ((y.drop 2).map D.int) := rfl
      have c : compL (fun d ρ S => asT (runF gl defs n) (.nm 8) d ρ S) (fun ρ => evAll (runF gl defs n) .nil ρ) (fun ρ => evE (runF gl defs n) (.bin .sub (.cint 0) (.v 8)) ρ)
          (wipeE [some (.tup (vD V)), some (emb2 t), some (oD (some y)), some (oD f), some (oD s), some (.lst (rels.map ti)), some (oD s), some (.int 1), none] ([(("number" : Str), 8)].map (·.2))) none [] ((y.drop 2).map D.int) [] = some (((y.drop 2).map fun z => 0 - z).map D.int, []) := by
        rw [List.map_map]
        exact compOf _ _ _ trivial (by rw [List.length_drop]; omega) fun z hz => ⟨_, gNm (Nat.le_of_ble_eq_true rfl), rfl, xBin xI (xV rfl) binSub⟩
      have cl : lenOk (((y.drop 2).map fun z => 0 - z).map D.int).length = true := lenOk_of (by rw [List.length_map, List.length_map, List.length_drop]; omega)
      exact ⟨_, by
        apply bIfFN
        · exact tCmp (xV rfl) Wk.xN isN_ti
        · exact bRet1 (xCall (aCons (xBi (aCons (xComp (Wk.iSeq (xSlL (xV rfl) (xG plane) sl) q3) c (mkLF cl)) aNil) rfl) (aCons (xV rfl) aNil)) hs)⟩
  obtain ⟨ρ, e⟩ := last
  have q4 : getQO [] (.tup [.tup [oD f, .int 0], .tup [oD s, .int 1]]) = some [.tup [oD f, .int 0], .tup [oD s, .int 1]] := rfl
  have run : ∃ ρ, evB (runF gl defs n) dcombination.body [some (.tup (vD V)), some (emb2 t), none, none, none, none, none, none, none] [] = some (.ok ρ [] (.rt (oD (combR V t f s rels)))) := ⟨ρ, by
    simp only [dcombination]
    apply bAsg
    · exact xCall (aCons (xV rfl) aNil) (hst _)
    · exact gTp rfl (gsC (gNm (Nat.le_of_ble_eq_true rfl)) (gsC (gNm (Nat.le_of_ble_eq_true rfl)) (gsC (gNm (Nat.le_of_ble_eq_true rfl)) gsN)))
    · apply bAsg
      · exact xBi (aCons (xLst (aStar (xV rfl) q1 (aStar (xRep (xLst (aCons xI aNil) (mkLF rfl)) (xBi (aCons (xV rfl) aNil) b1) (by omega) ml) q2 aNil)) (mkLF l2)) aNil) e2
      · exact gNm (Nat.le_of_ble_eq_true rfl)
      · apply bCons
        · exact sFor (Wk.iSeq (xTup (aCons (xTup (aCons (xV rfl) (aCons xI aNil)) rfl) (aCons (xTup (aCons (xV rfl) (aCons xI aNil)) rfl) aNil)) rfl) q4) loop
        · exact e⟩
  obtain ⟨ρ, e⟩ := run
  exact callP (F := dcombination) rfl rfl nr e (Fix_oD _)
end K07
end K07I_text

section K07J_text
set_option Elab.async false
set_option linter.all false
set_option maxRecDepth 100000
set_option maxHeartbeats 4000000
namespace K07
open PySem PySem.Spec PyProof.Rows L2 StX Wk

/-! rows: linear facts -/
theorem dot_nil {w : List Int} : dot [] w = 0 := by unfold dot; simp
theorem dot_nil2 {w : List Int} : dot w [] = 0 := by unfold dot; simp
theorem dot_cons {x y : Int} {xs ys : List Int} : dot (x :: xs) (y :: ys) = x * y + dot xs ys := by unfold dot; simp
theorem dot_sub {f : Int} : ∀ {xs ys w : List Int}, xs.length = ys.length → dot (subR f xs ys) w = dot xs w - f * dot ys w
  | [], [], w, _ => by unfold subR; rw [List.zipWith_nil_left, dot_nil]; omega
  | x :: xs, y :: ys, [], _ => by rw [dot_nil2, dot_nil2, dot_nil2]; omega
  | x :: xs, y :: ys, z :: w, h => by
    have ih := dot_sub (f := f) (xs := xs) (ys := ys) (w := w) (by simpa using h)
    have e : subR f (x :: xs) (y :: ys) = (x - f * y) :: subR f xs ys := rfl
    rw [e, dot_cons, dot_cons, dot_cons, ih]
    grind
  | [], _ :: _, _, h => nomatch h
  | _ :: _, [], _, h => nomatch h
theorem dot_add {f : Int} : ∀ {u xs ys : List Int}, xs.length = ys.length → dot u (List.zipWith (fun a b => a + f * b) xs ys) = dot u xs + f * dot u ys
  | [], xs, ys, _ => by rw [dot_nil, dot_nil, dot_nil]; omega
  | z :: u, [], [], _ => by rw [List.zipWith_nil_left, dot_nil2]; omega
  | z :: u, x :: xs, y :: ys, h => by
    have ih := dot_add (f := f) (u := u) (xs := xs) (ys := ys) (by simpa using h)
    rw [List.zipWith_cons_cons, dot_cons, dot_cons, dot_cons, ih]
    grind
  | _ :: _, [], _ :: _, h => nomatch h
  | _ :: _, _ :: _, [], h => nomatch h
theorem sub_len {f : Int} {xs ys : List Int} (h : xs.length = ys.length) : (subR f xs ys).length = xs.length := by
  unfold subR
  rw [List.length_zipWith]
  omega
theorem sub_drop {f : Int} {xs ys : List Int} {k : Nat} : (subR f xs ys).drop k = subR f (xs.drop k) (ys.drop k) := by
  unfold subR
  rw [List.drop_zipWith]
theorem cv_sub {side : Nat} {f : Int} {xs ys : List Int} (h : xs.length = ys.length) (hs : side < xs.length) : cv side (subR f xs ys) = cv side xs - f * cv side ys := by
  unfold cv subR
  rw [List.getD_eq_getElem?_getD, List.getD_eq_getElem?_getD, List.getD_eq_getElem?_getD, List.getElem?_zipWith, List.getElem?_eq_getElem hs, List.getElem?_eq_getElem (by omega)] <;> rfl
/-- what the vectors span -/
inductive Sp (vs : List Vec) : Vec → Prop
  | zero : Sp vs (0, 0)
  | add {v t : Vec} (c : Int) (h : v ∈ vs) (r : Sp vs t) : Sp vs (t.1 + c * v.1, t.2 + c * v.2)
theorem Sp.cast {vs : List Vec} {t u : Vec} (h : Sp vs t) (e1 : t.1 = u.1) (e2 : t.2 = u.2) : Sp vs u := by
  have : t = u := Prod.ext e1 e2
  rw [← this]
  exact h
theorem Sp.plus {vs : List Vec} {t u : Vec} (h : Sp vs t) (h2 : Sp vs u) : Sp vs (t.1 + u.1, t.2 + u.2) := by
  induction h2 with
  | zero => exact h.cast (by simp) (by simp)
  | add c hv _ ih => exact (Sp.add c hv ih).cast (by simp; omega) (by simp; omega)
theorem Sp.times {vs : List Vec} {t : Vec} (k : Int) (h : Sp vs t) : Sp vs (k * t.1, k * t.2) := by
  induction h with
  | zero => exact Sp.zero.cast (by simp) (by simp)
  | @add v t c hv _ ih => exact (Sp.add (k * c) hv ih).cast (by simp; grind) (by simp; grind)
theorem Sp.of_mem {vs : List Vec} {v : Vec} (h : v ∈ vs) : Sp vs v := (Sp.add 1 h Sp.zero).cast (by simp) (by simp)
theorem Sp.trans {vs ws : List Vec} {t : Vec} (h : ∀ v ∈ vs, Sp ws v) (ht : Sp vs t) : Sp ws t := by
  induction ht with
  | zero => exact Sp.zero
  | @add v t c hv _ ih => exact (ih.plus ((h v hv).times c)).cast rfl rfl
def xy (r : List Int) : Vec := (cv 0 r, cv 1 r)
def us (r : List Int) : List Int := r.drop 2
/-- a row of m + 2 entries, its first two the sums of the vectors by the others -/
def RowOk (V : List Vec) (r : List Int) : Prop := r.length = V.length + 2 ∧ dot (us r) (V.map (·.1)) = cv 0 r ∧ dot (us r) (V.map (·.2)) = cv 1 r
theorem RowOk.sub {V : List Vec} {x y : List Int} (f : Int) (hx : RowOk V x) (hy : RowOk V y) : RowOk V (subR f x y) := by
  obtain ⟨a1, a2, a3⟩ := hx
  obtain ⟨b1, b2, b3⟩ := hy
  have hl : x.length = y.length := by omega
  have hu : (us x).length = (us y).length := by unfold us; rw [List.length_drop, List.length_drop]; omega
  refine ⟨by rw [sub_len hl]; exact a1, ?_, ?_⟩
  · unfold us
    rw [sub_drop, cv_sub hl (by omega)]
    have := dot_sub (f := f) (w := V.map (·.1)) hu
    unfold us at this a2 b2
    rw [this, a2, b2]
  · unfold us
    rw [sub_drop, cv_sub hl (by omega)]
    have := dot_sub (f := f) (w := V.map (·.2)) hu
    unfold us at this a3 b3
    rw [this, a3, b3]
/-- vectors that tell the rows apart -/
def Dual (N : Nat) (R : List (List Int)) : Prop := ∃ L : List (List Int × List Int), L.map (·.1) = R ∧ (∀ p ∈ L, p.2.length = N ∧ dot (us p.1) p.2 = 1) ∧ L.Pairwise fun a b => dot (us a.1) b.2 = 0 ∧ dot (us b.1) a.2 = 0
theorem Dual.filter {N : Nat} {R : List (List Int)} (p : List Int → Bool) (h : Dual N R) : Dual N (R.filter p) := by
  obtain ⟨L, e, h1, h2⟩ := h
  refine ⟨L.filter (p ∘ Prod.fst), ?_, fun q hq => h1 q ((List.mem_filter.mp hq).1), h2.filter _⟩
  rw [← e, List.filter_map]
structure Pal (V : List Vec) (R : List (List Int)) : Prop where
  row : ∀ r ∈ R, RowOk V r
  dual : Dual V.length R
  len : R.length ≤ V.length
theorem Pal.filter {V : List Vec} {R : List (List Int)} (p : List Int → Bool) (h : Pal V R) : Pal V (R.filter p) := ⟨fun r hr => h.row r ((List.mem_filter.mp hr).1), h.dual.filter p, Nat.le_trans (List.length_filter_le p R) h.len⟩
theorem Dual.step {V : List Vec} {R : List (List Int)} (hr : ∀ r ∈ R, RowOk V r) (h : Dual V.length R) {i l : Nat} (hi : i < R.length) (hl : l < R.length) (hne : i ≠ l) (f : Int) : Dual V.length (R.set i (subR f (row R i) (row R l))) := by
  obtain ⟨L, e, h1, h2⟩ := h
  have eL : L.length = R.length := by rw [← e, List.length_map]
  have hi' : i < L.length := by omega
  have hl' : l < L.length := by omega
  have ri : row R i = L[i].1 := by
    unfold row
    rw [List.getD_eq_getElem?_getD, ← e, List.getElem?_map, List.getElem?_eq_getElem hi'] <;> rfl
  have rl : row R l = L[l].1 := by
    unfold row
    rw [List.getD_eq_getElem?_getD, ← e, List.getElem?_map, List.getElem?_eq_getElem hl'] <;> rfl
  let A : List Int × List Int := (subR f L[i].1 L[l].1, L[i].2)
  let B : List Int × List Int := (L[l].1, List.zipWith (fun a b => a + f * b) L[l].2 L[i].2)
  have ni := h1 L[i] (List.getElem_mem hi')
  have nl := h1 L[l] (List.getElem_mem hl')
  have len2 : L[l].2.length = L[i].2.length := by omega
  have okr : ∀ j (hj : j < L.length), RowOk V L[j].1 := fun j hj => hr _ (by rw [← e]; exact List.mem_map_of_mem (List.getElem_mem hj))
  have usl : ∀ j k (hj : j < L.length) (hk : k < L.length), (us L[j].1).length = (us L[k].1).length := fun j k hj hk => by
    unfold us
    rw [List.length_drop, List.length_drop, (okr j hj).1, (okr k hk).1]
  have z : ∀ j k (hj : j < L.length) (hk : k < L.length), j ≠ k → dot (us L[j].1) L[k].2 = 0 := fun j k hj hk hjk => by
    rcases Nat.lt_or_gt_of_ne hjk with q | q
    · exact (List.pairwise_iff_getElem.mp h2 j k hj hk q).1
    · exact (List.pairwise_iff_getElem.mp h2 k j hk hj q).2
  have usA : ∀ w, dot (us A.1) w = dot (us L[i].1) w - f * dot (us L[l].1) w := fun w => by
    show dot ((subR f L[i].1 L[l].1).drop 2) w = _
    rw [sub_drop]
    exact dot_sub (usl i l hi' hl')
  have wB : ∀ u, dot u B.2 = dot u L[l].2 + f * dot u L[i].2 := fun u => dot_add len2
  have one : ∀ j (hj : j < L.length), dot (us L[j].1) L[j].2 = 1 := fun j hj => (h1 _ (List.getElem_mem hj)).2
  have il := z i l hi' hl' hne
  have li := z l i hl' hi' hne.symm
  have oi := one i hi'
  have ol := one l hl'
  refine ⟨(L.set i A).set l B, ?_, fun p hp => ?_, ?_⟩
  · rw [List.map_set, List.map_set, e, ri, rl]
    have : (R.set i A.1).set l B.1 = R.set i A.1 := by
      apply List.ext_getElem?
      intro j
      by_cases q : l = j
      · rw [← q, List.getElem?_set_self (by rw [List.length_set]; exact hl), List.getElem?_set_ne hne]
        show some L[l].1 = _
        rw [← e, List.getElem?_map, List.getElem?_eq_getElem hl'] <;> rfl
      · rw [List.getElem?_set_ne q]
    exact this
  · rcases List.mem_or_eq_of_mem_set hp with q | q
    · rcases List.mem_or_eq_of_mem_set q with q | q
      · exact h1 p q
      · rw [q]
        refine ⟨ni.1, ?_⟩
        rw [usA]
        show dot (us L[i].1) L[i].2 - f * dot (us L[l].1) L[i].2 = 1
        rw [oi, li]
        omega
    · rw [q]
      refine ⟨by show (List.zipWith _ _ _).length = _; rw [List.length_zipWith]; omega, ?_⟩
      rw [wB]
      show dot (us L[l].1) L[l].2 + f * dot (us L[l].1) L[i].2 = 1
      rw [ol, li]
      omega
  · have val : ∀ j (hj : j < ((L.set i A).set l B).length), ((L.set i A).set l B)[j] = if j = l then B else if j = i then A else L[j]'(by simpa using hj) := fun j hj => by
      rw [List.getElem_set]
      by_cases q : l = j
      · rw [if_pos q, if_pos q.symm]
      · rw [if_neg q, if_neg (fun x => q x.symm), List.getElem_set]
        by_cases q2 : i = j
        · rw [if_pos q2, if_pos q2.symm]
        · rw [if_neg q2, if_neg (fun x => q2 x.symm)]
    have all : ∀ j k (hj : j < ((L.set i A).set l B).length) (hk : k < ((L.set i A).set l B).length), j ≠ k → dot (us ((L.set i A).set l B)[j].1) ((L.set i A).set l B)[k].2 = 0 := fun j k hj hk hjk => by
      have hj' : j < L.length := by simpa using hj
      have hk' : k < L.length := by simpa using hk
      rw [val j hj, val k hk]
      by_cases j1 : j = l
      · rw [if_pos j1]
        have k1 : k ≠ l := fun q => hjk (by rw [j1, q])
        rw [if_neg k1]
        by_cases k2 : k = i
        · rw [if_pos k2]; exact li
        · rw [if_neg k2]; exact z l k hl' hk' (fun q => k1 q.symm)
      · rw [if_neg j1]
        by_cases j2 : j = i
        · rw [if_pos j2]
          have k1 : k ≠ i := fun q => hjk (by rw [j2, q])
          by_cases k2 : k = l
          · rw [if_pos k2, wB, usA, usA]
            show dot (us L[i].1) L[l].2 - f * dot (us L[l].1) L[l].2 + f * (dot (us L[i].1) L[i].2 - f * dot (us L[l].1) L[i].2) = 0
            rw [il, ol, oi, li]
            grind
          · rw [if_neg k2, if_neg k1, usA]
            rw [z i k hi' hk' (fun q => k1 q.symm), z l k hl' hk' (fun q => k2 q.symm)]
            omega
        · rw [if_neg j2]
          by_cases k2 : k = l
          · rw [if_pos k2, wB]
            rw [z j l hj' hl' j1, z j i hj' hi' j2]
            omega
          · rw [if_neg k2]
            by_cases k3 : k = i
            · rw [if_pos k3]; exact z j i hj' hi' j2
            · rw [if_neg k3]; exact z j k hj' hk' hjk
    rw [List.pairwise_iff_getElem]
    intro j k hj hk hjk
    exact ⟨all j k hj hk (by omega), all k j hk hj (by omega)⟩
end K07
end K07J_text

section K07K_text
set_option Elab.async false
set_option linter.all false
set_option maxRecDepth 100000
set_option maxHeartbeats 4000000
namespace K07
open PySem PySem.Spec PyProof.Rows L2 StX Wk

/-- what a round makes of each row -/
theorem fold_row {side l : Nat} : ∀ {js : List Nat} {R : List (List Int)} {i : Nat}, js.Nodup → i < R.length →
    row (js.foldl (stp side l) R) i = if i ∈ js ∧ i ≠ l then subR ((cv side (row R i)).fdiv (cv side (row R l))) (row R i) (row R l) else row R i
  | [], R, i, _, hi => by simp
  | j :: js, R, i, hn, hi => by
    obtain ⟨n1, n2⟩ := List.nodup_cons.mp hn
    rw [List.foldl_cons, fold_row n2 (by rw [stp_len]; exact hi), row_stp_l]
    by_cases e : i = j
    · subst e
      rw [if_neg (fun q => n1 q.1)]
      unfold stp
      by_cases q : i = l
      · rw [if_pos q, if_neg (fun x => x.2 q)]
      · rw [if_neg q, row_set, if_pos ⟨rfl, hi⟩, if_pos ⟨List.mem_cons_self .., q⟩]
    · rw [row_stp e]
      by_cases q : i ∈ js ∧ i ≠ l
      · rw [if_pos q, if_pos ⟨List.mem_cons_of_mem _ q.1, q.2⟩]
      · rw [if_neg q, if_neg fun x => q ⟨(List.mem_cons.mp x.1).resolve_left e, x.2⟩]
theorem fold_len {side l : Nat} : ∀ {js : List Nat} {R : List (List Int)}, (js.foldl (stp side l) R).length = R.length
  | [], R => rfl
  | j :: js, R => by rw [List.foldl_cons, fold_len, stp_len]
theorem round_len {side : Nat} {R : List (List Int)} : (round side R).length = R.length := fold_len
theorem round_row {side : Nat} {R : List (List Int)} {i : Nat} (hi : i < R.length) : row (round side R) i = if i ∈ act side R ∧ i ≠ least side R then subR ((cv side (row R i)).fdiv (cv side (row R (least side R)))) (row R i) (row R (least side R)) else row R i := fold_row act_nodup hi
theorem row_get {R : List (List Int)} {i : Nat} (h : i < R.length) : row R i = R[i] := by
  unfold row
  rw [List.getD_eq_getElem?_getD, List.getElem?_eq_getElem h] <;> rfl
theorem mem_row {R : List (List Int)} {r : List Int} (h : r ∈ R) : ∃ i, i < R.length ∧ row R i = r := by
  obtain ⟨i, hi, e⟩ := List.getElem_of_mem h
  refine ⟨i, hi, ?_⟩
  unfold row
  rw [List.getD_eq_getElem?_getD, List.getElem?_eq_getElem hi, e] <;> rfl
/-- a property that steps keep, rounds keep -/
theorem round_keeps {side : Nat} {R : List (List Int)} (P : List (List Int) → Prop) (hl : least side R < R.length) (hs : ∀ T i f, T.length = R.length → i < T.length → i ≠ least side R → P T → P (T.set i (subR f (row T i) (row T (least side R))))) (h : P R) : P (round side R) := by
  have key : ∀ (js : List Nat) (T : List (List Int)), (∀ j ∈ js, j < R.length) → T.length = R.length → P T → P (js.foldl (stp side (least side R)) T) := by
    intro js
    induction js with
    | nil => intro T _ _ h; exact h
    | cons j js ih =>
      intro T hj hT h
      rw [List.foldl_cons]
      refine ih _ (fun k hk => hj k (List.mem_cons_of_mem _ hk)) (by rw [stp_len]; exact hT) ?_
      unfold stp
      by_cases q : j = least side R
      · rw [if_pos q]; exact h
      · rw [if_neg q]; exact hs T j _ hT (by rw [hT]; exact hj j (List.mem_cons_self ..)) q h
  exact key (act side R) R (fun j hj => (act_mem hj).1) rfl h
theorem Pal.step {V : List Vec} {R : List (List Int)} (h : Pal V R) {i l : Nat} (hi : i < R.length) (hl : l < R.length) (hne : i ≠ l) (f : Int) : Pal V (R.set i (subR f (K07.row R i) (K07.row R l))) :=
  ⟨fun r hr => by
    rcases List.mem_or_eq_of_mem_set hr with q | q
    · exact h.row r q
    · rw [q]; exact (h.row _ (row_mem hi)).sub f (h.row _ (row_mem hl)), h.dual.step h.row hi hl hne f, by rw [List.length_set]; exact h.len⟩
def SpR (vs : List Vec) (R : List (List Int)) : Prop := ∀ v ∈ vs, Sp (R.map xy) v
theorem SpR.step {V vs : List Vec} {R : List (List Int)} (hp : Pal V R) (h : SpR vs R) {i l : Nat} (hi : i < R.length) (hl : l < R.length) (hne : i ≠ l) (f : Int) : SpR vs (R.set i (subR f (row R i) (row R l))) := by
  have gi := hp.row _ (row_mem hi)
  have gl := hp.row _ (row_mem hl)
  have hlen : (row R i).length = (row R l).length := by rw [gi.1, gl.1]
  have mi : xy (subR f (row R i) (row R l)) ∈ (R.set i (subR f (row R i) (row R l))).map xy := List.mem_map_of_mem (List.mem_set hi _)
  have ml : xy (row R l) ∈ (R.set i (subR f (row R i) (row R l))).map xy := by
    refine List.mem_map_of_mem ?_
    rw [List.mem_iff_getElem]
    refine ⟨l, by rw [List.length_set]; exact hl, ?_⟩
    rw [List.getElem_set_ne hne]
    exact (row_get hl).symm
  refine fun v hv => (h v hv).trans fun u hu => ?_
  obtain ⟨r, hr, rfl⟩ := List.mem_map.mp hu
  obtain ⟨j, hj, rfl⟩ := mem_row hr
  by_cases e : j = i
  · rw [e]
    refine ((Sp.of_mem mi).plus ((Sp.of_mem ml).times f)).cast ?_ ?_
    · show cv 0 (subR f (row R i) (row R l)) + f * cv 0 (row R l) = cv 0 (row R i)
      rw [cv_sub hlen (by rw [gi.1]; omega)]
      omega
    · show cv 1 (subR f (row R i) (row R l)) + f * cv 1 (row R l) = cv 1 (row R i)
      rw [cv_sub hlen (by rw [gi.1]; omega)]
      omega
  · refine Sp.of_mem (List.mem_map_of_mem ?_)
    rw [List.mem_iff_getElem]
    refine ⟨j, by rw [List.length_set]; exact hj, ?_⟩
    rw [List.getElem_set_ne (fun q => e q.symm)]
    exact (row_get hj).symm
/-! the numbers' bounds -/
theorem least_le {side : Nat} {R : List (List Int)} (h : 2 ≤ (act side R).length) : ∀ i ∈ act side R, (cv side (row R (least side R))).natAbs ≤ (cv side (row R i)).natAbs := by
  have key : ∀ (js : List Nat) (l0 : Nat), (cv side (row R (js.foldl (less side R) l0))).natAbs ≤ (cv side (row R l0)).natAbs ∧ ∀ i ∈ js, (cv side (row R (js.foldl (less side R) l0))).natAbs ≤ (cv side (row R i)).natAbs := by
    intro js
    induction js with
    | nil => intro l0; exact ⟨Nat.le_refl _, fun i hi => absurd hi (by simp)⟩
    | cons j js ih =>
      intro l0
      rw [List.foldl_cons]
      obtain ⟨a1, a2⟩ := ih (less side R l0 j)
      have b : (cv side (row R (less side R l0 j))).natAbs ≤ (cv side (row R l0)).natAbs ∧ (cv side (row R (less side R l0 j))).natAbs ≤ (cv side (row R j)).natAbs := by
        unfold less
        split <;> omega
      refine ⟨Nat.le_trans a1 b.1, fun i hi => ?_⟩
      rcases List.mem_cons.mp hi with q | q
      · rw [q]; exact Nat.le_trans a1 b.2
      · exact a2 i q
  exact (key (act side R) _).2
theorem sum_lt : ∀ {N : Nat} {f g : Nat → Nat}, (∀ i, i < N → f i ≤ g i) → (∃ i, i < N ∧ f i < g i) → ((List.range N).map f).sum < ((List.range N).map g).sum
  | 0, f, g, _, ⟨i, h, _⟩ => absurd h (Nat.not_lt_zero _)
  | N + 1, f, g, hle, ⟨i, hi, hlt⟩ => by
    have le : ∀ {N : Nat}, (∀ i, i < N → f i ≤ g i) → ((List.range N).map f).sum ≤ ((List.range N).map g).sum := by
      intro N
      induction N with
      | zero => intro _; exact Nat.le_refl _
      | succ N ih =>
        intro h
        rw [List.range_succ, List.map_append, List.map_append, List.sum_append, List.sum_append]
        have h1 := ih fun i hi => h i (by omega)
        have h2 := h N (by omega)
        simp only [List.map_cons, List.map_nil, List.sum_cons, List.sum_nil]
        omega
    rw [List.range_succ, List.map_append, List.map_append, List.sum_append, List.sum_append]
    simp only [List.map_cons, List.map_nil, List.sum_cons, List.sum_nil]
    have h2 := hle N (by omega)
    by_cases e : i = N
    · subst e
      have h1 := le (N := i) fun j hj => hle j (by omega)
      omega
    · have h1 := sum_lt (N := N) (f := f) (g := g) (fun j hj => hle j (by omega)) ⟨i, by omega, hlt⟩
      omega
def mu (side : Nat) (R : List (List Int)) : Nat := ((List.range R.length).map fun i => (cv side (row R i)).natAbs).sum
theorem fmod_lt {x y : Int} (h : y ≠ 0) : (x.fmod y).natAbs < y.natAbs ∧ (0 < y → 0 ≤ x.fmod y) ∧ (y < 0 → x.fmod y ≤ 0) := by
  rcases Int.lt_or_gt_of_ne h with q | q
  · have e : x.fmod y = -((-x).fmod (-y)) := by
      have := Int.neg_fmod_neg x y
      omega
    have e2 := Int.fmod_eq_emod_of_nonneg (-x) (b := -y) (by omega)
    have h1 := Int.emod_nonneg (-x) (b := -y) (by omega)
    have h2 := Int.emod_lt_of_pos (-x) (b := -y) (by omega)
    rw [e, e2]
    refine ⟨by omega, fun q2 => by omega, fun _ => by omega⟩
  · have e2 := Int.fmod_eq_emod_of_nonneg x (b := y) (by omega)
    have h1 := Int.emod_nonneg x (b := y) (by omega)
    have h2 := Int.emod_lt_of_pos x (b := y) (by omega)
    rw [e2]
    exact ⟨by omega, fun _ => h1, fun q2 => by omega⟩
/-- the entry at side behind a round -/
theorem round_cv {side m : Nat} (hs : side < m) {R : List (List Int)} (hL : ∀ r ∈ R, r.length = m) (h2 : 2 ≤ (act side R).length) {i : Nat} (hi : i < R.length) : cv side (row (round side R) i) = if i ∈ act side R ∧ i ≠ least side R then (cv side (row R i)).fmod (cv side (row R (least side R))) else cv side (row R i) := by
  have hl := (act_mem (least_mem h2)).1
  rw [round_row hi]
  by_cases q : i ∈ act side R ∧ i ≠ least side R
  · rw [if_pos q, if_pos q, cv_sub (by rw [hL _ (row_mem hi), hL _ (row_mem hl)]) (by rw [hL _ (row_mem hi)]; exact hs)]
    have := Int.fmod_add_fdiv_mul (cv side (row R i)) (cv side (row R (least side R)))
    grind
  · rw [if_neg q, if_neg q]
theorem mem_act {side : Nat} {R : List (List Int)} {i : Nat} (hi : i < R.length) (h : cv side (row R i) ≠ 0) : i ∈ act side R := by
  unfold act
  refine List.mem_map.mpr ⟨(row R i, i), List.mem_filter.mpr ⟨?_, decide_eq_true h⟩, rfl⟩
  rw [List.mem_zipIdx_iff_getElem?]
  unfold row
  rw [List.getD_eq_getElem?_getD, List.getElem?_eq_getElem hi] <;> rfl
theorem two_act {side : Nat} {R : List (List Int)} (h2 : 2 ≤ (act side R).length) (l : Nat) : ∃ i ∈ act side R, i ≠ l := by
  have hn := act_nodup (side := side) (R := R)
  generalize act side R = js at h2 hn
  match js, h2, hn with
  | a :: b :: js, _, hn =>
    by_cases q : a = l
    · refine ⟨b, by simp, fun e => ?_⟩
      have := (List.nodup_cons.mp hn).1
      rw [q, ← e] at this
      exact this (List.mem_cons_self ..)
    · exact ⟨a, by simp, q⟩
theorem mu_lt {side m : Nat} (hs : side < m) {R : List (List Int)} (hL : ∀ r ∈ R, r.length = m) (h2 : 2 ≤ (act side R).length) : mu side (round side R) < mu side R := by
  unfold mu
  rw [round_len]
  have hl := act_mem (least_mem h2)
  refine sum_lt (fun i hi => ?_) ?_
  · rw [round_cv hs hL h2 hi]
    split
    · next q => exact Nat.le_of_lt (Nat.lt_of_lt_of_le (fmod_lt hl.2).1 (least_le h2 i q.1))
    · exact Nat.le_refl _
  · obtain ⟨i, hi, hne⟩ := two_act h2 (least side R)
    refine ⟨i, (act_mem hi).1, ?_⟩
    rw [round_cv hs hL h2 (act_mem hi).1, if_pos ⟨hi, hne⟩]
    exact Nat.lt_of_lt_of_le (fmod_lt hl.2).1 (least_le h2 i hi)
end K07
end K07K_text

section K07L_text
set_option Elab.async false
set_option linter.all false
set_option maxRecDepth 100000
set_option maxHeartbeats 4000000
namespace K07
open PySem PySem.Spec PyProof.Rows L2 StX Wk

def Ent (M : Nat) (R : List (List Int)) : Prop := ∀ r ∈ R, ∀ x ∈ r, x.natAbs ≤ M
theorem Ent.mono {M M' : Nat} {R : List (List Int)} (h : Ent M R) (hm : M ≤ M') : Ent M' R := fun r hr x hx => Nat.le_trans (h r hr x hx) hm
theorem ent_sub {M K : Nat} {f : Int} {xs ys : List Int} (hx : ∀ x ∈ xs, x.natAbs ≤ M) (hy : ∀ y ∈ ys, y.natAbs ≤ M) (hf : f.natAbs ≤ K) : ∀ z ∈ subR f xs ys, z.natAbs ≤ M + K * M := fun z hz => by
  rw [subR_eq] at hz
  obtain ⟨p, hp, rfl⟩ := List.mem_map.mp hz
  have h1 := hx _ (List.of_mem_zip hp).1
  have h2 := hy _ (List.of_mem_zip hp).2
  have h3 : (f * p.2).natAbs ≤ K * M := by
    rw [Int.natAbs_mul]
    exact Nat.mul_le_mul hf h2
  omega
theorem ent_round {side M K : Nat} {R : List (List Int)} (h2 : 2 ≤ (act side R).length) (h : Ent M R) (hq : ∀ i ∈ act side R, i ≠ least side R → ((cv side (row R i)).fdiv (cv side (row R (least side R)))).natAbs ≤ K) : Ent (M + K * M) (round side R) := fun r hr x hx => by
  obtain ⟨i, hi, rfl⟩ := mem_row hr
  rw [round_len] at hi
  rw [round_row hi] at hx
  have hl := (act_mem (least_mem h2)).1
  split at hx
  · next q => exact ent_sub (h _ (row_mem hi)) (h _ (row_mem hl)) (hq i q.1 q.2) x hx
  · exact Nat.le_trans (h _ (row_mem hi) x hx) (Nat.le_add_right _ _)
def SameS (side : Nat) (R : List (List Int)) : Prop := (∀ i ∈ act side R, 0 < cv side (row R i)) ∨ ∀ i ∈ act side R, cv side (row R i) < 0
/-- of one sign: the parts of a division -/
theorem div_parts {x y : Int} (h : (0 < x ∧ 0 < y) ∨ (x < 0 ∧ y < 0)) : (x.fdiv y).natAbs * y.natAbs + (x.fmod y).natAbs = x.natAbs := by
  have key : ∀ a b : Int, 0 < a → 0 < b → (a.fdiv b).natAbs * b.natAbs + (a.fmod b).natAbs = a.natAbs := fun a b ha hb => by
    have e := Int.fmod_add_fdiv_mul a b
    have h1 : 0 ≤ a.fdiv b := by rw [Int.fdiv_eq_ediv_of_nonneg _ (by omega)]; exact Int.ediv_nonneg (by omega) (by omega)
    have h2 := (fmod_lt (x := a) (y := b) (by omega)).2.1 hb
    have e2 : ((a.fdiv b).natAbs * b.natAbs : Nat) = (a.fdiv b * b).natAbs := (Int.natAbs_mul ..).symm
    have h3 : 0 ≤ a.fdiv b * b := Int.mul_nonneg h1 (by omega)
    omega
  rcases h with h | h
  · exact key x y h.1 h.2
  · have e1 : x.fdiv y = (-x).fdiv (-y) := (Int.neg_fdiv_neg x y).symm
    have e2 : x.fmod y = -((-x).fmod (-y)) := by
      have := Int.neg_fmod_neg x y
      omega
    have := key (-x) (-y) (by omega) (by omega)
    rw [e1, e2]
    simp only [Int.natAbs_neg] at this ⊢
    exact this
structure Pot (side C : Nat) (R : List (List Int)) : Prop where
  same : SameS side R
  ent : Ent (2 * C) R
  pot : 2 ≤ (act side R).length → ∃ A B M : Nat, (∀ i, i < R.length → (cv side (row R i)).natAbs ≤ A) ∧ (∃ i ∈ act side R, (cv side (row R i)).natAbs ≤ B) ∧ Ent M R ∧ M * A * ((A * B) * (A * B)) ≤ C
section
variable {side m : Nat} {R : List (List Int)}
theorem same_round (hs : side < m) (hL : ∀ r ∈ R, r.length = m) (h2 : 2 ≤ (act side R).length) : SameS side (round side R) := by
  have hl := act_mem (least_mem h2)
  have key : ∀ i ∈ act side (round side R), (0 < cv side (row R (least side R)) → 0 < cv side (row (round side R) i)) ∧ (cv side (row R (least side R)) < 0 → cv side (row (round side R) i) < 0) := fun i hi => by
    obtain ⟨h1, h3⟩ := act_mem hi
    rw [round_len] at h1
    rw [round_cv hs hL h2 h1] at h3 ⊢
    split at h3
    · next q =>
      rw [if_pos q]
      have f := fmod_lt (x := cv side (row R i)) hl.2
      exact ⟨fun p => by have := f.2.1 p; omega, fun p => by have := f.2.2 p; omega⟩
    · next q =>
      rw [if_neg q]
      have hm := mem_act h1 h3
      have e : i = least side R := by
        by_cases e : i = least side R
        · exact e
        · exact absurd ⟨hm, e⟩ q
      rw [e]
      exact ⟨id, id⟩
  rcases Int.lt_or_gt_of_ne hl.2 with q | q
  · exact .inr fun i hi => (key i hi).2 q
  · exact .inl fun i hi => (key i hi).1 q
theorem cv_round_le (hs : side < m) (hL : ∀ r ∈ R, r.length = m) (h2 : 2 ≤ (act side R).length) : ∀ i, i < (round side R).length → (cv side (row (round side R) i)).natAbs ≤ (cv side (row R (least side R))).natAbs := fun i hi => by
  rw [round_len] at hi
  have hl := act_mem (least_mem h2)
  rw [round_cv hs hL h2 hi]
  split
  · exact Nat.le_of_lt (fmod_lt hl.2).1
  · next q =>
    by_cases e : i = least side R
    · rw [e]; exact Nat.le_refl _
    · have : cv side (row R i) = 0 := by
        by_cases z : cv side (row R i) = 0
        · exact z
        · exact absurd ⟨mem_act hi z, e⟩ q
      rw [this]
      exact Nat.zero_le _
theorem Pot.step {C : Nat} (h : Pot side C R) (hs : side < m) (hL : ∀ r ∈ R, r.length = m) (h2 : 2 ≤ (act side R).length) : Pot side C (round side R) := by
  obtain ⟨A, B, M, hA, ⟨i0, hi0, hB⟩, hM, hC⟩ := h.pot h2
  have hlm := least_mem h2
  have hl := act_mem hlm
  have hmA := hA _ hl.1
  have hmB : (cv side (row R (least side R))).natAbs ≤ B := Nat.le_trans (least_le h2 i0 hi0) hB
  have hm0 : 1 ≤ (cv side (row R (least side R))).natAbs := by have := hl.2; omega
  generalize hmv : (cv side (row R (least side R))).natAbs = mm at *
  have sg : ∀ i ∈ act side R, (0 < cv side (row R i) ∧ 0 < cv side (row R (least side R))) ∨ (cv side (row R i) < 0 ∧ cv side (row R (least side R)) < 0) := fun i hi => by
    rcases h.same with q | q
    · exact .inl ⟨q i hi, q _ hlm⟩
    · exact .inr ⟨q i hi, q _ hlm⟩
  have dv : ∀ i ∈ act side R, ((cv side (row R i)).fdiv (cv side (row R (least side R)))).natAbs * mm + ((cv side (row R i)).fmod (cv side (row R (least side R)))).natAbs = (cv side (row R i)).natAbs := fun i hi => by
    have := div_parts (sg i hi)
    rw [hmv] at this
    exact this
  have hK : ∀ i ∈ act side R, i ≠ least side R → ((cv side (row R i)).fdiv (cv side (row R (least side R)))).natAbs ≤ A / mm := fun i hi _ => by
    rw [Nat.le_div_iff_mul_le (by omega)]
    have h1 := dv i hi
    have h3 := hA i (act_mem hi).1
    omega
  have eM := ent_round h2 hM hK
  have hM' : (M + A / mm * M) * mm ≤ 2 * (M * A) := by
    have h1 : A / mm * mm ≤ A := Nat.div_mul_le_self A mm
    have h3 : (A / mm * M) * mm = (A / mm * mm) * M := by rw [Nat.mul_assoc, Nat.mul_comm M mm, ← Nat.mul_assoc]
    have h4 : (A / mm * mm) * M ≤ A * M := Nat.mul_le_mul_right M h1
    have h5 : M * mm ≤ M * A := Nat.mul_le_mul_left M hmA
    rw [Nat.add_mul, h3]
    have h6 : A * M = M * A := Nat.mul_comm ..
    omega
  have hMA : M * A ≤ C := by
    refine Nat.le_trans ?_ hC
    have : 1 ≤ (A * B) * (A * B) := Nat.mul_pos (Nat.mul_pos (by omega) (by omega)) (Nat.mul_pos (by omega) (by omega))
    exact Nat.le_mul_of_pos_right _ this
  refine ⟨same_round hs hL h2, eM.mono ?_, fun h3 => ?_⟩
  · have : M + A / mm * M ≤ (M + A / mm * M) * mm := Nat.le_mul_of_pos_right _ hm0
    omega
  · obtain ⟨j, hj, hne⟩ := two_act h3 (least side R)
    obtain ⟨j1, j2⟩ := act_mem hj
    rw [round_len] at j1
    rw [round_cv hs hL h2 j1] at j2
    have hja : j ∈ act side R ∧ j ≠ least side R := by
      by_cases q : j ∈ act side R ∧ j ≠ least side R
      · exact q
      · rw [if_neg q] at j2
        exact absurd ⟨mem_act j1 j2, hne⟩ q
    rw [if_pos hja] at j2
    have d := dv j hja.1
    have ll := least_le h2 j hja.1
    rw [hmv] at ll
    have lt := (fmod_lt (x := cv side (row R j)) hl.2).1
    rw [hmv] at lt
    have hAj := hA j j1
    generalize hr : ((cv side (row R j)).fmod (cv side (row R (least side R)))).natAbs = rr at *
    have q1 : 1 ≤ ((cv side (row R j)).fdiv (cv side (row R (least side R)))).natAbs := by
      rcases Nat.eq_zero_or_pos ((cv side (row R j)).fdiv (cv side (row R (least side R)))).natAbs with z | z
      · rw [z] at d; omega
      · exact z
    have q2 : mm ≤ ((cv side (row R j)).fdiv (cv side (row R (least side R)))).natAbs * mm := Nat.le_mul_of_pos_left _ q1
    have hB2 : 2 * rr ≤ A := by omega
    refine ⟨mm, rr, M + A / mm * M, fun i hi => by rw [← hmv]; exact cv_round_le hs hL h2 i hi, ⟨j, hj, by rw [round_cv hs hL h2 j1, if_pos hja, hr]; exact Nat.le_refl _⟩, eM, ?_⟩
    have s1 : 2 * (mm * rr) ≤ A * B := by
      have : mm * (2 * rr) ≤ B * A := Nat.mul_le_mul hmB hB2
      have e1 : mm * (2 * rr) = 2 * (mm * rr) := by rw [← Nat.mul_assoc, Nat.mul_comm mm 2, Nat.mul_assoc]
      rw [e1, Nat.mul_comm B A] at this
      exact this
    have s2 : 2 * ((mm * rr) * (mm * rr)) ≤ (A * B) * (A * B) := by
      have h1 : (2 * (mm * rr)) * (2 * (mm * rr)) ≤ (A * B) * (A * B) := Nat.mul_le_mul s1 s1
      have h3 : (2 * (mm * rr)) * (2 * (mm * rr)) = 4 * ((mm * rr) * (mm * rr)) := by
        generalize mm * rr = t
        rw [Nat.mul_assoc, Nat.mul_left_comm t 2 t, ← Nat.mul_assoc] 
      omega
    refine Nat.le_trans ?_ hC
    calc (M + A / mm * M) * mm * ((mm * rr) * (mm * rr)) ≤ 2 * (M * A) * ((mm * rr) * (mm * rr)) := Nat.mul_le_mul_right _ hM'
      _ = M * A * (2 * ((mm * rr) * (mm * rr))) := by
        generalize (mm * rr) * (mm * rr) = t
        rw [Nat.mul_comm 2 (M * A), Nat.mul_assoc]
      _ ≤ M * A * ((A * B) * (A * B)) := Nat.mul_le_mul_left _ s2
/-- the first round: any signs -/
def cap (M : Nat) : Nat := (M + M * M) * M * ((M * M) * (M * M))
theorem Pot.first {M : Nat} (h : Ent M R) (hM1 : 1 ≤ M) (hs : side < m) (hL : ∀ r ∈ R, r.length = m) (h2 : 2 ≤ (act side R).length) : Pot side (cap M) (round side R) := by
  have hl := act_mem (least_mem h2)
  have hmM : (cv side (row R (least side R))).natAbs ≤ M := h _ (row_mem hl.1) _ (cv_mem (by rw [hL _ (row_mem hl.1)]; exact hs))
  have hK : ∀ i ∈ act side R, i ≠ least side R → ((cv side (row R i)).fdiv (cv side (row R (least side R)))).natAbs ≤ M := fun i hi _ =>
    Nat.le_trans (PySem.natAbs_fdiv_le _ _) (h _ (row_mem (act_mem hi).1) _ (cv_mem (by rw [hL _ (row_mem (act_mem hi).1)]; exact hs)))
  have eM := ent_round h2 h hK
  have c1 : M + M * M ≤ cap M := by
    unfold cap
    rw [Nat.mul_assoc]
    exact Nat.le_mul_of_pos_right _ (Nat.mul_pos hM1 (Nat.mul_pos (Nat.mul_pos hM1 hM1) (Nat.mul_pos hM1 hM1)))
  refine ⟨same_round hs hL h2, eM.mono (by omega), fun h3 => ?_⟩
  obtain ⟨j, hj, hne⟩ := two_act h3 (least side R)
  refine ⟨M, M, M + M * M, fun i hi => Nat.le_trans (cv_round_le hs hL h2 i hi) hmM, ⟨j, hj, Nat.le_trans (cv_round_le hs hL h2 j (act_mem hj).1) hmM⟩, eM, Nat.le_refl _⟩
end
theorem cap_pow (e : Nat) : 2 * cap (2 ^ e) ≤ 2 ^ (7 * e + 2) := by
  unfold cap
  have h1 : (2 : Nat) ^ e + 2 ^ e * 2 ^ e ≤ 2 ^ (2 * e + 1) := by
    have a : (2 : Nat) ^ e * 2 ^ e = 2 ^ (2 * e) := by rw [← Nat.pow_add]; congr 1; omega
    have b : (2 : Nat) ^ e ≤ 2 ^ (2 * e) := Nat.pow_le_pow_right (by omega) (by omega)
    rw [a, Nat.pow_succ]
    omega
  have h2 : (2 ^ e + 2 ^ e * 2 ^ e) * 2 ^ e * ((2 ^ e * 2 ^ e) * (2 ^ e * 2 ^ e)) ≤ 2 ^ (2 * e + 1) * 2 ^ e * ((2 ^ e * 2 ^ e) * (2 ^ e * 2 ^ e)) := Nat.mul_le_mul_right _ (Nat.mul_le_mul_right _ h1)
  have h3 : 2 * (2 ^ (2 * e + 1) * 2 ^ e * ((2 ^ e * 2 ^ e) * (2 ^ e * 2 ^ e))) = 2 ^ (7 * e + 2) := by
    simp only [← Nat.pow_add]
    rw [Nat.mul_comm, ← Nat.pow_succ]
    congr 1
    omega
  omega
end K07
end K07L_text

section K07M_text
set_option Elab.async false
set_option linter.all false
set_option maxRecDepth 100000
set_option maxHeartbeats 4000000
namespace K07
open PySem PySem.Spec PyProof.Rows L2 StX Wk

theorem bi_of {x : Int} {k : Nat} (h : x.natAbs ≤ 2 ^ k) : Bi (k + 1) x := by
  refine PySem.intBits_le_iff.mpr ?_
  rw [Nat.pow_succ]
  have : 0 < 2 ^ k := Nat.pow_pos (by omega)
  omega
theorem Ent.bits {k : Nat} {R : List (List Int)} (h : Ent (2 ^ k) R) : ∀ r ∈ R, ∀ x ∈ r, Bi (k + 1) x := fun r hr x hx => bi_of (h r hr x hx)
theorem split_inv {side : Nat} (n : Nat) (hs : side < 2) {V vs : List Vec} (hV : V.length ≤ 8) {R0 : List (List Int)} {e : Nat} (he : 7 * e + 3 ≤ 8000) (hP : Pal V R0) (hS : SpR vs R0) (hE : Ent (2 ^ e) R0) (Q : List Int → Prop) (hQ : ∀ r ∈ R0, Q r) (hQs : ∀ x y f, RowOk V x → RowOk V y → Q x → Q y → Q (subR f x y)) :
    ∃ R', (Pal V R' ∧ SpR vs R' ∧ (∀ r ∈ R', Q r)) ∧ Ent (2 ^ (7 * e + 2)) R' ∧ (act side R').length < 2 ∧ ∀ S, (runF gl defs (n + 3)).call false "split_rows" [.lst (R0.map ti), .int side] [] S = some (.ok (.tup [oD (ld side R'), .lst ((zr side R').map ti)]) S) := by
  have e2 : (2 : Nat) ^ e ≤ 2 ^ (7 * e + 2) := Nat.pow_le_pow_right (by omega) (by omega)
  let Iv : List (List Int) → Prop := fun R => (Pal V R ∧ SpR vs R ∧ ∀ r ∈ R, Q r) ∧ (R = R0 ∨ Pot side (cap (2 ^ e)) R)
  have ent : ∀ R, Iv R → Ent (2 ^ (7 * e + 2)) R := fun R h => by
    rcases h.2 with q | q
    · rw [q]; exact hE.mono e2
    · exact q.ent.mono (cap_pow e)
  have rl : ∀ R, Iv R → ∀ r ∈ R, r.length = V.length + 2 := fun R h r hr => (h.1.1.row r hr).1
  obtain ⟨R', hI, h2, hc⟩ := split_ok n hs (m := V.length + 2) (by omega) (by omega) R0 Iv (mu side) ⟨⟨hP, hS, hQ⟩, .inl rfl⟩ (fun R h => ⟨rl R h, by have := h.1.1.len; omega, fun r hr x hx => by
      have := (ent R h).bits r hr x hx
      unfold Bi at this
      unfold Sm
      omega⟩) fun R h h2 => by
    have hl := act_mem (least_mem h2)
    refine ⟨⟨round_keeps (fun T => Pal V T ∧ SpR vs T ∧ ∀ r ∈ T, Q r) hl.1 (fun T i f hT hi hne hp => ⟨hp.1.step hi (by rw [hT]; exact hl.1) hne f, hp.2.1.step hp.1 hi (by rw [hT]; exact hl.1) hne f, fun r hr => ?_⟩) h.1, .inr ?_⟩, mu_lt (m := V.length + 2) (by omega) (rl R h) h2⟩
    · rcases List.mem_or_eq_of_mem_set hr with q | q
      · exact hp.2.2 r q
      · rw [q]
        have m1 := row_mem hi
        have m2 : row T (least side R) ∈ T := row_mem (by rw [hT]; exact hl.1)
        exact hQs _ _ f (hp.1.row _ m1) (hp.1.row _ m2) (hp.2.2 _ m1) (hp.2.2 _ m2)
    · rcases h.2 with q | q
      · have hE' : Ent (2 ^ e) R := by rw [q]; exact hE
        exact Pot.first hE' (Nat.pow_pos (by omega)) (m := V.length + 2) (by omega) (rl R h) h2
      · exact q.step (m := V.length + 2) (by omega) (rl R h) h2
  exact ⟨R', hI.1, ent R' hI, h2, hc⟩
/-! the rows at the start -/
theorem unit_zero {N : Nat} : unitR (N + 1) 0 = 1 :: (List.range N).map fun _ => 0 := by
  unfold unitR
  rw [List.range_succ_eq_map, List.map_cons, List.map_map]
  rfl
theorem unit_succ {N k : Nat} : unitR (N + 1) (k + 1) = 0 :: unitR N k := by
  unfold unitR
  rw [List.range_succ_eq_map, List.map_cons, List.map_map, if_neg (by omega)]
  congr 1
  apply List.map_congr_left
  intro i _
  simp
theorem dot_zeros {α : Type} : ∀ {l : List α} {w : List Int}, dot (l.map fun _ => 0) w = 0
  | [], w => dot_nil
  | a :: l, [] => dot_nil2
  | a :: l, z :: w => by rw [List.map_cons, dot_cons, dot_zeros]; omega
theorem dot_unit : ∀ {N k : Nat} {w : List Int}, k < N → w.length = N → dot (unitR N k) w = w.getD k 0
  | 0, k, w, h, _ => absurd h (Nat.not_lt_zero _)
  | N + 1, 0, z :: w, _, _ => by rw [unit_zero, dot_cons, dot_zeros]; simp
  | N + 1, k + 1, z :: w, h, hw => by
    rw [unit_succ, dot_cons, dot_unit (by omega) (by simpa using hw)]
    simp
  | N + 1, _, [], _, hw => nomatch hw
theorem unit_len {N k : Nat} : (unitR N k).length = N := by unfold unitR; rw [List.length_map, List.length_range]
theorem unit_get {N j k : Nat} (hk : k < N) : (unitR N j).getD k 0 = if k = j then 1 else 0 := by
  unfold unitR
  rw [List.getD_eq_getElem?_getD, List.getElem?_map, List.getElem?_range hk] <;> rfl
theorem zipIdx_at {V : List Vec} {p : Vec × Nat} (hp : p ∈ V.zipIdx) : p.2 < V.length ∧ V[p.2]? = some p.1 := by
  have h := List.mem_zipIdx hp
  simp only [Nat.zero_add, Nat.sub_zero] at h
  exact ⟨by omega, by rw [h.2.2, List.getElem?_eq_getElem (by omega)]⟩
theorem rows0_row {V : List Vec} {p : Vec × Nat} (hp : p ∈ V.zipIdx) : RowOk V (row0 V.length p) := by
  obtain ⟨h1, h2⟩ := zipIdx_at hp
  refine ⟨by show (unitR V.length p.2).length + 1 + 1 = _; rw [unit_len], ?_, ?_⟩
  · show dot (unitR V.length p.2) (V.map (·.1)) = p.1.1
    rw [dot_unit h1 (by rw [List.length_map]), List.getD_eq_getElem?_getD, List.getElem?_map, h2] <;> rfl
  · show dot (unitR V.length p.2) (V.map (·.2)) = p.1.2
    rw [dot_unit h1 (by rw [List.length_map]), List.getD_eq_getElem?_getD, List.getElem?_map, h2] <;> rfl
theorem rows0_pal (V : List Vec) : Pal V (rows0 V) := by
  refine ⟨fun r hr => ?_, ⟨V.zipIdx.map fun p => (row0 V.length p, unitR V.length p.2), ?_, fun q hq => ?_, ?_⟩, by unfold rows0; rw [List.length_map, List.length_zipIdx]; exact Nat.le_refl _⟩
  · obtain ⟨p, hp, rfl⟩ := List.mem_map.mp hr
    exact rows0_row hp
  · rw [List.map_map] <;> rfl
  · obtain ⟨p, hp, rfl⟩ := List.mem_map.mp hq
    refine ⟨unit_len, ?_⟩
    show dot (unitR V.length p.2) (unitR V.length p.2) = 1
    rw [dot_unit (zipIdx_at hp).1 unit_len, unit_get (zipIdx_at hp).1, if_pos rfl]
  · rw [List.pairwise_map, List.pairwise_iff_getElem]
    intro i j hi hj hij
    rw [List.length_zipIdx] at hi hj
    simp only [List.getElem_zipIdx, Nat.zero_add]
    refine ⟨?_, ?_⟩
    · show dot (unitR V.length i) (unitR V.length j) = 0
      rw [dot_unit hi unit_len, unit_get hi, if_neg (by omega)]
    · show dot (unitR V.length j) (unitR V.length i) = 0
      rw [dot_unit hj unit_len, unit_get hj, if_neg (by omega)]
theorem rows0_sp (V : List Vec) : SpR V (rows0 V) := fun v hv => by
  obtain ⟨i, hi, e⟩ := List.getElem_of_mem hv
  refine Sp.of_mem (List.mem_map.mpr ⟨row0 V.length (v, i), List.mem_map_of_mem ?_, rfl⟩)
  rw [List.mem_zipIdx_iff_getElem?]
  show V[i]? = some v
  rw [List.getElem?_eq_getElem hi, e]
theorem rows0_ent {V : List Vec} {M : Nat} (hM : 1 ≤ M) (h : ∀ v ∈ V, v.1.natAbs ≤ M ∧ v.2.natAbs ≤ M) : Ent M (rows0 V) := fun r hr x hx => by
  obtain ⟨p, hp, rfl⟩ := List.mem_map.mp hr
  have hv := h p.1 (by
    obtain ⟨h1, h2⟩ := zipIdx_at hp
    exact List.mem_of_getElem? h2)
  have hx : x ∈ p.1.1 :: p.1.2 :: unitR V.length p.2 := hx
  rcases List.mem_cons.mp hx with q | q
  · rw [q]; exact hv.1
  · rcases List.mem_cons.mp q with q | q
    · rw [q]; exact hv.2
    · unfold unitR at q
      obtain ⟨i, _, rfl⟩ := List.mem_map.mp q
      split <;> simp <;> omega
/-! what the two splits give -/
theorem zr_mem {side : Nat} {R : List (List Int)} {r : List Int} : r ∈ zr side R ↔ r ∈ R ∧ cv side r = 0 := by
  unfold zr
  rw [List.mem_filter, decide_eq_true_iff]
theorem ld_mem {side : Nat} {R : List (List Int)} {y : List Int} (h : ld side R = some y) : y ∈ R ∧ cv side y ≠ 0 := by
  unfold ld at h
  have := List.mem_of_getLast? h
  rw [List.mem_filter, decide_eq_true_iff] at this
  exact this
/-- the one active row is the leading one -/
theorem ld_only {side : Nat} {R : List (List Int)} (h : (act side R).length < 2) {r : List Int} (hr : r ∈ R) (h0 : cv side r ≠ 0) : ld side R = some r := by
  have e : (R.filter fun r => decide (cv side r ≠ 0)).length = (act side R).length := by
    unfold act
    rw [List.length_map]
    have : R = R.zipIdx.map (·.1) := (List.zipIdx_map_fst 0 R).symm
    conv => lhs; rw [this]
    rw [List.filter_map, List.length_map]
    rfl
  have hm : r ∈ R.filter fun r => decide (cv side r ≠ 0) := List.mem_filter.mpr ⟨hr, decide_eq_true h0⟩
  unfold ld
  generalize R.filter (fun r => decide (cv side r ≠ 0)) = T at e hm
  match T, e, hm with
  | [], _, hm => exact absurd hm (by simp)
  | [x], _, hm => rw [List.mem_singleton.mp hm] <;> rfl
  | x :: y :: T, e, _ => simp only [List.length_cons] at e; omega
end K07
end K07M_text

section K07N_text
set_option Elab.async false
set_option linter.all false
set_option maxRecDepth 100000
set_option maxHeartbeats 4000000
set_option exponentiation.threshold 20
namespace K07
open PySem PySem.Spec PyProof.Rows L2 StX Wk

theorem sub_bits {k l j : Nat} {f : Int} {xs ys : List Int} (hx : ∀ x ∈ xs, Bi k x) (hy : ∀ y ∈ ys, Bi l y) (hf : Bi j f) : ∀ z ∈ subR f xs ys, Bi (max k (j + l) + 1) z := fun z hz => by
  rw [subR_eq] at hz
  obtain ⟨p, hp, rfl⟩ := List.mem_map.mp hz
  exact PySem.intBits_sub_le (hx _ (List.of_mem_zip hp).1) (PySem.intBits_mul_le hf (hy _ (List.of_mem_zip hp).2))
theorem Bi.mono {k l : Nat} {x : Int} (h : Bi k x) (hl : k ≤ l) : Bi l x := Nat.le_trans h hl
/-- what is left of the target -/
def Rest (V : List Vec) (t : Vec) (y : List Int) : Prop := y.length = V.length + 2 ∧ cv 0 y - dot (us y) (V.map (·.1)) = t.1 ∧ cv 1 y - dot (us y) (V.map (·.2)) = t.2
theorem Rest.sub {V : List Vec} {t : Vec} {x y : List Int} (f : Int) (hx : Rest V t x) (hy : RowOk V y) : Rest V t (subR f x y) := by
  obtain ⟨a1, a2, a3⟩ := hx
  obtain ⟨b1, b2, b3⟩ := hy
  have hl : x.length = y.length := by omega
  have hu : (us x).length = (us y).length := by unfold us; rw [List.length_drop, List.length_drop]; omega
  have e : us (subR f x y) = subR f (us x) (us y) := sub_drop
  refine ⟨by rw [sub_len hl]; exact a1, ?_, ?_⟩
  · rw [e, cv_sub hl (by omega), dot_sub hu, b2, ← a2]
    omega
  · rw [e, cv_sub hl (by omega), dot_sub hu, b3, ← a3]
    omega
theorem rest0_ok (V : List Vec) (t : Vec) : Rest V t (rest0 V t) := by
  have z : ∀ w, dot (List.replicate V.length (0 : Int)) w = 0 := fun w => by
    have : List.replicate V.length (0 : Int) = V.map fun _ => 0 := by rw [List.map_const']
    rw [this]
    exact dot_zeros
  refine ⟨by show (List.replicate V.length (0 : Int)).length + 1 + 1 = _; rw [List.length_replicate], ?_, ?_⟩
  · show t.1 - dot (List.replicate V.length (0 : Int)) _ = t.1
    rw [z]; omega
  · show t.2 - dot (List.replicate V.length (0 : Int)) _ = t.2
    rw [z]; omega
theorem tk_cases {side : Nat} {x z : List Int} {r : Option (List Int)} (h : tkO side x r = some z) : (z = x ∧ cv side x = 0) ∨ ∃ y, r = some y ∧ cv side x ≠ 0 ∧ (cv side x).fmod (cv side y) = 0 ∧ z = subR ((cv side x).fdiv (cv side y)) x y := by
  unfold tkO at h
  by_cases h0 : cv side x = 0
  · rw [if_pos h0] at h
    exact .inl ⟨(Option.some.inj h).symm, h0⟩
  · rw [if_neg h0] at h
    cases r with
    | none => cases h
    | some y =>
      simp only at h
      by_cases h1 : (cv side x).fmod (cv side y) = 0
      · rw [if_pos h1] at h
        exact .inr ⟨y, rfl, h0, h1, (Option.some.inj h).symm⟩
      · rw [if_neg h1] at h
        cases h
theorem tk_zero {side : Nat} {x z : List Int} {r : Option (List Int)} (h : tkO side x r = some z) (hl : ∀ y, r = some y → y.length = x.length) (hs : side < x.length) : cv side z = 0 := by
  rcases tk_cases h with ⟨rfl, h0⟩ | ⟨y, hy, _, h1, rfl⟩
  · exact h0
  · rw [cv_sub (hl y hy).symm hs]
    have := Int.fmod_add_fdiv_mul (cv side x) (cv side y)
    omega
theorem dot_sp : ∀ (c : List Int) (V : List Vec), Sp V (dot c (V.map (·.1)), dot c (V.map (·.2)))
  | [], V => Sp.zero.cast (by simp [dot_nil]) (by simp [dot_nil])
  | x :: c, [] => Sp.zero.cast (by simp [dot_nil2]) (by simp [dot_nil2])
  | x :: c, v :: V => by
    have ih := (dot_sp c V).trans (fun u hu => Sp.of_mem (List.mem_cons_of_mem v hu))
    refine (ih.plus ((Sp.of_mem (List.mem_cons_self (a := v) (l := V))).times x)).cast ?_ ?_
    · simp only [List.map_cons, dot_cons]; omega
    · simp only [List.map_cons, dot_cons]; omega
theorem row_sp {V : List Vec} {r : List Int} (h : RowOk V r) : Sp V (xy r) := (dot_sp (us r) V).cast h.2.1 h.2.2
/-- both parts of the basis, where they are -/
def gens (f s : Option (List Int)) : List Vec := f.toList.map xy ++ s.toList.map xy
theorem sp_shape {f s : Option (List Int)} {t : Vec} (h : Sp (gens f s) t) : ∃ p q : Int, t.1 = p * (f.elim 0 (cv 0)) + q * (s.elim 0 (cv 0)) ∧ t.2 = p * (f.elim 0 (cv 1)) + q * (s.elim 0 (cv 1)) := by
  induction h with
  | zero => exact ⟨0, 0, by simp, by simp⟩
  | @add v t c hv _ ih =>
    obtain ⟨p, q, e1, e2⟩ := ih
    unfold gens at hv
    rcases List.mem_append.mp hv with hv | hv
    · obtain ⟨y, hy, rfl⟩ := List.mem_map.mp hv
      rw [Option.mem_toList] at hy
      rw [hy] at e1 e2 ⊢
      exact ⟨p + c, q, by simp only [Option.elim_some] at *; show t.1 + c * cv 0 y = _; rw [e1]; grind, by simp only [Option.elim_some] at *; show t.2 + c * cv 1 y = _; rw [e2]; grind⟩
    · obtain ⟨y, hy, rfl⟩ := List.mem_map.mp hv
      rw [Option.mem_toList] at hy
      rw [hy] at e1 e2 ⊢
      exact ⟨p, q + c, by simp only [Option.elim_some] at *; show t.1 + c * cv 0 y = _; rw [e1]; grind, by simp only [Option.elim_some] at *; show t.2 + c * cv 1 y = _; rw [e2]; grind⟩
/-- the staircase's shape -/
structure Stair (V : List Vec) (f s : Option (List Int)) (rels : List (List Int)) : Prop where
  hf : ∀ y, f = some y → RowOk V y ∧ cv 0 y ≠ 0 ∧ ∀ z ∈ y, Bi 311 z
  hs : ∀ y, s = some y → RowOk V y ∧ cv 0 y = 0 ∧ cv 1 y ≠ 0 ∧ ∀ z ∈ y, Bi 2173 z
  all : ∀ v ∈ V, Sp (gens f s) v
  rel : ∀ r ∈ rels, r.length = V.length ∧ dot r (V.map (·.1)) = 0 ∧ dot r (V.map (·.2)) = 0 ∧ (∀ z ∈ r, Bi 2173 z) ∧ sq r ≠ 0
  few : rels.length ≤ 8
theorem sq_ne {r w : List Int} (h : dot r w = 1) : sq r ≠ 0 := by
  intro h0
  have pos : ∀ l : List Int, 0 ≤ (l.map fun x => x * x).sum := by
    intro l
    induction l with
    | nil => simp
    | cons x l ih =>
      rw [List.map_cons, List.sum_cons]
      have : 0 ≤ x * x := by
        rcases Int.le_total 0 x with q | q
        · exact Int.mul_nonneg q q
        · have := Int.mul_nonneg (show 0 ≤ -x by omega) (show 0 ≤ -x by omega)
          rw [Int.neg_mul_neg] at this; exact this
      omega
  have key : ∀ (l w : List Int), (l.map fun x => x * x).sum = 0 → dot l w = 0 := by
    intro l
    induction l with
    | nil => intro w _; exact dot_nil
    | cons x l ih =>
      intro w h
      rw [List.map_cons, List.sum_cons] at h
      have h1 := pos l
      have h2 : 0 ≤ x * x := by
        rcases Int.le_total 0 x with q | q
        · exact Int.mul_nonneg q q
        · have := Int.mul_nonneg (show 0 ≤ -x by omega) (show 0 ≤ -x by omega)
          rw [Int.neg_mul_neg] at this; exact this
      have hx : x = 0 := by
        have : x * x = 0 := by omega
        rcases Int.mul_eq_zero.mp this with q | q <;> exact q
      cases w with
      | nil => exact dot_nil2
      | cons z w =>
        rw [dot_cons, ih w (by omega), hx]
        omega
  have := key r w h0
  omega
theorem stair_ok (n : Nat) {V : List Vec} (hV : V.length ≤ 8) (hb : ∀ v ∈ V, v.1.natAbs ≤ 2 ^ 44 ∧ v.2.natAbs ≤ 2 ^ 44) :
    ∃ f s rels, Stair V f s rels ∧ ∀ S, (runF gl defs (n + 4)).call false "staircase" [.tup (vD V)] [] S = some (.ok (.tup [oD f, oD s, .lst (rels.map ti)]) S) := by
  obtain ⟨R1, ⟨p1, s1, _⟩, e1, a1, c1⟩ := split_inv (side := 0) n (by omega) (V := V) (vs := V) hV (R0 := rows0 V) (e := 44) (by omega) (rows0_pal V) (rows0_sp V) (rows0_ent (Nat.pow_pos (by omega)) hb) (fun _ => True) (fun _ _ => trivial) fun _ _ _ _ _ _ _ => trivial
  have hz : ∀ r ∈ zr 0 R1, cv 0 r = 0 := fun r hr => (zr_mem.mp hr).2
  obtain ⟨R2, ⟨p2, s2, z2⟩, e2, a2, c2⟩ := split_inv (side := 1) n (by omega) (V := V) (vs := (zr 0 R1).map xy) hV (R0 := zr 0 R1) (e := 310) (by omega) (p1.filter _) (fun v hv => Sp.of_mem hv) (fun r hr => e1 r (zr_mem.mp hr).1) (fun r => cv 0 r = 0) hz fun x y f hx hy h1 h2 => by
    rw [cv_sub (by rw [hx.1, hy.1]) (by rw [hx.1]; omega), h1, h2]
    omega
  have l2 : (zr 1 R2).length ≤ 8 := by
    have : (zr 1 R2).length ≤ R2.length := List.length_filter_le _ _
    have := p2.len
    omega
  have hrow : ∀ r ∈ zr 1 R2, RowOk V r := fun r hr => p2.row r (zr_mem.mp hr).1
  refine ⟨ld 0 R1, ld 1 R2, (zr 1 R2).map (List.drop 2), ⟨fun y hy => ?_, fun y hy => ?_, ?_, fun r hr => ?_, by rw [List.length_map]; exact l2⟩, staircase_ok n (by omega) c1 c2 (fun r hr => by rw [(hrow r hr).1]; omega) (by omega)⟩
  · obtain ⟨h1, h2⟩ := ld_mem hy
    exact ⟨p1.row y h1, h2, e1.bits y h1⟩
  · obtain ⟨h1, h2⟩ := ld_mem hy
    exact ⟨p2.row y h1, z2 y h1, h2, e2.bits y h1⟩
  · intro v hv
    have g2 : ∀ u ∈ R2.map xy, Sp (gens (ld 0 R1) (ld 1 R2)) u := fun u hu => by
      obtain ⟨r, hr, rfl⟩ := List.mem_map.mp hu
      by_cases h : cv 1 r = 0
      · exact Sp.zero.cast (z2 r hr).symm h.symm
      · refine Sp.of_mem ?_
        unfold gens
        rw [ld_only a2 hr h]
        simp
    refine (s1 v hv).trans fun u hu => ?_
    obtain ⟨r, hr, rfl⟩ := List.mem_map.mp hu
    by_cases h : cv 0 r = 0
    · exact (s2 _ (List.mem_map_of_mem (zr_mem.mpr ⟨hr, h⟩))).trans g2
    · refine Sp.of_mem ?_
      unfold gens
      rw [ld_only a1 hr h]
      simp
  · obtain ⟨r, hr1, rfl⟩ := List.mem_map.mp hr
    have hr0 := zr_mem.mp hr1
    have ok := hrow r hr1
    refine ⟨by rw [List.length_drop, ok.1]; omega, ok.2.1.trans (z2 r hr0.1), ok.2.2.trans hr0.2, fun z hz => e2.bits r hr0.1 z (List.mem_of_mem_drop hz), ?_⟩
    obtain ⟨L, e, h1, _⟩ := p2.dual
    rw [← e] at hr0
    obtain ⟨q, hq, rfl⟩ := List.mem_map.mp hr0.1
    exact sq_ne (h1 q hq).2
end K07
end K07N_text

section K07O_text
set_option Elab.async false
set_option linter.all false
set_option maxRecDepth 100000
set_option maxHeartbeats 4000000
set_option exponentiation.threshold 100
namespace K07
open PySem PySem.Spec PyProof.Rows L2 StX Wk

theorem fold_sh {N k : Nat} {X Y : List Int} : ∀ {rs : List (List Int)} {c : List Int} {l : Nat}, (∀ r ∈ rs, r.length = N ∧ dot r X = 0 ∧ dot r Y = 0 ∧ ∀ z ∈ r, Bi k z) → N ≤ 10 → c.length = N → (∀ x ∈ c, Bi l x) → k ≤ l →
    (rs.foldl sh c).length = N ∧ dot (rs.foldl sh c) X = dot c X ∧ dot (rs.foldl sh c) Y = dot c Y ∧ ∀ x ∈ rs.foldl sh c, Bi (l + rs.length * (k + k + 14)) x
  | [], c, l, _, _, hc, hb, _ => ⟨hc, rfl, rfl, fun x hx => by rw [List.length_nil, Nat.zero_mul]; exact hb x hx⟩
  | r :: rs, c, l, hr, hN, hc, hb, hk => by
    obtain ⟨r1, r2, r3, r4⟩ := hr r (List.mem_cons_self ..)
    have hl : c.length = r.length := by omega
    obtain ⟨a1, a2, a3, a4⟩ := fold_sh (rs := rs) (c := sh c r) (l := l + k + k + 14) (fun r hr' => hr r (List.mem_cons_of_mem _ hr')) hN (by unfold sh; rw [sub_len hl]; exact hc) (sh_bits hb r4 (by omega) hk) (by omega)
    have d1 : ∀ W, dot r W = 0 → dot (sh c r) W = dot c W := fun W hW => by
      unfold sh
      rw [dot_sub hl, hW]
      omega
    rw [List.foldl_cons]
    refine ⟨a1, by rw [a2, d1 X r2], by rw [a3, d1 Y r3], fun x hx => ?_⟩
    refine (a4 x hx).mono ?_
    rw [List.length_cons, Nat.add_mul, Nat.one_mul]
    omega
theorem comb_spec (n : Nat) {V : List Vec} {t : Vec} (hV : V.length ≤ 8) (hb : ∀ v ∈ V, v.1.natAbs ≤ 2 ^ 44 ∧ v.2.natAbs ≤ 2 ^ 44) (ht : t.1.natAbs ≤ 2 ^ 60 ∧ t.2.natAbs ≤ 2 ^ 60) :
    ∃ res : Option (List Int), (∀ S, (runF gl defs (n + 5)).call false "combination" [.tup (vD V), emb2 t] [] S = some (.ok (oD res) S)) ∧
      (∀ c, res = some c → c.length = V.length ∧ dot c (V.map (·.1)) = t.1 ∧ dot c (V.map (·.2)) = t.2 ∧ ∀ x ∈ c, Bi 200000 x) ∧ (res = none → ¬ Sp V t) := by
  obtain ⟨f, s, rels, st, cst⟩ := stair_ok n hV hb
  have R0 := rest0_ok V t
  have hlen : ∀ (r : Option (List Int)), (∀ y, r = some y → RowOk V y) → ∀ y, r = some y → y.length = V.length + 2 := fun r h y hy => (h y hy).1
  have fR : ∀ y, f = some y → RowOk V y := fun y hy => (st.hf y hy).1
  have sR : ∀ y, s = some y → RowOk V y := fun y hy => (st.hs y hy).1
  have b0 : ∀ x ∈ rest0 V t, Bi 61 x := fun x hx => by
    have hx : x ∈ t.1 :: t.2 :: List.replicate V.length 0 := hx
    rcases List.mem_cons.mp hx with q | q
    · rw [q]; exact bi_of ht.1
    · rcases List.mem_cons.mp q with q | q
      · rw [q]; exact bi_of ht.2
      · rw [(List.mem_replicate.mp q).2]
        exact bi_of (by simp)
  have rl : (rest0 V t).length = V.length + 2 := R0.1
  have step1 : ∀ x, tkO 0 (rest0 V t) f = some x → Rest V t x ∧ cv 0 x = 0 ∧ ∀ z ∈ x, Bi 373 z := fun x hx => by
    have z0 := tk_zero hx (fun y hy => by rw [rl]; exact hlen f fR y hy) (by rw [rl]; omega)
    rcases tk_cases hx with ⟨rfl, _⟩ | ⟨y, hy, _, _, rfl⟩
    · exact ⟨R0, z0, fun z hz => (b0 z hz).mono (by omega)⟩
    · refine ⟨R0.sub _ (fR y hy), z0, fun z hz => (sub_bits b0 (st.hf y hy).2.2 (PySem.intBits_fdiv_le (b0 _ (cv_mem (by rw [rl]; omega)))) z hz).mono (by omega)⟩
  have step2 : ∀ x y, tkO 0 (rest0 V t) f = some x → tkO 1 x s = some y → Rest V t y ∧ cv 0 y = 0 ∧ cv 1 y = 0 ∧ ∀ z ∈ y, Bi 2547 z := fun x y hx hy => by
    obtain ⟨q1, q2, q3⟩ := step1 x hx
    have z1 := tk_zero hy (fun w hw => by rw [q1.1]; exact hlen s sR w hw) (by rw [q1.1]; omega)
    rcases tk_cases hy with ⟨rfl, _⟩ | ⟨w, hw, _, _, rfl⟩
    · exact ⟨q1, q2, z1, fun z hz => (q3 z hz).mono (by omega)⟩
    · refine ⟨q1.sub _ (sR w hw), ?_, z1, fun z hz => (sub_bits q3 (st.hs w hw).2.2.2 (PySem.intBits_fdiv_le (q3 _ (cv_mem (by rw [q1.1]; omega)))) z hz).mono (by omega)⟩
      rw [cv_sub (by rw [q1.1, (sR w hw).1]) (by rw [q1.1]; omega), q2, (st.hs w hw).2.1]
      omega
  have relP : ∀ r ∈ rels, (∀ x ∈ r, Bi 2173 x) ∧ r.length ≤ 10 ∧ sq r ≠ 0 := fun r hr => by
    obtain ⟨a1, _, _, a4, a5⟩ := st.rel r hr
    exact ⟨a4, by omega, a5⟩
  have negl : ∀ y, Rest V t y → ((y.drop 2).map fun z => 0 - z).length = V.length := fun y hy => by
    rw [List.length_map, List.length_drop, hy.1]
    omega
  have negb : ∀ y : List Int, (∀ z ∈ y, Bi 2547 z) → ∀ x ∈ (y.drop 2).map fun z => 0 - z, Bi 3000 x := fun y hy x hx => by
    obtain ⟨z, hz, rfl⟩ := List.mem_map.mp hx
    have h1 := hy z (List.mem_of_mem_drop hz)
    have h2 : Bi 1 0 := bi_of (k := 0) (by simp)
    have h3 := PySem.intBits_sub_le h2 h1
    unfold Bi
    omega
  have fin : ∀ x y, tkO 0 (rest0 V t) f = some x → tkO 1 x s = some y → ((rels ++ (rels ++ rels)).foldl sh ((y.drop 2).map fun z => 0 - z)).length = V.length ∧ dot ((rels ++ (rels ++ rels)).foldl sh ((y.drop 2).map fun z => 0 - z)) (V.map (·.1)) = t.1 ∧
      dot ((rels ++ (rels ++ rels)).foldl sh ((y.drop 2).map fun z => 0 - z)) (V.map (·.2)) = t.2 ∧ ∀ z ∈ (rels ++ (rels ++ rels)).foldl sh ((y.drop 2).map fun z => 0 - z), Bi 200000 z := fun x y hx hy => by
    obtain ⟨q1, q2, q3, q4⟩ := step2 x y hx hy
    obtain ⟨a1, a2, a3, a4⟩ := fold_sh (N := V.length) (k := 2173) (X := V.map (·.1)) (Y := V.map (·.2)) (rs := rels ++ (rels ++ rels)) (c := (y.drop 2).map fun z => 0 - z) (l := 3000) (fun r hr => by
      obtain ⟨b1, b2, b3, b4, _⟩ := st.rel r (by simpa using hr)
      exact ⟨b1, b2, b3, b4⟩) (by omega) (negl y q1) (negb y q4) (by omega)
    have dn : ∀ (u W : List Int), dot (u.map fun z => 0 - z) W = - dot u W := by
      intro u
      induction u with
      | nil => intro W; rw [List.map_nil, dot_nil]; rfl
      | cons z u ih =>
        intro W
        cases W with
        | nil => rw [dot_nil2, dot_nil2]; rfl
        | cons w W =>
          rw [List.map_cons, dot_cons, dot_cons, ih]
          grind
    refine ⟨a1, ?_, ?_, fun z hz => (a4 z hz).mono ?_⟩
    · rw [a2, dn]
      have := q1.2.1
      unfold us at this
      omega
    · rw [a3, dn]
      have := q1.2.2
      unfold us at this
      omega
    · rw [List.length_append, List.length_append]
      have h1 : (rels.length + (rels.length + rels.length)) * (2173 + 2173 + 14) ≤ 24 * 4360 := Nat.mul_le_mul (by have := st.few; omega) (by omega)
      omega
  refine ⟨combR V t f s rels, comb_ok (n + 4) (by omega) cst (taken_ok (n + 2) (side := 0) (by rw [rl]; omega) (by rw [rl]; omega) (fun y hy => ⟨by rw [(fR y hy).1]; omega, (st.hf y hy).2.1, fun z hz => ((st.hf y hy).2.2 z hz).mono (by omega)⟩) ((b0 _ (cv_mem (by rw [rl]; omega))).mono (by omega)) [])
    (fun x hx => by
      obtain ⟨q1, q2, q3⟩ := step1 x hx
      exact taken_ok (n + 2) (side := 1) (by rw [q1.1]; omega) (by rw [q1.1]; omega) (fun y hy => ⟨by rw [(sR y hy).1]; omega, (st.hs y hy).2.2.1, fun z hz => ((st.hs y hy).2.2.2 z hz).mono (by omega)⟩) ((q3 _ (cv_mem (by rw [q1.1]; omega))).mono (by omega)) [])
    (fun x y hx hy => by
      obtain ⟨q1, q2, q3, q4⟩ := step2 x y hx hy
      exact ⟨by rw [q1.1]; omega, by rw [q1.1]; omega, shortened_ok (n + 2) (k := 2173) (l := 3000) (by omega) relP (by have := st.few; omega) (by rw [negl y q1]; omega) (negb y q4) (by omega) (by omega) []⟩), fun c hc => ?_, fun hn hsp => ?_⟩
  · unfold combR at hc
    obtain ⟨y, hy, rfl⟩ := Option.map_eq_some_iff.mp hc
    obtain ⟨x, hx, hy⟩ := Option.bind_eq_some_iff.mp hy
    exact fin x y hx hy
  · obtain ⟨p, q, e1, e2⟩ := sp_shape (hsp.trans st.all)
    have c0 : cv 0 (rest0 V t) = t.1 := rfl
    have c1 : cv 1 (rest0 V t) = t.2 := rfl
    have s0 : s.elim 0 (cv 0) = 0 := by
      cases hs : s with
      | none => rfl
      | some y => exact (st.hs y hs).2.1
    rw [s0] at e1
    have first : ∃ x, tkO 0 (rest0 V t) f = some x ∧ cv 1 x = q * s.elim 0 (cv 1) := by
      by_cases h0 : t.1 = 0
      · refine ⟨rest0 V t, by unfold tkO; rw [if_pos (by rw [c0]; exact h0)], ?_⟩
        rw [c1, e2]
        cases hf : f with
        | none => rw [hf] at e1; simp
        | some y =>
          have hy := (st.hf y hf).2.1
          rw [hf] at e1
          simp only [Option.elim_some] at e1 ⊢
          have : p * cv 0 y = 0 := by omega
          rcases Int.mul_eq_zero.mp this with z | z
          · rw [z]; simp
          · exact absurd z hy
      · cases hf : f with
        | none => rw [hf] at e1; simp only [Option.elim_none] at e1; omega
        | some y =>
          have hy := (st.hf y hf).2.1
          rw [hf] at e1 e2
          simp only [Option.elim_some] at e1 e2
          have t1 : t.1 = p * cv 0 y := by omega
          have m0 : t.1.fmod (cv 0 y) = 0 := by rw [t1]; exact Int.mul_fmod_left ..
          have d0 : t.1.fdiv (cv 0 y) = p := by rw [t1]; exact Int.mul_fdiv_cancel _ hy
          refine ⟨subR p (rest0 V t) y, ?_, ?_⟩
          · unfold tkO
            rw [c0, if_neg h0]
            simp only [m0, if_true, d0]
          · rw [cv_sub (by rw [rl, (fR y hf).1]) (by rw [rl]; omega), c1, e2]
            omega
    obtain ⟨x, hx, e3⟩ := first
    have second : ∃ z, tkO 1 x s = some z := by
      by_cases h0 : cv 1 x = 0
      · exact ⟨x, by unfold tkO; rw [if_pos h0]⟩
      · cases hs : s with
        | none => rw [hs] at e3; simp only [Option.elim_none] at e3; omega
        | some y =>
          rw [hs] at e3
          simp only [Option.elim_some] at e3
          have m0 : (cv 1 x).fmod (cv 1 y) = 0 := by rw [e3]; exact Int.mul_fmod_left ..
          exact ⟨subR ((cv 1 x).fdiv (cv 1 y)) x y, by unfold tkO; rw [if_neg h0]; simp only [m0, if_true]⟩
    obtain ⟨z, hz⟩ := second
    unfold combR at hn
    rw [hx, Option.bind_some, hz] at hn
    cases hn
end K07
end K07O_text

section K07P_text
set_option Elab.async false
set_option linter.all false
set_option maxRecDepth 100000
set_option maxHeartbeats 4000000
set_option exponentiation.threshold 100
local macro_rules | `(tactic| get_elem_tactic_trivial) => `(tactic| first
  | with_reducible exact Wk.xI | with_reducible exact Wk.xB | with_reducible exact Wk.xN | with_reducible exact Wk.xS | with_reducible exact Wk.aNil | with_reducible exact Wk.bNil | with_reducible exact Wk.allN | with_reducible exact Wk.anyN | with_reducible exact Wk.tBl
  | ((with_reducible apply Wk.xV); exact rfl) | ((with_reducible apply Wk.xG); exact rfl) | ((with_reducible apply Wk.gNm); exact Nat.le_of_ble_eq_true rfl)
  | with_reducible apply Wk.xBin | with_reducible apply Wk.xNeg | with_reducible apply Wk.xCmp | with_reducible apply Wk.xTup | with_reducible apply Wk.xLst | with_reducible apply Wk.xIx | with_reducible apply Wk.xSlL | with_reducible apply Wk.xSlH
  | with_reducible apply Wk.xBi | with_reducible apply Wk.xCall | with_reducible apply Wk.xLo | with_reducible apply Wk.xRep | with_reducible apply Wk.xLm | with_reducible apply Wk.xComp | with_reducible apply Wk.aCons | with_reducible apply Wk.aStar
  | with_reducible apply Wk.bRet1 | with_reducible apply Wk.sAsg | with_reducible apply Wk.sExpr | with_reducible exact Wk.gsN | with_reducible apply Wk.gsC | ((with_reducible apply Wk.gTp); exact rfl) | with_reducible apply Wk.gSub
  | with_reducible apply Wk.iSeq | with_reducible apply Wk.iR1 | with_reducible apply Wk.iR2 | with_reducible apply Wk.iZip | with_reducible apply Wk.iEnum
  | with_reducible apply Wk.bAsg | with_reducible apply Wk.bExpr
  | with_reducible apply Wk.tCmp | with_reducible apply Wk.tNot | with_reducible apply Wk.tBi | with_reducible apply Wk.tCall | ((with_reducible apply Wk.tV); exact rfl)
  | with_reducible exact Wk.binAdd | with_reducible exact Wk.binSub | ((with_reducible apply Wk.binMul); first | assumption | decide +kernel) | ((with_reducible apply Wk.binPow); first | assumption | decide +kernel) | ((with_reducible apply Wk.binMod); first | assumption | decide +kernel) | ((with_reducible apply Wk.binFdiv); first | assumption | decide +kernel)
  | ((with_reducible apply Wk.kBin); first | assumption | exact rfl | exact Wk.binMul (by assumption) | exact Wk.binFdiv (by assumption) | exact Wk.binMod (by assumption))
  | ((with_reducible apply Wk.cLtT); assumption) | ((with_reducible apply Wk.cLtF); assumption) | ((with_reducible apply Wk.cGtT); assumption) | ((with_reducible apply Wk.cGtF); assumption) | ((with_reducible apply Wk.cEqT); assumption) | ((with_reducible apply Wk.cEqF); assumption) | ((with_reducible apply Wk.cNeT); assumption) | ((with_reducible apply Wk.cNeF); assumption) | ((with_reducible apply Wk.kCmp); first | assumption | exact rfl)
  | ((with_reducible apply Wk.kIx); first | assumption | exact rfl) | ((with_reducible apply Wk.kBi); first | assumption | exact rfl) | ((with_reducible apply Wk.kQ); first | assumption | exact rfl) | ((with_reducible apply Wk.kTru); first | assumption | exact rfl)
  | ((with_reducible apply Wk.kAt); first | assumption | exact rfl) | ((with_reducible apply Wk.kIxN); first | assumption | exact rfl) | ((with_reducible apply Wk.kLen); first | assumption | exact rfl)
  | ((with_reducible apply Wk.kMk); first | assumption | exact Wk.mkLF rfl | exact Wk.mkLN rfl | exact Wk.mkLF (by assumption) | exact Wk.mkLN (by assumption)) | assumption | ((with_reducible apply Wk.kB); exact rfl))
namespace K07
open PySem PySem.Spec PyProof.Rows L2 StX Wk

theorem abs_bi {S : Store} {i : Int} : biO S .abs [.int i] = some (.int (i.natAbs : Nat)) := by
  show some (D.int (if i < 0 then -i else i)) = _
  rw [abs_eq]
theorem common_ok (n : Nat) (a b : Int) (S : Store) : (runF gl defs (n + 1)).call false "_law_common" [.int a, .int b] [] S = some (.ok (.int (Int.gcd a b : Nat)) S) := by
  obtain ⟨ρ', S', e, hE⟩ := whileEnd (ρ := [some (.int a), some (.int b), some (.int (a.natAbs : Nat)), some (.int (b.natAbs : Nat))]) (S := []) (t := evT (runF gl defs n) (.cmp .gt (.v 3) (.cint 0)))
    (b := evB (runF gl defs n) (.cons (.asg (.tp (.cons (.nm 2) (.cons (.nm 3) .nil))) (.tup (.cons (.v 3) (.cons (.bin .mod (.v 2) (.v 3)) .nil)))) .nil))
    (fun m ρ S => ∃ x y : Nat, ρ = [some (.int a), some (.int b), some (.int (x : Nat)), some (.int (y : Nat))] ∧ S = [] ∧ Nat.gcd x y = Int.gcd a b ∧ m = y)
    (fun ρ S => S = [] ∧ ∃ z, ρ = [some (.int a), some (.int b), some (.int (Int.gcd a b : Nat)), z]) (m0 := b.natAbs) ⟨a.natAbs, b.natAbs, rfl, rfl, rfl, rfl⟩ (by
      rintro m _ _ ⟨x, y, rfl, rfl, hg, rfl⟩
      by_cases hy : m = 0
      · subst hy
        refine .inl ⟨[], ?_, rfl, _, by rw [← hg, Nat.gcd_zero_right]⟩
        exact tCmp (xV rfl) xI (cGtF (by omega))
      · have h1 : (0 : Int) < (m : Nat) := by omega
        have h2 : ((m : Nat) : Int) ≠ 0 := by omega
        have e3 : ((x : Nat) : Int).fmod (m : Nat) = (x % m : Nat) := by
          rw [Int.fmod_eq_emod_of_nonneg _ (by omega)]
          exact (Int.natCast_emod x m).symm
        have b3 : binO .mod (.int (x : Nat)) (.int (m : Nat)) = some (.int (x % m : Nat)) := by rw [binMod h2, e3]
        refine .inr ⟨[], [some (.int a), some (.int b), some (.int (m : Nat)), some (.int (x % m : Nat))], [], x % m, tCmp (xV rfl) xI (cGtT h1), ?_, ⟨m, x % m, rfl, rfl, ?_, rfl⟩, Nat.mod_lt _ (by omega)⟩
        · exact bAsg (xTup (aCons (xV rfl) (aCons (xBin (xV rfl) (xV rfl) b3) aNil)) rfl) (gTp rfl (gsC (gNm (Nat.le_of_ble_eq_true rfl)) (gsC (gNm (Nat.le_of_ble_eq_true rfl)) gsN))) bNil
        · rw [← hg, Nat.gcd_comm x m]
          exact (Nat.gcd_rec m x).symm.trans (Nat.gcd_comm ..) |>.trans (Nat.gcd_comm ..) |> fun h => by
            rw [Nat.gcd_comm m (x % m)]
            exact (Nat.gcd_rec m x).symm)
  obtain ⟨rfl, z, rfl⟩ := hE
  have run : evB (runF gl defs n) d_law_common.body [some (.int a), some (.int b), none, none] [] = some (.ok [some (.int a), some (.int b), some (.int (Int.gcd a b : Nat)), z] [] (.rt (.int (Int.gcd a b : Nat)))) := by
    simp only [K07.d_law_common]
    exact bAsg (xTup (aCons (xBi (aCons (xV rfl) aNil) abs_bi) (aCons (xBi (aCons (xV rfl) aNil) abs_bi) aNil)) rfl) (gTp rfl (gsC (gNm (Nat.le_of_ble_eq_true rfl)) (gsC (gNm (Nat.le_of_ble_eq_true rfl)) gsN))) (bCons e (bRet1 (xV rfl)))
  exact callP (F := K07.d_law_common) rfl rfl rfl run Fix.int
end K07
end K07P_text

section K07Q_text
set_option Elab.async false
set_option linter.all false
set_option maxRecDepth 100000
set_option maxHeartbeats 4000000
set_option exponentiation.threshold 100
local macro_rules | `(tactic| get_elem_tactic_trivial) => `(tactic| first
  | with_reducible exact Wk.xI | with_reducible exact Wk.xB | with_reducible exact Wk.xN | with_reducible exact Wk.xS | with_reducible exact Wk.aNil | with_reducible exact Wk.bNil | with_reducible exact Wk.allN | with_reducible exact Wk.anyN | with_reducible exact Wk.tBl
  | ((with_reducible apply Wk.xV); exact rfl) | ((with_reducible apply Wk.xG); exact rfl) | ((with_reducible apply Wk.gNm); exact Nat.le_of_ble_eq_true rfl)
  | with_reducible apply Wk.xBin | with_reducible apply Wk.xNeg | with_reducible apply Wk.xCmp | with_reducible apply Wk.xTup | with_reducible apply Wk.xLst | with_reducible apply Wk.xIx | with_reducible apply Wk.xSlL | with_reducible apply Wk.xSlH
  | with_reducible apply Wk.xBi | with_reducible apply Wk.xCall | with_reducible apply Wk.xLo | with_reducible apply Wk.xRep | with_reducible apply Wk.xLm | with_reducible apply Wk.xComp | with_reducible apply Wk.aCons | with_reducible apply Wk.aStar
  | with_reducible apply Wk.bRet1 | with_reducible apply Wk.sAsg | with_reducible apply Wk.sExpr | with_reducible exact Wk.gsN | with_reducible apply Wk.gsC | ((with_reducible apply Wk.gTp); exact rfl) | with_reducible apply Wk.gSub
  | with_reducible apply Wk.iSeq | with_reducible apply Wk.iR1 | with_reducible apply Wk.iR2 | with_reducible apply Wk.iZip | with_reducible apply Wk.iEnum
  | with_reducible apply Wk.bAsg | with_reducible apply Wk.bExpr
  | with_reducible apply Wk.tCmp | with_reducible apply Wk.tNot | with_reducible apply Wk.tBi | with_reducible apply Wk.tCall | ((with_reducible apply Wk.tV); exact rfl)
  | with_reducible exact Wk.binAdd | with_reducible exact Wk.binSub | ((with_reducible apply Wk.binMul); first | assumption | decide +kernel) | ((with_reducible apply Wk.binPow); first | assumption | decide +kernel) | ((with_reducible apply Wk.binMod); first | assumption | decide +kernel) | ((with_reducible apply Wk.binFdiv); first | assumption | decide +kernel)
  | ((with_reducible apply Wk.kBin); first | assumption | exact rfl | exact Wk.binMul (by assumption) | exact Wk.binFdiv (by assumption) | exact Wk.binMod (by assumption))
  | ((with_reducible apply Wk.cLtT); assumption) | ((with_reducible apply Wk.cLtF); assumption) | ((with_reducible apply Wk.cGtT); assumption) | ((with_reducible apply Wk.cGtF); assumption) | ((with_reducible apply Wk.cEqT); assumption) | ((with_reducible apply Wk.cEqF); assumption) | ((with_reducible apply Wk.cNeT); assumption) | ((with_reducible apply Wk.cNeF); assumption) | ((with_reducible apply Wk.kCmp); first | assumption | exact rfl)
  | ((with_reducible apply Wk.kIx); first | assumption | exact rfl) | ((with_reducible apply Wk.kBi); first | assumption | exact rfl) | ((with_reducible apply Wk.kQ); first | assumption | exact rfl) | ((with_reducible apply Wk.kTru); first | assumption | exact rfl)
  | ((with_reducible apply Wk.kAt); first | assumption | exact rfl) | ((with_reducible apply Wk.kIxN); first | assumption | exact rfl) | ((with_reducible apply Wk.kLen); first | assumption | exact rfl)
  | ((with_reducible apply Wk.kMk); first | assumption | exact Wk.mkLF rfl | exact Wk.mkLN rfl | exact Wk.mkLF (by assumption) | exact Wk.mkLN (by assumption)) | assumption | ((with_reducible apply Wk.kB); exact rfl))
namespace K07
open PySem PySem.Spec PyProof.Rows L2 StX Wk

def minor (u w : Vec) : Int := u.1 * w.2 - u.2 * w.1
def contS (g : Nat) (v : Vec) : Nat := Int.gcd (g : Nat) (Int.gcd v.1 v.2 : Nat)
def contF (V : List Vec) : Nat := V.foldl contS 0
def areaS (u : Vec) (a : Nat) (w : Vec) : Nat := Int.gcd (a : Nat) (minor u w)
def areaI (V : List Vec) (a : Nat) (u : Vec) : Nat := V.foldl (areaS u) a
def areaF (V : List Vec) : Nat := V.foldl (areaI V) 0
theorem ix_e0 {S : Store} {v : Vec} : ixO S (emb2 v) (.int 0) = some (.int v.1) := rfl
theorem ix_e1 {S : Store} {v : Vec} : ixO S (emb2 v) (.int 1) = some (.int v.2) := rfl
theorem div_in (n : Nat) {x0 x1 : Option Wk.D} {u : Vec} (hu : Bi 100 u.1 ∧ Bi 100 u.2) : ∀ {W : List Vec} {a : Nat} {x4 : Option Wk.D}, (∀ w ∈ W, Bi 100 w.1 ∧ Bi 100 w.2) →
    ∃ y4, forL (fun d ρ S => asT (runF gl defs (n + 1)) (.nm 4) d ρ S) (evB (runF gl defs (n + 1)) (.cons (.asg (.nm 2) (.call false "_law_common" (.cons (.v 2) (.cons (.bin .sub (.bin .mul (.ix (.v 3) (.cint 0)) (.ix (.v 4) (.cint 1))) (.bin .mul (.ix (.v 3) (.cint 1)) (.ix (.v 4) (.cint 0)))) .nil)) .nil)) .nil)) none
      (vD W) [x0, x1, some (.int (a : Nat)), some (emb2 u), x4] [] = some (.ok [x0, x1, some (.int (W.foldl (areaS u) a : Nat)), some (emb2 u), y4] [] .nx)
  | [], a, x4, _ => ⟨x4, fNil trivial⟩
  | w :: W, a, x4, hw => by
    obtain ⟨w1, w2⟩ := hw w (List.mem_cons_self ..)
    obtain ⟨y4, e⟩ := div_in n (x0 := x0) (x1 := x1) hu (W := W) (a := areaS u a w) (x4 := some (emb2 w)) fun w hw' => hw w (List.mem_cons_of_mem _ hw')
    refine ⟨y4, ?_⟩
    show forL _ _ none (emb2 w :: vD W) _ _ = _
    rw [List.foldl_cons]
    have m1 := mulB hu.1 w2 (by omega)
    have m2 := mulB hu.2 w1 (by omega)
    refine fCons (ρ1 := [x0, x1, some (.int (a : Nat)), some (emb2 u), some (emb2 w)]) (S1 := []) trivial (gNm (Nat.le_of_ble_eq_true rfl)) ?_ e
    exact bAsg (xCall (aCons (xV rfl) (aCons (xBin (xBin (xIx (xV rfl) xI ix_e0) (xIx (xV rfl) xI ix_e1) (binMul m1)) (xBin (xIx (xV rfl) xI ix_e1) (xIx (xV rfl) xI ix_e0) (binMul m2)) binSub) aNil)) (common_ok n _ _ [])) (gNm (Nat.le_of_ble_eq_true rfl)) bNil
theorem div_out (n : Nat) {vs : Wk.D} {W : List Vec} (hq : getQO [] vs = some (vD W)) (hr : toR vs = none) (hW : ∀ w ∈ W, Bi 100 w.1 ∧ Bi 100 w.2) : ∀ {U : List Vec} {c a : Nat} {x3 x4 : Option Wk.D}, (∀ u ∈ U, Bi 100 u.1 ∧ Bi 100 u.2) →
    ∃ y3 y4, forL (fun d ρ S => asT (runF gl defs (n + 1)) (.nm 3) d ρ S) (evB (runF gl defs (n + 1)) (.cons (.asg (.nm 1) (.call false "_law_common" (.cons (.v 1) (.cons (.call false "_law_common" (.cons (.ix (.v 3) (.cint 0)) (.cons (.ix (.v 3) (.cint 1)) .nil)) .nil) .nil)) .nil)) (.cons (.for_ (.nm 4) (.seq (.v 0)) (.cons (.asg (.nm 2) (.call false "_law_common" (.cons (.v 2) (.cons (.bin .sub (.bin .mul (.ix (.v 3) (.cint 0)) (.ix (.v 4) (.cint 1))) (.bin .mul (.ix (.v 3) (.cint 1)) (.ix (.v 4) (.cint 0)))) .nil)) .nil)) .nil)) .nil))) none
      (vD U) [some vs, some (.int (c : Nat)), some (.int (a : Nat)), x3, x4] [] = some (.ok [some vs, some (.int (U.foldl contS c : Nat)), some (.int (U.foldl (areaI W) a : Nat)), y3, y4] [] .nx)
  | [], c, a, x3, x4, _ => ⟨x3, x4, fNil trivial⟩
  | u :: U, c, a, x3, x4, hu => by
    have u1 := hu u (List.mem_cons_self ..)
    obtain ⟨z4, e1⟩ := div_in n (x0 := some vs) (x1 := some (.int (contS c u : Nat))) u1 (W := W) (a := a) (x4 := x4) hW
    obtain ⟨y3, y4, e⟩ := div_out n hq hr hW (U := U) (c := contS c u) (a := areaI W a u) (x3 := some (emb2 u)) (x4 := z4) fun w hw' => hu w (List.mem_cons_of_mem _ hw')
    refine ⟨y3, y4, ?_⟩
    show forL _ _ none (emb2 u :: vD U) _ _ = _
    rw [List.foldl_cons, List.foldl_cons]
    refine fCons (ρ1 := [some vs, some (.int (c : Nat)), some (.int (a : Nat)), some (emb2 u), x4]) (S1 := []) trivial (gNm (Nat.le_of_ble_eq_true rfl)) ?_ e
    have is := iSeq (o := runF gl defs (n + 1)) (a := .v 0) (ρ := [some vs, some (.int (contS c u : Nat)), some (.int (a : Nat)), some (emb2 u), x4]) (S := []) (xV rfl) hq
    rw [hr] at is
    exact bAsg (xCall (aCons (xV rfl) (aCons (xCall (aCons (xIx (xV rfl) xI ix_e0) (aCons (xIx (xV rfl) xI ix_e1) aNil)) (common_ok n _ _ [])) aNil)) (common_ok n _ _ [])) (gNm (Nat.le_of_ble_eq_true rfl)) (bCons (sFor is e1) bNil)
theorem div_ok (n : Nat) {vs : Wk.D} {V : List Vec} (hq : ∀ S, getQO S vs = some (vD V)) (hr : toR vs = none) (hn : noRef vs = true) (hV : ∀ w ∈ V, Bi 100 w.1 ∧ Bi 100 w.2) (S : Store) :
    (runF gl defs (n + 2)).call false "_law_divisors" [vs] [] S = some (.ok (.tup [.int (contF V : Nat), .int (areaF V : Nat)]) S) := by
  obtain ⟨y3, y4, e⟩ := div_out n (hq []) hr hV (U := V) (c := 0) (a := 0) (x3 := none) (x4 := none) hV
  have is := iSeq (o := runF gl defs (n + 1)) (a := .v 0) (ρ := [some vs, some (.int (0 : Nat)), some (.int (0 : Nat)), none, none]) (S := []) (xV rfl) (hq [])
  rw [hr] at is
  have run : evB (runF gl defs (n + 1)) d_law_divisors.body [some vs, none, none, none, none] [] = some (.ok [some vs, some (.int (contF V : Nat)), some (.int (areaF V : Nat)), y3, y4] [] (.rt (.tup [.int (contF V : Nat), .int (areaF V : Nat)]))) := by
    simp only [d_law_divisors]
    exact bAsg xI (gNm (Nat.le_of_ble_eq_true rfl)) (bAsg xI (gNm (Nat.le_of_ble_eq_true rfl)) (bCons (sFor is e) (bRet1 (xTup (aCons (xV rfl) (aCons (xV rfl) aNil)) rfl))))
  exact callP (F := d_law_divisors) rfl rfl (by show (noRef vs && true) = true; rw [hn] <;> rfl) run (Fix.tup (Fix.cons Fix.int (Fix.cons Fix.int Fix.nil)))
end K07
end K07Q_text

section K07R_text
set_option Elab.async false
set_option linter.all false
set_option maxRecDepth 100000
set_option maxHeartbeats 4000000
set_option exponentiation.threshold 100
namespace K07
open PySem PySem.Spec PyProof.Rows L2 StX Wk

theorem dvd_gcdI {k a b : Int} : k.natAbs ∣ Int.gcd a b ↔ k ∣ a ∧ k ∣ b := by
  unfold Int.gcd
  rw [Nat.dvd_gcd_iff, Int.natAbs_dvd_natAbs, Int.natAbs_dvd_natAbs]
theorem dvd_contS {k c : Nat} {v : Vec} : k ∣ contS c v ↔ k ∣ c ∧ (k : Int) ∣ v.1 ∧ (k : Int) ∣ v.2 := by
  have h1 := dvd_gcdI (k := (k : Int)) (a := (c : Nat)) (b := (Int.gcd v.1 v.2 : Nat))
  have h2 := dvd_gcdI (k := (k : Int)) (a := v.1) (b := v.2)
  rw [Int.natAbs_natCast] at h1 h2
  unfold contS
  rw [h1, Int.natCast_dvd_natCast, Int.natCast_dvd_natCast, h2]
theorem dvd_areaS {k c : Nat} {u v : Vec} : k ∣ areaS u c v ↔ k ∣ c ∧ (k : Int) ∣ minor u v := by
  have h1 := dvd_gcdI (k := (k : Int)) (a := (c : Nat)) (b := minor u v)
  rw [Int.natAbs_natCast] at h1
  unfold areaS
  rw [h1, Int.natCast_dvd_natCast]
theorem dvd_contL {k : Nat} : ∀ {V : List Vec} {c : Nat}, k ∣ V.foldl contS c ↔ k ∣ c ∧ ∀ v ∈ V, (k : Int) ∣ v.1 ∧ (k : Int) ∣ v.2
  | [], c => by simp
  | v :: V, c => by rw [List.foldl_cons, dvd_contL, dvd_contS]; simp [and_assoc]
theorem dvd_areaI {k : Nat} {u : Vec} : ∀ {V : List Vec} {c : Nat}, k ∣ V.foldl (areaS u) c ↔ k ∣ c ∧ ∀ v ∈ V, (k : Int) ∣ minor u v
  | [], c => by simp
  | v :: V, c => by rw [List.foldl_cons, dvd_areaI, dvd_areaS]; simp [and_assoc]
theorem dvd_areaL {k : Nat} {W : List Vec} : ∀ {V : List Vec} {c : Nat}, k ∣ V.foldl (areaI W) c ↔ k ∣ c ∧ ∀ v ∈ V, ∀ w ∈ W, (k : Int) ∣ minor v w
  | [], c => by simp
  | v :: V, c => by
    have : k ∣ areaI W c v ↔ k ∣ c ∧ ∀ w ∈ W, (k : Int) ∣ minor v w := dvd_areaI
    rw [List.foldl_cons, dvd_areaL, this]; simp [and_assoc]
theorem dvd_cont {k : Nat} {V : List Vec} : k ∣ contF V ↔ ∀ v ∈ V, (k : Int) ∣ v.1 ∧ (k : Int) ∣ v.2 := by
  unfold contF; rw [dvd_contL]; simp
theorem dvd_area {k : Nat} {V : List Vec} : k ∣ areaF V ↔ ∀ v ∈ V, ∀ w ∈ V, (k : Int) ∣ minor v w := by
  unfold areaF; rw [dvd_areaL]; simp
theorem nat_eq_of_dvd {m n : Nat} (h : ∀ k, k ∣ m ↔ k ∣ n) : m = n := Nat.dvd_antisymm ((h m).mp (Nat.dvd_refl m)) ((h n).mpr (Nat.dvd_refl n))
theorem minor_anti {u w : Vec} : minor w u = - minor u w := by unfold minor; grind
theorem minor_self {u : Vec} : minor u u = 0 := by unfold minor; grind
theorem minor_add {u w v : Vec} {c : Int} : minor u (w.1 + c * v.1, w.2 + c * v.2) = minor u w + c * minor u v := by unfold minor; grind
theorem sp_minor {k : Int} {V : List Vec} {u t : Vec} (h : ∀ v ∈ V, k ∣ minor u v) (ht : Sp V t) : k ∣ minor u t := by
  induction ht with
  | zero => unfold minor; simp
  | @add v t c hv _ ih =>
    have e : minor u (t.1 + c * v.1, t.2 + c * v.2) = minor u t + c * minor u v := minor_add
    rw [e]
    exact Int.dvd_add ih (Int.dvd_mul_of_dvd_right (h v hv))
theorem sp_cont {k : Int} {V : List Vec} {t : Vec} (h : ∀ v ∈ V, k ∣ v.1 ∧ k ∣ v.2) (ht : Sp V t) : k ∣ t.1 ∧ k ∣ t.2 := by
  induction ht with
  | zero => simp
  | @add v t c hv _ ih => exact ⟨Int.dvd_add ih.1 (Int.dvd_mul_of_dvd_right (h v hv).1), Int.dvd_add ih.2 (Int.dvd_mul_of_dvd_right (h v hv).2)⟩
def Member (V : List Vec) (t : Vec) : Prop := areaF (V ++ [t]) = areaF V ∧ (0 < areaF V ∨ contF (V ++ [t]) = contF V)
theorem member_of_sp {V : List Vec} {t : Vec} (ht : Sp V t) : Member V t := by
  refine ⟨nat_eq_of_dvd fun k => ?_, .inr (nat_eq_of_dvd fun k => ?_)⟩
  · rw [dvd_area, dvd_area]
    constructor
    · intro h v hv w hw
      exact h v (List.mem_append_left _ hv) w (List.mem_append_left _ hw)
    · intro h v hv w hw
      rcases List.mem_append.mp hv with hv | hv
      · rcases List.mem_append.mp hw with hw | hw
        · exact h v hv w hw
        · rw [List.mem_singleton.mp hw]; exact sp_minor (h v hv) ht
      · rw [List.mem_singleton.mp hv]
        have a1 : ∀ w ∈ V, (k : Int) ∣ minor t w := fun w hw => by
          rw [minor_anti]; exact Int.dvd_neg.mpr (sp_minor (h w hw) ht)
        rcases List.mem_append.mp hw with hw | hw
        · exact a1 w hw
        · rw [List.mem_singleton.mp hw, minor_self]; exact Int.dvd_zero _
  · rw [dvd_cont, dvd_cont]
    constructor
    · intro h v hv
      exact h v (List.mem_append_left _ hv)
    · intro h v hv
      rcases List.mem_append.mp hv with hv | hv
      · exact h v hv
      · rw [List.mem_singleton.mp hv]; exact sp_cont h ht
theorem member_area {V : List Vec} {t : Vec} (h : Member V t) : ∀ u, Sp V u → ((areaF V : Nat) : Int) ∣ minor u t := by
  intro u hu
  have h1 := (dvd_area (k := areaF V) (V := V ++ [t])).mp (by rw [h.1]; exact Nat.dvd_refl _)
  rw [minor_anti]
  exact Int.dvd_neg.mpr (sp_minor (fun v hv => h1 t (List.mem_append_right _ (List.mem_singleton.mpr rfl)) v (List.mem_append_left _ hv)) hu)
theorem member_cont {V : List Vec} {t : Vec} (h : contF (V ++ [t]) = contF V) {k : Int} (hk : ∀ v ∈ V, k ∣ v.1 ∧ k ∣ v.2) : k ∣ t.1 ∧ k ∣ t.2 := by
  have h1 : k.natAbs ∣ contF V := dvd_cont.mpr fun v hv => by rw [Int.natAbs_dvd, Int.natAbs_dvd]; exact hk v hv
  rw [← h] at h1
  have h2 := dvd_cont.mp h1 t (List.mem_append_right _ (List.mem_singleton.mpr rfl))
  rwa [Int.natAbs_dvd, Int.natAbs_dvd] at h2
theorem gcdOne {a b : Int} (h : 0 < Int.gcd a b) : ∃ x y : Int, Int.gcd x y = 1 ∧ a = x * (Int.gcd a b : Nat) ∧ b = y * (Int.gcd a b : Nat) :=
  ⟨a / (Int.gcd a b : Nat), b / (Int.gcd a b : Nat), Int.gcd_ediv_gcd_ediv_gcd h, (Int.ediv_mul_cancel (Int.gcd_dvd_left ..)).symm, (Int.ediv_mul_cancel (Int.gcd_dvd_right ..)).symm⟩
theorem dvdOne {x y z : Int} (h : x ∣ y * z) (hg : Int.gcd x y = 1) : x ∣ z := by
  have h1 : x.natAbs ∣ y.natAbs * z.natAbs := by rw [← Int.natAbs_mul]; exact Int.natAbs_dvd_natAbs.mpr h
  exact Int.natAbs_dvd_natAbs.mp (Nat.Coprime.dvd_of_dvd_mul_left (show Nat.Coprime x.natAbs y.natAbs from hg) h1)
/-- all on one line -/
theorem line {V : List Vec} {t : Vec} {a b : Int} (hs : Sp V (a, b)) (hv : ∀ v ∈ V, ∃ p : Int, v.1 = p * a ∧ v.2 = p * b) (hm : minor (a, b) t = 0) (hc : contF (V ++ [t]) = contF V) : Sp V t := by
  have hm : a * t.2 = b * t.1 := by unfold minor at hm; show a * t.2 = b * t.1; have : a * t.2 - b * t.1 = 0 := hm; omega
  by_cases ha : a = 0
  · subst ha
    by_cases hb : b = 0
    · subst hb
      obtain ⟨z1, z2⟩ := member_cont hc (k := 0) fun v hv' => by
        obtain ⟨p, e1, e2⟩ := hv v hv'
        rw [e1, e2]; simp
      exact Sp.zero.cast (Int.zero_dvd.mp z1).symm (Int.zero_dvd.mp z2).symm
    · obtain ⟨_, ⟨q, e⟩⟩ := member_cont hc (k := b) fun v hv' => by
        obtain ⟨p, e1, e2⟩ := hv v hv'
        rw [e1, e2]; simp
      have : b * t.1 = 0 := by rw [← hm]; simp
      rcases Int.mul_eq_zero.mp this with z | z
      · exact absurd z hb
      · exact (hs.times q).cast (by simp [z]) (by rw [e]; exact Int.mul_comm ..)
  · have g0 : 0 < Int.gcd a b := Int.gcd_pos_of_ne_zero_left b ha
    obtain ⟨x, y, hxy, ea, eb⟩ := gcdOne g0
    obtain ⟨⟨t1, e1⟩, ⟨t2, e2⟩⟩ := member_cont hc (k := (Int.gcd a b : Nat)) fun v hv' => by
      obtain ⟨p, e1, e2⟩ := hv v hv'
      rw [e1, e2]
      exact ⟨Int.dvd_mul_of_dvd_right (Int.gcd_dvd_left ..), Int.dvd_mul_of_dvd_right (Int.gcd_dvd_right ..)⟩
    have gi : ((Int.gcd a b : Nat) : Int) ≠ 0 := by omega
    generalize ((Int.gcd a b : Nat) : Int) = g at *
    have x0 : x ≠ 0 := fun z => ha (by rw [ea, z]; simp)
    have k1 : x * t2 = y * t1 := by
      have : (g * g) * (x * t2) = (g * g) * (y * t1) := by rw [ea, eb, e1, e2] at hm; grind
      exact Int.eq_of_mul_eq_mul_left (Int.mul_ne_zero gi gi) this
    have k2 : x ∣ t1 := dvdOne ⟨t2, k1.symm⟩ hxy
    obtain ⟨p, rfl⟩ := k2
    have k3 : t2 = y * p := Int.eq_of_mul_eq_mul_left x0 (by rw [k1]; grind)
    refine (hs.times p).cast ?_ ?_
    · show p * a = t.1
      rw [e1, ea]; grind
    · show p * b = t.2
      rw [e2, k3, eb]; grind
theorem sp_of_member {V : List Vec} {t : Vec} {a b d : Int} (hab : a = 0 → b = 0) (h1 : Sp V (a, b)) (h2 : Sp V (0, d)) (hv : ∀ v ∈ V, ∃ p q : Int, v.1 = p * a ∧ v.2 = p * b + q * d) (h : Member V t) : Sp V t := by
  have A1 : (a * d) ∣ ((areaF V : Nat) : Int) := by
    have : (a * d).natAbs ∣ areaF V := dvd_area.mpr fun v hv1 w hw1 => by
      obtain ⟨p, q, e1, e2⟩ := hv v hv1
      obtain ⟨p', q', e3, e4⟩ := hv w hw1
      rw [Int.natAbs_dvd]
      exact ⟨p * q' - q * p', by unfold minor; rw [e1, e2, e3, e4]; grind⟩
    rwa [← Int.natAbs_dvd, Int.natCast_dvd_natCast]
  have m1 := member_area h _ h1
  have m2 := member_area h _ h2
  by_cases had : a * d = 0
  · rw [had] at A1
    have A0 : ((areaF V : Nat) : Int) = 0 := Int.zero_dvd.mp A1
    rw [A0] at m1 m2
    have hc : contF (V ++ [t]) = contF V := by
      rcases h.2 with q | q
      · omega
      · exact q
    by_cases ha : a = 0
    · have hb := hab ha
      subst ha hb
      exact line h2 (fun v hv1 => by
        obtain ⟨p, q, e1, e2⟩ := hv v hv1
        exact ⟨q, by rw [e1]; simp, by rw [e2]; simp⟩) (Int.zero_dvd.mp m2) hc
    · have hd : d = 0 := by
        rcases Int.mul_eq_zero.mp had with z | z
        · exact absurd z ha
        · exact z
      subst hd
      exact line h1 (fun v hv1 => by
        obtain ⟨p, q, e1, e2⟩ := hv v hv1
        exact ⟨p, e1, by rw [e2]; simp⟩) (Int.zero_dvd.mp m1) hc
  · have a0 : a ≠ 0 := fun z => had (by rw [z]; simp)
    have d0 : d ≠ 0 := fun z => had (by rw [z]; simp)
    obtain ⟨x, ex⟩ := Int.dvd_trans A1 m2
    obtain ⟨y, ey⟩ := Int.dvd_trans A1 m1
    have ex : 0 * t.2 - d * t.1 = a * d * x := ex
    have ey : a * t.2 - b * t.1 = a * d * y := ey
    have k1 : t.1 = -x * a := Int.eq_of_mul_eq_mul_left d0 (by grind)
    have k2 : t.2 = -x * b + y * d := Int.eq_of_mul_eq_mul_left a0 (by rw [k1] at ey; grind)
    refine ((h1.times (-x)).plus (h2.times y)).cast ?_ ?_
    · show -x * a + y * 0 = t.1
      omega
    · show -x * b + y * d = t.2
      omega
theorem stair_member {V : List Vec} {f s : Option (List Int)} {rels : List (List Int)} (st : Stair V f s rels) {t : Vec} (h : Member V t) : Sp V t := by
  refine sp_of_member (a := f.elim 0 (cv 0)) (b := f.elim 0 (cv 1)) (d := s.elim 0 (cv 1)) ?_ ?_ ?_ ?_ h
  · cases hf : f with
    | none => intro _; rfl
    | some y => intro z; exact absurd z (st.hf y hf).2.1
  · cases hf : f with
    | none => exact Sp.zero
    | some y => exact row_sp (st.hf y hf).1
  · cases hs : s with
    | none => exact Sp.zero
    | some y => exact (row_sp (st.hs y hs).1).cast (st.hs y hs).2.1 rfl
  · intro v hv
    obtain ⟨p, q, e1, e2⟩ := sp_shape (st.all v hv)
    refine ⟨p, q, ?_, e2⟩
    rw [e1]
    cases hs : s with
    | none => simp
    | some y => rw [Option.elim_some, (st.hs y hs).2.1]; simp
theorem member_iff (n : Nat) {V : List Vec} {t : Vec} (hV : V.length ≤ 8) (hb : ∀ v ∈ V, v.1.natAbs ≤ 2 ^ 44 ∧ v.2.natAbs ≤ 2 ^ 44) : Member V t ↔ Sp V t := by
  obtain ⟨f, s, rels, st, _⟩ := stair_ok n hV hb
  exact ⟨stair_member st, member_of_sp⟩
end K07
end K07R_text

section K07S_text
set_option Elab.async false
set_option linter.all false
set_option maxRecDepth 100000
set_option maxHeartbeats 4000000
set_option exponentiation.threshold 100
local macro_rules | `(tactic| get_elem_tactic_trivial) => `(tactic| first
  | with_reducible exact Wk.xI | with_reducible exact Wk.xB | with_reducible exact Wk.xN | with_reducible exact Wk.xS | with_reducible exact Wk.aNil | with_reducible exact Wk.bNil | with_reducible exact Wk.allN | with_reducible exact Wk.anyN | with_reducible exact Wk.tBl
  | ((with_reducible apply Wk.xV); exact rfl) | ((with_reducible apply Wk.xG); exact rfl) | ((with_reducible apply Wk.gNm); exact Nat.le_of_ble_eq_true rfl)
  | with_reducible apply Wk.xBin | with_reducible apply Wk.xNeg | with_reducible apply Wk.xCmp | with_reducible apply Wk.xTup | with_reducible apply Wk.xLst | with_reducible apply Wk.xIx | with_reducible apply Wk.xSlL | with_reducible apply Wk.xSlH
  | with_reducible apply Wk.xBi | with_reducible apply Wk.xCall | with_reducible apply Wk.xLo | with_reducible apply Wk.xRep | with_reducible apply Wk.xLm | with_reducible apply Wk.xComp | with_reducible apply Wk.aCons | with_reducible apply Wk.aStar
  | with_reducible apply Wk.bRet1 | with_reducible apply Wk.sAsg | with_reducible apply Wk.sExpr | with_reducible exact Wk.gsN | with_reducible apply Wk.gsC | ((with_reducible apply Wk.gTp); exact rfl) | with_reducible apply Wk.gSub
  | with_reducible apply Wk.iSeq | with_reducible apply Wk.iR1 | with_reducible apply Wk.iR2 | with_reducible apply Wk.iZip | with_reducible apply Wk.iEnum
  | with_reducible apply Wk.bAsg | with_reducible apply Wk.bExpr
  | with_reducible apply Wk.tCmp | with_reducible apply Wk.tNot | with_reducible apply Wk.tBi | with_reducible apply Wk.tCall | ((with_reducible apply Wk.tV); exact rfl)
  | with_reducible exact Wk.binAdd | with_reducible exact Wk.binSub | ((with_reducible apply Wk.binMul); first | assumption | decide +kernel) | ((with_reducible apply Wk.binPow); first | assumption | decide +kernel) | ((with_reducible apply Wk.binMod); first | assumption | decide +kernel) | ((with_reducible apply Wk.binFdiv); first | assumption | decide +kernel)
  | ((with_reducible apply Wk.kBin); first | assumption | exact rfl | exact Wk.binMul (by assumption) | exact Wk.binFdiv (by assumption) | exact Wk.binMod (by assumption))
  | ((with_reducible apply Wk.cLtT); assumption) | ((with_reducible apply Wk.cLtF); assumption) | ((with_reducible apply Wk.cGtT); assumption) | ((with_reducible apply Wk.cGtF); assumption) | ((with_reducible apply Wk.cEqT); assumption) | ((with_reducible apply Wk.cEqF); assumption) | ((with_reducible apply Wk.cNeT); assumption) | ((with_reducible apply Wk.cNeF); assumption) | ((with_reducible apply Wk.kCmp); first | assumption | exact rfl)
  | ((with_reducible apply Wk.kIx); first | assumption | exact rfl) | ((with_reducible apply Wk.kBi); first | assumption | exact rfl) | ((with_reducible apply Wk.kQ); first | assumption | exact rfl) | ((with_reducible apply Wk.kTru); first | assumption | exact rfl)
  | ((with_reducible apply Wk.kAt); first | assumption | exact rfl) | ((with_reducible apply Wk.kIxN); first | assumption | exact rfl) | ((with_reducible apply Wk.kLen); first | assumption | exact rfl)
  | ((with_reducible apply Wk.kMk); first | assumption | exact Wk.mkLF rfl | exact Wk.mkLN rfl | exact Wk.mkLF (by assumption) | exact Wk.mkLN (by assumption)) | assumption | ((with_reducible apply Wk.kB); exact rfl))
namespace K07
open PySem PySem.Spec PyProof.Rows L2 StX Wk

theorem zip_sum (f : Vec → Int) : ∀ (V : List Vec) (c : List Int), ((V.zip c).map fun p => f p.1 * p.2).sum = dot c (V.map f)
  | [], c => by rw [List.map_nil, dot_nil2] <;> rfl
  | v :: V, [] => by rw [dot_nil] <;> rfl
  | v :: V, x :: c => by
    rw [List.zip_cons_cons, List.map_cons, List.sum_cons, zip_sum f V c, List.map_cons, dot_cons, Int.mul_comm]
theorem zip_vc (V : List Vec) (c : List Int) : ((vD V).zip (c.map D.int)).map (fun p => D.tup [p.1, p.2]) = (V.zip c).map fun p => D.tup [emb2 p.1, .int p.2] := by
  unfold vD
  rw [List.zip_map, List.map_map]
  rfl
theorem sum_ok (n : Nat) {V : List Vec} {c : List Int} {cs : Wk.D} (hq : ∀ S, getQO S cs = some (c.map D.int)) (hr : toR cs = none) (hn : noRef cs = true) (hl : V.length ≤ 1000) (hV : ∀ w ∈ V, Bi 100 w.1 ∧ Bi 100 w.2) (hc : ∀ x ∈ c, Bi 200000 x) (S : Store) :
    (runF gl defs (n + 1)).call false "_law_sum" [.tup (vD V), cs] [] S = some (.ok (emb2 (dot c (V.map (·.1)), dot c (V.map (·.2)))) S) := by
  have hz : (V.zip c).length ≤ 1000 := by rw [List.length_zip]; omega
  have nr : (none : Option Nat) = toR cs := hr.symm
  have it : ∀ ρ, ρ[0]? = some (some (.tup (vD V))) → ρ[1]? = some (some cs) → evI (runF gl defs n) (.zip (.v 0) (.v 1)) ρ [] = some (.ok (none, (V.zip c).map fun p => D.tup [emb2 p.1, .int p.2]) []) := fun ρ h0 h1 => by
    rw [← zip_vc]
    exact iZip (xV h0) (xV h1) rfl (hq []) (by rw [hr] <;> rfl)
  have body : ∀ (k : Nat) (f : Vec → Int) (ρ : Env') (y3 y4 : Option Wk.D) (x0 x1 x2 : Option Wk.D), (∀ v ∈ V, Bi 100 (f v)) → (∀ v S, ixO S (emb2 v) (.int k) = some (.int (f v))) →
      compL (fun d ρ S => asT (runF gl defs n) (.tp (.cons (.nm 3) (.cons (.nm 4) .nil))) d ρ S) (fun ρ => evAll (runF gl defs n) .nil ρ) (fun ρ => evE (runF gl defs n) (.bin .mul (.ix (.v 3) (.cint k)) (.v 4)) ρ) [x0, x1, x2, none, none] none [] ((V.zip c).map fun p => D.tup [emb2 p.1, .int p.2]) [] =
        some ((V.zip c).map (fun p => D.int (f p.1 * p.2)), []) := fun k f ρ y3 y4 x0 x1 x2 hf hk => by
    refine compOf (V.zip c) _ (fun p => D.int (f p.1 * p.2)) trivial (by omega) fun p hp => ⟨[x0, x1, x2, some (emb2 p.1), some (.int p.2)], gTp rfl (gsC (gNm (Nat.le_of_ble_eq_true rfl)) (gsC (gNm (Nat.le_of_ble_eq_true rfl)) gsN)), allN, ?_⟩
    have m := mulB (hf p.1 (List.of_mem_zip hp).1) (hc p.2 (List.of_mem_zip hp).2) (by omega)
    exact xBin (xIx (xV rfl) xI (hk p.1 [])) (xV rfl) (binMul m)
  have lz : ∀ f : Vec → Int, lenOk ((V.zip c).map fun p => D.int (f p.1 * p.2)).length = true := fun f => lenOk_of (by rw [List.length_map]; omega)
  have sm : ∀ (f : Vec → Int), biO [] .sum [.lst ((V.zip c).map fun p => D.int (f p.1 * p.2))] = some (.int (dot c (V.map f))) := fun f => by
    rw [← zip_sum]
    have : (V.zip c).map (fun p => D.int (f p.1 * p.2)) = ((V.zip c).map fun p => f p.1 * p.2).map D.int := by rw [List.map_map]; rfl
    rw [this]
    exact bi_sum
  have run : evB (runF gl defs n) d_law_sum.body [some (.tup (vD V)), some cs, none, none, none] [] = some (.ok [some (.tup (vD V)), some cs, some (.int (dot c (V.map (·.1)))), none, none] [] (.rt (emb2 (dot c (V.map (·.1)), dot c (V.map (·.2)))))) := by
    simp only [d_law_sum]
    refine bAsg (xBi (aCons (xComp (it _ rfl rfl) (body 0 (·.1) [] none none _ _ _ (fun v hv => (hV v hv).1) fun v S => rfl) (mkLF (lz _))) aNil) (sm (·.1))) (gNm (Nat.le_of_ble_eq_true rfl)) ?_
    exact bRet1 (xTup (aCons (xV rfl) (aCons (xBi (aCons (xComp (it _ rfl rfl) (body 1 (·.2) [] none none _ _ _ (fun v hv => (hV v hv).2) fun v S => rfl) (mkLF (lz _))) aNil) (sm (·.2))) aNil)) rfl)
  refine callP (F := d_law_sum) rfl rfl ?_ run (Fix.tup (Fix.cons Fix.int (Fix.cons Fix.int Fix.nil)))
  show (noRefs (vD V) && (noRef cs && true)) = true
  rw [hn, noRef_vD] <;> rfl
end K07
end K07S_text

section K07U_text
set_option Elab.async false
set_option linter.all false
set_option maxRecDepth 100000
set_option maxHeartbeats 4000000
set_option exponentiation.threshold 100
local macro_rules | `(tactic| get_elem_tactic_trivial) => `(tactic| first
  | with_reducible exact Wk.xI | with_reducible exact Wk.xB | with_reducible exact Wk.xN | with_reducible exact Wk.xS | with_reducible exact Wk.aNil | with_reducible exact Wk.bNil | with_reducible exact Wk.allN | with_reducible exact Wk.anyN | with_reducible exact Wk.tBl
  | ((with_reducible apply Wk.xV); exact rfl) | ((with_reducible apply Wk.xG); exact rfl) | ((with_reducible apply Wk.gNm); exact Nat.le_of_ble_eq_true rfl)
  | with_reducible apply Wk.xBin | with_reducible apply Wk.xNeg | with_reducible apply Wk.xCmp | with_reducible apply Wk.xTup | with_reducible apply Wk.xLst | with_reducible apply Wk.xIx | with_reducible apply Wk.xSlL | with_reducible apply Wk.xSlH
  | with_reducible apply Wk.xBi | with_reducible apply Wk.xCall | with_reducible apply Wk.xLo | with_reducible apply Wk.xRep | with_reducible apply Wk.xLm | with_reducible apply Wk.xComp | with_reducible apply Wk.aCons | with_reducible apply Wk.aStar
  | with_reducible apply Wk.bRet1 | with_reducible apply Wk.sAsg | with_reducible apply Wk.sExpr | with_reducible exact Wk.gsN | with_reducible apply Wk.gsC | ((with_reducible apply Wk.gTp); exact rfl) | with_reducible apply Wk.gSub
  | with_reducible apply Wk.iSeq | with_reducible apply Wk.iR1 | with_reducible apply Wk.iR2 | with_reducible apply Wk.iZip | with_reducible apply Wk.iEnum
  | with_reducible apply Wk.bAsg | with_reducible apply Wk.bExpr
  | with_reducible apply Wk.tCmp | with_reducible apply Wk.tNot | with_reducible apply Wk.tBi | with_reducible apply Wk.tCall | ((with_reducible apply Wk.tV); exact rfl)
  | with_reducible exact Wk.binAdd | with_reducible exact Wk.binSub | ((with_reducible apply Wk.binMul); first | assumption | decide +kernel) | ((with_reducible apply Wk.binPow); first | assumption | decide +kernel) | ((with_reducible apply Wk.binMod); first | assumption | decide +kernel) | ((with_reducible apply Wk.binFdiv); first | assumption | decide +kernel)
  | ((with_reducible apply Wk.kBin); first | assumption | exact rfl | exact Wk.binMul (by assumption) | exact Wk.binFdiv (by assumption) | exact Wk.binMod (by assumption))
  | ((with_reducible apply Wk.cLtT); assumption) | ((with_reducible apply Wk.cLtF); assumption) | ((with_reducible apply Wk.cGtT); assumption) | ((with_reducible apply Wk.cGtF); assumption) | ((with_reducible apply Wk.cEqT); assumption) | ((with_reducible apply Wk.cEqF); assumption) | ((with_reducible apply Wk.cNeT); assumption) | ((with_reducible apply Wk.cNeF); assumption) | ((with_reducible apply Wk.kCmp); first | assumption | exact rfl)
  | ((with_reducible apply Wk.kIx); first | assumption | exact rfl) | ((with_reducible apply Wk.kBi); first | assumption | exact rfl) | ((with_reducible apply Wk.kQ); first | assumption | exact rfl) | ((with_reducible apply Wk.kTru); first | assumption | exact rfl)
  | ((with_reducible apply Wk.kAt); first | assumption | exact rfl) | ((with_reducible apply Wk.kIxN); first | assumption | exact rfl) | ((with_reducible apply Wk.kLen); first | assumption | exact rfl)
  | ((with_reducible apply Wk.kMk); first | assumption | exact Wk.mkLF rfl | exact Wk.mkLN rfl | exact Wk.mkLF (by assumption) | exact Wk.mkLN (by assumption)) | assumption | ((with_reducible apply Wk.kB); exact rfl))
namespace K07
open PySem PySem.Spec PyProof.Rows L2 StX Wk

theorem vD_app {V : List Vec} {t : Vec} : vD V ++ [emb2 t] = vD (V ++ [t]) := by
  unfold vD
  rw [List.map_append] <;> rfl
theorem bi_mono {x : Int} {k l : Nat} (h : Bi k x) (hk : k ≤ l) : Bi l x := Nat.le_trans h hk
theorem member_ok (n : Nat) {V : List Vec} {t : Vec} (hl : V.length ≤ 1000) (hV : ∀ w ∈ V, Bi 100 w.1 ∧ Bi 100 w.2) (ht : Bi 100 t.1 ∧ Bi 100 t.2) :
    ∃ k : Bool, (k = true ↔ Member V t) ∧ ∀ S, (runF gl defs (n + 3)).call false "_law_member" [.tup (vD V), emb2 t] [] S = some (.ok (.bl k) S) := by
  have lv : (vD V).length = V.length := by unfold vD; exact List.length_map ..
  have c1 : ∀ S, (runF gl defs (n + 2)).call false "_law_divisors" [.tup (vD V)] [] S = some (.ok (.tup [.int (contF V : Nat), .int (areaF V : Nat)]) S) := fun S => div_ok n (vs := .tup (vD V)) (fun S => rfl) rfl (noRef_vD V) hV S
  have c2 : ∀ S, (runF gl defs (n + 2)).call false "_law_divisors" [.lst (vD (V ++ [t]))] [] S = some (.ok (.tup [.int (contF (V ++ [t]) : Nat), .int (areaF (V ++ [t]) : Nat)]) S) := fun S => div_ok n (vs := .lst (vD (V ++ [t]))) (fun S => rfl) rfl (noRef_vD _) (fun w hw => by
    rcases List.mem_append.mp hw with q | q
    · exact hV w q
    · rw [List.mem_singleton.mp q]; exact ht) S
  have ad : binO .add (.lst (vD V)) (.lst [emb2 t]) = some (.lst (vD (V ++ [t]))) := by
    rw [← vD_app]
    show ((none : Option Wk.D) <|> (none : Option Wk.D) <|> (if lenOk ((vD V).length + 1) then some (D.lst (vD V ++ [emb2 t])) else none) <|> _) = _
    rw [if_pos (lenOk_of (by omega))] <;> rfl
  have hv : ∃ k : Bool, (k = true ↔ Member V t) ∧ evE (runF gl defs (n + 2)) (.and_ (.cons (.cmp .eq (.v 5) (.v 3)) (.cons (.or_ (.cons (.cmp .gt (.v 3) (.cint 0)) (.cons (.cmp .eq (.v 4) (.v 2)) .nil))) .nil)))
      [some (.tup (vD V)), some (emb2 t), some (.int (contF V : Nat)), some (.int (areaF V : Nat)), some (.int (contF (V ++ [t]) : Nat)), some (.int (areaF (V ++ [t]) : Nat))] [] = some (.ok (.bl k) []) := by
    by_cases h1 : areaF (V ++ [t]) = areaF V
    · by_cases h2 : 0 < areaF V
      · exact ⟨true, ⟨fun _ => ⟨h1, .inl h2⟩, fun _ => rfl⟩, xAnd (nAndT (xCmp (xV rfl) (xV rfl) (cEqT (by rw [h1]))) (nAnd1 (xOr (nOrT (xCmp (xV rfl) xI (cGtT (by omega)))))))⟩
      · by_cases h3 : contF (V ++ [t]) = contF V
        · exact ⟨true, ⟨fun _ => ⟨h1, .inr h3⟩, fun _ => rfl⟩, xAnd (nAndT (xCmp (xV rfl) (xV rfl) (cEqT (by rw [h1]))) (nAnd1 (xOr (nOrF (xCmp (xV rfl) xI (cGtF (by omega))) (nOr1 (xCmp (xV rfl) (xV rfl) (cEqT (by rw [h3]))))))))⟩
        · refine ⟨false, ⟨fun h => (by cases h), fun h => ?_⟩, xAnd (nAndT (xCmp (xV rfl) (xV rfl) (cEqT (by rw [h1]))) (nAnd1 (xOr (nOrF (xCmp (xV rfl) xI (cGtF (by omega))) (nOr1 (xCmp (xV rfl) (xV rfl) (cEqF (by omega))))))))⟩
          rcases h.2 with q | q
          · exact absurd q h2
          · exact absurd q h3
    · exact ⟨false, ⟨fun h => (by cases h), fun h => absurd h.1 h1⟩, xAnd (nAndF (xCmp (xV rfl) (xV rfl) (cEqF (by omega))))⟩
  obtain ⟨k, hk, ev⟩ := hv
  refine ⟨k, hk, fun S => ?_⟩
  have run : evB (runF gl defs (n + 2)) d_law_member.body [some (.tup (vD V)), some (emb2 t), none, none, none, none] [] = some (.ok [some (.tup (vD V)), some (emb2 t), some (.int (contF V : Nat)), some (.int (areaF V : Nat)), some (.int (contF (V ++ [t]) : Nat)), some (.int (areaF (V ++ [t]) : Nat))] [] (.rt (.bl k))) := by
    simp only [d_law_member]
    refine bAsg (xCall (aCons (xV rfl) aNil) (c1 _)) (gTp rfl (gsC (gNm (Nat.le_of_ble_eq_true rfl)) (gsC (gNm (Nat.le_of_ble_eq_true rfl)) gsN))) ?_
    refine bAsg (xCall (aCons (xBin (xLo (xV rfl) rfl (mkLF (lenOk_of (by omega)))) (xLst (aCons (xV rfl) aNil) (mkLF rfl)) ad) aNil) (c2 _)) (gTp rfl (gsC (gNm (Nat.le_of_ble_eq_true rfl)) (gsC (gNm (Nat.le_of_ble_eq_true rfl)) gsN))) ?_
    exact bRet1 ev
  refine callP (F := d_law_member) rfl rfl ?_ run Fix.bl
  show (noRefs (vD V) && (noRef (emb2 t) && true)) = true
  rw [noRef_vD] <;> rfl
end K07
end K07U_text

section K07V_text
set_option Elab.async false
set_option linter.all false
set_option maxRecDepth 100000
set_option maxHeartbeats 4000000
set_option exponentiation.threshold 100
local macro_rules | `(tactic| get_elem_tactic_trivial) => `(tactic| first
  | with_reducible exact Wk.xI | with_reducible exact Wk.xB | with_reducible exact Wk.xN | with_reducible exact Wk.xS | with_reducible exact Wk.aNil | with_reducible exact Wk.bNil | with_reducible exact Wk.allN | with_reducible exact Wk.anyN | with_reducible exact Wk.tBl
  | ((with_reducible apply Wk.xV); exact rfl) | ((with_reducible apply Wk.xG); exact rfl) | ((with_reducible apply Wk.gNm); exact Nat.le_of_ble_eq_true rfl)
  | with_reducible apply Wk.xBin | with_reducible apply Wk.xNeg | with_reducible apply Wk.xCmp | with_reducible apply Wk.xTup | with_reducible apply Wk.xLst | with_reducible apply Wk.xIx | with_reducible apply Wk.xSlL | with_reducible apply Wk.xSlH
  | with_reducible apply Wk.xBi | with_reducible apply Wk.xCall | with_reducible apply Wk.xLo | with_reducible apply Wk.xRep | with_reducible apply Wk.xLm | with_reducible apply Wk.xComp | with_reducible apply Wk.aCons | with_reducible apply Wk.aStar
  | with_reducible apply Wk.bRet1 | with_reducible apply Wk.sAsg | with_reducible apply Wk.sExpr | with_reducible exact Wk.gsN | with_reducible apply Wk.gsC | ((with_reducible apply Wk.gTp); exact rfl) | with_reducible apply Wk.gSub
  | with_reducible apply Wk.iSeq | with_reducible apply Wk.iR1 | with_reducible apply Wk.iR2 | with_reducible apply Wk.iZip | with_reducible apply Wk.iEnum
  | with_reducible apply Wk.bAsg | with_reducible apply Wk.bExpr
  | with_reducible apply Wk.tCmp | with_reducible apply Wk.tNot | with_reducible apply Wk.tBi | with_reducible apply Wk.tCall | ((with_reducible apply Wk.tV); exact rfl)
  | with_reducible exact Wk.binAdd | with_reducible exact Wk.binSub | ((with_reducible apply Wk.binMul); first | assumption | decide +kernel) | ((with_reducible apply Wk.binPow); first | assumption | decide +kernel) | ((with_reducible apply Wk.binMod); first | assumption | decide +kernel) | ((with_reducible apply Wk.binFdiv); first | assumption | decide +kernel)
  | ((with_reducible apply Wk.kBin); first | assumption | exact rfl | exact Wk.binMul (by assumption) | exact Wk.binFdiv (by assumption) | exact Wk.binMod (by assumption))
  | ((with_reducible apply Wk.cLtT); assumption) | ((with_reducible apply Wk.cLtF); assumption) | ((with_reducible apply Wk.cGtT); assumption) | ((with_reducible apply Wk.cGtF); assumption) | ((with_reducible apply Wk.cEqT); assumption) | ((with_reducible apply Wk.cEqF); assumption) | ((with_reducible apply Wk.cNeT); assumption) | ((with_reducible apply Wk.cNeF); assumption) | ((with_reducible apply Wk.kCmp); first | assumption | exact rfl)
  | ((with_reducible apply Wk.kIx); first | assumption | exact rfl) | ((with_reducible apply Wk.kBi); first | assumption | exact rfl) | ((with_reducible apply Wk.kQ); first | assumption | exact rfl) | ((with_reducible apply Wk.kTru); first | assumption | exact rfl)
  | ((with_reducible apply Wk.kAt); first | assumption | exact rfl) | ((with_reducible apply Wk.kIxN); first | assumption | exact rfl) | ((with_reducible apply Wk.kLen); first | assumption | exact rfl)
  | ((with_reducible apply Wk.kMk); first | assumption | exact Wk.mkLF rfl | exact Wk.mkLN rfl | exact Wk.mkLF (by assumption) | exact Wk.mkLN (by assumption)) | assumption | ((with_reducible apply Wk.kB); exact rfl))
namespace K07
open PySem PySem.Spec PyProof.Rows L2 StX Wk

theorem toPys_ints : ∀ xs : List Int, toPys (xs.map D.int) = some (xs.map PyData.int)
  | [] => rfl
  | x :: xs => by
    show (toPy (.int x)).bind (fun p => (toPys (xs.map D.int)).map fun q => p :: q) = _
    rw [toPys_ints xs] <;> rfl
theorem canLay_ints : ∀ ns : List Int, PyData.canLayAll0 (ns.map PyData.int) = true
  | [] => rfl
  | n :: r => by simp [PyData.canLayAll0, PyData.canLay0, canLay_ints r]
theorem depth_ints : ∀ ns : List Int, PyData.depthAll (ns.map PyData.int) = 0
  | [] => rfl
  | n :: r => by simp [PyData.depthAll, PyData.depth, depth_ints r]
theorem eq_ti {S : Store} {xs : List Int} : cmpO S .eq (ti xs) (ti xs) = some true := by
  have c : (PyData.tuple (xs.map PyData.int)).canLay0 = true := by simp [PyData.canLay0, canLay_ints]
  have sh : SeqAt.shaped (PyData.tuple (xs.map PyData.int)) = true := by
    simp [SeqAt.shaped, PyData.canLay0, PyData.depth, canLay_ints, depth_ints]
  show eqD (ti xs) (ti xs) = some true
  unfold eqD
  have t : toPy (ti xs) = some (.tuple (xs.map PyData.int)) := by
    show (toPys (xs.map D.int)).map _ = _
    rw [toPys_ints] <;> rfl
  rw [t, Option.bind_some, Option.bind_some, sh]
  show (if (true && true) = true then some (PyData.eqv _ _) else none) = _
  rw [show PyData.eqv (.tuple (xs.map PyData.int)) (.tuple (xs.map PyData.int)) = true from PySem.SeqAt.eqv_refl _ c] <;> rfl
theorem eq_emb {S : Store} {t : Vec} : cmpO S .eq (emb2 t) (emb2 t) = some true := eq_ti (xs := [t.1, t.2])
theorem ne_emb {S : Store} {t : Vec} : cmpO S .ne (emb2 t) (emb2 t) = some false := by
  have : eqD (emb2 t) (emb2 t) = some true := eq_emb (S := S)
  show (eqD (emb2 t) (emb2 t)).map _ = _
  rw [this] <;> rfl
theorem isT_tup {S : Store} {ds : List Wk.D} : biO S .isinstance [.tup ds, .ty "tuple"] = some (.bl true) := rfl
theorem isT_bool {S : Store} {i : Int} : biO S .isinstance [.int i, .ty "bool"] = some (.bl false) := rfl
theorem isT_int {S : Store} {i : Int} : biO S .isinstance [.int i, .ty "int"] = some (.bl true) := rfl
theorem gl_tuple : gl "tuple" = some (.ty "tuple") := rfl
theorem gl_int : gl "int" = some (.ty "int") := rfl
theorem gl_bool : gl "bool" = some (.ty "bool") := rfl
theorem isN_oD {S : Store} {r : Option (List Int)} : cmpO S .isN (oD r) .non = some r.isNone := by
  cases r <;> rfl
theorem right_ok (n : Nat) {V : List Vec} {t : Vec} (hV : V.length ≤ 8) (hb : ∀ v ∈ V, v.1.natAbs ≤ 2 ^ 44 ∧ v.2.natAbs ≤ 2 ^ 44) (ht : t.1.natAbs ≤ 2 ^ 60 ∧ t.2.natAbs ≤ 2 ^ 60) (S : Store) :
    (runF gl defs (n + 6)).call false "_law_right" [.tup (vD V), emb2 t] [] S = some (.ok (.bl true) S) := by
  have lv : (vD V).length = V.length := by unfold vD; exact List.length_map ..
  have hB : ∀ w ∈ V, Bi 100 w.1 ∧ Bi 100 w.2 := fun w hw => ⟨bi_mono (bi_of (hb w hw).1) (by omega), bi_mono (bi_of (hb w hw).2) (by omega)⟩
  have hT : Bi 100 t.1 ∧ Bi 100 t.2 := ⟨bi_mono (bi_of ht.1) (by omega), bi_mono (bi_of ht.2) (by omega)⟩
  obtain ⟨res, cc, cs, cn⟩ := comb_spec n hV hb ht
  obtain ⟨k, hk, cm⟩ := member_ok (n + 2) (V := V) (t := t) (by omega) hB hT
  have nr : noRefs [.tup (vD V), emb2 t] = true := by show (noRefs (vD V) && (noRef (emb2 t) && true)) = true; rw [noRef_vD] <;> rfl
  have a2 : ∀ {ρ : Env'}, ρ[0]? = some (some (.tup (vD V))) → ρ[1]? = some (some (emb2 t)) → evA (runF gl defs (n + 5)) (.cons (.v 0) (.cons (.v 1) .nil)) ρ [] = some (.ok [.tup (vD V), emb2 t] []) := fun h0 h1 => aCons (xV h0) (aCons (xV h1) aNil)
  have run : ∃ ρ, evB (runF gl defs (n + 5)) d_law_right.body [some (.tup (vD V)), some (emb2 t), none, none, none] [] = some (.ok ρ [] (.rt (.bl true))) := by
    cases k with
    | false =>
      have hno : ¬ Sp V t := fun h => by
        have := hk.mpr ((member_iff n hV hb).mpr h)
        cases this
      have hres : res = none := by
        cases res with
        | none => rfl
        | some c =>
          obtain ⟨_, c2, c3, _⟩ := cs c rfl
          exact absurd ((dot_sp c V).cast c2 c3) hno
      subst hres
      refine ⟨[some (.tup (vD V)), some (emb2 t), some .non, none, none], ?_⟩
      simp only [d_law_right]
      refine bAsg (xCall (a2 rfl rfl) (cc [])) (gNm (Nat.le_of_ble_eq_true rfl)) (bIfTR (tNot (tCall (a2 rfl rfl) (cm []) rfl)) ?_)
      exact bRet1 (xAnd (nAndT (xCmp (xV rfl) xN rfl) (nAnd1 (xCmp (xCall (a2 rfl rfl) (cc [])) xN rfl))))
    | true =>
      have hsp : Sp V t := (member_iff n hV hb).mp (hk.mp rfl)
      cases res with
      | none => exact absurd hsp (cn rfl)
      | some c =>
        obtain ⟨c1, c2, c3, c4⟩ := cs c rfl
        have sm := sum_ok (n + 4) (V := V) (c := c) (cs := ti c) (fun S => rfl) rfl (noRef_ti c) (by omega) hB c4 []
        rw [c2, c3] at sm
        have cp : compL (fun d ρ S => asT (runF gl defs (n + 5)) (.nm 4) d ρ S) (fun ρ => evAll (runF gl defs (n + 5)) (.cons (.or_ (.cons (.bi .isinstance (.cons (.v 4) (.cons (.g "bool") .nil))) (.cons (.not_ (.bi .isinstance (.cons (.v 4) (.cons (.g "int") .nil)))) .nil))) .nil) ρ)
            (fun ρ => evE (runF gl defs (n + 5)) (.v 4) ρ) (wipeE [some (.tup (vD V)), some (emb2 t), some (ti c), none, none] ([(("number" : Str), 4)].map (·.2))) none [] (c.map D.int) [] = some ([], []) := by
          have := compOfF (as := fun d ρ S => asT (runF gl defs (n + 5)) (.nm 4) d ρ S) (c := fun ρ => evAll (runF gl defs (n + 5)) (.cons (.or_ (.cons (.bi .isinstance (.cons (.v 4) (.cons (.g "bool") .nil))) (.cons (.not_ (.bi .isinstance (.cons (.v 4) (.cons (.g "int") .nil)))) .nil))) .nil) ρ)
            (e := fun ρ => evE (runF gl defs (n + 5)) (.v 4) ρ) (ρ := wipeE [some (.tup (vD V)), some (emb2 t), some (ti c), none, none] ([(("number" : Str), 4)].map (·.2))) (S := []) (g := none) c D.int (fun _ => none) trivial (by omega) fun i hi => ⟨[some (.tup (vD V)), some (emb2 t), some (ti c), none, some (.int i)], gNm (Nat.le_of_ble_eq_true rfl), .inl ⟨rfl, ?_⟩⟩
          · rw [this]
            have e : c.filterMap (fun _ : Int => (none : Option Wk.D)) = [] := by
              induction c with
              | nil => rfl
              | cons x c ih => rw [List.filterMap_cons_none rfl]; exact List.filterMap_eq_nil_iff.mpr fun _ _ => rfl
            rw [e]
          · exact allF (Wk.tOr (anyF (tBi (aCons (xV rfl) (aCons (xG gl_bool) aNil)) isT_bool rfl) (anyF (tNot (tBi (aCons (xV rfl) (aCons (xG gl_int) aNil)) isT_int rfl)) anyN)))
        refine ⟨[some (.tup (vD V)), some (emb2 t), some (ti c), some (.lst []), none], ?_⟩
        have e1 : biO [] .len [ti c] = some (.int (V.length : Nat)) := by
          show some (D.int ((c.map D.int).length : Nat)) = _
          rw [List.length_map, c1]
        have e2 : biO [] .len [.tup (vD V)] = some (.int (V.length : Nat)) := by
          show some (D.int ((vD V).length : Nat)) = _
          rw [lv]
        simp only [d_law_right]
        refine bAsg (xCall (a2 rfl rfl) (cc [])) (gNm (Nat.le_of_ble_eq_true rfl)) (bIfFN (tNot (tCall (a2 rfl rfl) (cm []) rfl)) ?_)
        refine bIfFN (Wk.tOr (anyF (tNot (tBi (aCons (xV rfl) (aCons (xG gl_tuple) aNil)) isT_tup rfl)) (anyF (tCmp (xBi (aCons (xV rfl) aNil) e1) (xBi (aCons (xV rfl) aNil) e2) (cNeF rfl)) (anyF (tCmp (xCall (aCons (xV rfl) (aCons (xV rfl) aNil)) sm) (xV rfl) ne_emb) anyN)))) ?_
        have is := Wk.iSeq (o := runF gl defs (n + 5)) (a := .v 2) (ρ := [some (.tup (vD V)), some (emb2 t), some (ti c), none, none]) (S := []) (xV rfl) (show getQO [] (ti c) = some (c.map D.int) from rfl)
        refine bAsg (xComp is cp (mkLF rfl)) (gNm (Nat.le_of_ble_eq_true rfl)) ?_
        exact bRet1 (xAnd (nAndT (xCmp (xV rfl) (xLst aNil (mkLF rfl)) rfl) (nAnd1 (xCmp (xCall (a2 rfl rfl) (cc [])) (xV rfl) eq_ti))))
  obtain ⟨ρ, run⟩ := run
  exact callP (F := d_law_right) rfl rfl nr run Fix.bl
end K07
end K07V_text

section K07W_text
set_option Elab.async false
set_option linter.all false
set_option maxRecDepth 100000
set_option maxHeartbeats 4000000
set_option exponentiation.threshold 100
local macro_rules | `(tactic| get_elem_tactic_trivial) => `(tactic| first
  | with_reducible exact Wk.xI | with_reducible exact Wk.xB | with_reducible exact Wk.xN | with_reducible exact Wk.xS | with_reducible exact Wk.aNil | with_reducible exact Wk.bNil | with_reducible exact Wk.allN | with_reducible exact Wk.anyN | with_reducible exact Wk.tBl
  | ((with_reducible apply Wk.xV); exact rfl) | ((with_reducible apply Wk.xG); exact rfl) | ((with_reducible apply Wk.gNm); exact Nat.le_of_ble_eq_true rfl)
  | with_reducible apply Wk.xBin | with_reducible apply Wk.xNeg | with_reducible apply Wk.xCmp | with_reducible apply Wk.xTup | with_reducible apply Wk.xLst | with_reducible apply Wk.xIx | with_reducible apply Wk.xSlL | with_reducible apply Wk.xSlH
  | with_reducible apply Wk.xBi | with_reducible apply Wk.xCall | with_reducible apply Wk.xLo | with_reducible apply Wk.xRep | with_reducible apply Wk.xLm | with_reducible apply Wk.xComp | with_reducible apply Wk.aCons | with_reducible apply Wk.aStar
  | with_reducible apply Wk.bRet1 | with_reducible apply Wk.sAsg | with_reducible apply Wk.sExpr | with_reducible exact Wk.gsN | with_reducible apply Wk.gsC | ((with_reducible apply Wk.gTp); exact rfl) | with_reducible apply Wk.gSub
  | with_reducible apply Wk.iSeq | with_reducible apply Wk.iR1 | with_reducible apply Wk.iR2 | with_reducible apply Wk.iZip | with_reducible apply Wk.iEnum
  | with_reducible apply Wk.bAsg | with_reducible apply Wk.bExpr
  | with_reducible apply Wk.tCmp | with_reducible apply Wk.tNot | with_reducible apply Wk.tBi | with_reducible apply Wk.tCall | ((with_reducible apply Wk.tV); exact rfl)
  | with_reducible exact Wk.binAdd | with_reducible exact Wk.binSub | ((with_reducible apply Wk.binMul); first | assumption | decide +kernel) | ((with_reducible apply Wk.binPow); first | assumption | decide +kernel) | ((with_reducible apply Wk.binMod); first | assumption | decide +kernel) | ((with_reducible apply Wk.binFdiv); first | assumption | decide +kernel)
  | ((with_reducible apply Wk.kBin); first | assumption | exact rfl | exact Wk.binMul (by assumption) | exact Wk.binFdiv (by assumption) | exact Wk.binMod (by assumption))
  | ((with_reducible apply Wk.cLtT); assumption) | ((with_reducible apply Wk.cLtF); assumption) | ((with_reducible apply Wk.cGtT); assumption) | ((with_reducible apply Wk.cGtF); assumption) | ((with_reducible apply Wk.cEqT); assumption) | ((with_reducible apply Wk.cEqF); assumption) | ((with_reducible apply Wk.cNeT); assumption) | ((with_reducible apply Wk.cNeF); assumption) | ((with_reducible apply Wk.kCmp); first | assumption | exact rfl)
  | ((with_reducible apply Wk.kIx); first | assumption | exact rfl) | ((with_reducible apply Wk.kBi); first | assumption | exact rfl) | ((with_reducible apply Wk.kQ); first | assumption | exact rfl) | ((with_reducible apply Wk.kTru); first | assumption | exact rfl)
  | ((with_reducible apply Wk.kAt); first | assumption | exact rfl) | ((with_reducible apply Wk.kIxN); first | assumption | exact rfl) | ((with_reducible apply Wk.kLen); first | assumption | exact rfl)
  | ((with_reducible apply Wk.kMk); first | assumption | exact Wk.mkLF rfl | exact Wk.mkLN rfl | exact Wk.mkLF (by assumption) | exact Wk.mkLN (by assumption)) | assumption | ((with_reducible apply Wk.kB); exact rfl))
namespace K07
open PySem PySem.Spec PyProof.Rows L2 StX Wk

theorem atS_app {T R : Store} {l : Nat} (h : l < T.length) : Wk.atS (T ++ R) l = Wk.atS T l := by
  unfold Wk.atS
  rw [List.getElem?_append_left h]
theorem atS_snd {T R : Store} {l : Nat} {ds : List Wk.D} (h : T.length = l) : Wk.atS (T ++ .lst ds :: R) l = some ds := by
  unfold Wk.atS
  rw [List.getElem?_append_right (by omega), show l - T.length = 0 by omega] <;> rfl
theorem Src.lt {T : Store} {l : Nat} {m : Int} (h : Src T l m) : l < T.length := by
  obtain ⟨a, b, c, e, _⟩ := h
  exact atS_lt e
theorem Src.app {T R : Store} {l : Nat} {m : Int} (h : Src T l m) : Src (T ++ R) l m := by
  have hl := Src.lt h
  obtain ⟨a, b, c, e, r⟩ := h
  exact ⟨a, b, c, by rw [atS_app hl]; exact e, r⟩
theorem Src.left {T R : Store} {l : Nat} {m : Int} (h : Src (T ++ R) l m) (hl : l < T.length) : Src T l m := by
  obtain ⟨a, b, c, e, r⟩ := h
  exact ⟨a, b, c, by rw [← atS_app hl]; exact e, r⟩
theorem FixS.app {T R : Store} (h : FixS T) (h2 : FixS R) : FixS (T ++ R) := fun o ho => by
  rcases List.mem_append.mp ho with q | q
  · exact h o q
  · exact h2 o q
theorem FixS.left {T R : Store} (h : FixS (T ++ R)) : FixS T := fun o ho => h o (List.mem_append_left _ ho)
theorem FixS.nil : FixS [] := fun o ho => absurd ho (by simp)
theorem FixS.vD {R : Store} {V : List Vec} (h : FixS R) : FixS (.lst (vD V) :: R) := fun o ho => by
  rcases List.mem_cons.mp ho with q | q
  · refine ⟨_, q, fun d hd => ?_⟩
    obtain ⟨v, _, rfl⟩ := List.mem_map.mp hd
    exact Fix.tup (Fix.cons Fix.int (Fix.cons Fix.int Fix.nil))
  · exact h o q
/-- a draw in a store that has more behind -/
theorem drawR {n : Nat} {T R : Store} {l : Nat} {m : Int} (bound : Int) (h : Src T l m) (hm : m < 10 ^ 9) (h0 : 0 < bound) (h1 : bound < 10 ^ 40) (hT : FixS T) (hR : FixS R) :
    ∃ d T', (runF gl defs (n + 1)).call false "_law_draw" [.ref l, .int bound] [] (T ++ R) = some (.ok (.int d) (T' ++ R)) ∧ 0 ≤ d ∧ d < bound ∧ Src T' l (m + 1) ∧ FixS T' ∧ T'.length = T.length := by
  have hl := Src.lt h
  obtain ⟨d, ds, e, d0, d1, s, f⟩ := draw_ok (gl := gl) (defs := defs) rfl (n := n) (S := T ++ R) (Src.app h) hm h0 h1 (FixS.app hT hR)
  rw [List.set_append_left _ _ hl] at e s f
  exact ⟨d, T.set l (.lst ds), e, d0, d1, Src.left s (by rw [List.length_set]; exact hl), FixS.left f, List.length_set ..⟩
theorem size_ok {o : Ora} {ρ : Env'} {S : Store} {w : Int} (hw : 0 ≤ w ∧ w < 6) (h1 : ρ[1]? = some (some (.int w))) : ∃ size : Int, 0 ≤ size ∧ size ≤ 10 ^ 13 ∧ (w = 4 → size = 6) ∧
    evE o (.ix (.lst true (.cons (.cint 3) (.cons (.cint 9) (.cons (.cint 40) (.cons (.bin .pow (.cint 10) (.cint 13)) (.cons (.cint 6) (.cons (.cint 0) .nil))))))) (.v 1)) ρ S = some (.ok (.int size) S) := by
  have l6 : evE o (.lst true (.cons (.cint 3) (.cons (.cint 9) (.cons (.cint 40) (.cons (.bin .pow (.cint 10) (.cint 13)) (.cons (.cint 6) (.cons (.cint 0) .nil))))))) ρ S = some (.ok (.lst [.int 3, .int 9, .int 40, .int (10 ^ (13 : Int).toNat), .int 6, .int 0]) S) :=
    xLst (aCons xI (aCons xI (aCons xI (aCons (xBin xI xI (binPow (by decide +kernel))) (aCons xI (aCons xI aNil)))))) (mkLF rfl)
  have e13 : (10 : Int) ^ (13 : Int).toNat = 10 ^ 13 := rfl
  obtain ⟨k, rfl⟩ : ∃ k : Nat, w = k := ⟨w.toNat, by omega⟩
  match k, hw with
  | 0, _ => exact ⟨3, by omega, by omega, by omega, xIx l6 (xV h1) (ix_lst (k := 0) rfl)⟩
  | 1, _ => exact ⟨9, by omega, by omega, by omega, xIx l6 (xV h1) (ix_lst (k := 1) rfl)⟩
  | 2, _ => exact ⟨40, by omega, by omega, by omega, xIx l6 (xV h1) (ix_lst (k := 2) rfl)⟩
  | 3, _ => exact ⟨10 ^ 13, by omega, by omega, by omega, xIx l6 (xV h1) (ix_lst (k := 3) rfl)⟩
  | 4, _ => exact ⟨6, by omega, by omega, by omega, xIx l6 (xV h1) (ix_lst (k := 4) rfl)⟩
  | 5, _ => exact ⟨0, by omega, by omega, by omega, xIx l6 (xV h1) (ix_lst (k := 5) rfl)⟩
  | k + 6, h => exact absurd h.2 (by omega)
theorem vec_loop (n : Nat) {l : Nat} {size w : Int} (hs : 0 ≤ size ∧ size ≤ 10 ^ 13) (k : Nat) {T : Store} {m : Int} {x4 : Option Wk.D} (hk : k ≤ 8) (h : Src T l m) (hm : m < 10 ^ 8) (hT : FixS T) :
    ∃ y4 T' V, forL (fun d ρ S => asT (runF gl defs (n + 1)) (.nm 4) d ρ S) (evB (runF gl defs (n + 1)) (.cons (.expr (.lm .append (.v 3) (.cons (.tup (.cons (.bin .sub (.call false "_law_draw" (.cons (.v 0) (.cons (.bin .add (.bin .mul (.cint 2) (.v 2)) (.cint 1)) .nil)) .nil) (.v 2)) (.cons (.bin .sub (.call false "_law_draw" (.cons (.v 0) (.cons (.bin .add (.bin .mul (.cint 2) (.v 2)) (.cint 1)) .nil)) .nil) (.v 2)) .nil))) .nil))) .nil)) none
      ((List.range k).map fun (i : Nat) => D.int i) [some (.ref l), some (.int w), some (.int size), some (.ref T.length), x4, none, none, none] (T ++ [.lst []]) =
        some (.ok [some (.ref l), some (.int w), some (.int size), some (.ref T.length), y4, none, none, none] (T' ++ [.lst (vD V)]) .nx) ∧ V.length = k ∧ (∀ v ∈ V, v.1.natAbs ≤ size.toNat ∧ v.2.natAbs ≤ size.toNat) ∧ Src T' l (m + 16) ∧ FixS T' ∧ T'.length = T.length := by
  have bm : mulOk 2 size = true := mulB (k := 3) (l := 60) (bi_of (k := 2) (by decide)) (bi_of (k := 59) (by omega)) (by omega)
  obtain ⟨ρ', S', e, y4, T', V, rfl, rfl, v1, v2, s, f, tl⟩ := forInv (as := fun d ρ S => asT (runF gl defs (n + 1)) (.nm 4) d ρ S) (b := evB (runF gl defs (n + 1)) (.cons (.expr (.lm .append (.v 3) (.cons (.tup (.cons (.bin .sub (.call false "_law_draw" (.cons (.v 0) (.cons (.bin .add (.bin .mul (.cint 2) (.v 2)) (.cint 1)) .nil)) .nil) (.v 2)) (.cons (.bin .sub (.call false "_law_draw" (.cons (.v 0) (.cons (.bin .add (.bin .mul (.cint 2) (.v 2)) (.cint 1)) .nil)) .nil) (.v 2)) .nil))) .nil))) .nil))
    (g := none) (items := (List.range k).map fun (i : Nat) => D.int i) (ρ := [some (.ref l), some (.int w), some (.int size), some (.ref T.length), x4, none, none, none]) (S := T ++ [.lst []])
    (fun i ρ S => ∃ y4 T' V, ρ = [some (.ref l), some (.int w), some (.int size), some (.ref T.length), y4, none, none, none] ∧ S = T' ++ [.lst (vD V)] ∧ V.length = i ∧ (∀ v ∈ V, v.1.natAbs ≤ size.toNat ∧ v.2.natAbs ≤ size.toNat) ∧ Src T' l (m + 2 * i) ∧ FixS T' ∧ T'.length = T.length)
    ⟨x4, T, [], rfl, rfl, rfl, fun v hv => absurd hv (by simp), by simpa using h, hT, rfl⟩ (fun _ _ _ _ _ => trivial) (by
      rintro i d _ _ hd ⟨y4, T1, V, rfl, rfl, v1, v2, s, f, tl⟩
      have hi : i < k := by
        have := (List.getElem?_eq_some_iff.mp hd).1
        simpa using this
      obtain ⟨d1, T2, c1, a1, a2, s2, f2, tl2⟩ := drawR (n := n) (R := [.lst (vD V)]) (2 * size + 1) s (by omega) (by omega) (by omega) f (FixS.vD FixS.nil)
      obtain ⟨d2, T3, c2, b1, b2, s3, f3, tl3⟩ := drawR (n := n) (R := [.lst (vD V)]) (2 * size + 1) s2 (by omega) (by omega) (by omega) f2 (FixS.vD FixS.nil)
      have lv : (vD V).length = i := by rw [← v1]; exact List.length_map ..
      have ap := lmApp (x := emb2 (d1 - size, d2 - size)) (S := T3 ++ [.lst (vD V)]) (l := T.length) (es := vD V) (atS_snd (by omega)) (lenOk_of (by omega))
      rw [List.set_append_right _ _ (by omega), show T.length - T3.length = 0 by omega] at ap
      have e : vD V ++ [emb2 (d1 - size, d2 - size)] = vD (V ++ [(d1 - size, d2 - size)]) := by unfold vD; rw [List.map_append] <;> rfl
      rw [e] at ap
      refine ⟨[some (.ref l), some (.int w), some (.int size), some (.ref T.length), some d, none, none, none], T1 ++ [.lst (vD V)], [some (.ref l), some (.int w), some (.int size), some (.ref T.length), some d, none, none, none], T3 ++ [.lst (vD (V ++ [(d1 - size, d2 - size)]))], gNm (Nat.le_of_ble_eq_true rfl), ?_,
        some d, T3, V ++ [(d1 - size, d2 - size)], rfl, rfl, by rw [List.length_append, v1] <;> rfl, ?_, s3.mono (by omega), f3, by omega⟩
      · have dr : ∀ {ρ : Env'} {S : Store}, ρ[0]? = some (some (.ref l)) → ρ[2]? = some (some (.int size)) → evA (runF gl defs (n + 1)) (.cons (.v 0) (.cons (.bin .add (.bin .mul (.cint 2) (.v 2)) (.cint 1)) .nil)) ρ S = some (.ok [.ref l, .int (2 * size + 1)] S) :=
          fun h0 h2 => aCons (xV h0) (aCons (xBin (xBin xI (xV h2) (binMul bm)) xI binAdd) aNil)
        exact bExpr (xLm (xV rfl) (atS_snd (by omega)) (aCons (xTup (aCons (xBin (xCall (dr rfl rfl) c1) (xV rfl) binSub) (aCons (xBin (xCall (dr rfl rfl) c2) (xV rfl) binSub) aNil)) rfl) aNil) ap) bNil
      · intro v hv
        rcases List.mem_append.mp hv with q | q
        · exact v2 v q
        · rw [List.mem_singleton.mp q]
          show (d1 - size).natAbs ≤ _ ∧ (d2 - size).natAbs ≤ _
          omega)
  have lk : ((List.range k).map fun (i : Nat) => D.int i).length = k := by simp
  rw [lk] at s v1
  exact ⟨y4, T', V, e, v1, v2, s.mono (by omega), f, tl⟩
end K07
end K07W_text

section K07X_text
set_option Elab.async false
set_option linter.all false
set_option maxRecDepth 100000
set_option maxHeartbeats 4000000
set_option exponentiation.threshold 100
local macro_rules | `(tactic| get_elem_tactic_trivial) => `(tactic| first
  | with_reducible exact Wk.xI | with_reducible exact Wk.xB | with_reducible exact Wk.xN | with_reducible exact Wk.xS | with_reducible exact Wk.aNil | with_reducible exact Wk.bNil | with_reducible exact Wk.allN | with_reducible exact Wk.anyN | with_reducible exact Wk.tBl
  | ((with_reducible apply Wk.xV); exact rfl) | ((with_reducible apply Wk.xG); exact rfl) | ((with_reducible apply Wk.gNm); exact Nat.le_of_ble_eq_true rfl)
  | with_reducible apply Wk.xBin | with_reducible apply Wk.xNeg | with_reducible apply Wk.xCmp | with_reducible apply Wk.xTup | with_reducible apply Wk.xLst | with_reducible apply Wk.xIx | with_reducible apply Wk.xSlL | with_reducible apply Wk.xSlH
  | with_reducible apply Wk.xBi | with_reducible apply Wk.xCall | with_reducible apply Wk.xLo | with_reducible apply Wk.xRep | with_reducible apply Wk.xLm | with_reducible apply Wk.xComp | with_reducible apply Wk.aCons | with_reducible apply Wk.aStar
  | with_reducible apply Wk.bRet1 | with_reducible apply Wk.sAsg | with_reducible apply Wk.sExpr | with_reducible exact Wk.gsN | with_reducible apply Wk.gsC | ((with_reducible apply Wk.gTp); exact rfl) | with_reducible apply Wk.gSub
  | with_reducible apply Wk.iSeq | with_reducible apply Wk.iR1 | with_reducible apply Wk.iR2 | with_reducible apply Wk.iZip | with_reducible apply Wk.iEnum
  | with_reducible apply Wk.bAsg | with_reducible apply Wk.bExpr
  | with_reducible apply Wk.tCmp | with_reducible apply Wk.tNot | with_reducible apply Wk.tBi | with_reducible apply Wk.tCall | ((with_reducible apply Wk.tV); exact rfl)
  | with_reducible exact Wk.binAdd | with_reducible exact Wk.binSub | ((with_reducible apply Wk.binMul); first | assumption | decide +kernel) | ((with_reducible apply Wk.binPow); first | assumption | decide +kernel) | ((with_reducible apply Wk.binMod); first | assumption | decide +kernel) | ((with_reducible apply Wk.binFdiv); first | assumption | decide +kernel)
  | ((with_reducible apply Wk.kBin); first | assumption | exact rfl | exact Wk.binMul (by assumption) | exact Wk.binFdiv (by assumption) | exact Wk.binMod (by assumption))
  | ((with_reducible apply Wk.cLtT); assumption) | ((with_reducible apply Wk.cLtF); assumption) | ((with_reducible apply Wk.cGtT); assumption) | ((with_reducible apply Wk.cGtF); assumption) | ((with_reducible apply Wk.cEqT); assumption) | ((with_reducible apply Wk.cEqF); assumption) | ((with_reducible apply Wk.cNeT); assumption) | ((with_reducible apply Wk.cNeF); assumption) | ((with_reducible apply Wk.kCmp); first | assumption | exact rfl)
  | ((with_reducible apply Wk.kIx); first | assumption | exact rfl) | ((with_reducible apply Wk.kBi); first | assumption | exact rfl) | ((with_reducible apply Wk.kQ); first | assumption | exact rfl) | ((with_reducible apply Wk.kTru); first | assumption | exact rfl)
  | ((with_reducible apply Wk.kAt); first | assumption | exact rfl) | ((with_reducible apply Wk.kIxN); first | assumption | exact rfl) | ((with_reducible apply Wk.kLen); first | assumption | exact rfl)
  | ((with_reducible apply Wk.kMk); first | assumption | exact Wk.mkLF rfl | exact Wk.mkLN rfl | exact Wk.mkLF (by assumption) | exact Wk.mkLN (by assumption)) | assumption | ((with_reducible apply Wk.kB); exact rfl))
namespace K07
open PySem PySem.Spec PyProof.Rows L2 StX Wk

theorem vectors_ok (n : Nat) {S : Store} {l : Nat} {m : Int} (h : Src S l m) (hm : m < 10 ^ 7) (hS : FixS S) :
    ∃ V S', (runF gl defs (n + 2)).call false "_law_vectors" [.ref l] [] S = some (.ok (.tup (vD V)) S') ∧ V.length ≤ 8 ∧ (∀ v ∈ V, v.1.natAbs ≤ 10 ^ 13 ∧ v.2.natAbs ≤ 10 ^ 13) ∧ Src S' l (m + 20) ∧ FixS S' ∧ S'.length = S.length := by
  have dr : ∀ {ρ : Env'} {S : Store} {k : Int}, ρ[0]? = some (some (.ref l)) → evA (runF gl defs (n + 1)) (.cons (.v 0) (.cons (.cint k) .nil)) ρ S = some (.ok [.ref l, .int k] S) := fun h0 => aCons (xV h0) (aCons xI aNil)
  obtain ⟨w, T1, c1, w0, w1, s1, f1, l1⟩ := drawR (n := n) (R := []) 6 h (by omega) (by omega) (by omega) hS FixS.nil
  rw [List.append_nil, List.append_nil] at c1
  obtain ⟨size, z0, z1, z4, ez⟩ := size_ok (o := runF gl defs (n + 1)) (ρ := [some (.ref l), some (.int w), none, none, none, none, none, none]) (S := T1) ⟨w0, w1⟩ rfl
  obtain ⟨k, T2, c2, k0, k1, s2, f2, l2⟩ := drawR (n := n) (R := [.lst []]) 9 s1 (by omega) (by omega) (by omega) f1 (FixS.vD (V := []) FixS.nil)
  obtain ⟨y4, T3, V, e3, v1, v2, s3, f3, l3⟩ := vec_loop n (l := l) (w := w) ⟨z0, z1⟩ k.toNat (x4 := none) (by omega) s2 (by omega) f2
  have lv : (vD V).length = V.length := by unfold vD; exact List.length_map ..
  have run : ∃ ρ T R W, evB (runF gl defs (n + 1)) d_law_vectors.body [some (.ref l), none, none, none, none, none, none, none] S = some (.ok ρ (T ++ R) (.rt (.tup (vD W)))) ∧ T.length = S.length ∧ W.length ≤ 8 ∧ (∀ v ∈ W, v.1.natAbs ≤ 10 ^ 13 ∧ v.2.natAbs ≤ 10 ^ 13) ∧ Src T l (m + 20) ∧ FixS T := by
    have ir := iR1 (o := runF gl defs (n + 1)) (a := .call false "_law_draw" (.cons (.v 0) (.cons (.cint 9) .nil)) .nil) (ρ := [some (.ref l), some (.int w), some (.int size), some (.ref T1.length), none, none, none, none]) (S := T1 ++ [.lst []]) (xCall (dr rfl) c2) (by omega)
    rw [show T1.length = T2.length from l2.symm] at ir
    by_cases hw : w = 4
    · subst hw
      obtain ⟨b1, T4, c4, p0, p1, s4, f4, l4⟩ := drawR (n := n) (R := [.lst (vD V)]) 9 s3 (by omega) (by omega) (by omega) f3 (FixS.vD FixS.nil)
      obtain ⟨b2, T5, c5, q0, q1, s5, f5, l5⟩ := drawR (n := n) (R := [.lst (vD V)]) 9 s4 (by omega) (by omega) (by omega) f4 (FixS.vD FixS.nil)
      have hz := z4 rfl
      have sm : ∀ b : Int, -4 ≤ b → b ≤ 4 → ∀ v ∈ V, mulOk b v.1 = true ∧ (b * v.1).natAbs ≤ 24 := fun b h1 h2 v hv => by
        have := (v2 v hv).1
        refine ⟨mulB (k := 4) (l := 10) (bi_of (k := 3) (by omega)) (bi_of (k := 9) (by omega)) (by omega), ?_⟩
        rw [Int.natAbs_mul]
        exact Nat.mul_le_mul (show b.natAbs ≤ 4 by omega) (show v.1.natAbs ≤ 6 by omega)
      have at5 : Wk.atS (T5 ++ [.lst (vD V)]) T2.length = some (vD V) := atS_snd (by omega)
      have is := Wk.iSeq (o := runF gl defs (n + 1)) (a := .v 3) (ρ := [some (.ref l), some (.int 4), some (.int size), some (.ref T2.length), y4, some (emb2 (b1 - 4, b2 - 4)), none, none]) (S := T5 ++ [.lst (vD V)]) (xV rfl) (getQ_ref at5)
      have st : still (some (T2.length, vD V)) (T5 ++ [.lst (vD V)]) := by
        show (T5 ++ [O.lst (vD V)])[T2.length]? = _
        rw [List.getElem?_append_right (by omega), show T2.length - T5.length = 0 by omega] <;> rfl
      have cp : compL (fun d ρ S => asT (runF gl defs (n + 1)) (.tp (.cons (.nm 6) (.cons (.nm 7) .nil))) d ρ S) (fun ρ => evAll (runF gl defs (n + 1)) .nil ρ) (fun ρ => evE (runF gl defs (n + 1)) (.tup (.cons (.bin .mul (.ix (.v 5) (.cint 0)) (.v 6)) (.cons (.bin .mul (.ix (.v 5) (.cint 1)) (.v 6)) .nil))) ρ)
          (wipeE [some (.ref l), some (.int 4), some (.int size), some (.ref T2.length), y4, some (emb2 (b1 - 4, b2 - 4)), none, none] ([(("x" : Str), 6), ("y", 7)].map (·.2))) (some (T2.length, vD V)) [] (vD V) (T5 ++ [.lst (vD V)]) = some (vD (V.map fun v => ((b1 - 4) * v.1, (b2 - 4) * v.1)), T5 ++ [.lst (vD V)]) := by
        have e : vD (V.map fun v => ((b1 - 4) * v.1, (b2 - 4) * v.1)) = V.map fun v => emb2 ((b1 - 4) * v.1, (b2 - 4) * v.1) := by unfold vD; rw [List.map_map]; rfl
        rw [e]
        exact compOf V emb2 _ st (by omega) fun v hv => ⟨[some (.ref l), some (.int 4), some (.int size), some (.ref T2.length), y4, some (emb2 (b1 - 4, b2 - 4)), some (.int v.1), some (.int v.2)], gTp rfl (gsC (gNm (Nat.le_of_ble_eq_true rfl)) (gsC (gNm (Nat.le_of_ble_eq_true rfl)) gsN)), allN,
          xTup (aCons (xBin (xIx (xV rfl) xI ix_e0) (xV rfl) (binMul (sm _ (by omega) (by omega) v hv).1)) (aCons (xBin (xIx (xV rfl) xI ix_e1) (xV rfl) (binMul (sm _ (by omega) (by omega) v hv).1)) aNil)) rfl⟩
      have lw : (vD (V.map fun v => ((b1 - 4) * v.1, (b2 - 4) * v.1))).length = V.length := by unfold vD; rw [List.length_map, List.length_map]
      refine ⟨[some (.ref l), some (.int 4), some (.int size), some (.ref (T5 ++ [O.lst (vD V)]).length), y4, some (emb2 (b1 - 4, b2 - 4)), none, none], T5, [.lst (vD V), .lst (vD (V.map fun v => ((b1 - 4) * v.1, (b2 - 4) * v.1)))], V.map fun v => ((b1 - 4) * v.1, (b2 - 4) * v.1), ?_, by omega, by rw [List.length_map]; omega, fun v hv => ?_, s5.mono (by omega), f5⟩
      · simp only [d_law_vectors]
        refine bAsg (xCall (dr rfl) c1) (gNm (Nat.le_of_ble_eq_true rfl)) ?_
        refine bAsg ez (gNm (Nat.le_of_ble_eq_true rfl)) ?_
        refine bAsg (xLst aNil (mkLN rfl)) (gNm (Nat.le_of_ble_eq_true rfl)) ?_
        rw [show T1.length = T2.length from l2.symm]
        refine bCons (sFor ir e3) ?_
        refine bIfT (tCmp (xV rfl) xI (cEqT rfl)) (bAsg (xTup (aCons (xBin (xCall (dr rfl) c4) xI binSub) (aCons (xBin (xCall (dr rfl) c5) xI binSub) aNil)) rfl) (gNm (Nat.le_of_ble_eq_true rfl)) (bAsg (xComp is cp (mkLN (lenOk_of (by omega)))) (gNm (Nat.le_of_ble_eq_true rfl)) bNil)) ?_
        have at6 : Wk.atS (T5 ++ [.lst (vD V)] ++ [.lst (vD (V.map fun v => ((b1 - 4) * v.1, (b2 - 4) * v.1)))]) (T5 ++ [O.lst (vD V)]).length = some (vD (V.map fun v => ((b1 - 4) * v.1, (b2 - 4) * v.1))) := atS_snd rfl
        have r := bRet1 (o := runF gl defs (n + 1)) (B1 := .nil) (xBi (f := .tuple) (aCons (xV (o := runF gl defs (n + 1)) (ρ := [some (.ref l), some (.int 4), some (.int size), some (.ref (T5 ++ [O.lst (vD V)]).length), y4, some (emb2 (b1 - 4, b2 - 4)), none, none]) (i := 3) (S := T5 ++ [.lst (vD V)] ++ [.lst (vD (V.map fun v => ((b1 - 4) * v.1, (b2 - 4) * v.1)))]) rfl) aNil) (show biO _ .tuple [.ref _] = some (.tup (vD (V.map fun v => ((b1 - 4) * v.1, (b2 - 4) * v.1)))) from by
          show (getQO _ (.ref _)).map _ = _
          rw [getQ_ref at6] <;> rfl))
        rw [List.append_assoc] at r
        rw [List.append_assoc]
        exact r
      · obtain ⟨u, hu, rfl⟩ := List.mem_map.mp hv
        have a1 := (sm (b1 - 4) (by omega) (by omega) u hu).2
        have a2 := (sm (b2 - 4) (by omega) (by omega) u hu).2
        show ((b1 - 4) * u.1).natAbs ≤ _ ∧ ((b2 - 4) * u.1).natAbs ≤ _
        omega
    · refine ⟨[some (.ref l), some (.int w), some (.int size), some (.ref T2.length), y4, none, none, none], T3, [.lst (vD V)], V, ?_, by omega, by omega, fun v hv => ?_, s3.mono (by omega), f3⟩
      · simp only [d_law_vectors]
        refine bAsg (xCall (dr rfl) c1) (gNm (Nat.le_of_ble_eq_true rfl)) ?_
        refine bAsg ez (gNm (Nat.le_of_ble_eq_true rfl)) ?_
        refine bAsg (xLst aNil (mkLN rfl)) (gNm (Nat.le_of_ble_eq_true rfl)) ?_
        rw [show T1.length = T2.length from l2.symm]
        refine bCons (sFor ir e3) ?_
        refine bIfFN (tCmp (xV rfl) xI (cEqF hw)) ?_
        have at6 : Wk.atS (T3 ++ [.lst (vD V)]) T2.length = some (vD V) := atS_snd (by omega)
        exact bRet1 (xBi (aCons (xV rfl) aNil) (show biO _ .tuple [.ref _] = some (.tup (vD V)) from by
          show (getQO _ (.ref _)).map _ = _
          rw [getQ_ref at6] <;> rfl))
      · have := v2 v hv
        omega
  obtain ⟨ρ, T, R, W, e, tl, w1, w2, s, f⟩ := run
  have tk : (T ++ R).take S.length = T := by rw [← tl, List.take_append_of_le_length (Nat.le_refl _), List.take_length]
  have c := callS (S := S) (F := d_law_vectors) (defs := defs) (gl := gl) (n := n + 1) (f := "_law_vectors") (ds := [.ref l]) rfl rfl rfl e (Fix.tup fun d hd => by
    obtain ⟨v, _, rfl⟩ := List.mem_map.mp hd
    exact Fix.tup (Fix.cons Fix.int (Fix.cons Fix.int Fix.nil))) (by rw [tk]; exact f)
  rw [tk] at c
  exact ⟨W, T, c, w1, w2, s, f, tl⟩
end K07
end K07X_text

section K07Y_text
set_option Elab.async false
set_option linter.all false
set_option maxRecDepth 100000
set_option maxHeartbeats 4000000
set_option exponentiation.threshold 100
local macro_rules | `(tactic| get_elem_tactic_trivial) => `(tactic| first
  | with_reducible exact Wk.xI | with_reducible exact Wk.xB | with_reducible exact Wk.xN | with_reducible exact Wk.xS | with_reducible exact Wk.aNil | with_reducible exact Wk.bNil | with_reducible exact Wk.allN | with_reducible exact Wk.anyN | with_reducible exact Wk.tBl
  | ((with_reducible apply Wk.xV); exact rfl) | ((with_reducible apply Wk.xG); exact rfl) | ((with_reducible apply Wk.gNm); exact Nat.le_of_ble_eq_true rfl)
  | with_reducible apply Wk.xBin | with_reducible apply Wk.xNeg | with_reducible apply Wk.xCmp | with_reducible apply Wk.xTup | with_reducible apply Wk.xLst | with_reducible apply Wk.xIx | with_reducible apply Wk.xSlL | with_reducible apply Wk.xSlH
  | with_reducible apply Wk.xBi | with_reducible apply Wk.xCall | with_reducible apply Wk.xLo | with_reducible apply Wk.xRep | with_reducible apply Wk.xLm | with_reducible apply Wk.xComp | with_reducible apply Wk.aCons | with_reducible apply Wk.aStar
  | with_reducible apply Wk.bRet1 | with_reducible apply Wk.sAsg | with_reducible apply Wk.sExpr | with_reducible exact Wk.gsN | with_reducible apply Wk.gsC | ((with_reducible apply Wk.gTp); exact rfl) | with_reducible apply Wk.gSub
  | with_reducible apply Wk.iSeq | with_reducible apply Wk.iR1 | with_reducible apply Wk.iR2 | with_reducible apply Wk.iZip | with_reducible apply Wk.iEnum
  | with_reducible apply Wk.bAsg | with_reducible apply Wk.bExpr
  | with_reducible apply Wk.tCmp | with_reducible apply Wk.tNot | with_reducible apply Wk.tBi | with_reducible apply Wk.tCall | ((with_reducible apply Wk.tV); exact rfl)
  | with_reducible exact Wk.binAdd | with_reducible exact Wk.binSub | ((with_reducible apply Wk.binMul); first | assumption | decide +kernel) | ((with_reducible apply Wk.binPow); first | assumption | decide +kernel) | ((with_reducible apply Wk.binMod); first | assumption | decide +kernel) | ((with_reducible apply Wk.binFdiv); first | assumption | decide +kernel)
  | ((with_reducible apply Wk.kBin); first | assumption | exact rfl | exact Wk.binMul (by assumption) | exact Wk.binFdiv (by assumption) | exact Wk.binMod (by assumption))
  | ((with_reducible apply Wk.cLtT); assumption) | ((with_reducible apply Wk.cLtF); assumption) | ((with_reducible apply Wk.cGtT); assumption) | ((with_reducible apply Wk.cGtF); assumption) | ((with_reducible apply Wk.cEqT); assumption) | ((with_reducible apply Wk.cEqF); assumption) | ((with_reducible apply Wk.cNeT); assumption) | ((with_reducible apply Wk.cNeF); assumption) | ((with_reducible apply Wk.kCmp); first | assumption | exact rfl)
  | ((with_reducible apply Wk.kIx); first | assumption | exact rfl) | ((with_reducible apply Wk.kBi); first | assumption | exact rfl) | ((with_reducible apply Wk.kQ); first | assumption | exact rfl) | ((with_reducible apply Wk.kTru); first | assumption | exact rfl)
  | ((with_reducible apply Wk.kAt); first | assumption | exact rfl) | ((with_reducible apply Wk.kIxN); first | assumption | exact rfl) | ((with_reducible apply Wk.kLen); first | assumption | exact rfl)
  | ((with_reducible apply Wk.kMk); first | assumption | exact Wk.mkLF rfl | exact Wk.mkLN rfl | exact Wk.mkLF (by assumption) | exact Wk.mkLN (by assumption)) | assumption | ((with_reducible apply Wk.kB); exact rfl))
namespace K07
open PySem PySem.Spec PyProof.Rows L2 StX Wk

theorem dot_le : ∀ {c W : List Int}, (∀ x ∈ c, x.natAbs ≤ 10) → (∀ x ∈ W, x.natAbs ≤ 10 ^ 13) → (dot c W).natAbs ≤ c.length * 10 ^ 14
  | [], W, _, _ => by rw [dot_nil]; simp
  | x :: c, [], _, _ => by rw [dot_nil2]; simp
  | x :: c, y :: W, h1, h2 => by
    have ih := dot_le (c := c) (W := W) (fun x hx => h1 x (List.mem_cons_of_mem _ hx)) fun x hx => h2 x (List.mem_cons_of_mem _ hx)
    have a := Nat.mul_le_mul (h1 x (List.mem_cons_self ..)) (h2 y (List.mem_cons_self ..))
    rw [← Int.natAbs_mul] at a
    rw [dot_cons, List.length_cons]
    omega
theorem cases_ok (n : Nat) {V : List Vec} (hV : V.length ≤ 8) (hb : ∀ v ∈ V, v.1.natAbs ≤ 10 ^ 13 ∧ v.2.natAbs ≤ 10 ^ 13) {x0 x1 x2 x4 x5 x6 x7 x8 x10 : Option Wk.D} {S : Store} : ∀ {L : List Vec} {x9 : Option Wk.D}, (∀ t ∈ L, t.1.natAbs ≤ 2 ^ 60 ∧ t.2.natAbs ≤ 2 ^ 60) →
    ∃ y9, forL (fun d ρ S => asT (runF gl defs (n + 6)) (.nm 9) d ρ S) (evB (runF gl defs (n + 6)) (.cons (.if_ (.not_ (.call false "_law_right" (.cons (.v 3) (.cons (.v 9) .nil)) .nil)) (.cons (.ret (.cbl false)) .nil) .nil) .nil)) none
      (vD L) [x0, x1, x2, some (.tup (vD V)), x4, x5, x6, x7, x8, x9, x10] S = some (.ok [x0, x1, x2, some (.tup (vD V)), x4, x5, x6, x7, x8, y9, x10] S .nx)
  | [], x9, _ => ⟨x9, fNil trivial⟩
  | t :: L, x9, h => by
    obtain ⟨y9, e⟩ := cases_ok n hV hb (x0 := x0) (x1 := x1) (x2 := x2) (x4 := x4) (x5 := x5) (x6 := x6) (x7 := x7) (x8 := x8) (x10 := x10) (S := S) (L := L) (x9 := some (emb2 t)) fun t ht => h t (List.mem_cons_of_mem _ ht)
    refine ⟨y9, ?_⟩
    show forL _ _ none (emb2 t :: vD L) _ _ = _
    refine fCons (ρ1 := [x0, x1, x2, some (.tup (vD V)), x4, x5, x6, x7, x8, some (emb2 t), x10]) (S1 := S) trivial (gNm (Nat.le_of_ble_eq_true rfl)) ?_ e
    have r := right_ok n hV (t := t) (fun v hv => by have := hb v hv; omega) (h t (List.mem_cons_self ..)) S
    exact bIfFN (tNot (tCall (aCons (xV rfl) (aCons (xV rfl) aNil)) r rfl)) bNil
theorem counts_ok (n : Nat) {V : List Vec} (hV : V.length ≤ 8) {l : Nat} {ρ0 : Env'} {S : Store} {m : Int} (h : Src S l m) (hm : m < 10 ^ 8) (hS : FixS S) (hρ : ∀ v : Wk.D, ∃ ρ1, asT (runF gl defs (n + 1)) (.nm 10) v ρ0 = (fun S => some (.ok ρ1 S .nx)) ∧ ρ1[2]? = some (some (.ref l))) :
    ∃ (c : List Int) (T : Store), compL (fun d ρ S => asT (runF gl defs (n + 1)) (.nm 10) d ρ S) (fun ρ => evAll (runF gl defs (n + 1)) .nil ρ) (fun ρ => evE (runF gl defs (n + 1)) (.bin .sub (.call false "_law_draw" (.cons (.v 2) (.cons (.cint 21) .nil)) .nil) (.cint 10)) ρ) ρ0 none [] (vD V) S = some (c.map D.int, T) ∧
      c.length = V.length ∧ (∀ x ∈ c, x.natAbs ≤ 10) ∧ Src T l (m + 8) ∧ FixS T := by
  have lv : (vD V).length = V.length := by unfold vD; exact List.length_map ..
  obtain ⟨acc, T, e, c, rfl, c1, c2, s, f⟩ := compInv (as := fun d ρ S => asT (runF gl defs (n + 1)) (.nm 10) d ρ S) (c := fun ρ => evAll (runF gl defs (n + 1)) .nil ρ) (e := fun ρ => evE (runF gl defs (n + 1)) (.bin .sub (.call false "_law_draw" (.cons (.v 2) (.cons (.cint 21) .nil)) .nil) (.cint 10)) ρ) (ρ := ρ0) (S := S) (g := none) (items := vD V) (acc := [])
    (fun i acc S => ∃ c : List Int, acc = c.map D.int ∧ c.length = i ∧ (∀ x ∈ c, x.natAbs ≤ 10) ∧ Src S l (m + i) ∧ FixS S) ⟨[], rfl, rfl, fun x hx => absurd hx (by simp), by simpa using h, hS⟩ (fun _ _ _ _ _ => trivial) (by
      rintro i d _ S1 hd ⟨c, rfl, c1, c2, s, f⟩
      have hi : i < V.length := by
        have := (List.getElem?_eq_some_iff.mp hd).1
        omega
      obtain ⟨ρ1, e1, e2⟩ := hρ d
      obtain ⟨k, T, ck, k0, k1, s2, f2, _⟩ := drawR (n := n) (R := []) 21 s (by omega) (by omega) (by omega) f FixS.nil
      rw [List.append_nil, List.append_nil] at ck
      refine ⟨ρ1, S1, S1, congrFun e1 S1, .inr ⟨.int (k - 10), T, allN, xBin (xCall (aCons (xV e2) (aCons xI aNil)) ck) xI binSub, lenOk_of (by rw [List.length_map]; omega), c ++ [k - 10], by rw [List.map_append] <;> rfl, by rw [List.length_append, c1] <;> rfl, fun x hx => ?_, s2.mono (by omega), f2⟩⟩
      rcases List.mem_append.mp hx with q | q
      · exact c2 x q
      · rw [List.mem_singleton.mp q]; omega)
  exact ⟨c, T, e, by omega, c2, s.mono (by omega), f⟩
theorem turn_ok (n : Nat) {V : List Vec} (hV : V.length ≤ 8) (hb : ∀ v ∈ V, v.1.natAbs ≤ 10 ^ 13 ∧ v.2.natAbs ≤ 10 ^ 13) {x0 x1 x4 x5 x6 x7 x8 x9 x10 : Option Wk.D} {S : Store} {l : Nat} {m : Int} (h : Src S l m) (hm : m < 10 ^ 7) (hS : FixS S) :
    ∃ y5 y6 y7 y8 y9 y10 T, evB (runF gl defs (n + 6)) (.cons (.asg (.nm 5) (.comp true [("vector", 10)] (.nm 10) (.seq (.v 3)) .nil (.bin .sub (.call false "_law_draw" (.cons (.v 2) (.cons (.cint 21) .nil)) .nil) (.cint 10)))) (.cons (.asg (.nm 6) (.call false "_law_sum" (.cons (.v 3) (.cons (.v 5) .nil)) .nil)) (.cons (.asg (.nm 7) (.tup (.cons (.bin .sub (.bin .add (.ix (.v 6) (.cint 0)) (.call false "_law_draw" (.cons (.v 2) (.cons (.cint 3) .nil)) .nil)) (.cint 1)) (.cons (.bin .sub (.bin .add (.ix (.v 6) (.cint 1)) (.call false "_law_draw" (.cons (.v 2) (.cons (.cint 3) .nil)) .nil)) (.cint 1)) .nil)))) (.cons (.asg (.nm 8) (.tup (.cons (.call false "_law_draw" (.cons (.v 2) (.cons (.bin .pow (.cint 10) (.cint 12)) .nil)) .nil) (.cons (.bin .sub (.cint 0) (.call false "_law_draw" (.cons (.v 2) (.cons (.bin .pow (.cint 10) (.cint 12)) .nil)) .nil)) .nil)))) (.cons (.for_ (.nm 9) (.seq (.tup (.cons (.v 6) (.cons (.v 7) (.cons (.v 8) (.cons (.tup (.cons (.cint 0) (.cons (.cint 0) .nil))) .nil)))))) (.cons (.if_ (.not_ (.call false "_law_right" (.cons (.v 3) (.cons (.v 9) .nil)) .nil)) (.cons (.ret (.cbl false)) .nil) .nil) .nil)) .nil)))))
      [x0, x1, some (.ref l), some (.tup (vD V)), x4, x5, x6, x7, x8, x9, x10] S = some (.ok [x0, x1, some (.ref l), some (.tup (vD V)), x4, y5, y6, y7, y8, y9, y10] T .nx) ∧ Src T l (m + 20) ∧ FixS T := by
  have hB : ∀ w ∈ V, Bi 100 w.1 ∧ Bi 100 w.2 := fun w hw => ⟨bi_mono (bi_of (k := 60) (by have := hb w hw; omega)) (by omega), bi_mono (bi_of (k := 60) (by have := hb w hw; omega)) (by omega)⟩
  obtain ⟨c, T0, e0, c1, c2, s0, f0⟩ := counts_ok (n + 5) hV (ρ0 := [x0, x1, some (.ref l), some (.tup (vD V)), x4, x5, x6, x7, x8, x9, none]) h (by omega) hS fun v => ⟨[x0, x1, some (.ref l), some (.tup (vD V)), x4, x5, x6, x7, x8, x9, some v], funext fun S => gNm (Nat.le_of_ble_eq_true rfl), rfl⟩
  have d1 := dot_le (c := c) (W := V.map (·.1)) c2 fun x hx => by
    obtain ⟨v, hv, rfl⟩ := List.mem_map.mp hx
    exact (hb v hv).1
  have d2 := dot_le (c := c) (W := V.map (·.2)) c2 fun x hx => by
    obtain ⟨v, hv, rfl⟩ := List.mem_map.mp hx
    exact (hb v hv).2
  have sm := fun S => sum_ok (n + 5) (V := V) (c := c) (cs := .lst (c.map D.int)) (fun S => rfl) rfl (noRefs_ints c) (by omega) hB (fun x hx => bi_mono (bi_of (k := 4) (by have := c2 x hx; omega)) (by omega)) S
  generalize dot c (V.map (·.1)) = t1 at *
  generalize dot c (V.map (·.2)) = t2 at *
  have dr : ∀ {ρ : Env'} {S : Store} {k : Int}, ρ[2]? = some (some (.ref l)) → evA (runF gl defs (n + 6)) (.cons (.v 2) (.cons (.cint k) .nil)) ρ S = some (.ok [.ref l, .int k] S) := fun h0 => aCons (xV h0) (aCons xI aNil)
  have dp : ∀ {ρ : Env'} {S : Store}, ρ[2]? = some (some (.ref l)) → evA (runF gl defs (n + 6)) (.cons (.v 2) (.cons (.bin .pow (.cint 10) (.cint 12)) .nil)) ρ S = some (.ok [.ref l, .int (10 ^ (12 : Int).toNat)] S) := fun h0 => aCons (xV h0) (aCons (xBin xI xI (binPow (by decide +kernel))) aNil)
  have p12 : (10 : Int) ^ (12 : Int).toNat = 10 ^ 12 := rfl
  obtain ⟨k1, T1, g1, a1, b1, s1, f1, _⟩ := drawR (n := n + 5) (R := []) 3 s0 (by omega) (by omega) (by omega) f0 FixS.nil
  obtain ⟨k2, T2, g2, a2, b2, s2, f2, _⟩ := drawR (n := n + 5) (R := []) 3 s1 (by omega) (by omega) (by omega) f1 FixS.nil
  obtain ⟨k3, T3, g3, a3, b3, s3, f3, _⟩ := drawR (n := n + 5) (R := []) (10 ^ (12 : Int).toNat) s2 (by omega) (by omega) (by omega) f2 FixS.nil
  obtain ⟨k4, T4, g4, a4, b4, s4, f4, _⟩ := drawR (n := n + 5) (R := []) (10 ^ (12 : Int).toNat) s3 (by omega) (by omega) (by omega) f3 FixS.nil
  rw [List.append_nil, List.append_nil] at g1 g2 g3 g4
  obtain ⟨y9, ec⟩ := cases_ok n hV hb (x0 := x0) (x1 := x1) (x2 := some (.ref l)) (x4 := x4) (x5 := some (.lst (c.map D.int))) (x6 := some (emb2 (t1, t2))) (x7 := some (emb2 (t1 + k1 - 1, t2 + k2 - 1))) (x8 := some (emb2 (k3, 0 - k4))) (x10 := x10) (S := T4)
    (L := [(t1, t2), (t1 + k1 - 1, t2 + k2 - 1), (k3, 0 - k4), (0, 0)]) (x9 := x9) (fun t ht => by
      have q : c.length * 10 ^ 14 ≤ 8 * 10 ^ 14 := Nat.mul_le_mul_right _ (by omega)
      rcases List.mem_cons.mp ht with rfl | ht
      · show t1.natAbs ≤ _ ∧ t2.natAbs ≤ _; omega
      rcases List.mem_cons.mp ht with rfl | ht
      · show (t1 + k1 - 1).natAbs ≤ _ ∧ (t2 + k2 - 1).natAbs ≤ _; omega
      rcases List.mem_cons.mp ht with rfl | ht
      · show k3.natAbs ≤ _ ∧ (0 - k4).natAbs ≤ _; omega
      · rw [List.mem_singleton.mp ht]; show (0 : Int).natAbs ≤ _ ∧ (0 : Int).natAbs ≤ _; omega)
  have is := Wk.iSeq (o := runF gl defs (n + 6)) (a := .v 3) (ρ := [x0, x1, some (.ref l), some (.tup (vD V)), x4, x5, x6, x7, x8, x9, x10]) (S := S) (xV rfl) (show getQO S (.tup (vD V)) = some (vD V) from rfl)
  have ls : lenOk (c.map D.int).length = true := lenOk_of (by rw [List.length_map]; omega)
  refine ⟨some (.lst (c.map D.int)), some (emb2 (t1, t2)), some (emb2 (t1 + k1 - 1, t2 + k2 - 1)), some (emb2 (k3, 0 - k4)), y9, x10, T4, ?_, s4.mono (by omega), f4⟩
  refine bAsg (xComp is e0 (mkLF ls)) (gNm (Nat.le_of_ble_eq_true rfl)) ?_
  refine bAsg (xCall (aCons (xV rfl) (aCons (xV rfl) aNil)) (sm _)) (gNm (Nat.le_of_ble_eq_true rfl)) ?_
  refine bAsg (xTup (aCons (xBin (xBin (xIx (xV rfl) xI ix_e0) (xCall (dr rfl) g1) binAdd) xI binSub) (aCons (xBin (xBin (xIx (xV rfl) xI ix_e1) (xCall (dr rfl) g2) binAdd) xI binSub) aNil)) rfl) (gNm (Nat.le_of_ble_eq_true rfl)) ?_
  refine bAsg (xTup (aCons (xCall (dp rfl) g3) (aCons (xBin xI (xCall (dp rfl) g4) binSub) aNil)) rfl) (gNm (Nat.le_of_ble_eq_true rfl)) ?_
  have ic := Wk.iSeq (o := runF gl defs (n + 6)) (a := .tup (.cons (.v 6) (.cons (.v 7) (.cons (.v 8) (.cons (.tup (.cons (.cint 0) (.cons (.cint 0) .nil))) .nil))))) (ρ := [x0, x1, some (.ref l), some (.tup (vD V)), x4, some (.lst (c.map D.int)), some (emb2 (t1, t2)), some (emb2 (t1 + k1 - 1, t2 + k2 - 1)), some (emb2 (k3, 0 - k4)), x9, x10]) (S := T4)
    (xTup (aCons (xV rfl) (aCons (xV rfl) (aCons (xV rfl) (aCons (xTup (aCons xI (aCons xI aNil)) rfl) aNil)))) rfl) (show getQO T4 (.tup [emb2 (t1, t2), emb2 (t1 + k1 - 1, t2 + k2 - 1), emb2 (k3, 0 - k4), emb2 (0, 0)]) = some _ from rfl)
  exact bCons (sFor ic ec) bNil
end K07
end K07Y_text

section K07Z_text
set_option Elab.async false
set_option linter.all false
set_option maxRecDepth 100000
set_option maxHeartbeats 4000000
set_option exponentiation.threshold 100
local macro_rules | `(tactic| get_elem_tactic_trivial) => `(tactic| first
  | with_reducible exact Wk.xI | with_reducible exact Wk.xB | with_reducible exact Wk.xN | with_reducible exact Wk.xS | with_reducible exact Wk.aNil | with_reducible exact Wk.bNil | with_reducible exact Wk.allN | with_reducible exact Wk.anyN | with_reducible exact Wk.tBl
  | ((with_reducible apply Wk.xV); exact rfl) | ((with_reducible apply Wk.xG); exact rfl) | ((with_reducible apply Wk.gNm); exact Nat.le_of_ble_eq_true rfl)
  | with_reducible apply Wk.xBin | with_reducible apply Wk.xNeg | with_reducible apply Wk.xCmp | with_reducible apply Wk.xTup | with_reducible apply Wk.xLst | with_reducible apply Wk.xIx | with_reducible apply Wk.xSlL | with_reducible apply Wk.xSlH
  | with_reducible apply Wk.xBi | with_reducible apply Wk.xCall | with_reducible apply Wk.xLo | with_reducible apply Wk.xRep | with_reducible apply Wk.xLm | with_reducible apply Wk.xComp | with_reducible apply Wk.aCons | with_reducible apply Wk.aStar
  | with_reducible apply Wk.bRet1 | with_reducible apply Wk.sAsg | with_reducible apply Wk.sExpr | with_reducible exact Wk.gsN | with_reducible apply Wk.gsC | ((with_reducible apply Wk.gTp); exact rfl) | with_reducible apply Wk.gSub
  | with_reducible apply Wk.iSeq | with_reducible apply Wk.iR1 | with_reducible apply Wk.iR2 | with_reducible apply Wk.iZip | with_reducible apply Wk.iEnum
  | with_reducible apply Wk.bAsg | with_reducible apply Wk.bExpr
  | with_reducible apply Wk.tCmp | with_reducible apply Wk.tNot | with_reducible apply Wk.tBi | with_reducible apply Wk.tCall | ((with_reducible apply Wk.tV); exact rfl)
  | with_reducible exact Wk.binAdd | with_reducible exact Wk.binSub | ((with_reducible apply Wk.binMul); first | assumption | decide +kernel) | ((with_reducible apply Wk.binPow); first | assumption | decide +kernel) | ((with_reducible apply Wk.binMod); first | assumption | decide +kernel) | ((with_reducible apply Wk.binFdiv); first | assumption | decide +kernel)
  | ((with_reducible apply Wk.kBin); first | assumption | exact rfl | exact Wk.binMul (by assumption) | exact Wk.binFdiv (by assumption) | exact Wk.binMod (by assumption))
  | ((with_reducible apply Wk.cLtT); assumption) | ((with_reducible apply Wk.cLtF); assumption) | ((with_reducible apply Wk.cGtT); assumption) | ((with_reducible apply Wk.cGtF); assumption) | ((with_reducible apply Wk.cEqT); assumption) | ((with_reducible apply Wk.cEqF); assumption) | ((with_reducible apply Wk.cNeT); assumption) | ((with_reducible apply Wk.cNeF); assumption) | ((with_reducible apply Wk.kCmp); first | assumption | exact rfl)
  | ((with_reducible apply Wk.kIx); first | assumption | exact rfl) | ((with_reducible apply Wk.kBi); first | assumption | exact rfl) | ((with_reducible apply Wk.kQ); first | assumption | exact rfl) | ((with_reducible apply Wk.kTru); first | assumption | exact rfl)
  | ((with_reducible apply Wk.kAt); first | assumption | exact rfl) | ((with_reducible apply Wk.kIxN); first | assumption | exact rfl) | ((with_reducible apply Wk.kLen); first | assumption | exact rfl)
  | ((with_reducible apply Wk.kMk); first | assumption | exact Wk.mkLF rfl | exact Wk.mkLN rfl | exact Wk.mkLF (by assumption) | exact Wk.mkLN (by assumption)) | assumption | ((with_reducible apply Wk.kB); exact rfl))
namespace K07
open PySem PySem.Spec PyProof.Rows L2 StX Wk

theorem turns_ok (n : Nat) {V : List Vec} (hV : V.length ≤ 8) (hb : ∀ v ∈ V, v.1.natAbs ≤ 10 ^ 13 ∧ v.2.natAbs ≤ 10 ^ 13) {x0 x1 : Option Wk.D} {l : Nat} : ∀ {k j : Nat} {x4 x5 x6 x7 x8 x9 x10 : Option Wk.D} {S : Store}, Src S l (100 + 20 * j) → j + k ≤ 6 → FixS S → ∀ is : List Int, is.length = k →
    ∃ y4 y5 y6 y7 y8 y9 y10 T, forL (fun d ρ S => asT (runF gl defs (n + 6)) (.nm 4) d ρ S) (evB (runF gl defs (n + 6)) (.cons (.asg (.nm 5) (.comp true [("vector", 10)] (.nm 10) (.seq (.v 3)) .nil (.bin .sub (.call false "_law_draw" (.cons (.v 2) (.cons (.cint 21) .nil)) .nil) (.cint 10)))) (.cons (.asg (.nm 6) (.call false "_law_sum" (.cons (.v 3) (.cons (.v 5) .nil)) .nil)) (.cons (.asg (.nm 7) (.tup (.cons (.bin .sub (.bin .add (.ix (.v 6) (.cint 0)) (.call false "_law_draw" (.cons (.v 2) (.cons (.cint 3) .nil)) .nil)) (.cint 1)) (.cons (.bin .sub (.bin .add (.ix (.v 6) (.cint 1)) (.call false "_law_draw" (.cons (.v 2) (.cons (.cint 3) .nil)) .nil)) (.cint 1)) .nil)))) (.cons (.asg (.nm 8) (.tup (.cons (.call false "_law_draw" (.cons (.v 2) (.cons (.bin .pow (.cint 10) (.cint 12)) .nil)) .nil) (.cons (.bin .sub (.cint 0) (.call false "_law_draw" (.cons (.v 2) (.cons (.bin .pow (.cint 10) (.cint 12)) .nil)) .nil)) .nil)))) (.cons (.for_ (.nm 9) (.seq (.tup (.cons (.v 6) (.cons (.v 7) (.cons (.v 8) (.cons (.tup (.cons (.cint 0) (.cons (.cint 0) .nil))) .nil)))))) (.cons (.if_ (.not_ (.call false "_law_right" (.cons (.v 3) (.cons (.v 9) .nil)) .nil)) (.cons (.ret (.cbl false)) .nil) .nil) .nil)) .nil)))))) none
      (is.map D.int) [x0, x1, some (.ref l), some (.tup (vD V)), x4, x5, x6, x7, x8, x9, x10] S = some (.ok [x0, x1, some (.ref l), some (.tup (vD V)), y4, y5, y6, y7, y8, y9, y10] T .nx) ∧ FixS T
  | 0, _, x4, x5, x6, x7, x8, x9, x10, S, _, _, f, [], _ => ⟨x4, x5, x6, x7, x8, x9, x10, S, fNil trivial, f⟩
  | k + 1, j, x4, x5, x6, x7, x8, x9, x10, S, s, hj, f, i :: is, hi => by
    obtain ⟨y5, y6, y7, y8, y9, y10, T, e, s2, f2⟩ := turn_ok n hV hb (x0 := x0) (x1 := x1) (x4 := some (.int i)) (x5 := x5) (x6 := x6) (x7 := x7) (x8 := x8) (x9 := x9) (x10 := x10) s (by omega) f
    obtain ⟨z4, z5, z6, z7, z8, z9, z10, T', e', f'⟩ := turns_ok n hV hb (x0 := x0) (x1 := x1) (l := l) (k := k) (j := j + 1) (x4 := some (.int i)) (x5 := y5) (x6 := y6) (x7 := y7) (x8 := y8) (x9 := y9) (x10 := y10) (S := T) (s2.mono (by omega)) (by omega) f2 is (by simpa using hi)
    refine ⟨z4, z5, z6, z7, z8, z9, z10, T', ?_, f'⟩
    exact fCons (ρ1 := [x0, x1, some (.ref l), some (.tup (vD V)), some (.int i), x5, x6, x7, x8, x9, x10]) (S1 := S) trivial (gNm (Nat.le_of_ble_eq_true rfl)) e e'
theorem bi_max {S : Store} {i j : Int} : biO S .max [.int i, .int j] = some (.int (if j > i then j else i)) := rfl
theorem bi_min {S : Store} {i j : Int} : biO S .min [.int i, .int j] = some (.int (if j < i then j else i)) := rfl
theorem law_run (ns : List Int) : Ends1 gl defs 20 dlaw ns := by
  have hr : evI (runF gl defs 20) (.r1 (.bi .max (.cons (.cint 1) (.cons (.bi .min (.cons (.cint 4) (.cons (.bi .len (.cons (.v 0) .nil)) .nil))) .nil)))) [some (.rol (ns.map D.int)), none, none, none, none, none, none, none, none, none, none] [] = some (.ok (none, (List.range (if (if ((ns.length : Nat) : Int) < 4 then ((ns.length : Nat) : Int) else 4) > 1 then (if ((ns.length : Nat) : Int) < 4 then ((ns.length : Nat) : Int) else 4) else 1).toNat).map fun (i : Nat) => D.int i) []) := by
    refine iR1 (xBi (aCons xI (aCons (xBi (aCons xI (aCons (xBi (aCons (xV rfl) aNil) (show biO [] .len [.rol (ns.map D.int)] = some (.int (ns.length : Nat)) from ?_)) aNil)) bi_min) aNil)) bi_max) ?_
    · show some (D.int ((ns.map D.int).length : Nat)) = _
      rw [List.length_map]
    · split <;> split at * <;> omega
  generalize hN : (if (if ((ns.length : Nat) : Int) < 4 then ((ns.length : Nat) : Int) else 4) > 1 then (if ((ns.length : Nat) : Int) < 4 then ((ns.length : Nat) : Int) else 4) else 1).toNat = N at hr
  have hN4 : N ≤ 4 := by
    rw [← hN]
    split <;> split at * <;> omega
  have six : evI (runF gl defs 20) (.r1 (.cint 6)) = fun ρ S => some (.ok (none, [0, 1, 2, 3, 4, 5].map D.int) S) := by
    funext ρ S
    exact iR1 (o := runF gl defs 20) (a := .cint 6) (ρ := ρ) (S := S) (k := 6) xI (by omega)
  obtain ⟨ρ', S', e, x1, x2, x3, x4, x5, x6, x7, x8, x9, x10, rfl, f⟩ := forInv (as := fun d ρ S => asT (runF gl defs 20) (.nm 1) d ρ S) (b := evB (runF gl defs 20) (.cons (.asg (.nm 2) (.call true "_law_source" (.cons (.v 0) (.cons (.v 1) .nil)) .nil)) (.cons (.asg (.nm 3) (.call false "_law_vectors" (.cons (.v 2) .nil) .nil)) (.cons (.for_ (.nm 4) (.r1 (.cint 6)) (.cons (.asg (.nm 5) (.comp true [("vector", 10)] (.nm 10) (.seq (.v 3)) .nil (.bin .sub (.call false "_law_draw" (.cons (.v 2) (.cons (.cint 21) .nil)) .nil) (.cint 10)))) (.cons (.asg (.nm 6) (.call false "_law_sum" (.cons (.v 3) (.cons (.v 5) .nil)) .nil)) (.cons (.asg (.nm 7) (.tup (.cons (.bin .sub (.bin .add (.ix (.v 6) (.cint 0)) (.call false "_law_draw" (.cons (.v 2) (.cons (.cint 3) .nil)) .nil)) (.cint 1)) (.cons (.bin .sub (.bin .add (.ix (.v 6) (.cint 1)) (.call false "_law_draw" (.cons (.v 2) (.cons (.cint 3) .nil)) .nil)) (.cint 1)) .nil)))) (.cons (.asg (.nm 8) (.tup (.cons (.call false "_law_draw" (.cons (.v 2) (.cons (.bin .pow (.cint 10) (.cint 12)) .nil)) .nil) (.cons (.bin .sub (.cint 0) (.call false "_law_draw" (.cons (.v 2) (.cons (.bin .pow (.cint 10) (.cint 12)) .nil)) .nil)) .nil)))) (.cons (.for_ (.nm 9) (.seq (.tup (.cons (.v 6) (.cons (.v 7) (.cons (.v 8) (.cons (.tup (.cons (.cint 0) (.cons (.cint 0) .nil))) .nil)))))) (.cons (.if_ (.not_ (.call false "_law_right" (.cons (.v 3) (.cons (.v 9) .nil)) .nil)) (.cons (.ret (.cbl false)) .nil) .nil) .nil)) .nil)))))) .nil))))
    (g := none) (items := (List.range N).map fun (i : Nat) => D.int i) (ρ := [some (.rol (ns.map D.int)), none, none, none, none, none, none, none, none, none, none]) (S := [])
    (fun i ρ S => ∃ x1 x2 x3 x4 x5 x6 x7 x8 x9 x10, ρ = [some (.rol (ns.map D.int)), x1, x2, x3, x4, x5, x6, x7, x8, x9, x10] ∧ FixS S) ⟨none, none, none, none, none, none, none, none, none, none, rfl, FixS.nil⟩ (fun _ _ _ _ _ => trivial) (by
      rintro i d _ S hd ⟨x1, x2, x3, x4, x5, x6, x7, x8, x9, x10, rfl, f⟩
      obtain ⟨hi, hd⟩ := List.getElem?_eq_some_iff.mp hd
      have hi : i < N := by simpa using hi
      have hd : d = .int (i : Nat) := by rw [← hd]; simp
      subst hd
      obtain ⟨ds, e1, s1, f1⟩ := source_ok (gl := gl) (defs := defs) rfl (n := 19) (S := S) (ns := ns) (i := i) (by omega) f
      obtain ⟨V, S2, e2, v1, v2, s2, f2, _⟩ := vectors_ok 18 s1 (by omega) f1
      obtain ⟨y4, y5, y6, y7, y8, y9, y10, T, e3, f3⟩ := turns_ok 14 v1 v2 (x0 := some (.rol (ns.map D.int))) (x1 := some (.int i)) (l := S.length) (k := 6) (j := 0) (x4 := x4) (x5 := x5) (x6 := x6) (x7 := x7) (x8 := x8) (x9 := x9) (x10 := x10) (S := S2) (s2.mono (by omega)) (by omega) f2 [0, 1, 2, 3, 4, 5] rfl
      refine ⟨[some (.rol (ns.map D.int)), some (.int i), x2, x3, x4, x5, x6, x7, x8, x9, x10], S, [some (.rol (ns.map D.int)), some (.int i), some (.ref S.length), some (.tup (vD V)), y4, y5, y6, y7, y8, y9, y10], T, gNm (Nat.le_of_ble_eq_true rfl), ?_, _, _, _, _, _, _, _, _, _, _, rfl, f3⟩
      refine bAsg (xCall (aCons (xV rfl) (aCons (xV rfl) aNil)) e1) (gNm (Nat.le_of_ble_eq_true rfl)) ?_
      refine bAsg (xCall (aCons (xV rfl) aNil) e2) (gNm (Nat.le_of_ble_eq_true rfl)) ?_
      exact bCons (sFor (congrFun (congrFun six _) _) e3) bNil)
  refine ⟨S', ?_⟩
  have run : evB (runF gl defs 20) dlaw.body [some (.rol (ns.map D.int)), none, none, none, none, none, none, none, none, none, none] [] = some (.ok [some (.rol (ns.map D.int)), x1, x2, x3, x4, x5, x6, x7, x8, x9, x10] S' (.rt (.bl true))) := by
    simp only [dlaw]
    exact bCons (sFor hr e) (bRet1 xB)
  show endR (evB (runF gl defs 20) dlaw.body [some (.rol (ns.map D.int)), none, none, none, none, none, none, none, none, none, none] []) = _
  rw [run] <;> rfl
end K07
theorem PySem.Challenge.cw_walkagon_k07_combinations_holds : PySem.Challenge.rw_walkagon_k07_combinations.Holds := by
  exact PySem.Challenge.of_K07 fun ns _ _ => K07.law_run ns
end K07Z_text
