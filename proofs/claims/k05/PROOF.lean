import PyProof.Rows.All
import Wide.All
import OpenK.AllK
import Wide.FinOn
import HandS.ForMost
import HandS.ForExc
import HandS.IsInst
import KE.SortKeyHeap
import HandS.TupAny
import KE.DataEq
import KE.LtData
import KE.DataCmp
import HandS.Flow
import HandS.SortKw
import HandS.Exc
import HandS.Style
import HandS.Ends
import HandS.More
import HandS.Words
import HandS.Defaults
import HandS.Head0
import HandS.Head1
import HandS.Head2
import HandS.HeadEnd
import HandS.HeadHook1
import HandS.HeadHook2
import PySem.Challenge.RW_panelsagree_k05_verdicts_and_views
set_option Elab.async false
set_option linter.all false
set_option maxRecDepth 100000
set_option maxHeartbeats 4000000
/-! Z, part A: values without a heap, how a heap bears them, what a def's frame owns. -/
namespace Z
open PySem PySem.Spec PyProof.Rows L2

inductive D where
  | non | bl (b : Bool) | int (i : Int) | str (x : Str)
  | tup (xs : List D) | lst (xs : List D) | dic (ks ds : List D) | obj (c : Str) (fs : List Str) (ds : List D)
  | scr (ns : List Int)

/-- the written part and where the text's classes stand -/
structure Mx where
  K : PySem.W.Frag
  cn : Str → Option Addr

/-- a key of a dict as a datum -/
def kD : Key → D
  | .inl i => .int i
  | .inr x => .str x
/-- a dict at a, its keys, its values -/
def DicAt (H : Hp) (a : Addr) (ks : List D) (us : List V) : Prop :=
  (∃ kvs : List (Key × V), Rd H a (.dK kvs) ∧ ks = kvs.map (fun p => kD p.1) ∧ us = kvs.map (·.2)) ∨
  (∃ kvs : List (List Key × V), Rd H a (.dT kvs) ∧ ks = kvs.map (fun p => .tup (p.1.map kD)) ∧ us = kvs.map (·.2))

mutual
def Rep (M : Mx) (H : Hp) : D → V → Prop
  | .non, v => v = .non
  | .bl b, v => v = .bl b
  | .int i, v => v = .int i
  | .str x, v => v = .str x
  | .tup xs, v => ∃ a vs, v = .ref a ∧ SqT M.K H a vs ∧ Reps M H xs vs
  | .lst xs, v => ∃ a vs, v = .ref a ∧ H a = some (.lst vs) ∧ Reps M H xs vs
  | .dic ks ds, v => ∃ a us, v = .ref a ∧ DicAt H a ks us ∧ Reps M H ds us
  | .obj c fs ds, v => ∃ a C dx us, v = .ref a ∧ H a = some (.ins C dx (fs.zip us)) ∧ fs.length = us.length ∧ M.cn c = some C ∧ Reps M H ds us
  | .scr ns, v => ∃ a, v = .ref a ∧ SqL M.K H a (ns.map V.int)
def Reps (M : Mx) (H : Hp) : List D → List V → Prop
  | [], vs => vs = []
  | d :: ds, vs => ∃ v r, vs = v :: r ∧ Rep M H d v ∧ Reps M H ds r
end

section
variable {M : Mx} {H H' F F' : Hp}
theorem SqT.same {K : PySem.W.Frag} {a : Addr} {xs : List V} (e : Same H H') (h : SqT K H a xs) : SqT K H' a xs := by
  rcases h with (h | ⟨o, h⟩) | h
  · exact .inl (.inl (e _ _ h))
  · exact .inl (.inr ⟨o, e _ _ h⟩)
  · exact .inr h
theorem Rd.same {a : Addr} {u : HO} (e : Same H H') (h : Rd H a u) : Rd H' a u := by
  rcases h with h | ⟨o, h⟩
  · exact .inl (e _ _ h)
  · exact .inr ⟨o, e _ _ h⟩
theorem DicAt.same {a : Addr} {ks : List D} {us : List V} (e : Same H H') (h : DicAt H a ks us) : DicAt H' a ks us := by
  rcases h with ⟨kvs, h, q⟩ | ⟨kvs, h, q⟩
  · exact .inl ⟨kvs, Rd.same e h, q⟩
  · exact .inr ⟨kvs, Rd.same e h, q⟩
mutual
theorem Rep.same (e : Same H H') : ∀ (d : D) (v : V), Rep M H d v → Rep M H' d v
  | .non, _, h => by simpa only [Rep] using h
  | .bl _, _, h => by simpa only [Rep] using h
  | .int _, _, h => by simpa only [Rep] using h
  | .str _, _, h => by simpa only [Rep] using h
  | .tup xs, v, h => by
    simp only [Rep] at h ⊢
    obtain ⟨a, vs, r, q, z⟩ := h
    exact ⟨a, vs, r, SqT.same e q, Reps.same e xs vs z⟩
  | .lst xs, v, h => by
    simp only [Rep] at h ⊢
    obtain ⟨a, vs, r, q, z⟩ := h
    exact ⟨a, vs, r, e _ _ q, Reps.same e xs vs z⟩
  | .dic ks ds, v, h => by
    simp only [Rep] at h ⊢
    obtain ⟨a, us, r, q, z⟩ := h
    exact ⟨a, us, r, DicAt.same e q, Reps.same e ds us z⟩
  | .obj c fs ds, v, h => by
    simp only [Rep] at h ⊢
    obtain ⟨a, C, dx, us, r, q, l, c, z⟩ := h
    exact ⟨a, C, dx, us, r, e _ _ q, l, c, Reps.same e ds us z⟩
  | .scr ns, v, h => by
    simp only [Rep] at h ⊢
    obtain ⟨a, r, q⟩ := h
    exact ⟨a, r, e.seq q⟩
theorem Reps.same (e : Same H H') : ∀ (ds : List D) (vs : List V), Reps M H ds vs → Reps M H' ds vs
  | [], _, h => by simpa only [Reps] using h
  | d :: ds, vs, h => by
    simp only [Reps] at h ⊢
    obtain ⟨v, r, q, h1, h2⟩ := h
    exact ⟨v, r, q, Rep.same e d v h1, Reps.same e ds r h2⟩
end

theorem Reps.nil_iff {vs : List V} : Reps M H [] vs ↔ vs = [] := by simp only [Reps]
theorem Reps.cons {d : D} {ds : List D} {v : V} {vs : List V} (h : Rep M H d v) (t : Reps M H ds vs) : Reps M H (d :: ds) (v :: vs) := by
  simp only [Reps]
  exact ⟨v, vs, rfl, h, t⟩
theorem Reps.len : ∀ {ds : List D} {vs : List V}, Reps M H ds vs → ds.length = vs.length
  | [], _, h => by simp only [Reps] at h; rw [h]; rfl
  | d :: ds, vs, h => by
    simp only [Reps] at h
    obtain ⟨v, r, rfl, _, t⟩ := h
    rw [List.length_cons, List.length_cons, Reps.len t]
theorem Reps.append : ∀ {ds es : List D} {vs us : List V}, Reps M H ds vs → Reps M H es us → Reps M H (ds ++ es) (vs ++ us)
  | [], _, _, _, h, t => by simp only [Reps] at h; subst h; exact t
  | d :: ds, es, vs, us, h, t => by
    simp only [Reps] at h
    obtain ⟨v, r, rfl, q, z⟩ := h
    exact Reps.cons q (Reps.append z t)
theorem Reps.get : ∀ {ds : List D} {vs : List V} {i : Nat} {d : D}, Reps M H ds vs → ds[i]? = some d → ∃ v, vs[i]? = some v ∧ Rep M H d v
  | [], _, _, _, _, e => by simp at e
  | d :: ds, vs, 0, x, h, e => by
    simp only [Reps] at h
    obtain ⟨v, r, rfl, q, z⟩ := h
    simp at e
    subst e
    exact ⟨v, rfl, q⟩
  | d :: ds, vs, i + 1, x, h, e => by
    simp only [Reps] at h
    obtain ⟨v, r, rfl, q, z⟩ := h
    simp at e
    obtain ⟨w, h1, h2⟩ := Reps.get z e
    exact ⟨w, by simpa using h1, h2⟩
theorem Reps.got : ∀ {ds : List D} {vs : List V} {i : Nat} {v : V}, Reps M H ds vs → vs[i]? = some v → ∃ d, ds[i]? = some d ∧ Rep M H d v
  | [], _, _, _, h, e => by simp only [Reps] at h; subst h; simp at e
  | d :: ds, vs, 0, x, h, e => by
    simp only [Reps] at h
    obtain ⟨v, r, rfl, q, z⟩ := h
    simp at e
    subst e
    exact ⟨d, rfl, q⟩
  | d :: ds, vs, i + 1, x, h, e => by
    simp only [Reps] at h
    obtain ⟨v, r, rfl, q, z⟩ := h
    simp at e
    obtain ⟨w, h1, h2⟩ := Reps.got z e
    exact ⟨w, by simpa using h1, h2⟩
theorem Reps.take : ∀ {ds : List D} {vs : List V} (n : Nat), Reps M H ds vs → Reps M H (ds.take n) (vs.take n)
  | _, _, 0, _ => by simp [Reps]
  | [], _, n + 1, h => by simp only [Reps] at h; subst h; simp [Reps]
  | d :: ds, vs, n + 1, h => by
    simp only [Reps] at h
    obtain ⟨v, r, rfl, q, z⟩ := h
    exact Reps.cons q (Reps.take n z)
theorem Reps.drop : ∀ {ds : List D} {vs : List V} (n : Nat), Reps M H ds vs → Reps M H (ds.drop n) (vs.drop n)
  | _, _, 0, h => h
  | [], _, n + 1, h => by simp only [Reps] at h; subst h; simp [Reps]
  | d :: ds, vs, n + 1, h => by
    simp only [Reps] at h
    obtain ⟨v, r, rfl, q, z⟩ := h
    exact Reps.drop n z
theorem Reps.set : ∀ {ds : List D} {vs : List V} (i : Nat) {d : D} {v : V}, Reps M H ds vs → Rep M H d v → Reps M H (ds.set i d) (vs.set i v)
  | [], _, i, _, _, h, _ => by simp only [Reps] at h; subst h; simp [Reps]
  | d :: ds, vs, 0, _, _, h, t => by
    simp only [Reps] at h
    obtain ⟨v, r, rfl, q, z⟩ := h
    exact Reps.cons t z
  | d :: ds, vs, i + 1, _, _, h, t => by
    simp only [Reps] at h
    obtain ⟨v, r, rfl, q, z⟩ := h
    exact Reps.cons q (Reps.set i z t)
theorem Reps.rev : ∀ {ds : List D} {vs : List V}, Reps M H ds vs → Reps M H ds.reverse vs.reverse
  | [], _, h => by simp only [Reps] at h; subst h; simp [Reps]
  | d :: ds, vs, h => by
    simp only [Reps] at h
    obtain ⟨v, r, rfl, q, z⟩ := h
    rw [List.reverse_cons, List.reverse_cons]
    exact Reps.append (Reps.rev z) (Reps.cons q (by simp [Reps]))
theorem Reps.mem {ds : List D} {vs : List V} (h : Reps M H ds vs) {v : V} (hv : v ∈ vs) : ∃ d, d ∈ ds ∧ Rep M H d v := by
  obtain ⟨i, hi⟩ := List.mem_iff_getElem?.mp hv
  obtain ⟨d, h1, h2⟩ := h.got hi
  exact ⟨d, List.mem_of_getElem? h1, h2⟩
end

/-! ### what a frame owns -/
inductive Fl where
  | sh | own | deep
  deriving DecidableEq

/-- F and the objects at fp as H has them -/
def ext (F H : Hp) (fp : List Addr) : Hp := fun b => if b ∈ fp then H b else F b
/-- the other addresses -/
def but (fp : List Addr) (a : Addr) : List Addr := fp.filter fun b => decide (b ≠ a)
theorem mem_but {fp : List Addr} {a b : Addr} : b ∈ but fp a ↔ b ∈ fp ∧ b ≠ a := by
  unfold but
  rw [List.mem_filter, decide_eq_true_eq]
mutual
/-- a value all of whose objects stand at fp, those within elsewhere than it -/
def RepD (M : Mx) (H : Hp) (fp : List Addr) : D → V → Prop
  | .non, v => v = .non
  | .bl b, v => v = .bl b
  | .int i, v => v = .int i
  | .str x, v => v = .str x
  | .tup xs, v => ∃ a vs, v = .ref a ∧ a ∈ fp ∧ H a = some (.tup vs) ∧ RepDs M H (but fp a) xs vs
  | .lst xs, v => ∃ a vs, v = .ref a ∧ a ∈ fp ∧ H a = some (.lst vs) ∧ RepDs M H (but fp a) xs vs
  | .dic _ _, _ => False
  | .obj _ _ _, _ => False
  | .scr _, _ => False
def RepDs (M : Mx) (H : Hp) (fp : List Addr) : List D → List V → Prop
  | [], vs => vs = []
  | d :: ds, vs => ∃ v r, vs = v :: r ∧ RepD M H fp d v ∧ RepDs M H fp ds r
end
section
variable {M : Mx} {H H' F F' : Hp} {fp fp' : List Addr}
mutual
theorem RepD.mono {fp fp' : List Addr} (e : ∀ b ∈ fp, ∀ o, H b = some o → H' b = some o) (hs : ∀ b ∈ fp, b ∈ fp') : ∀ (d : D) (v : V), RepD M H fp d v → RepD M H' fp' d v
  | .non, _, h => by simpa only [RepD] using h
  | .bl _, _, h => by simpa only [RepD] using h
  | .int _, _, h => by simpa only [RepD] using h
  | .str _, _, h => by simpa only [RepD] using h
  | .tup xs, v, h => by
    simp only [RepD] at h ⊢
    obtain ⟨a, vs, r, m, q, z⟩ := h
    exact ⟨a, vs, r, hs a m, e a m _ q, RepDs.mono (fun b hb => e b (mem_but.mp hb).1) (fun b hb => mem_but.mpr ⟨hs b (mem_but.mp hb).1, (mem_but.mp hb).2⟩) xs vs z⟩
  | .lst xs, v, h => by
    simp only [RepD] at h ⊢
    obtain ⟨a, vs, r, m, q, z⟩ := h
    exact ⟨a, vs, r, hs a m, e a m _ q, RepDs.mono (fun b hb => e b (mem_but.mp hb).1) (fun b hb => mem_but.mpr ⟨hs b (mem_but.mp hb).1, (mem_but.mp hb).2⟩) xs vs z⟩
  | .dic _ _, _, h => by simp only [RepD] at h
  | .obj _ _ _, _, h => by simp only [RepD] at h
  | .scr _, _, h => by simp only [RepD] at h
theorem RepDs.mono {fp fp' : List Addr} (e : ∀ b ∈ fp, ∀ o, H b = some o → H' b = some o) (hs : ∀ b ∈ fp, b ∈ fp') : ∀ (ds : List D) (vs : List V), RepDs M H fp ds vs → RepDs M H' fp' ds vs
  | [], _, h => by simpa only [RepDs] using h
  | d :: ds, vs, h => by
    simp only [RepDs] at h ⊢
    obtain ⟨v, r, q, h1, h2⟩ := h
    exact ⟨v, r, q, RepD.mono e hs d v h1, RepDs.mono e hs ds r h2⟩
end
mutual
theorem RepD.rep {fp : List Addr} (e : ∀ b ∈ fp, ∀ o, H b = some o → F b = some o) : ∀ (d : D) (v : V), RepD M H fp d v → Rep M F d v
  | .non, _, h => by simpa only [RepD, Rep] using h
  | .bl _, _, h => by simpa only [RepD, Rep] using h
  | .int _, _, h => by simpa only [RepD, Rep] using h
  | .str _, _, h => by simpa only [RepD, Rep] using h
  | .tup xs, v, h => by
    simp only [RepD] at h
    simp only [Rep]
    obtain ⟨a, vs, r, m, q, z⟩ := h
    exact ⟨a, vs, r, .inl (.inl (e a m _ q)), RepDs.reps (fun b hb => e b (mem_but.mp hb).1) xs vs z⟩
  | .lst xs, v, h => by
    simp only [RepD] at h
    simp only [Rep]
    obtain ⟨a, vs, r, m, q, z⟩ := h
    exact ⟨a, vs, r, e a m _ q, RepDs.reps (fun b hb => e b (mem_but.mp hb).1) xs vs z⟩
  | .dic _ _, _, h => by simp only [RepD] at h
  | .obj _ _ _, _, h => by simp only [RepD] at h
  | .scr _, _, h => by simp only [RepD] at h
theorem RepDs.reps {fp : List Addr} (e : ∀ b ∈ fp, ∀ o, H b = some o → F b = some o) : ∀ (ds : List D) (vs : List V), RepDs M H fp ds vs → Reps M F ds vs
  | [], _, h => by simpa only [RepDs, Reps] using h
  | d :: ds, vs, h => by
    simp only [RepDs] at h
    simp only [Reps]
    obtain ⟨v, r, q, h1, h2⟩ := h
    exact ⟨v, r, q, RepD.rep e d v h1, RepDs.reps e ds r h2⟩
end
theorem RepDs.cons {d : D} {ds : List D} {v : V} {vs : List V} (h : RepD M H fp d v) (t : RepDs M H fp ds vs) : RepDs M H fp (d :: ds) (v :: vs) := by
  simp only [RepDs]
  exact ⟨v, vs, rfl, h, t⟩
theorem RepDs.append : ∀ {ds es : List D} {vs us : List V}, RepDs M H fp ds vs → RepDs M H fp es us → RepDs M H fp (ds ++ es) (vs ++ us)
  | [], _, _, _, h, t => by simp only [RepDs] at h; subst h; exact t
  | d :: ds, es, vs, us, h, t => by
    simp only [RepDs] at h
    obtain ⟨v, r, rfl, q, z⟩ := h
    exact RepDs.cons q (RepDs.append z t)
end

/-- a value as a slot (or a call's answer) holds it: sh: all of it in F; own: its outermost object is at fp, not in F, the rest in F; deep: all its objects are at fp -/
def Val (M : Mx) (H F : Hp) (fl : Fl) (d : D) (v : V) (fp : List Addr) : Prop :=
  match fl with
  | .sh => Rep M F d v
  | .deep => RepD M H fp d v
  | .own => match d with
    | .lst xs => ∃ a vs, v = .ref a ∧ fp = [a] ∧ H a = some (.lst vs) ∧ Reps M F xs vs
    | .dic ks ds => ∃ a us, v = .ref a ∧ fp = [a] ∧ DicAt H a ks us ∧ (∀ o u, H a ≠ some (.frz o u)) ∧ Reps M F ds us
    | .obj c fs ds => ∃ a C dx us, v = .ref a ∧ fp = [a] ∧ H a = some (.ins C dx (fs.zip us)) ∧ fs.length = us.length ∧ M.cn c = some C ∧ Reps M F ds us
    | d => Rep M F d v

/-- from (H, F) to (H', F'): what was tracked stays; F grows by new objects alone -/
structure Gr (H F H' F' : Hp) : Prop where
  h : Same H H'
  f : Same F F'
  fh : Same F' H'
  new : ∀ b, F' b ≠ none → F b ≠ none ∨ H b = none
/-- fp is new over (H, F), outside of F' -/
def Fresh (H F' : Hp) (fp : List Addr) : Prop := ∀ b ∈ fp, H b = none ∧ F' b = none

section
variable {M : Mx} {H H' H'' F F' F'' : Hp} {fp : List Addr}
theorem Gr.refl (h : Same F H) : Gr H F H F := ⟨.refl _, .refl _, h, fun _ z => .inl z⟩
theorem Gr.trans (a : Gr H F H' F') (b : Gr H' F' H'' F'') : Gr H F H'' F'' where
  h := a.h.trans b.h
  f := a.f.trans b.f
  fh := b.fh
  new := fun c z => by
    rcases b.new c z with z | z
    · exact a.new c z
    · exact .inr (a.h.free z)
/-- one new object, into F -/
theorem Gr.newF {p : Addr} {o : HO} (h : Same F H) (hp : H p = none) : Gr H F (upd H p o) (upd F p o) where
  h := fun b u e => by rw [upd_ne (ne_of_none e hp)]; exact e
  f := fun b u e => by rw [upd_ne (ne_of_none (h b u e) hp)]; exact e
  fh := fun b u e => by
    by_cases hb : b = p
    · subst hb; rw [upd_same] at e ⊢; exact e
    · rw [upd_ne hb] at e ⊢; exact h b u e
  new := fun b z => by
    by_cases hb : b = p
    · subst hb; exact .inr hp
    · rw [upd_ne hb] at z; exact .inl z
/-- one new object, not into F -/
theorem Gr.newO {p : Addr} {o : HO} (h : Same F H) (hp : H p = none) : Gr H F (upd H p o) F where
  h := fun b u e => by rw [upd_ne (ne_of_none e hp)]; exact e
  f := .refl _
  fh := fun b u e => by rw [upd_ne (ne_of_none (h b u e) hp)]; exact h b u e
  new := fun b z => .inl z
theorem upd_free {p : Addr} {o : HO} (h : Same F H) (hp : H p = none) : F p = none := h.free hp

theorem ext_same_of (h : Same F H) : Same F (ext F H fp) := fun b o e => by
  unfold ext
  split
  · exact h b o e
  · exact e
theorem ext_in (h : Same F H) : Same (ext F H fp) H := fun b o e => by
  unfold ext at e
  split at e
  · exact e
  · exact h b o e
theorem ext_at {b : Addr} (hb : b ∈ fp) : ext F H fp b = H b := by unfold ext; rw [if_pos hb]
theorem ext_off {b : Addr} (hb : b ∉ fp) : ext F H fp b = F b := by unfold ext; rw [if_neg hb]
/-- what was owned is given to F -/
theorem Val.sh {fl : Fl} {d : D} {v : V} (h : Same F H) (x : Val M H F fl d v fp) : Rep M (ext F H fp) d v := by
  cases fl with
  | sh => exact Rep.same (ext_same_of h) d v x
  | deep => exact RepD.rep (fun b hb o e => by rw [ext_at hb]; exact e) d v x
  | own =>
    cases d with
    | lst xs =>
      obtain ⟨a, vs, rfl, rfl, q, z⟩ := x
      simp only [Rep]
      exact ⟨a, vs, rfl, by rw [ext_at (by simp)]; exact q, Reps.same (ext_same_of h) xs vs z⟩
    | dic ks ds =>
      obtain ⟨a, us, rfl, rfl, q, _, z⟩ := x
      simp only [Rep]
      refine ⟨a, us, rfl, ?_, Reps.same (ext_same_of h) ds us z⟩
      have e : ext F H [a] a = H a := ext_at (by simp)
      rcases q with ⟨kvs, q, r⟩ | ⟨kvs, q, r⟩
      · exact .inl ⟨kvs, by unfold Rd at q ⊢; rw [e]; exact q, r⟩
      · exact .inr ⟨kvs, by unfold Rd at q ⊢; rw [e]; exact q, r⟩
    | obj c fs ds =>
      obtain ⟨a, C, dx, us, rfl, rfl, q, l, c, z⟩ := x
      simp only [Rep]
      exact ⟨a, C, dx, us, rfl, by rw [ext_at (by simp)]; exact q, l, c, Reps.same (ext_same_of h) ds us z⟩
    | non => exact Rep.same (ext_same_of h) _ v x
    | bl _ => exact Rep.same (ext_same_of h) _ v x
    | int _ => exact Rep.same (ext_same_of h) _ v x
    | str _ => exact Rep.same (ext_same_of h) _ v x
    | tup _ => exact Rep.same (ext_same_of h) _ v x
    | scr _ => exact Rep.same (ext_same_of h) _ v x
theorem Val.rep {fl : Fl} {d : D} {v : V} (h : Same F H) (x : Val M H F fl d v fp) : Rep M H d v := Rep.same (ext_in h) d v (Val.sh h x)
/-- the heap grows -/
theorem Val.grow {fl : Fl} {d : D} {v : V} (h : Same H H') (f : Same F F') (x : Val M H F fl d v fp) : Val M H' F' fl d v fp := by
  cases fl with
  | sh => exact Rep.same f d v x
  | deep => exact RepD.mono (fun b _ o e => h b o e) (fun _ z => z) d v x
  | own =>
    cases d with
    | lst xs =>
      obtain ⟨a, vs, e, r, q, z⟩ := x
      exact ⟨a, vs, e, r, h _ _ q, Reps.same f xs vs z⟩
    | dic ks ds =>
      obtain ⟨a, us, e, r, q, nf, z⟩ := x
      refine ⟨a, us, e, r, DicAt.same h q, fun o u z => ?_, Reps.same f ds us z⟩
      have key : ∀ w, Rd H a w → ∃ w', H a = some w' ∧ H' a = some w' := fun w q => by
        rcases q with q | ⟨o', q⟩
        · exact ⟨_, q, h _ _ q⟩
        · exact ⟨_, q, h _ _ q⟩
      rcases q with ⟨kvs, q, _⟩ | ⟨kvs, q, _⟩
      all_goals
        obtain ⟨w', e1, e2⟩ := key _ q
        rw [z] at e2
        cases e2
        exact nf _ _ e1
    | obj c fs ds =>
      obtain ⟨a, C, dx, us, e, r, q, l, c, z⟩ := x
      exact ⟨a, C, dx, us, e, r, h _ _ q, l, c, Reps.same f ds us z⟩
    | non => exact Rep.same f _ v x
    | bl _ => exact Rep.same f _ v x
    | int _ => exact Rep.same f _ v x
    | str _ => exact Rep.same f _ v x
    | tup _ => exact Rep.same f _ v x
    | scr _ => exact Rep.same f _ v x
/-- what was new goes into F -/
theorem Gr.give {H' F' : Hp} (g : Gr H F H' F') (fr : Fresh H F' fp) : Gr H F H' (ext F' H' fp) where
  h := g.h
  f := g.f.trans (ext_same_of g.fh)
  fh := ext_in g.fh
  new := fun b z => by
    by_cases hb : b ∈ fp
    · exact .inr (fr b hb).1
    · rw [ext_off hb] at z; exact g.new b z
end
end Z
/-! Z, part B: what the text's expressions and statements are worth, as plain functions of the names' values. -/
namespace Z
open PySem PySem.Spec PyProof.Rows L2

/-- an answer: a value; an exception of an own class with its one field; or: not told -/
inductive R (α : Type) where
  | ok (a : α) | ex (c : Str) (d : D) | no

def R.bind {α β : Type} (r : R α) (f : α → R β) : R β :=
  match r with
  | .ok a => f a
  | .ex c d => .ex c d
  | .no => .no
@[simp] theorem R.bind_ok {α β : Type} (a : α) (f : α → R β) : (R.ok a).bind f = f a := rfl
@[simp] theorem R.bind_no {α β : Type} (f : α → R β) : (R.no : R α).bind f = .no := rfl
@[simp] theorem R.bind_ex {α β : Type} (c : Str) (d : D) (f : α → R β) : (R.ex c d : R α).bind f = .ex c d := rfl
theorem R.bind_eq_ok {α β : Type} {r : R α} {f : α → R β} {b : β} (h : r.bind f = .ok b) : ∃ a, r = .ok a ∧ f a = .ok b := by
  cases r with
  | ok a => exact ⟨a, rfl, h⟩
  | ex c d => cases h
  | no => cases h
def chk {α : Type} (c : Bool) (r : R α) : R α := if c = true then r else .no
theorem chk_ok {α : Type} {c : Bool} {r : R α} {a : α} (h : chk c r = .ok a) : c = true ∧ r = .ok a := by
  unfold chk at h
  split at h
  · exact ⟨by assumption, h⟩
  · cases h
@[simp] theorem chk_true {α : Type} (r : R α) : chk true r = r := rfl
@[simp] theorem chk_false {α : Type} (r : R α) : chk false r = .no := rfl

/-! ### data to be compared -/
mutual
def toPy : D → PyData
  | .non => .none
  | .bl b => .bool b
  | .int i => .int i
  | .str x => .str x
  | .tup xs => .tuple (toPys xs)
  | .lst xs => .list (toPys xs)
  | .dic _ _ => .dict []
  | .obj _ _ _ => .dict []
  | .scr _ => .dict []
def toPys : List D → List PyData
  | [] => []
  | d :: r => toPy d :: toPys r
end
theorem toPys_map : ∀ ds : List D, toPys ds = ds.map toPy
  | [] => rfl
  | d :: r => by simp only [toPys, List.map_cons, toPys_map r]
/-- may be compared -/
def fine (d : D) : Bool := (toPy d).plain && decide ((toPy d).depth ≤ 100)
def eqv (x y : D) : Bool := PyData.eqv (toPy x) (toPy y)
/-- may be ordered -/
def sorts (x y : D) : Bool := PySem.W.alike (toPy x) (toPy y) && fine x && fine y && (match x with | .non => false | _ => true)
def lt (x y : D) : Bool := PySem.W.dataLt (toPy x) (toPy y)
def isAtom : D → Bool
  | .non => true
  | .bl _ => true
  | .int _ => true
  | .str _ => true
  | _ => false

/-! ### operators -/
def addD : D → D → R D
  | .int i, .int j => .ok (.int (i + j))
  | .str x, .str y => chk (decide (x.length + y.length ≤ sizeLine)) (.ok (.str (x ++ y)))
  | .lst xs, .lst ys => chk (decide (xs.length + ys.length ≤ sizeLine)) (.ok (.lst (xs ++ ys)))
  | .tup xs, .tup ys => chk (decide (xs.length + ys.length ≤ sizeLine)) (.ok (.tup (xs ++ ys)))
  | _, _ => .no
def subD : D → D → R D
  | .int i, .int j => .ok (.int (i - j))
  | _, _ => .no
def mulD : D → D → R D
  | .int i, .int j => chk (decide (i.natAbs < 2 ^ 64 ∨ j.natAbs < 2 ^ 64)) (.ok (.int (i * j)))
  | .lst xs, .int k => chk (decide (0 ≤ k ∧ k ≤ 1000000 ∧ xs.length * k.toNat ≤ sizeLine)) (.ok (.lst (List.replicate k.toNat xs).flatten))
  | _, _ => .no
def fdivD : D → D → R D
  | .int i, .int j => chk (decide (0 < j ∧ j < 1073741824)) (.ok (.int (i / j)))
  | _, _ => .no
def modD : D → D → R D
  | .int i, .int j => chk (decide (0 < j)) (.ok (.int (i % j)))
  | _, _ => .no
def powD : D → D → R D
  | .int i, .int j => chk (decide (0 ≤ j ∧ j ≤ 1000000 ∧ i.natAbs < 2 ^ 64)) (.ok (.int (i ^ j.toNat)))
  | _, _ => .no
def binD : Operator → D → D → R D
  | .Add => addD
  | .Sub => subD
  | .Mult => mulD
  | .FloorDiv => fdivD
  | .Mod => modD
  | .Pow => powD
  | _ => fun _ _ => .no
def negD : D → R D
  | .int i => .ok (.int (-i))
  | _ => .no

/-- what counts as true -/
def truD : D → R Bool
  | .non => .ok false
  | .bl b => .ok b
  | .int i => .ok (i != 0)
  | .str x => chk (decide (x.length ≤ sizeLine)) (.ok (x.length != 0))
  | .tup xs => .ok (!xs.isEmpty)
  | .lst xs => .ok (!xs.isEmpty)
  | _ => .no

def inD (x : D) : D → R Bool
  | .lst ys => chk (fine x && fine (.lst ys)) (.ok (ys.any fun y => eqv y x))
  | .tup ys => chk (fine x && fine (.tup ys)) (.ok (ys.any fun y => eqv y x))
  | .str z => match x with
    | .str c => chk (decide (c.length = 1)) (.ok (decide (c.cps.getD 0 0 ∈ z.cps.toList)))
    | _ => .no
  | _ => .no
def ltD : D → D → R Bool
  | .int i, .int j => .ok (decide (i < j))
  | .str x, .str y => .ok (decide (x.cps.toList < y.cps.toList))
  | .lst xs, .lst ys => chk (sorts (.lst xs) (.lst ys)) (.ok (lt (.lst xs) (.lst ys)))
  | .tup xs, .tup ys => chk (sorts (.tup xs) (.tup ys)) (.ok (lt (.tup xs) (.tup ys)))
  | _, _ => .no
def leD : D → D → R Bool
  | .int i, .int j => .ok (decide (i ≤ j))
  | _, _ => .no
def gtD : D → D → R Bool
  | .int i, .int j => .ok (decide (j < i))
  | _, _ => .no
def geD : D → D → R Bool
  | .int i, .int j => .ok (decide (j ≤ i))
  | _, _ => .no
def isNone : D → Bool
  | .non => true
  | _ => false
def eqD (x y : D) : R Bool := chk (fine x && fine y) (.ok (eqv x y))
def isD : D → D → R Bool
  | x, .non => .ok (isNone x)
  | _, _ => .no
def notR (r : R Bool) : R Bool := r.bind fun b => .ok (!b)
def cmpD : CmpOp → D → D → R Bool
  | .Eq, x, y => eqD x y
  | .NotEq, x, y => notR (eqD x y)
  | .Lt, x, y => ltD x y
  | .LtE, x, y => leD x y
  | .Gt, x, y => gtD x y
  | .GtE, x, y => geD x y
  | .Is, x, y => isD x y
  | .IsNot, x, y => notR (isD x y)
  | .In, x, y => inD x y
  | .NotIn, x, y => notR (inD x y)

/-- xs[i] -/
def ixD : D → D → R D
  | .lst xs, .int i => match atI xs i with | some d => .ok d | none => .no
  | .tup xs, .int i => match atI xs i with | some d => .ok d | none => .no
  | .scr ns, .int i => match atI ns i with | some n => .ok (.int n) | none => .no
  | .str z, .int i => chk (decide (z.length ≤ sizeLine)) (match atI z.cps.toList i with | some c => .ok (.str ⟨#[c]⟩) | none => .no)
  | _, _ => .no
/-- the part of a list that a slice is -/
def cutL {α : Type} (xs : List α) (lo hi : Option Int) : List α := (xs.drop (HT.sIx xs.length 0 lo)).take (HT.sIx xs.length xs.length hi - HT.sIx xs.length 0 lo)
def cutD : D → Option Int → Option Int → R D
  | .lst xs, lo, hi => .ok (.lst (cutL xs lo hi))
  | .tup xs, lo, hi => .ok (.tup (cutL xs lo hi))
  | .str z, lo, hi => chk (decide (z.length ≤ sizeLine)) (.ok (.str (cutS z lo hi)))
  | _, _, _ => .no

/-! ### the built-ins -/
def lenD : D → R D
  | .lst xs => .ok (.int xs.length)
  | .tup xs => .ok (.int xs.length)
  | .scr ns => .ok (.int ns.length)
  | .str z => chk (decide (z.length ≤ sizeLine)) (.ok (.int z.length))
  | _ => .no
def boolsOf : List D → R (List Bool)
  | [] => .ok []
  | .bl b :: r => (boolsOf r).bind fun bs => .ok (b :: bs)
  | _ => .no
def intsOf : List D → R (List Int)
  | [] => .ok []
  | .int b :: r => (intsOf r).bind fun bs => .ok (b :: bs)
  | _ => .no
def allAlike (ds : List D) : Bool := ds.all fun x => ds.all fun y => sorts x y
def noTup : D → Bool
  | .tup _ => false
  | _ => true
def fullTup : D → Bool
  | .tup (_ :: _) => true
  | _ => false
/-- a list that may be sorted -/
def sortable (ds : List D) : Bool := allAlike ds && (ds.all noTup || ds.all fullTup)
def sortL (ds : List D) : List D := ds.mergeSort (PySem.W.dataLe false toPy)
inductive Blt where
  | len | all | any | sum | int | str | list | tuple | sorted
  deriving DecidableEq
def intD : D → R D
  | .int i => .ok (.int i)
  | .bl b => .ok (.int (if b then 1 else 0))
  | _ => .no
def strD : D → R D
  | .int i => chk (decide (i.natAbs < 2 ^ 1000)) (.ok (.str (toString i)))
  | _ => .no
def listD : D → R D
  | .lst ds => .ok (.lst ds)
  | .tup ds => .ok (.lst ds)
  | _ => .no
def tupleD : D → R D
  | .lst ds => .ok (.tup ds)
  | .tup ds => .ok (.tup ds)
  | _ => .no
def allD : D → R D
  | .lst ds => (boolsOf ds).bind fun bs => .ok (.bl (bs.all id))
  | _ => .no
def anyD : D → R D
  | .lst ds => (boolsOf ds).bind fun bs => .ok (.bl (bs.any id))
  | _ => .no
def sumD : D → R D
  | .lst ds => (intsOf ds).bind fun bs => .ok (.int bs.sum)
  | _ => .no
def sortedD : D → R D
  | .lst ds => chk (sortable ds) (.ok (.lst (sortL ds)))
  | _ => .no
def one (f : D → R D) : List D → R D
  | [x] => f x
  | _ => .no
def bltD : Blt → List D → R D
  | .len => one lenD
  | .all => one allD
  | .any => one anyD
  | .sum => one sumD
  | .int => one intD
  | .str => one strD
  | .list => one listD
  | .tuple => one tupleD
  | .sorted => one sortedD
/-- isinstance(x, T) for built-in T -/
def tyD : D → String
  | .non => "NoneType"
  | .bl _ => "bool"
  | .int _ => "int"
  | .str _ => "str"
  | .tup _ => "tuple"
  | .lst _ => "list"
  | _ => ""
def isiD (x : D) (t : String) : R D := match kitB (tyD x) t with
  | some b => chk (tyD x != "") (.ok (.bl b))
  | none => .no

/-! ### expressions -/
abbrev Env := List (Option D)
abbrev ZE := Env → R D
abbrev Call := Str → List D → R D

def look (ρ : Env) (i : Nat) : R D := match ρ[i]? with
  | some (some d) => .ok d
  | _ => .no
def eVar (i : Nat) : ZE := fun ρ => look ρ i
def eLit (d : D) : ZE := fun _ => .ok d
def eArgs : List ZE → Env → R (List D)
  | [], _ => .ok []
  | z :: r, ρ => (z ρ).bind fun d => (eArgs r ρ).bind fun ds => .ok (d :: ds)
def eLst (es : List ZE) : ZE := fun ρ => (eArgs es ρ).bind fun ds => .ok (.lst ds)
def eTup (es : List ZE) : ZE := fun ρ => (eArgs es ρ).bind fun ds => .ok (.tup ds)
def eBin (op : Operator) (a b : ZE) : ZE := fun ρ => (a ρ).bind fun x => (b ρ).bind fun y => binD op x y
def eNeg (a : ZE) : ZE := fun ρ => (a ρ).bind negD
def eNot (a : ZE) : ZE := fun ρ => (a ρ).bind fun x => (truD x).bind fun b => .ok (.bl (!b))
def eCmp (op : CmpOp) (a b : ZE) : ZE := fun ρ => (a ρ).bind fun x => (b ρ).bind fun y => (cmpD op x y).bind fun k => .ok (.bl k)
def eCmp2 (op op2 : CmpOp) (a b c : ZE) : ZE := fun ρ => (a ρ).bind fun x => (b ρ).bind fun y => (cmpD op x y).bind fun k =>
  if k = true then (c ρ).bind fun z => (cmpD op2 y z).bind fun k2 => .ok (.bl k2) else .ok (.bl false)
/-- a and b, a or b, as values -/
def eAnd (a b : ZE) : ZE := fun ρ => (a ρ).bind fun x => (truD x).bind fun k => if k = true then b ρ else .ok x
def eOr (a b : ZE) : ZE := fun ρ => (a ρ).bind fun x => (truD x).bind fun k => if k = true then .ok x else b ρ
def eIte (c a b : ZE) : ZE := fun ρ => (c ρ).bind fun x => (truD x).bind fun k => if k = true then a ρ else b ρ
def eIx (a b : ZE) : ZE := fun ρ => (a ρ).bind fun x => (b ρ).bind fun y => ixD x y
def ePart : Option ZE → Env → R (Option Int)
  | none, _ => .ok none
  | some z, ρ => (z ρ).bind fun d => match d with | .int i => .ok (some i) | _ => .no
def eCut (a : ZE) (lo hi : Option ZE) : ZE := fun ρ => (a ρ).bind fun x => (ePart lo ρ).bind fun l => (ePart hi ρ).bind fun h => cutD x l h
def eBlt (f : Blt) (es : List ZE) : ZE := fun ρ => (eArgs es ρ).bind fun ds => bltD f ds
def eIsi (a : ZE) (t : String) : ZE := fun ρ => (a ρ).bind fun x => isiD x t
def mapR {α β : Type} (f : α → R β) : List α → R (List β)
  | [] => .ok []
  | x :: r => (f x).bind fun y => (mapR f r).bind fun ys => .ok (y :: ys)
/-- sorted by keys -/
def sortByL (ds ks : List D) : List D := ((ds.zip ks).mergeSort (PySem.W.dataLe false fun b => toPy b.2)).map (·.1)
def sortKD (call : Call) (f : Str) : D → R D
  | .lst ds => (mapR (fun d => call f [d]) ds).bind fun ks => chk (sortable ks) (.ok (.lst (sortByL ds ks)))
  | _ => .no
def eSortK (call : Call) (f : Str) (a : ZE) : ZE := fun ρ => (a ρ).bind fun x => sortKD call f x
def eCall (call : Call) (f : Str) (es : List ZE) : ZE := fun ρ => (eArgs es ρ).bind fun ds => call f ds

def flat : D → Bool
  | .lst xs => xs.all isAtom
  | d => isAtom d
/-- a value that is asked to have no objects within -/
def eFlat (z : ZE) : ZE := fun ρ => (z ρ).bind fun d => chk (flat d) (.ok d)
/-! ### what is walked, where its items go -/
abbrev ZI := Env → R (List D)
def seqD : D → R (List D)
  | .lst xs => .ok xs
  | .tup xs => .ok xs
  | .str z => chk (decide (z.length ≤ sizeLine)) (.ok (z.cps.toList.map fun c => .str ⟨#[c]⟩))
  | _ => .no
def iSeq (a : ZE) : ZI := fun ρ => (a ρ).bind seqD
def rangeD : List D → R (List D)
  | [.int n] => chk (decide (-16000000 ≤ n ∧ n ≤ 16000000)) (.ok ((List.range n.toNat).map fun (k : Nat) => .int k))
  | [.int a, .int b] => chk (decide (-8000000 ≤ a ∧ a ≤ 8000000 ∧ -8000000 ≤ b ∧ b ≤ 8000000)) (.ok ((List.range (b - a).toNat).map fun (k : Nat) => .int (a + k)))
  | _ => .no
def iRange (es : List ZE) : ZI := fun ρ => (eArgs es ρ).bind rangeD
def zipD : D → D → R (List D)
  | .lst xs, .lst ys => .ok (List.zipWith (fun x y => .tup [x, y]) xs ys)
  | _, _ => .no
def iZip (a b : ZE) : ZI := fun ρ => (a ρ).bind fun x => (b ρ).bind fun y => zipD x y
def enumD : D → R (List D)
  | .lst xs => .ok (List.zipWith (fun (k : Nat) x => .tup [.int k, x]) (List.range xs.length) xs)
  | _ => .no
def iEnum (a : ZE) : ZI := fun ρ => (a ρ).bind enumD

abbrev ZG := D → Env → R Env
def gN (i : Nat) : ZG := fun d ρ => .ok (ρ.set i (some d))
def gEach : List ZG → List D → Env → R Env
  | [], [], ρ => .ok ρ
  | g :: gs, d :: ds, ρ => (g d ρ).bind fun ρ1 => gEach gs ds ρ1
  | _, _, _ => .no
def gT (gs : List ZG) : ZG := fun d ρ => match d with
  | .tup ds => gEach gs ds ρ
  | _ => .no

def killE (ks : List Nat) (ρ : Env) : Env := ks.foldl (fun r i => r.set i none) ρ
/-- each of the tests -/
def tests : List ZE → Env → R Bool
  | [], _ => .ok true
  | c :: cs, ρ => (c ρ).bind fun x => (truD x).bind fun k => if k = true then tests cs ρ else .ok false
def compL {α : Type} (f : α → R (Option D)) : List α → R (List D)
  | [] => .ok []
  | x :: r => (f x).bind fun o => (compL f r).bind fun ys => .ok (match o with | some y => y :: ys | none => ys)
def compF (own : List Nat) (g : ZG) (cs : List ZE) (e : ZE) (ρ : Env) (x : D) : R (Option D) :=
  (g x (killE own ρ)).bind fun ρ1 => (tests cs ρ1).bind fun k => if k = true then (e ρ1).bind fun y => .ok (some y) else .ok none
def eComp (own : List Nat) (g : ZG) (it : ZI) (cs : List ZE) (e : ZE) : ZE := fun ρ => (it ρ).bind fun xs => (compL (compF own g cs e ρ) xs).bind fun ys => .ok (.lst ys)

/-! ### statements -/
inductive Out where
  | nx (ρ : Env) | ct (ρ : Env) | rt (d : D) | ex (c : Str) (d : D) | no
abbrev ZS := Env → Out
def ofR {α : Type} (r : R α) (f : α → Out) : Out := match r with
  | .ok a => f a
  | .ex c d => .ex c d
  | .no => .no
@[simp] theorem ofR_ok {α : Type} (a : α) (f : α → Out) : ofR (.ok a) f = f a := rfl
@[simp] theorem ofR_no {α : Type} (f : α → Out) : ofR (.no : R α) f = .no := rfl
@[simp] theorem ofR_ex {α : Type} (c : Str) (d : D) (f : α → Out) : ofR (.ex c d : R α) f = .ex c d := rfl
def sNil : ZS := fun ρ => .nx ρ
def sSeq (a b : ZS) : ZS := fun ρ => match a ρ with
  | .nx ρ' => b ρ'
  | o => o
def sBlock : List ZS → ZS
  | [] => sNil
  | a :: r => sSeq a (sBlock r)
def sSet (i : Nat) (e : ZE) : ZS := fun ρ => ofR (e ρ) fun d => .nx (ρ.set i (some d))
/-- x = y, y's object goes to x -/
def sMove (i j : Nat) : ZS := fun ρ => ofR (look ρ j) fun d => .nx ((ρ.set j none).set i (some d))
def sUnp (g : ZG) (e : ZE) : ZS := fun ρ => ofR (e ρ) fun d => ofR (g d ρ) .nx
def sAug (op : Operator) (i : Nat) (e : ZE) : ZS := fun ρ => ofR (look ρ i) fun x => ofR (e ρ) fun y => ofR (chk (isAtom x && isAtom y) (binD op x y)) fun z => .nx (ρ.set i (some z))
def sRet (e : ZE) : ZS := fun ρ => ofR (e ρ) .rt
def sRetN : ZS := fun _ => .rt .non
def sExpr (e : ZE) : ZS := fun ρ => ofR (e ρ) fun _ => .nx ρ
def sIf (c : ZE) (a b : ZS) : ZS := fun ρ => ofR (c ρ) fun x => ofR (truD x) fun k => if k = true then a ρ else b ρ
def sCont : ZS := fun ρ => .ct ρ
def sNever : ZS := fun _ => .no
def forL {α : Type} (kill : List Nat) (f : α → Env → Out) : List α → Env → Out
  | [], ρ => .nx ρ
  | x :: r, ρ => match f x ρ with
    | .nx ρ' => forL kill f r (killE kill ρ')
    | .ct ρ' => forL kill f r (killE kill ρ')
    | o => o
def sFor (kill : List Nat) (g : ZG) (it : ZI) (b : ZS) : ZS := fun ρ => ofR (it ρ) fun xs => forL kill (fun x ρ' => ofR (g x ρ') b) xs (killE kill ρ)
def whileL (kill : List Nat) (c : ZE) (b : ZS) : Nat → Env → Out
  | 0, _ => .no
  | n + 1, ρ => ofR (c ρ) fun x => ofR (truD x) fun k => if k = true then (match b ρ with
    | .nx ρ' => whileL kill c b n (killE kill ρ')
    | .ct ρ' => whileL kill c b n (killE kill ρ')
    | o => o) else .nx ρ
def wFuel : Nat := 1000000
def sWhile (kill : List Nat) (c : ZE) (b : ZS) : ZS := fun ρ => whileL kill c b wFuel (killE kill ρ)
def appD : D → D → R D
  | .lst xs, d => chk (decide (xs.length < sizeLine)) (.ok (.lst (xs ++ [d])))
  | _, _ => .no
/-- x.append(e) -/
def sApp (i : Nat) (e : ZE) : ZS := fun ρ => ofR (e ρ) fun d => ofR (look ρ i) fun x => ofR (appD x d) fun z => .nx (ρ.set i (some z))
def extD : D → D → R D
  | .lst xs, .lst ys => chk (decide (xs.length + ys.length ≤ sizeLine)) (.ok (.lst (xs ++ ys)))
  | _, _ => .no
def sExt (i : Nat) (e : ZE) : ZS := fun ρ => ofR (e ρ) fun d => ofR (look ρ i) fun x => ofR (extD x d) fun z => .nx (ρ.set i (some z))

/-- the item at i, the list without it -/
def popD : D → D → R (D × D)
  | .lst xs, .int i => chk (decide (0 ≤ i ∧ xs.length ≤ sizeLine)) (match xs[i.toNat]? with | some d => .ok (d, .lst (xs.eraseIdx i.toNat)) | none => .no)
  | _, _ => .no
/-- x.append(y.pop(e)) -/
def sAppPop (i j : Nat) (e : ZE) : ZS := fun ρ => ofR (e ρ) fun k => ofR (look ρ j) fun y => ofR (popD y k) fun p => ofR (look ρ i) fun x => ofR (appD x p.1) fun z => .nx ((ρ.set j (some p.2)).set i (some z))
/-- what is told of a value is forgotten: a list within it is changed; p: the way to it -/
def sSpoil (i : Nat) (p e : ZE) : ZS := fun ρ => ofR (p ρ) fun x => ofR (e ρ) fun d => ofR (appD x d) fun _ => .nx (ρ.set i none)
def sPar (is : List Nat) (es : List ZE) : ZS := fun ρ => ofR (eArgs es ρ) fun ds => .nx ((is.zip ds).foldl (fun r p => r.set p.1 (some p.2)) ρ)
/-! ### defs -/
/-- a def: parameters and all names, its body -/
structure Fd where
  np : Nat
  nn : Nat
  body : Call → ZS
def begin_ (nn : Nat) (ds : List D) : Env := ds.map some ++ List.replicate (nn - ds.length) none
def endD : Out → R D
  | .rt d => .ok d
  | .nx _ => .ok .non
  | .ex c d => .ex c d
  | _ => .no
def runFd (call : Call) (f : Fd) (ds : List D) : R D := chk (ds.length == f.np) (endD (f.body call (begin_ f.nn ds)))
/-- the text's defs by name; a call within n calls -/
def run (T : Str → Option Fd) : Nat → Call
  | 0, _, _ => .no
  | n + 1, f, ds => match T f with
    | some fd => runFd (run T n) fd ds
    | none => .no
end Z
/-! Z, part C: the frame's state, and operators by values. -/
namespace Z
open PySem PySem.Spec PyProof.Rows L2

/-- the frame's state: H0, F0 at the def's entry, H, F now; fe: the slots' flags; rho: what the slots hold; fps: what they own -/
structure St (M : Mx) (H0 F0 : Hp) (σ : L2.St) (H F : Hp) (fe : List Fl) (ρ : Env) (fps : Nat → List Addr) : Prop where
  h0 : Same H0 H
  f0 : Same F0 F
  fh : Same F H
  new : ∀ b, F b ≠ none → F0 b ≠ none ∨ H0 b = none
  len : ρ.length = σ.length
  slot : ∀ (i : Nat) (d : D), ρ[i]? = some (some d) → ∃ v, σ[i]? = some (some v) ∧ Val M H F (fe.getD i .sh) d v (fps i)
  out : ∀ i b, b ∈ fps i → F b = none ∧ H0 b = none ∧ H b ≠ none
  dis : ∀ i j b, b ∈ fps i → b ∈ fps j → i = j

section
variable {M : Mx} {H0 F0 H F H' F' : Hp} {σ : L2.St} {fe : List Fl} {ρ : Env} {fps : Nat → List Addr}
theorem St.grow (s : St M H0 F0 σ H F fe ρ fps) (g : Gr H F H' F') : St M H0 F0 σ H' F' fe ρ fps where
  h0 := s.h0.trans g.h
  f0 := s.f0.trans g.f
  fh := g.fh
  new := fun b z => by
    rcases g.new b z with z | z
    · exact s.new b z
    · exact .inr (s.h0.free z)
  len := s.len
  slot := fun i d e => by
    obtain ⟨v, h1, h2⟩ := s.slot i d e
    exact ⟨v, h1, h2.grow g.h g.f⟩
  out := fun i b hb => by
    obtain ⟨h1, h2, h3⟩ := s.out i b hb
    refine ⟨?_, h2, fun z => h3 (g.h.free z)⟩
    cases q : F' b with
    | none => rfl
    | some o =>
      rcases g.new b (by rw [q]; simp) with z | z
      · exact absurd h1 z
      · exact absurd z h3
  dis := s.dis
/-- everything is lent -/
theorem St.lend (s : St M H0 F0 σ H F fe ρ fps) : St M H H σ H H [] ρ (fun _ => []) where
  h0 := .refl _
  f0 := .refl _
  fh := .refl _
  new := fun b z => .inl z
  len := s.len
  slot := fun i d e => by
    obtain ⟨v, h1, h2⟩ := s.slot i d e
    exact ⟨v, h1, by simpa [Val] using h2.rep s.fh⟩
  out := fun i b hb => by cases hb
  dis := fun i j b hb => by cases hb
/-- back from a lending -/
theorem Gr.back (s : Same F H) (g : Gr H H H' F') : Gr H F H' F := ⟨g.h, .refl _, s.trans g.h, fun b z => .inl z⟩
/-- a slot gets a shared value -/
theorem getD_set {α : Type} {l : List α} {i j : Nat} {x d : α} (hj : j ≠ i) : (l.set i x).getD j d = l.getD j d := by
  rw [List.getD_eq_getElem?_getD, List.getD_eq_getElem?_getD, List.getElem?_set_ne (Ne.symm hj)]
end

/-- the elements are in F, the outermost object is in H -/
def RepC (M : Mx) (H F : Hp) (d : D) (v : V) : Prop := match d with
  | .lst xs => ∃ a vs, v = .ref a ∧ H a = some (.lst vs) ∧ Reps M F xs vs
  | .dic ks ds => ∃ a us, v = .ref a ∧ DicAt H a ks us ∧ Reps M F ds us
  | .obj c fs ds => ∃ a C dx us, v = .ref a ∧ H a = some (.ins C dx (fs.zip us)) ∧ fs.length = us.length ∧ M.cn c = some C ∧ Reps M F ds us
  | d => Rep M F d v
inductive Wt where
  | c | s | w | d
  deriving DecidableEq
def Res (M : Mx) (H H' F' : Hp) (w : Wt) (d : D) (v : V) : Prop := match w with
  | .c => RepC M H' F' d v
  | .s => Rep M F' d v
  | .w => ∃ fp, Val M H' F' .own d v fp ∧ Fresh H F' fp
  | .d => ∃ fp, Val M H' F' .deep d v fp ∧ Fresh H F' fp
theorem RepC.of {M : Mx} {H F : Hp} {d : D} {v : V} (h : Same F H) (x : Rep M F d v) : RepC M H F d v := by
  cases d with
  | lst xs => simp only [Rep] at x; obtain ⟨a, vs, r, q, z⟩ := x; exact ⟨a, vs, r, h _ _ q, z⟩
  | dic ks ds => simp only [Rep] at x; obtain ⟨a, us, r, q, z⟩ := x; exact ⟨a, us, r, DicAt.same h q, z⟩
  | obj c fs ds => simp only [Rep] at x; obtain ⟨a, C, dx, us, r, q, l, c, z⟩ := x; exact ⟨a, C, dx, us, r, h _ _ q, l, c, z⟩
  | non => exact x
  | bl _ => exact x
  | int _ => exact x
  | str _ => exact x
  | tup _ => exact x
  | scr _ => exact x
theorem RepC.ofVal {M : Mx} {H F : Hp} {fl : Fl} {d : D} {v : V} {fp : List Addr} (h : Same F H) (hf : fl = .sh ∨ fl = .own) (x : Val M H F fl d v fp) : RepC M H F d v := by
  rcases hf with rfl | rfl
  · exact RepC.of h x
  · cases d with
    | lst xs => obtain ⟨a, vs, r, _, q, z⟩ := x; exact ⟨a, vs, r, q, z⟩
    | dic ks ds => obtain ⟨a, us, r, _, q, _, z⟩ := x; exact ⟨a, us, r, q, z⟩
    | obj c fs ds => obtain ⟨a, C, dx, us, r, _, q, l, c, z⟩ := x; exact ⟨a, C, dx, us, r, q, l, c, z⟩
    | non => exact x
    | bl _ => exact x
    | int _ => exact x
    | str _ => exact x
    | tup _ => exact x
    | scr _ => exact x
theorem RepC.same {M : Mx} {H F H' F' : Hp} {d : D} {v : V} (h : Same H H') (f : Same F F') (x : RepC M H F d v) : RepC M H' F' d v := by
  cases d with
  | lst xs => obtain ⟨a, vs, r, q, z⟩ := x; exact ⟨a, vs, r, h _ _ q, Reps.same f _ _ z⟩
  | dic ks ds => obtain ⟨a, us, r, q, z⟩ := x; exact ⟨a, us, r, DicAt.same h q, Reps.same f _ _ z⟩
  | obj c fs ds => obtain ⟨a, C, dx, us, r, q, l, c, z⟩ := x; exact ⟨a, C, dx, us, r, h _ _ q, l, c, Reps.same f _ _ z⟩
  | non => exact Rep.same f _ _ x
  | bl _ => exact Rep.same f _ _ x
  | int _ => exact Rep.same f _ _ x
  | str _ => exact Rep.same f _ _ x
  | tup _ => exact Rep.same f _ _ x
  | scr _ => exact Rep.same f _ _ x
/-- an atom is what it is -/
theorem atom_rep {M : Mx} {H F : Hp} {d : D} {v : V} (ha : isAtom d = true) (x : Rep M H d v) : Rep M F d v := by
  cases d <;> first | (exact Bool.noConfusion ha) | simpa only [Rep] using x
theorem atom_res {M : Mx} {H H' F' : Hp} {w : Wt} {d : D} {v : V} (ha : isAtom d = true) (x : Rep M F' d v) : Res M H H' F' w d v := by
  cases w with
  | c => cases d <;> first | (exact Bool.noConfusion ha) | exact x
  | s => exact x
  | w => exact ⟨[], by cases d <;> first | (exact Bool.noConfusion ha) | exact x, fun b hb => by cases hb⟩
  | d => exact ⟨[], by cases d <;> first | (exact Bool.noConfusion ha) | (simp only [Rep] at x; simpa only [Val, RepD] using x), fun b hb => by cases hb⟩
/-- a new list whose items are in F -/
theorem list_res {M : Mx} {H F : Hp} {p : Addr} {xs : List D} {vs : List V} {w : Wt} (hw : w ≠ .d) (h : Same F H) (hp : H p = none) (z : Reps M F xs vs) :
    ∃ F', Gr H F (upd H p (.lst vs)) F' ∧ Res M H (upd H p (.lst vs)) F' w (.lst xs) (.ref p) := by
  cases w with
  | d => exact absurd rfl hw
  | w => exact ⟨F, Gr.newO h hp, [p], ⟨p, vs, rfl, rfl, upd_same, z⟩, fun b hb => by
      have e : b = p := by simpa using hb
      subst e
      exact ⟨hp, h.free hp⟩⟩
  | c => exact ⟨F, Gr.newO h hp, p, vs, rfl, upd_same, z⟩
  | s => exact ⟨upd F p (.lst vs), Gr.newF h hp, by simp only [Res, Rep]; exact ⟨p, vs, rfl, upd_same, Reps.same (Gr.newF h hp).f _ _ z⟩⟩
/-- a new tuple whose items are in F -/
theorem tup_res {M : Mx} {H F : Hp} {p : Addr} {xs : List D} {vs : List V} {w : Wt} (hw : w ≠ .d) (h : Same F H) (hp : H p = none) (z : Reps M F xs vs) :
    ∃ F', Gr H F (upd H p (.tup vs)) F' ∧ Res M H (upd H p (.tup vs)) F' w (.tup xs) (.ref p) := by
  have r : Rep M (upd F p (.tup vs)) (.tup xs) (.ref p) := by simp only [Rep]; exact ⟨p, vs, rfl, .inl (.inl upd_same), Reps.same (Gr.newF h hp).f _ _ z⟩
  refine ⟨upd F p (.tup vs), Gr.newF h hp, ?_⟩
  cases w with
  | d => exact absurd rfl hw
  | w => exact ⟨[], r, fun b hb => by cases hb⟩
  | c => exact r
  | s => exact r
theorem sh_res {M : Mx} {H H' F' : Hp} {w : Wt} {d : D} {v : V} (hw : w = .c ∨ w = .s) (h : Same F' H') (x : Rep M F' d v) : Res M H H' F' w d v := by
  rcases hw with rfl | rfl
  · exact RepC.of h x
  · exact x

/-! ### what an expression's reading is -/
def zT (M : Mx) (fe : List Fl) (w : Wt) (z : ZE) : TE := fun σ H Q => ∃ H0 F0 F ρ fps d, St M H0 F0 σ H F fe ρ fps ∧ z ρ = .ok d ∧ ∀ v H' F', Gr H F H' F' → Res M H H' F' w d v → Q v H'
/-- items on loan -/
abbrev zL (M : Mx) (z : ZE) : TE := zT M [] .s z
def zA (M : Mx) (fe : List Fl) (zs : List ZE) : TA := fun σ H Q => ∃ H0 F0 F ρ fps ds, St M H0 F0 σ H F fe ρ fps ∧ eArgs zs ρ = .ok ds ∧ ∀ vs H' F', Gr H F H' F' → Reps M F' ds vs → Q vs H'
def zTT (M : Mx) (z : ZE) : TT := fun σ H Q => ∃ H0 F0 F fe ρ fps d k, St M H0 F0 σ H F fe ρ fps ∧ z ρ = .ok d ∧ truD d = .ok k ∧ ∀ H', Gr H F H' F → Q k H'
theorem PE.imp {X : Cx} {e : Expr} {t t' : TE} (h : PE X e t) (q : ∀ σ H Q, t' σ H Q → t σ H Q) : PE X e t' := ⟨fun pins s σ H Q I z => h.run pins s σ H Q I (q _ _ _ z)⟩
theorem PT.imp {X : Cx} {e : Expr} {t t' : TT} (h : PT X e t) (q : ∀ σ H Q, t' σ H Q → t σ H Q) : PT X e t' := ⟨fun pins s σ H Q I z => h.run pins s σ H Q I (q _ _ _ z)⟩
theorem PA.imp {X : Cx} {e : List Expr} {t t' : TA} (h : PA X e t) (q : ∀ σ H Q, t' σ H Q → t σ H Q) : PA X e t' := ⟨fun p pins s σ H Q I z => h.run p pins s σ H Q I (q _ _ _ z)⟩
theorem PW.imp {X : Cx} {e : Expr} {t t' : TT} (h : PW X e t) (q : ∀ σ H Q, t' σ H Q → t σ H Q) : PW X e t' := ⟨fun wh pins s σ H Q I z => h.run wh pins s σ H Q I (q _ _ _ z)⟩
/-- a part on loan -/
theorem lend {M : Mx} {H0 F0 H F : Hp} {σ : L2.St} {fe : List Fl} {ρ : Env} {fps : Nat → List Addr} {z : ZE} {d : D} {Q : VK} (s : St M H0 F0 σ H F fe ρ fps) (e : z ρ = .ok d)
    (k : ∀ v H', Gr H F H' F → St M H0 F0 σ H' F fe ρ fps → Rep M H' d v → Q v H') : zL M z σ H Q :=
  ⟨H, H, H, ρ, _, d, s.lend, e, fun v H' F' g r => k v H' (Gr.back s.fh g) (s.grow (Gr.back s.fh g)) (Rep.same g.fh _ _ r)⟩

/-! ### reading data -/
mutual
theorem rep_dp {M : Mx} {H : Hp} : ∀ (d : D) (v : V), (toPy d).plain = true → Rep M H d v → Dp M.K H v (toPy d)
  | .non, v, _, h => by simp only [Rep] at h; subst h; exact .non
  | .bl b, v, _, h => by simp only [Rep] at h; subst h; exact .bl b
  | .int i, v, _, h => by simp only [Rep] at h; subst h; exact .int i
  | .str x, v, _, h => by simp only [Rep] at h; subst h; exact .str x
  | .tup xs, v, p, h => by
    simp only [Rep] at h
    obtain ⟨a, vs, rfl, q, z⟩ := h
    simp only [toPy, PyData.plain] at p ⊢
    exact .tup q (reps_dp xs vs p z)
  | .lst xs, v, p, h => by
    simp only [Rep] at h
    obtain ⟨a, vs, rfl, q, z⟩ := h
    simp only [toPy, PyData.plain] at p ⊢
    exact .lst (.inl (.inl q)) (reps_dp xs vs p z)
  | .dic _ _, v, p, h => by simp only [toPy, PyData.plain] at p; cases p
  | .obj _ _ _, v, p, h => by simp only [toPy, PyData.plain] at p; cases p
  | .scr _, v, p, h => by simp only [toPy, PyData.plain] at p; cases p
theorem reps_dp {M : Mx} {H : Hp} : ∀ (ds : List D) (vs : List V), PyData.plainAll (toPys ds) = true → Reps M H ds vs → DpAll M.K H vs (toPys ds)
  | [], vs, _, h => by simp only [Reps] at h; subst h; exact .nil
  | d :: ds, vs, p, h => by
    simp only [Reps] at h
    obtain ⟨v, r, rfl, h1, h2⟩ := h
    simp only [toPys, PyData.plainAll, Bool.and_eq_true] at p ⊢
    exact .cons (rep_dp d v p.1 h1) (reps_dp ds r p.2 h2)
end
theorem fine_iff {d : D} (h : fine d = true) : (toPy d).plain = true ∧ (toPy d).depth ≤ 100 := by
  unfold fine at h
  rw [Bool.and_eq_true] at h
  exact ⟨h.1, of_decide_eq_true h.2⟩

section
variable {X : Cx}
def rDat (K : PySem.W.Frag) (f : PyData → PyData → Option Bool) : R2 := fun x y H Q => ∃ d e k, Dp K H x d ∧ Dp K H y e ∧ d.plain = true ∧ e.plain = true ∧ d.depth ≤ 100 ∧ e.depth ≤ 100 ∧ f d e = some k ∧ Q (.bl k) H
def fIn (neg : Bool) (x y : PyData) : Option Bool := match y with
  | .list ys => some (xor neg (ys.any fun y => PyData.eqv y x))
  | .tuple ys => some (xor neg (ys.any fun y => PyData.eqv y x))
  | _ => none
def isPyNone : PyData → Bool
  | .none => true
  | _ => false
def fLt (x y : PyData) : Option Bool := if (PySem.W.alike x y && !isPyNone x) = true then some (PySem.W.dataLt x y) else none
theorem min_room {A : Around} {d e : PyData} (hu : A.units + 150 < cLine) (h : d.depth ≤ 100) : A.units + min d.depth e.depth < cLine := by
  have := Nat.min_le_left d.depth e.depth
  omega
theorem op_eqP (hu : X.A.units + 150 < cLine) : OpR X (compareOp .Eq) (rDat X.K fun d e => some (PyData.eqv d e)) := by
  intro pins s σ H x y v u Q I rx ry h
  obtain ⟨d, e, k, hd, he, pd, pe, dd, de, ek, q⟩ := h
  cases ek
  obtain ⟨as, r1⟩ := hd.reads I d x v rx
  obtain ⟨bs, r2⟩ := he.reads I e y u ry
  exact SeqAt.eq_plain r1 r2 pd pe (min_room hu dd) ⟨.bl _, H, I, rfl, q⟩
theorem op_neP (hu : X.A.units + 150 < cLine) : OpR X (compareOp .NotEq) (rDat X.K fun d e => some (!PyData.eqv d e)) := by
  intro pins s σ H x y v u Q I rx ry h
  obtain ⟨d, e, k, hd, he, pd, pe, dd, de, ek, q⟩ := h
  cases ek
  obtain ⟨as, r1⟩ := hd.reads I d x v rx
  obtain ⟨bs, r2⟩ := he.reads I e y u ry
  exact SeqAt.ne_plain r1 r2 pd pe (min_room hu dd) ⟨.bl _, H, I, rfl, q⟩
theorem op_ltP (hu : X.A.units + 150 < cLine) : OpR X (compareOp .Lt) (rDat X.K fLt) := by
  intro pins s σ H x y v u Q I rx ry h
  obtain ⟨d, e, k, hd, he, pd, pe, dd, de, ek, q⟩ := h
  obtain ⟨as, r1⟩ := hd.reads I d x v rx
  obtain ⟨bs, r2⟩ := he.reads I e y u ry
  unfold fLt at ek
  split at ek
  · rename_i hc
    cases ek
    rw [Bool.and_eq_true] at hc
    exact PySem.W.lt_data r1 r2 hc.1 (fun z => by subst z; exact absurd hc.2 (by decide)) (min_room hu dd) ⟨.bl _, H, I, rfl, q⟩
  · cases ek
theorem op_inP (hu : X.A.units + 150 < cLine) : OpR X (compareOp .In) (rDat X.K (fIn false)) := by
  intro pins s σ H x y v u Q I rx ry h
  obtain ⟨d, e, k, hd, he, pd, pe, dd, de, ek, q⟩ := h
  obtain ⟨as, r1⟩ := hd.reads I d x v rx
  obtain ⟨bs, r2⟩ := he.reads I e y u ry
  cases e with
  | list ys =>
    simp only [fIn, Bool.false_xor, Option.some.injEq] at ek
    subst ek
    exact SeqAt.in_list_data r2 r1 pe pd (by have := Nat.min_le_right (PyData.depthAll ys) d.depth; omega) ⟨.bl _, H, I, rfl, q⟩
  | tuple ys =>
    simp only [fIn, Bool.false_xor, Option.some.injEq] at ek
    subst ek
    exact SeqAt.in_tuple_data r2 r1 pe pd (by have := Nat.min_le_right (PyData.depthAll ys) d.depth; omega) ⟨.bl _, H, I, rfl, q⟩
  | none => cases ek
  | bool _ => cases ek
  | int _ => cases ek
  | str _ => cases ek
  | dict _ => cases ek
theorem op_notInP (hu : X.A.units + 150 < cLine) : OpR X (compareOp .NotIn) (rDat X.K (fIn true)) := by
  intro pins s σ H x y v u Q I rx ry h
  obtain ⟨d, e, k, hd, he, pd, pe, dd, de, ek, q⟩ := h
  obtain ⟨as, r1⟩ := hd.reads I d x v rx
  obtain ⟨bs, r2⟩ := he.reads I e y u ry
  cases e with
  | list ys =>
    simp only [fIn, Bool.true_xor, Option.some.injEq] at ek
    subst ek
    exact SeqAt.notIn_list_data r2 r1 pe pd (by have := Nat.min_le_right (PyData.depthAll ys) d.depth; omega) ⟨.bl _, H, I, rfl, q⟩
  | tuple ys =>
    simp only [fIn, Bool.true_xor, Option.some.injEq] at ek
    subst ek
    exact SeqAt.notIn_tuple_data r2 r1 pe pd (by have := Nat.min_le_right (PyData.depthAll ys) d.depth; omega) ⟨.bl _, H, I, rfl, q⟩
  | none => cases ek
  | bool _ => cases ek
  | int _ => cases ek
  | str _ => cases ek
  | dict _ => cases ek
end
end Z
/-! Z, part D: the operators' and built-ins' rules, by data. -/
namespace Z
open PySem PySem.Spec PyProof.Rows L2

section
variable {M : Mx} {X : Cx} {H F : Hp} {a b d : D} {x y : V} {w : Wt} {Q : VK}
def rAddZ (K : PySem.W.Frag) : R2 := fun x y H Q =>
  (∃ i j, x = .int i ∧ y = .int j ∧ Q (.int (i + j)) H) ∨ (∃ i j, x = .str i ∧ y = .str j ∧ i.length + j.length ≤ sizeLine ∧ Q (.str (i ++ j)) H) ∨ rCat x y H Q ∨ rCatA K x y H Q
theorem op_addZ : OpR X (binaryOp .Add) (rAddZ X.K) := op_add.or (op_add_str.or (op_cat.or op_catA))
theorem add_z (hK : X.K = M.K) (hw : w ≠ .d) (hf : Same F H) (e : addD a b = .ok d) (ra : RepC M H F a x) (rb : RepC M H F b y) (k : ∀ v H' F', Gr H F H' F' → Res M H H' F' w d v → Q v H') : rAddZ X.K x y H Q := by
  cases a with
  | int i =>
    cases b with
    | int j =>
      cases e
      have e1 : x = .int i := by simpa only [RepC, Rep] using ra
      have e2 : y = .int j := by simpa only [RepC, Rep] using rb
      exact .inl ⟨i, j, e1, e2, k _ _ _ (.refl hf) (atom_res rfl (by simp only [Rep]))⟩
    | _ => cases e
  | str i =>
    cases b with
    | str j =>
      obtain ⟨h1, h2⟩ := chk_ok e
      cases h2
      have e1 : x = .str i := by simpa only [RepC, Rep] using ra
      have e2 : y = .str j := by simpa only [RepC, Rep] using rb
      exact .inr (.inl ⟨i, j, e1, e2, of_decide_eq_true h1, k _ _ _ (.refl hf) (atom_res rfl (by simp only [Rep]))⟩)
    | _ => cases e
  | lst xs =>
    cases b with
    | lst ys =>
      obtain ⟨h1, h2⟩ := chk_ok e
      cases h2
      obtain ⟨l, vs, rfl, q1, z1⟩ := ra
      obtain ⟨m, us, rfl, q2, z2⟩ := rb
      refine .inr (.inr (.inl ⟨l, m, vs, us, rfl, rfl, q1, q2, ?_, fun p hp => ?_⟩))
      · rw [← z1.len, ← z2.len]; exact of_decide_eq_true h1
      · obtain ⟨F', g, r⟩ := list_res (w := w) hw hf hp (z1.append z2)
        exact k _ _ _ g r
    | _ => cases e
  | tup xs =>
    cases b with
    | tup ys =>
      obtain ⟨h1, h2⟩ := chk_ok e
      cases h2
      have ra' : Rep M F (.tup xs) x := ra
      have rb' : Rep M F (.tup ys) y := rb
      simp only [Rep] at ra' rb'
      obtain ⟨l, vs, rfl, q1, z1⟩ := ra'
      obtain ⟨m, us, rfl, q2, z2⟩ := rb'
      have tr : ∀ {t : List D} {v : V}, Rep M F (.tup t) v → Res M H H F w (.tup t) v := fun {t v} r => by
        cases w with
        | d => exact absurd rfl hw
        | w => exact ⟨[], r, fun b hb => by cases hb⟩
        | c => exact r
        | s => exact r
      refine .inr (.inr (.inr ⟨l, m, vs, us, rfl, rfl, by rw [hK]; exact SqT.same hf q1, by rw [hK]; exact SqT.same hf q2, ?_, fun ev => ?_, fun _ eu => ?_, fun _ _ p hp => ?_⟩))
      · rw [← z1.len, ← z2.len]; exact of_decide_eq_true h1
      · have : xs = [] := List.length_eq_zero_iff.mp (by rw [z1.len, ev]; rfl)
        subst this
        exact k _ _ _ (.refl hf) (tr rb)
      · have : ys = [] := List.length_eq_zero_iff.mp (by rw [z2.len, eu]; rfl)
        subst this
        rw [List.append_nil] at k
        exact k _ _ _ (.refl hf) (tr ra)
      · obtain ⟨F', g, r⟩ := tup_res (w := w) hw hf hp (z1.append z2)
        exact k _ _ _ g r
    | _ => cases e
  | _ => cases e
/-- two ints by an operator -/
theorem int2 {C : Int → Int → Prop} {g : Int → Int → Int} {i j : Int} (hf : Same F H) (ra : RepC M H F (.int i) x) (rb : RepC M H F (.int j) y) (hc : C i j) (k : ∀ v H' F', Gr H F H' F' → Res M H H' F' w (.int (g i j)) v → Q v H') : rI C (fun i j => .int (g i j)) x y H Q := by
  have e1 : x = .int i := by simpa only [RepC, Rep] using ra
  have e2 : y = .int j := by simpa only [RepC, Rep] using rb
  exact ⟨i, j, e1, e2, hc, k _ _ _ (.refl hf) (atom_res rfl (by simp only [Rep]))⟩
theorem int2' {g : Int → Int → Int} {i j : Int} (hf : Same F H) (ra : RepC M H F (.int i) x) (rb : RepC M H F (.int j) y) (k : ∀ v H' F', Gr H F H' F' → Res M H H' F' w (.int (g i j)) v → Q v H') : rI0 (fun i j => .int (g i j)) x y H Q := by
  have e1 : x = .int i := by simpa only [RepC, Rep] using ra
  have e2 : y = .int j := by simpa only [RepC, Rep] using rb
  exact ⟨i, j, e1, e2, k _ _ _ (.refl hf) (atom_res rfl (by simp only [Rep]))⟩
theorem cmul_of {i j : Int} (h : i.natAbs < 2 ^ 64 ∨ j.natAbs < 2 ^ 64) : CMul i j := by
  unfold CMul
  omega
/-- a rule for each operator that is told -/
def OpZ (M : Mx) (X : Cx) (f : Value → Value → Sem Value) (g : D → D → R D) : Prop := ∃ r : R2, OpR X f r ∧ ∀ (H F : Hp) (a b d : D) (x y : V) (w : Wt) (Q : VK), w ≠ .d → Same F H → g a b = .ok d → RepC M H F a x → RepC M H F b y → (∀ v H' F', Gr H F H' F' → Res M H H' F' w d v → Q v H') → r x y H Q
theorem op_binZ (hK : X.K = M.K) (op : Operator) : OpZ M X (binaryOp op) (binD op) := by
  cases op with
  | Add => exact ⟨_, op_addZ, fun H F a b d x y w Q hw hf e ra rb k => add_z hK hw hf e ra rb k⟩
  | Sub =>
    refine ⟨_, op_sub, fun H F a b d x y w Q hw hf e ra rb k => ?_⟩
    cases a with
    | int i => cases b with
      | int j => cases e; exact int2' hf ra rb k
      | _ => cases e
    | _ => cases e
  | Mult =>
    refine ⟨_, op_mul.or op_rep, fun H F a b d x y w Q hw hf e ra rb k => ?_⟩
    cases a with
    | int i => cases b with
      | int j =>
        obtain ⟨h1, h2⟩ := chk_ok e
        cases h2
        exact .inl (int2 hf ra rb (cmul_of (of_decide_eq_true h1)) k)
      | _ => cases e
    | lst xs => cases b with
      | int j =>
        obtain ⟨h1, h2⟩ := chk_ok e
        cases h2
        have h1 := of_decide_eq_true h1
        obtain ⟨l, vs, rfl, q1, z1⟩ := ra
        have e2 : y = .int j := by simpa only [RepC, Rep] using rb
        subst e2
        refine .inr ⟨l, j, vs, rfl, rfl, q1, by omega, by omega, by rw [← z1.len]; exact h1.2.2, fun p hp => ?_⟩
        have zz : ∀ n : Nat, Reps M F (List.replicate n xs).flatten (List.replicate n vs).flatten := fun n => by
          induction n with
          | zero => simp [Reps]
          | succ n ih => rw [List.replicate_succ, List.replicate_succ, List.flatten_cons, List.flatten_cons]; exact z1.append ih
        obtain ⟨F', g, r⟩ := list_res (w := w) hw hf hp (zz j.toNat)
        exact k _ _ _ g r
      | _ => cases e
    | _ => cases e
  | FloorDiv =>
    refine ⟨_, op_fdiv, fun H F a b d x y w Q hw hf e ra rb k => ?_⟩
    cases a with
    | int i => cases b with
      | int j =>
        obtain ⟨h1, h2⟩ := chk_ok e
        cases h2
        have h1 : 0 < j ∧ j < 1073741824 := of_decide_eq_true h1
        exact int2 hf ra rb (show CDiv i j from h1) k
      | _ => cases e
    | _ => cases e
  | Mod =>
    refine ⟨_, op_mod, fun H F a b d x y w Q hw hf e ra rb k => ?_⟩
    cases a with
    | int i => cases b with
      | int j =>
        obtain ⟨h1, h2⟩ := chk_ok e
        cases h2
        exact int2 (C := fun _ j => 0 < j) hf ra rb (of_decide_eq_true h1) k
      | _ => cases e
    | _ => cases e
  | Pow =>
    refine ⟨_, op_pow, fun H F a b d x y w Q hw hf e ra rb k => ?_⟩
    cases a with
    | int i => cases b with
      | int j =>
        obtain ⟨h1, h2⟩ := chk_ok e
        cases h2
        have h1 : 0 ≤ j ∧ j ≤ 1000000 ∧ i.natAbs < 2 ^ 64 := of_decide_eq_true h1
        exact int2 (g := fun i j => i ^ j.toNat) hf ra rb (show CPow i j from h1) k
      | _ => cases e
    | _ => cases e
  | _ => exact ⟨fun _ _ _ _ => False, fun _ _ _ _ _ _ _ _ _ _ _ _ z => z.elim, fun H F a b d x y w Q hw hf e => by cases e⟩

/-! ### comparisons -/
def CmpZ (M : Mx) (X : Cx) (op : CmpOp) : Prop := ∃ r : R2, OpR X (compareOp op) r ∧ ∀ (H : Hp) (a b : D) (c : Bool) (x y : V) (Q : VK), cmpD op a b = .ok c → Rep M H a x → Rep M H b y → Q (.bl c) H → r x y H Q
theorem dat_z {f : PyData → PyData → Option Bool} {c : Bool} (hK : X.K = M.K) (ha : fine a = true) (hb : fine b = true) (ra : Rep M H a x) (rb : Rep M H b y) (e : f (toPy a) (toPy b) = some c) (q : Q (.bl c) H) : rDat X.K f x y H Q := by
  obtain ⟨a1, a2⟩ := fine_iff ha
  obtain ⟨b1, b2⟩ := fine_iff hb
  rw [hK]
  exact ⟨_, _, c, rep_dp a x a1 ra, rep_dp b y b1 rb, a1, b1, a2, b2, e, q⟩
theorem notR_ok {r : R Bool} {c : Bool} (h : notR r = .ok c) : r = .ok (!c) := by
  obtain ⟨b, h1, h2⟩ := R.bind_eq_ok h
  cases h2
  rw [h1, Bool.not_not]
theorem eqD_ok {c : Bool} (h : eqD a b = .ok c) : fine a = true ∧ fine b = true ∧ eqv a b = c := by
  obtain ⟨h1, h2⟩ := chk_ok h
  cases h2
  rw [Bool.and_eq_true] at h1
  exact ⟨h1.1, h1.2, rfl⟩
theorem none_iff {v : V} (h : Rep M H a v) : isNone a = decide (v = .non) := by
  cases a with
  | non => simp only [Rep] at h; subst h; rfl
  | bl _ => simp only [Rep] at h; subst h; rfl
  | int _ => simp only [Rep] at h; subst h; rfl
  | str _ => simp only [Rep] at h; subst h; rfl
  | tup _ => simp only [Rep] at h; obtain ⟨_, _, rfl, _⟩ := h; rfl
  | lst _ => simp only [Rep] at h; obtain ⟨_, _, rfl, _⟩ := h; rfl
  | dic _ _ => simp only [Rep] at h; obtain ⟨_, _, rfl, _⟩ := h; rfl
  | obj _ _ _ => simp only [Rep] at h; obtain ⟨_, _, _, _, rfl, _⟩ := h; rfl
  | scr _ => simp only [Rep] at h; obtain ⟨_, rfl, _⟩ := h; rfl
theorem ints_lt {i j : Int} {g : Int → Int → Bool} (ra : Rep M H (.int i) x) (rb : Rep M H (.int j) y) (q : Q (.bl (g i j)) H) : rI0 (fun i j => .bl (g i j)) x y H Q := by
  have e1 : x = .int i := by simpa only [Rep] using ra
  have e2 : y = .int j := by simpa only [Rep] using rb
  exact ⟨i, j, e1, e2, q⟩
theorem in_z {neg : Bool} {c : Bool} (hK : X.K = M.K) (e : inD a b = .ok (xor neg c)) (ra : Rep M H a x) (rb : Rep M H b y) (q : Q (.bl c) H) :
    (∃ (c0 : Nat) (z : Str), x = .str ⟨#[c0]⟩ ∧ y = .str z ∧ Q (.bl (xor neg (decide (c0 ∈ z.cps.toList)))) H) ∨ rDat X.K (fIn neg) x y H Q := by
  cases b with
  | lst ys =>
    obtain ⟨h1, h2⟩ := chk_ok e
    rw [Bool.and_eq_true] at h1
    refine .inr (dat_z hK h1.1 h1.2 ra rb ?_ q)
    have e3 := R.ok.inj h2
    have e4 : (toPys ys).any (fun y => PyData.eqv y (toPy a)) = ys.any fun y => eqv y a := by rw [toPys_map, List.any_map]; rfl
    simp only [toPy, fIn, e4, e3]
    cases neg <;> cases c <;> rfl
  | tup ys =>
    obtain ⟨h1, h2⟩ := chk_ok e
    rw [Bool.and_eq_true] at h1
    refine .inr (dat_z hK h1.1 h1.2 ra rb ?_ q)
    have e3 := R.ok.inj h2
    have e4 : (toPys ys).any (fun y => PyData.eqv y (toPy a)) = ys.any fun y => eqv y a := by rw [toPys_map, List.any_map]; rfl
    simp only [toPy, fIn, e4, e3]
    cases neg <;> cases c <;> rfl
  | str z =>
    cases a with
    | str s =>
      obtain ⟨h1, h2⟩ := chk_ok e
      have h1 : s.cps.size = 1 := of_decide_eq_true h1
      have e1 : x = .str s := by simpa only [Rep] using ra
      have e2 : y = .str z := by simpa only [Rep] using rb
      obtain ⟨c0, hc⟩ : ∃ c0, s = ⟨#[c0]⟩ := by
        obtain ⟨arr⟩ := s
        have : arr.size = 1 := h1
        refine ⟨arr[0]'(by omega), ?_⟩
        congr 1
        apply Array.ext
        · simp [this]
        · intro i h3 h4
          have : i = 0 := by omega
          subst this
          rfl
      subst hc
      refine .inl ⟨c0, z, e1, e2, ?_⟩
      have e3 := R.ok.inj h2
      have e4 : decide (c0 ∈ z.cps.toList) = xor neg c := e3
      rw [e4]
      cases neg <;> cases c <;> exact q
    | _ => cases e
  | _ => cases e
theorem op_cmpZ (hK : X.K = M.K) (hu : X.A.units + 150 < cLine) (op : CmpOp) : CmpZ M X op := by
  cases op with
  | Eq =>
    refine ⟨_, op_eqP hu, fun H a b c x y Q e ra rb q => ?_⟩
    obtain ⟨h1, h2, h3⟩ := eqD_ok e
    exact dat_z hK h1 h2 ra rb (congrArg some h3) q
  | NotEq =>
    refine ⟨_, op_neP hu, fun H a b c x y Q e ra rb q => ?_⟩
    obtain ⟨h1, h2, h3⟩ := eqD_ok (notR_ok e)
    refine dat_z hK h1 h2 ra rb ?_ q
    have h3 : PyData.eqv (toPy a) (toPy b) = !c := h3
    rw [h3, Bool.not_not]
  | Lt =>
    refine ⟨_, op_lt.or (op_lt_str.or (op_ltP hu)), fun H a b c x y Q e ra rb q => ?_⟩
    have srt : ∀ {a b : D}, sorts a b = true → Rep M H a x → Rep M H b y → Q (.bl (lt a b)) H → rDat X.K fLt x y H Q := fun {a b} s ra rb q => by
      unfold sorts at s
      simp only [Bool.and_eq_true] at s
      obtain ⟨⟨⟨s1, s2⟩, s3⟩, s4⟩ := s
      refine dat_z hK s2 s3 ra rb ?_ q
      unfold fLt
      have : isPyNone (toPy a) = false := by
        cases a <;> first | (exact Bool.noConfusion s4) | rfl
      rw [this, s1]
      rfl
    cases a with
    | int i => cases b with
      | int j => cases e; exact .inl (ints_lt (g := fun i j => decide (i < j)) ra rb q)
      | _ => cases e
    | str i => cases b with
      | str j =>
        cases e
        have e1 : x = .str i := by simpa only [Rep] using ra
        have e2 : y = .str j := by simpa only [Rep] using rb
        exact .inr (.inl ⟨i, j, e1, e2, q⟩)
      | _ => cases e
    | lst xs => cases b with
      | lst ys => obtain ⟨h1, h2⟩ := chk_ok e; cases h2; exact .inr (.inr (srt h1 ra rb q))
      | _ => cases e
    | tup xs => cases b with
      | tup ys => obtain ⟨h1, h2⟩ := chk_ok e; cases h2; exact .inr (.inr (srt h1 ra rb q))
      | _ => cases e
    | _ => cases e
  | LtE =>
    refine ⟨_, op_le, fun H a b c x y Q e ra rb q => ?_⟩
    cases a with
    | int i => cases b with
      | int j => cases e; exact ints_lt (g := fun i j => decide (i ≤ j)) ra rb q
      | _ => cases e
    | _ => cases e
  | Gt =>
    refine ⟨_, op_gt, fun H a b c x y Q e ra rb q => ?_⟩
    cases a with
    | int i => cases b with
      | int j => cases e; exact ints_lt (g := fun i j => decide (j < i)) ra rb q
      | _ => cases e
    | _ => cases e
  | GtE =>
    refine ⟨_, op_ge, fun H a b c x y Q e ra rb q => ?_⟩
    cases a with
    | int i => cases b with
      | int j => cases e; exact ints_lt (g := fun i j => decide (j ≤ i)) ra rb q
      | _ => cases e
    | _ => cases e
  | Is =>
    refine ⟨_, op_isN, fun H a b c x y Q e ra rb q => ?_⟩
    cases b with
    | non =>
      have e2 : y = .non := by simpa only [Rep] using rb
      have e3 : isNone a = c := R.ok.inj e
      rw [none_iff ra] at e3
      exact ⟨e2, by rw [e3]; exact q⟩
    | _ => cases a <;> cases e
  | IsNot =>
    refine ⟨_, op_notN, fun H a b c x y Q e ra rb q => ?_⟩
    have e := notR_ok e
    cases b with
    | non =>
      have e2 : y = .non := by simpa only [Rep] using rb
      have e3 : isNone a = !c := R.ok.inj e
      rw [none_iff ra] at e3
      exact ⟨e2, by rw [e3, Bool.not_not]; exact q⟩
    | _ => cases a <;> cases e
  | In => exact ⟨_, op_in_sign.or (op_inP hu), fun H a b c x y Q e ra rb q => by
      have z := in_z (neg := false) (c := c) hK (by rw [Bool.false_xor]; exact e) ra rb q
      simpa only [Bool.false_xor] using z⟩
  | NotIn => exact ⟨_, op_notIn_sign.or (op_notInP hu), fun H a b c x y Q e ra rb q => by
      have z := in_z (neg := true) (c := c) hK (by rw [Bool.true_xor]; exact notR_ok e) ra rb q
      simpa only [Bool.true_xor] using z⟩

/-! ### truth, subscripts, slices -/
theorem tru_z {k : Bool} (hK : X.K = M.K) (e : truD d = .ok k) (r : Rep M H d x) : TruV X.K x H k := by
  cases d with
  | non => cases e; simp only [Rep] at r; subst r; rfl
  | bl b => cases e; simp only [Rep] at r; subst r; rfl
  | int b => cases e; simp only [Rep] at r; subst r; rfl
  | str b =>
    obtain ⟨h1, h2⟩ := chk_ok e
    cases h2
    simp only [Rep] at r
    subst r
    refine ⟨of_decide_eq_true h1, ?_⟩
    cases b.length with
    | zero => rfl
    | succ n => simp; omega
  | tup xs =>
    cases e
    simp only [Rep] at r
    obtain ⟨a, vs, rfl, q, z⟩ := r
    refine .inr (.inl ⟨vs, by rw [hK]; exact q, ?_⟩)
    have l := z.len
    cases xs <;> cases vs <;> first | rfl | (simp at l)
  | lst xs =>
    cases e
    simp only [Rep] at r
    obtain ⟨a, vs, rfl, q, z⟩ := r
    refine .inl ⟨vs, .inl (.inl q), ?_⟩
    have l := z.len
    cases xs <;> cases vs <;> first | rfl | (simp at l)
  | _ => cases e
theorem atI_get {α : Type} {xs : List α} {i : Int} {d : α} (h : atI xs i = some d) : ∃ j, ixN xs.length i = some j ∧ xs[j]? = some d := by
  unfold atI at h
  cases q : ixN xs.length i with
  | none => rw [q] at h; cases h
  | some j => rw [q] at h; exact ⟨j, rfl, h⟩
theorem atI_of {α : Type} {xs : List α} {i : Int} {j : Nat} {d : α} (h : ixN xs.length i = some j) (e : xs[j]? = some d) : atI xs i = some d := by
  unfold atI
  rw [h]
  exact e
theorem ix_z (hK : X.K = M.K) (hf : Same F H) (e : ixD a b = .ok d) (ra : RepC M H F a x) (rb : Rep M H b y) (k : ∀ v, Rep M F d v → Q v H) : rIx X.K x y H Q := by
  cases b with
  | int i =>
    have e2 : y = .int i := by simpa only [Rep] using rb
    subst e2
    cases a with
    | lst xs =>
      obtain ⟨l, vs, rfl, q, z⟩ := ra
      simp only [ixD] at e
      split at e
      · rename_i d' hd
        cases e
        obtain ⟨j, h1, h2⟩ := atI_get hd
        obtain ⟨v, h3, h4⟩ := z.get h2
        exact .inl ⟨l, vs, i, v, rfl, rfl, .inl (.inl q), atI_of (by rw [← z.len]; exact h1) h3, k v h4⟩
      · cases e
    | tup xs =>
      have ra : Rep M F (.tup xs) x := ra
      simp only [Rep] at ra
      obtain ⟨l, vs, rfl, q, z⟩ := ra
      simp only [ixD] at e
      split at e
      · rename_i d' hd
        cases e
        obtain ⟨j, h1, h2⟩ := atI_get hd
        obtain ⟨v, h3, h4⟩ := z.get h2
        exact .inr (.inl ⟨l, vs, i, v, rfl, rfl, by rw [hK]; exact SqT.same hf q, atI_of (by rw [← z.len]; exact h1) h3, k v h4⟩)
      · cases e
    | scr ns =>
      have ra : Rep M F (.scr ns) x := ra
      simp only [Rep] at ra
      obtain ⟨l, rfl, q⟩ := ra
      simp only [ixD] at e
      split at e
      · rename_i n hd
        cases e
        obtain ⟨j, h1, h2⟩ := atI_get hd
        exact .inl ⟨l, _, i, .int n, rfl, rfl, by rw [hK]; exact hf.seq q, atI_of (by rw [List.length_map]; exact h1) (by rw [List.getElem?_map, h2]; rfl), k _ (by simp only [Rep])⟩
      · cases e
    | str z =>
      have e1 : x = .str z := by simpa only [RepC, Rep] using ra
      subst e1
      obtain ⟨h1, h2⟩ := chk_ok e
      split at h2
      · rename_i c hc
        cases h2
        exact .inr (.inr ⟨z, i, c, rfl, rfl, of_decide_eq_true h1, hc, k _ (by simp only [Rep])⟩)
      · cases h2
    | _ => cases e
  | _ => cases a <;> cases e
end
end Z
/-! Z, part E: built-ins and iterables by data. -/
namespace Z
open PySem PySem.Spec PyProof.Rows L2

theorem Gr.off {H F H' F' : Hp} (g : Gr H F H' F') {p : Addr} (hf : F p = none) (hh : H p ≠ none) : F' p = none := by
  cases q : F' p with
  | none => rfl
  | some o =>
    rcases g.new p (by rw [q]; simp) with z | z
    · exact absurd hf z
    · exact absurd z hh
/-- an object outside of F is written -/
theorem Gr.write {H F H' F' : Hp} (g : Gr H F H' F') {p : Addr} {o : HO} (hp : H p = none) (hf : F' p = none) : Gr H F (upd H' p o) F' where
  h := fun b u e => by rw [upd_ne (ne_of_none e hp)]; exact g.h b u e
  f := g.f
  fh := fun b u e => by rw [upd_ne (ne_of_none e hf)]; exact g.fh b u e
  new := g.new

def RepW (M : Mx) (H F : Hp) (w : Wt) : D → V → Prop := match w with
  | .c => RepC M H F
  | _ => Rep M F
theorem RepW.same {M : Mx} {H F H' F' : Hp} {w : Wt} {d : D} {v : V} (h : Same H H') (f : Same F F') (x : RepW M H F w d v) : RepW M H' F' w d v := by
  cases w <;> first | exact RepC.same h f x | exact Rep.same f _ _ x
theorem RepW.c {M : Mx} {H F : Hp} {w : Wt} {d : D} {v : V} (h : Same F H) (x : RepW M H F w d v) : RepC M H F d v := by
  cases w <;> first | exact x | exact RepC.of h x
theorem RepW.res {M : Mx} {H0 H F : Hp} {w : Wt} {d : D} {v : V} (hw : w = .c ∨ w = .s) (x : Res M H0 H F w d v) : RepW M H F w d v := by
  rcases hw with rfl | rfl <;> exact x
abbrev RepWs (M : Mx) (H F : Hp) (w : Wt) : List D → List V → Prop := Paired (RepW M H F w)
theorem RepWs.same {M : Mx} {H F H' F' : Hp} {w : Wt} {ds : List D} {vs : List V} (h : Same H H') (f : Same F F') (x : RepWs M H F w ds vs) : RepWs M H' F' w ds vs := Paired.mapP x fun _ _ => RepW.same h f
theorem RepWs.reps {M : Mx} {H F : Hp} : ∀ {ds : List D} {vs : List V}, RepWs M H F .s ds vs → Reps M F ds vs
  | _, _, .nil => by simp [Reps]
  | _, _, .cons r t => Reps.cons r (RepWs.reps t)

/-! ### built-in functions -/
/-- a rule by data for a built-in of one argument -/
def BltZ (M : Mx) (X : Cx) (f : Value) (g : D → R D) : Prop := ∃ r, CallR X f r ∧ ∀ (H F : Hp) (a d : D) (x : V) (w : Wt) (Q : VK), w ≠ .d → Same F H → g a = .ok d → RepC M H F a x → (∀ v H' F', Gr H F H' F' → Res M H H' F' w d v → Q v H') → r [x] H Q
section
variable {M : Mx} {X : Cx}
theorem boolsOf_ok {F : Hp} : ∀ {ds : List D} {bs : List Bool} {vs : List V}, boolsOf ds = .ok bs → Reps M F ds vs → vs = bs.map V.bl
  | [], bs, vs, e, r => by cases e; simpa [Reps] using r
  | d :: ds, bs, vs, e, r => by
    simp only [Reps] at r
    obtain ⟨v, us, rfl, r1, r2⟩ := r
    cases d with
    | bl b =>
      obtain ⟨cs, h1, h2⟩ := R.bind_eq_ok e
      cases h2
      simp only [Rep] at r1
      rw [r1, boolsOf_ok h1 r2]
      rfl
    | _ => cases e
theorem intsOf_ok {F : Hp} : ∀ {ds : List D} {bs : List Int} {vs : List V}, intsOf ds = .ok bs → Reps M F ds vs → vs = bs.map V.int
  | [], bs, vs, e, r => by cases e; simpa [Reps] using r
  | d :: ds, bs, vs, e, r => by
    simp only [Reps] at r
    obtain ⟨v, us, rfl, r1, r2⟩ := r
    cases d with
    | int b =>
      obtain ⟨cs, h1, h2⟩ := R.bind_eq_ok e
      cases h2
      simp only [Rep] at r1
      rw [r1, intsOf_ok h1 r2]
      rfl
    | _ => cases e
theorem blt_len (hK : X.K = M.K) : BltZ M X (.builtin "len") lenD := by
  refine ⟨_, call_len, fun H F a d x w Q hw hf e r1 k => ?_⟩
  have done : ∀ {n : Int}, d = .int n → Q (.int n) H := fun {n} ed => k _ _ _ (.refl hf) (by rw [ed]; exact atom_res rfl (by simp only [Rep]))
  cases a with
  | lst xs =>
    cases e
    obtain ⟨l, us, rfl, q, z⟩ := r1
    exact ⟨_, xs.length, rfl, .inl ⟨us, .inl (.inl q), z.len⟩, done rfl⟩
  | tup xs =>
    cases e
    have r1 : Rep M F (.tup xs) x := r1
    simp only [Rep] at r1
    obtain ⟨l, us, rfl, q, z⟩ := r1
    exact ⟨_, xs.length, rfl, .inr ⟨us, by rw [hK]; exact SqT.same hf q, z.len⟩, done rfl⟩
  | scr ns =>
    cases e
    have r1 : Rep M F (.scr ns) x := r1
    simp only [Rep] at r1
    obtain ⟨l, rfl, q⟩ := r1
    exact ⟨_, ns.length, rfl, .inl ⟨_, by rw [hK]; exact hf.seq q, (List.length_map ..).symm⟩, done rfl⟩
  | str z =>
    obtain ⟨h1, h2⟩ := chk_ok e
    cases h2
    have e1 : x = .str z := by simpa only [RepC, Rep] using r1
    subst e1
    exact ⟨_, z.length, rfl, ⟨of_decide_eq_true h1, rfl⟩, done rfl⟩
  | _ => cases e
theorem blt_all (hc : X.calm = true) : BltZ M X (.builtin "all") allD := by
  refine ⟨_, cr_all hc, fun H F a d x w Q hw hf e r k => ?_⟩
  cases a with
  | lst xs =>
    obtain ⟨bs, h1, h2⟩ := R.bind_eq_ok e
    cases h2
    obtain ⟨a, us, rfl, q, z⟩ := r
    exact ⟨a, bs, rfl, .inl (.inl (by rw [q, boolsOf_ok h1 z])), k _ _ _ (.refl hf) (atom_res rfl (by simp only [Rep]))⟩
  | _ => cases e
theorem blt_any (hc : X.calm = true) : BltZ M X (.builtin "any") anyD := by
  refine ⟨_, cr_any hc, fun H F a d x w Q hw hf e r k => ?_⟩
  cases a with
  | lst xs =>
    obtain ⟨bs, h1, h2⟩ := R.bind_eq_ok e
    cases h2
    obtain ⟨a, us, rfl, q, z⟩ := r
    exact ⟨a, bs, rfl, .inl (.inl (by rw [q, boolsOf_ok h1 z])), k _ _ _ (.refl hf) (atom_res rfl (by simp only [Rep]))⟩
  | _ => cases e
theorem blt_sum (hc : X.calm = true) : BltZ M X (.builtin "sum") sumD := by
  refine ⟨_, cr_sum hc, fun H F a d x w Q hw hf e r k => ?_⟩
  cases a with
  | lst xs =>
    obtain ⟨bs, h1, h2⟩ := R.bind_eq_ok e
    cases h2
    obtain ⟨a, us, rfl, q, z⟩ := r
    exact ⟨a, bs, rfl, .inl (.inl (by rw [q, intsOf_ok h1 z])), k _ _ _ (.refl hf) (atom_res rfl (by simp only [Rep]))⟩
  | _ => cases e
theorem blt_int : BltZ M X (.type "int") intD := by
  refine ⟨_, call_int1, fun H F a d x w Q hw hf e r k => ?_⟩
  cases a with
  | int i =>
    cases e
    have e1 : x = .int i := by simpa only [RepC, Rep] using r
    subst e1
    exact .inl ⟨i, rfl, k _ _ _ (.refl hf) (atom_res rfl (by simp only [Rep]))⟩
  | bl b =>
    cases e
    have e1 : x = .bl b := by simpa only [RepC, Rep] using r
    subst e1
    exact .inr ⟨b, rfl, k _ _ _ (.refl hf) (atom_res rfl (by simp only [Rep]))⟩
  | _ => cases e
theorem blt_str : BltZ M X (.type "str") strD := by
  refine ⟨_, call_str_int, fun H F a d x w Q hw hf e r k => ?_⟩
  cases a with
  | int i =>
    obtain ⟨h1, h2⟩ := chk_ok e
    cases h2
    have e1 : x = .int i := by simpa only [RepC, Rep] using r
    subst e1
    have h1 : i.natAbs < 2 ^ 1000 := of_decide_eq_true h1
    refine ⟨i, rfl, ?_, k _ _ _ (.refl hf) (atom_res rfl (by simp only [Rep]))⟩
    by_cases h0 : i.natAbs = 0
    · rw [h0]; decide
    · have := (Nat.log2_lt h0).mpr h1
      omega
  | _ => cases e
theorem blt_list (hK : X.K = M.K) : BltZ M X (.type "list") listD := by
  refine ⟨_, call_list_of, fun H F a d x w Q hw hf e r k => ?_⟩
  cases a with
  | lst xs =>
    cases e
    obtain ⟨a, us, rfl, q, z⟩ := r
    refine ⟨a, us, rfl, .inl (.inl (.inl q)), fun p hp => ?_⟩
    obtain ⟨F', g, r⟩ := list_res (w := w) hw hf hp z
    exact k _ _ _ g r
  | tup xs =>
    cases e
    have r : Rep M F (.tup xs) x := r
    simp only [Rep] at r
    obtain ⟨a, us, rfl, q, z⟩ := r
    refine ⟨a, us, rfl, .inr (by rw [hK]; exact SqT.same hf q), fun p hp => ?_⟩
    obtain ⟨F', g, r⟩ := list_res (w := w) hw hf hp z
    exact k _ _ _ g r
  | _ => cases e
theorem blt_tuple (hK : X.K = M.K) : BltZ M X (.type "tuple") tupleD := by
  refine ⟨_, call_tuple_of, fun H F a d x w Q hw hf e r k => ?_⟩
  cases a with
  | lst xs =>
    cases e
    obtain ⟨a, us, rfl, q, z⟩ := r
    refine ⟨a, us, rfl, .inl ⟨.inl (.inl q), fun p hp => ?_⟩⟩
    obtain ⟨F', g, r⟩ := tup_res (w := w) hw hf hp z
    exact k _ _ _ g r
  | tup xs =>
    cases e
    have r : Rep M F (.tup xs) x := r
    have r' := r
    simp only [Rep] at r'
    obtain ⟨a, us, rfl, q, z⟩ := r'
    refine ⟨a, us, rfl, .inr ⟨by rw [hK]; exact SqT.same hf q, k _ _ _ (.refl hf) ?_⟩⟩
    cases w with
    | d => exact absurd rfl hw
    | w => exact ⟨[], r, fun b hb => by cases hb⟩
    | c => exact r
    | s => exact r
  | _ => cases e

/-! ### sorted -/
theorem zip_fst {α β : Type} : ∀ {xs : List α} {ys : List β}, xs.length = ys.length → (xs.zip ys).map Prod.fst = xs
  | [], [], _ => rfl
  | x :: xs, y :: ys, h => by simp only [List.zip_cons_cons, List.map_cons, zip_fst (xs := xs) (ys := ys) (by simpa using h)]
theorem zip_snd {α β : Type} : ∀ {xs : List α} {ys : List β}, xs.length = ys.length → (xs.zip ys).map Prod.snd = ys
  | [], [], _ => rfl
  | x :: xs, y :: ys, h => by simp only [List.zip_cons_cons, List.map_cons, zip_snd (xs := xs) (ys := ys) (by simpa using h)]
theorem reps_zip {M : Mx} {F : Hp} : ∀ {xs : List D} {vs : List V}, Reps M F xs vs → ∀ p ∈ xs.zip vs, Rep M F p.1 p.2
  | [], vs, h, p, hp => by simp at hp
  | x :: xs, vs, h, p, hp => by
    simp only [Reps] at h
    obtain ⟨v, r, rfl, h1, h2⟩ := h
    rw [List.zip_cons_cons] at hp
    rcases List.mem_cons.mp hp with rfl | hp
    · exact h1
    · exact reps_zip h2 p hp
theorem reps_of {M : Mx} {F : Hp} : ∀ {l : List (D × V)}, (∀ p ∈ l, Rep M F p.1 p.2) → Reps M F (l.map Prod.fst) (l.map Prod.snd)
  | [], _ => by simp [Reps]
  | p :: l, h => Reps.cons (h p (by simp)) (reps_of fun q hq => h q (by simp [hq]))
theorem each_vals : ∀ {us : List Value} {ps : List (D × V)}, Vals (ps.map Prod.snd) us → PySem.W.EachIs (fun u (p : D × V) => RelV p.2 u) us ps
  | _, [], .nil => .nil
  | _, _ :: _, .cons r t => .cons r (each_vals t)
theorem vals_each : ∀ {us : List Value} {ps : List (D × V)}, PySem.W.EachIs (fun u (p : D × V) => RelV p.2 u) us ps → Vals (ps.map Prod.snd) us
  | _, [], .nil => .nil
  | _, _ :: _, .cons r t => .cons r (vals_each t)
theorem sorts_fine {a b : D} (h : sorts a b = true) : fine a = true := by
  unfold sorts at h
  simp only [Bool.and_eq_true] at h
  exact h.1.1.2
theorem sortable_z {ps : List (D × V)} (h : sortable (ps.map Prod.fst) = true) : PySem.W.AllAlike (ps.map fun p => toPy p.1) ∧ PySem.W.Sortable (ps.map fun p => toPy p.1) ∧ ∀ p ∈ ps, fine p.1 = true := by
  unfold sortable at h
  rw [Bool.and_eq_true, Bool.or_eq_true] at h
  obtain ⟨h1, h2⟩ := h
  unfold allAlike at h1
  rw [List.all_eq_true] at h1
  have h1 : ∀ p ∈ ps, ∀ q ∈ ps, sorts p.1 q.1 = true := fun p hp q hq => List.all_eq_true.mp (h1 p.1 (List.mem_map_of_mem hp)) q.1 (List.mem_map_of_mem hq)
  refine ⟨fun d hd d' hd' => ?_, ?_, fun p hp => sorts_fine (h1 p hp p hp)⟩
  · obtain ⟨p, hp, rfl⟩ := List.mem_map.mp hd
    obtain ⟨q, hq, rfl⟩ := List.mem_map.mp hd'
    have z := h1 p hp q hq
    unfold sorts at z
    simp only [Bool.and_eq_true] at z
    exact z.1.1.1
  · rcases h2 with h2 | h2
    · refine .inr fun d hd => ?_
      obtain ⟨p, hp, rfl⟩ := List.mem_map.mp hd
      have n := List.all_eq_true.mp h2 p.1 (List.mem_map_of_mem hp)
      have z := h1 p hp p hp
      unfold sorts at z
      simp only [Bool.and_eq_true] at z
      refine ⟨fun e => ?_, fun xs e => ?_⟩
      · cases q : p.1 <;> rw [q] at e z <;> first | (exact Bool.noConfusion z.2) | (simp [toPy] at e)
      · cases q : p.1 <;> rw [q] at e n <;> first | (exact Bool.noConfusion n) | (simp [toPy] at e)
    · refine .inl fun d hd => ?_
      obtain ⟨p, hp, rfl⟩ := List.mem_map.mp hd
      have n := List.all_eq_true.mp h2 p.1 (List.mem_map_of_mem hp)
      cases q : p.1 with
      | tup xs =>
        rw [q] at n
        cases xs with
        | nil => exact Bool.noConfusion n
        | cons x r => exact ⟨toPy x, toPys r, by simp only [toPy, toPys]⟩
      | _ => rw [q] at n; exact Bool.noConfusion n
def rSortZ (M : Mx) : List V → Hp → VK → Prop := fun vs H Q => ∃ (a : Addr) (ps : List (D × V)) (F : Hp), vs = [V.ref a] ∧ Same F H ∧ H a = some (.lst (ps.map Prod.snd)) ∧ (∀ p ∈ ps, Rep M F p.1 p.2) ∧ sortable (ps.map Prod.fst) = true ∧
  ∀ p, H p = none → Q (.ref p) (upd H p (.lst ((ps.mergeSort (PySem.W.dataLe false fun p => toPy p.1)).map Prod.snd)))
theorem cr_sortZ (hK : X.K = M.K) (hu : X.A.units + 150 < cLine) : CallR X (.builtin "sorted") (rSortZ M) := by
  intro pins s σ H vs us Q I r h
  obtain ⟨a, ps, F, rfl, hf, ha, hr, hs, q⟩ := h
  obtain ⟨u1, rfl, e1⟩ := vals1 r
  obtain rfl : u1 = Value.ref a := e1
  obtain ⟨hz, its, n, rv, e⟩ := I.hok a _ ha
  obtain ⟨s1, s2, s3⟩ := sortable_z hs
  have len : its.length = ps.length := by rw [← rv.length, List.length_map]
  have rd : ∀ (p : D × V) (u : Value), p ∈ ps → RelV p.2 u → ∃ as, Reads s.heap u (toPy p.1) as := fun p u hp ru => by
    have z := rep_dp p.1 p.2 (fine_iff (s3 p hp)).1 (Rep.same hf _ _ (hr p hp))
    rw [← hK] at z
    exact z.reads I _ _ _ ru
  have er : PySem.W.EachIs (fun (v : Value) (b : D × V) => ∃ as, Reads s.heap v (toPy b.1) as) its ps := by
    refine PySem.W.EachIs.of_zip len fun z hz => ?_
    have h1 := (each_vals rv).zip z hz
    exact rd z.2 z.1 (List.of_mem_zip hz).2 h1
  refine PySem.W.sorted_data (R := fun u (p : D × V) => RelV p.2 u) (enc := fun p : D × V => toPy p.1) (bs := ps) ⟨_, e, rfl, _, rfl⟩ (each_vals rv) er s1 s2 (by rw [List.length_map] at hz; exact hz) (fun p hp => ?_) fun out hl ho => ?_
  · have := (fine_iff (s3 p hp)).2
    omega
  · obtain ⟨ep, he⟩ := PyProof.Rows.sortedAll_at s.heap its out.toArray
    have hlen : ((ps.mergeSort (PySem.W.dataLe false fun p => toPy p.1)).map Prod.snd).length ≤ sizeLine := by
      rw [List.length_map, List.length_mergeSort]
      rw [List.length_map] at hz
      exact hz
    exact ⟨.ref _, _, I.laid (t' := s.toks) (o := .lst ((ps.mergeSort (PySem.W.dataLe false fun p => toPy p.1)).map Prod.snd)) (fun _ _ => PyProof.Rows.sortedAll_old) (Nat.le_succ _) ⟨hlen, out, ep, vals_each ho, he⟩, rfl, q _ (I.hok.fresh (Nat.le_succ _))⟩
theorem sort_fst {ps : List (D × V)} : (ps.mergeSort (PySem.W.dataLe false fun p => toPy p.1)).map Prod.fst = sortL (ps.map Prod.fst) := by
  unfold sortL
  exact List.map_mergeSort fun a _ b _ => rfl
theorem blt_sorted (hK : X.K = M.K) (hu : X.A.units + 150 < cLine) : BltZ M X (.builtin "sorted") sortedD := by
  refine ⟨_, cr_sortZ hK hu, fun H F a d x w Q hw hf e r k => ?_⟩
  cases a with
  | lst xs =>
    obtain ⟨h1, h2⟩ := chk_ok e
    cases h2
    obtain ⟨a, us, rfl, q, z⟩ := r
    refine ⟨a, xs.zip us, F, rfl, hf, by rw [zip_snd z.len]; exact q, reps_zip z, by rw [zip_fst z.len]; exact h1, fun p hp => ?_⟩
    have zz := reps_of (M := M) (F := F) (l := (xs.zip us).mergeSort (PySem.W.dataLe false fun p => toPy p.1)) fun p hp => reps_zip z p ((List.mergeSort_perm _ _).mem_iff.mp hp)
    rw [sort_fst, zip_fst z.len] at zz
    obtain ⟨F', g, r⟩ := list_res (w := w) hw hf hp zz
    exact k _ _ _ g r
  | _ => cases e
end
end Z
/-! Z, part F: from the text's expressions to functions. -/
namespace Z
open PySem PySem.Spec PyProof.Rows L2

/-- what the compiler knows: the def's names by slot; the module's constants; the text's defs, their answers' flags, what they are worth -/
structure CC where
  N : List Str
  con : Str → Option D
  fn : Str → Bool
  fl : Str → Fl
  call : Call
  kills : Pos → List Nat
  dp : Pos → Bool

def ixOf (x : Str) : List Str → Option Nat
  | [] => none
  | y :: r => if x = y then some 0 else (ixOf x r).map (· + 1)
theorem ixOf_get {x : Str} : ∀ {l : List Str} {i : Nat}, ixOf x l = some i → l[i]? = some x
  | [], _, h => by cases h
  | y :: r, i, h => by
    unfold ixOf at h
    split at h
    · rename_i e; cases h; rw [e]; rfl
    · obtain ⟨j, h1, h2⟩ := Option.map_eq_some_iff.mp h
      subst h2
      simpa using ixOf_get h1
def plainName (x : Str) : Bool := !(x == ("__debug__" : Str)) && !(x == ("__classdict__" : Str)) && !(x == ("__name__" : Str))
def visK : Option NameKind → Bool
  | some .local => true
  | some .cell => true
  | some .free => true
  | _ => false
def locK : Option NameKind → Bool
  | some .local => true
  | some .cell => true
  | _ => false
def glK : Option NameKind → Bool
  | some .globalImplicit => true
  | _ => false
def gd {α : Type} (b : Bool) (x : Option α) : Option α := if b = true then x else none
theorem gd_some {α : Type} {b : Bool} {x : Option α} {a : α} (h : gd b x = some a) : b = true ∧ x = some a := by
  unfold gd at h
  split at h
  · exact ⟨by assumption, h⟩
  · cases h
def okFl : Wt → Fl → Bool
  | .s, .sh => true
  | .c, .sh => true
  | .c, .own => true
  | _, _ => false
def cName (C : CC) (sc : Scope) (fe : List Fl) (w : Wt) (x : Str) : Option ZE :=
  gd (plainName x) (if visK (sc.names.lookup x) = true then (ixOf x C.N).bind fun i => gd (okFl w (fe.getD i .sh)) (some (eVar i))
  else gd (glK (sc.names.lookup x)) ((C.con x).map eLit))
def cConst : Const → Option D
  | .none => some .non
  | .bool b => some (.bl b)
  | .int i => some (.int i)
  | .str x => some (.str x)
  | _ => none
def bltOf (x : Str) : Option Blt :=
  if x = "len" then some .len else if x = "all" then some .all else if x = "any" then some .any else if x = "sum" then some .sum else if x = "int" then some .int
  else if x = "str" then some .str else if x = "list" then some .list else if x = "tuple" then some .tuple else if x = "sorted" then some .sorted else none
def tyOf (x : Str) : Option String :=
  if x = "int" then some "int" else if x = "bool" then some "bool" else if x = "str" then some "str" else if x = "list" then some "list" else if x = "tuple" then some "tuple" else if x = "dict" then some "dict" else none
def bltNames : List Str := ["len", "all", "any", "sum", "int", "str", "list", "tuple", "sorted", "isinstance", "bool", "dict", "range", "zip", "enumerate"]
def isBuiltin (C : CC) (sc : Scope) (x : Str) : Bool := plainName x && glK (sc.names.lookup x) && bltNames.contains x
/-- the want of an argument, by the answer's want and flag -/
def foldB (f : ZE → ZE → ZE) : List ZE → Option ZE
  | [] => none
  | [z] => some z
  | z :: zs => (foldB f zs).map (f z)
def boolF : BoolOp → ZE → ZE → ZE
  | .And => eAnd
  | .Or => eOr
def mapO {α β : Type} (f : α → Option β) : List α → Option (List β)
  | [] => some []
  | a :: r => (f a).bind fun b => (mapO f r).map (b :: ·)
def notStar : Expr → Bool
  | .Starred _ _ => false
  | _ => true
def notSlice : Expr → Bool
  | .Slice _ _ _ _ => false
  | _ => true
def notSet : Expr → Bool
  | .Set _ _ _ => false
  | _ => true
def plainTest : Expr → Bool
  | .UnaryOp .Not _ _ => false
  | .BoolOp _ _ _ => false
  | .IfExp _ _ _ _ => false
  | .Compare _ _ _ _ => false
  | _ => true

/-! ### targets -/
def tgNames : Nat → Expr → List Str
  | 0, _ => []
  | _ + 1, .Name x _ => [x]
  | n + 1, .Tuple es _ _ => es.flatMap (tgNames n)
  | _ + 1, _ => []
def cG : Nat → CC → Scope → Expr → Option (ZG × List Nat)
  | 0, _, _, _ => none
  | _ + 1, C, sc, .Name x _ => gd (locK (sc.names.lookup x)) ((ixOf x C.N).map fun i => (gN i, [i]))
  | n + 1, C, sc, .Tuple es _ _ => gd (es.all notStar) ((mapO (cG n C sc) es).map fun ps => (gT (ps.map (·.1)), ps.flatMap (·.2)))
  | _ + 1, _, _, _ => none
def setSh (fe : List Fl) (is : List Nat) : List Fl := is.foldl (fun f i => f.set i .sh) fe

/-- the built-ins with one argument, isinstance -/
def cBl (C : CC) (sc : Scope) (f : Str) (w : Wt) (ec es : Expr → Option ZE) : List Expr → Option ZE
  | [a] => (bltOf f).bind fun g => gd (w != .d) ((ec a).map fun x => eBlt g [x])
  | [a, .Name t _] => gd (decide (f = "isinstance") && isBuiltin C sc t) ((tyOf t).bind fun t => (es a).map fun x => eIsi x t)
  | _ => none
def cZip (w : Wt) (ew : Expr → Option ZE) : List Expr → Expr → Option ZI
  | [a, b], .Tuple _ _ _ => gd (notStar a && notStar b && (w == .s || w == .c)) ((ew a).bind fun x => (ew b).map fun y => iZip x y)
  | _, _ => none
def cEnum (w : Wt) (ew : Expr → Option ZE) : List Expr → Expr → Option ZI
  | [a], .Tuple _ _ _ => gd (notStar a && (w == .s || w == .c)) ((ew a).map iEnum)
  | _, _ => none
mutual
def cE : Nat → CC → Scope → List Fl → Wt → Expr → Option ZE
  | 0, _, _, _, _, _ => none
  | n + 1, C, sc, fe, w, .Name x _ => cName C sc fe w x
  | n + 1, C, sc, fe, w, .Constant c _ _ => (cConst c).map eLit
  | n + 1, C, sc, fe, w, .List es _ => gd (w != .d && decide (es.length ≤ 1000) && es.all notStar) ((mapO (cE n C sc fe .s) es).map eLst)
  | n + 1, C, sc, fe, w, .Tuple es _ _ => gd (w != .d && decide (es.length ≤ 1000) && es.all notStar) ((mapO (cE n C sc fe .s) es).map eTup)
  | n + 1, C, sc, fe, w, .BinOp a op b _ => gd (w != .d) ((cE n C sc fe .c a).bind fun x => (cE n C sc fe .c b).map fun y => eBin op x y)
  | n + 1, C, sc, fe, w, .UnaryOp .USub a _ => (cE n C sc [] .s a).map eNeg
  | n + 1, C, sc, fe, w, .UnaryOp .Not a _ => (cE n C sc [] .s a).map eNot
  | n + 1, C, sc, fe, w, .Compare a [op] [b] _ => gd (!behindInMarks op b) ((cE n C sc [] .s a).bind fun x => (cE n C sc [] .s b).map fun y => eCmp op x y)
  | n + 1, C, sc, fe, w, .Compare a [op, op2] [b, c] _ => gd (!lastMarks [op, op2] [b, c]) ((cE n C sc [] .s a).bind fun x => (cE n C sc [] .s b).bind fun y => (cE n C sc [] .s c).map fun z => eCmp2 op op2 x y z)
  | n + 1, C, sc, fe, w, .BoolOp op es _ => gd (w == .s || w == .c) ((mapO (cE n C sc fe w) es).bind (foldB (boolF op)))
  | n + 1, C, sc, fe, w, .IfExp c a b _ => (cT n C sc c).bind fun x => (cE n C sc fe w a).bind fun y => (cE n C sc fe w b).map fun z => eIte x y z
  | n + 1, C, sc, fe, w, .Subscript a (.Slice lo hi none _) _ => gd (w != .d) ((cE n C sc fe .c a).bind fun x =>
      (match lo with | none => some none | some l => (cE n C sc [] .s l).map some).bind fun l => (match hi with | none => some none | some h => (cE n C sc [] .s h).map some).map fun h => eCut x l h)
  | n + 1, C, sc, fe, w, .Subscript a i _ => gd ((w == .s || w == .c) && notSlice i) ((cE n C sc fe .c a).bind fun x => (cE n C sc [] .s i).map fun y => eIx x y)
  | n + 1, C, sc, fe, w, .Call (.Name f _) es [] _ =>
      if C.fn f = true then gd (plainName f && glK (sc.names.lookup f) && es.all notStar && (w == .s || w == .c || (w == .w && C.fl f == .own))) ((mapO (cE n C sc fe .s) es).map (eCall C.call f))
      else gd (isBuiltin C sc f && es.all notStar) (cBl C sc f w (cE n C sc fe .c) (cE n C sc [] .s) es)
  | n + 1, C, sc, fe, w, .Call (.Name f _) [a] [⟨some key, .Name kf _, _⟩] _ => gd (decide (f = "sorted") && decide (key = "key") && isBuiltin C sc f && C.fn kf && plainName kf && glK (sc.names.lookup kf) && notStar a && (w != .d)) ((cE n C sc fe .c a).map (eSortK C.call kf))
  | n + 1, C, sc, fe, w, .ListComp elt [⟨tg, iter, ifs, 0⟩] scope _ =>
      gd (w != .d && notSet iter && decide (ifs.length ≤ 1)) ((mapO (fun x => (ixOf x C.N).map fun i => (x, i)) (tgNames 9 tg)).bind fun own =>
        gd (blkC C.N sc scope own && own.all (fun p => locK (scope.names.lookup p.1))) ((cG 9 C scope tg).bind fun g => gd (g.2.all fun i => (own.map (·.2)).contains i) ((cI n C sc fe .c tg iter).bind fun it =>
          (mapO (cT n C (relS scope sc)) ifs).bind fun cs => (cE n C (relS scope sc) (setSh (setSh fe (own.map (·.2))) g.2) .s elt).map fun e => eComp (own.map (·.2)) g.1 it cs e)))
  | _ + 1, _, _, _, _, _ => none
/-- what is walked -/
def cI : Nat → CC → Scope → List Fl → Wt → Expr → Expr → Option ZI
  | 0, _, _, _, _, _, _ => none
  | n + 1, C, sc, fe, w, tg, .Call (.Name f p) es [] q =>
      if (isBuiltin C sc f && decide (f = "range")) = true then gd (decide (es.length ≤ 2) && decide (1 ≤ es.length) && es.all notStar) ((mapO (cE n C sc [] .s) es).map iRange)
      else if (isBuiltin C sc f && decide (f = "zip")) = true then (cZip w (cE n C sc fe w) es tg)
      else if (isBuiltin C sc f && decide (f = "enumerate")) = true then (cEnum w (cE n C sc fe w) es tg)
      else gd (w == .s || w == .c) ((cE n C sc fe w (.Call (.Name f p) es [] q)).map iSeq)
  | n + 1, C, sc, fe, w, tg, e => gd ((w == .s || w == .c) && notSet e) ((cE n C sc fe w e).map iSeq)
/-- a test -/
def cT : Nat → CC → Scope → Expr → Option ZE
  | 0, _, _, _ => none
  | n + 1, C, sc, .UnaryOp .Not a _ => (cT n C sc a).map eNot
  | n + 1, C, sc, .BoolOp op es _ => (mapO (cT n C sc) es).bind (foldB (boolF op))
  | n + 1, C, sc, .Compare a [op] [b] _ => gd (!behindInMarks op b) ((cE n C sc [] .s a).bind fun x => (cE n C sc [] .s b).map fun y => eCmp op x y)
  | n + 1, C, sc, .Compare a [op, op2] [b, c] _ => gd (!lastMarks [op, op2] [b, c]) ((cE n C sc [] .s a).bind fun x => (cE n C sc [] .s b).bind fun y => (cE n C sc [] .s c).map fun z => eCmp2 op op2 x y z)
  | n + 1, C, sc, e => gd (plainTest e) (cE n C sc [] .s e)
end

/-! ### promises -/
/-- what a def that is worth m promises -/
def spOf (M : Mx) (fl : Fl) (m : List D → R D) (np : Nat) : Sp := fun vs H Q _ => ∃ ds F r, ds.length = np ∧ Same F H ∧ Reps M F ds vs ∧ m ds = .ok r ∧
  ∀ v H' F' fp, Gr H F H' F' → Val M H' F' fl r v fp → Fresh H F' fp → Q v H'
/-- the def x of the text, as a body sees it -/
def FnAt (M : Mx) (X : Cx) (fl : Fl) (m : List D → R D) (x : Str) : Prop := ∃ (fa : Addr) (fd : FuncData) (ps : List Str) (k : Nat),
  FnOk X.prog X.w X.K X.mg X.base CX0 k fa fd ps (spOf M fl m ps.length) ∧ Room (k + 2) X.A ∧ X.mg x = some (.ref fa) ∧ PySem.W.keepIn X.K (.ref fa) = true ∧ Binds X.K fd ps [] ∧ ∀ ds d, m ds = .ok d → ds.length = ps.length
/-- the context fits -/
structure XOk (C : CC) (M : Mx) (X : Cx) (sc : Scope) : Prop where
  n : X.N = C.N
  nd : C.N.Nodup
  sc : X.env.scope = sc
  k : X.K = M.K
  calm : X.calm = true
  room : X.A.units + 160 < cLine
  free : ∀ x, x ∈ bltNames → X.mg x = none
  con : ∀ x d, C.con x = some d → isAtom d = true ∧ ∃ v u, X.mg x = some u ∧ RelV v u ∧ ∀ F, Rep M F d v
  fn : ∀ x, C.fn x = true → FnAt M X (C.fl x) (C.call x) x
end Z
/-! Z, part G: expressions are worth what they are told to be: the single forms. -/
namespace Z
open PySem PySem.Spec PyProof.Rows L2

section
variable {M : Mx} {H H1 H2 F F1 F2 : Hp} {w : Wt} {d : D} {v : V}
theorem Res.back (g : Gr H F H1 F1) (r : Res M H1 H2 F2 w d v) : Res M H H2 F2 w d v := by
  cases w with
  | c => exact r
  | s => exact r
  | w => obtain ⟨fp, x, z⟩ := r; exact ⟨fp, x, fun b hb => ⟨g.h.free (z b hb).1, (z b hb).2⟩⟩
  | d => obtain ⟨fp, x, z⟩ := r; exact ⟨fp, x, fun b hb => ⟨g.h.free (z b hb).1, (z b hb).2⟩⟩
end
theorem blt_mem {x : Str} (h : bltNames.contains x = true) : x ∈ bltNames := by simpa using h

section
variable {C : CC} {M : Mx} {X : Cx} {sc : Scope} {fe : List Fl} {w : Wt}
def zAw (M : Mx) (fe : List Fl) (w : Wt) (zs : List ZE) : TA := fun σ H Q => ∃ H0 F0 F ρ fps ds, St M H0 F0 σ H F fe ρ fps ∧ eArgs zs ρ = .ok ds ∧ ∀ vs H' F', Gr H F H' F' → RepWs M H' F' w ds vs → Q vs H'
/-- a part in a row -/
theorem zT_go {z : ZE} {H0 F0 H F : Hp} {σ : L2.St} {ρ : Env} {fps : Nat → List Addr} {d : D} {Q : VK} (s : St M H0 F0 σ H F fe ρ fps) (e : z ρ = .ok d) (k : ∀ v H' F', Gr H F H' F' → St M H0 F0 σ H' F' fe ρ fps → Res M H H' F' w d v → Q v H') : zT M fe w z σ H Q :=
  ⟨H0, F0, F, ρ, fps, d, s, e, fun v H' F' g r => k v H' F' g (s.grow g) r⟩

theorem z_name {x : Str} {pos : Pos} {z : ZE} (o : XOk C M X sc) (h : cName C sc fe w x = some z) : PE X (.Name x pos) (zT M fe w z) := by
  obtain ⟨hp, h⟩ := gd_some h
  unfold plainName at hp
  simp only [Bool.and_eq_true, Bool.not_eq_true'] at hp
  obtain ⟨⟨p1, p2⟩, p3⟩ := hp
  split at h
  · rename_i hv
    obtain ⟨i, hi, h⟩ := Option.bind_eq_some_iff.mp h
    obtain ⟨hf, h⟩ := gd_some h
    cases h
    have vis : Vis X.env.scope x := by
      rw [o.sc]
      unfold Vis
      unfold visK at hv
      split at hv <;> first | (exact Bool.noConfusion hv) | (simp_all)
    refine PE.imp (pe_var (i := i) (by rw [o.n]; exact ixOf_get hi) vis p1 p2) fun σ H Q ⟨H0, F0, F, ρ, fps, d, s, e, k⟩ => ?_
    unfold eVar look at e
    split at e
    · rename_i d' hd
      cases e
      obtain ⟨v, h1, h2⟩ := s.slot i _ hd
      refine ⟨v, h1, k v H F (.refl s.fh) ?_⟩
      cases hg : fe.getD i .sh <;> rw [hg] at hf h2
      · cases w with
        | s => exact h2
        | c => exact RepC.of s.fh h2
        | w => cases hf
        | d => cases hf
      · cases w with
        | c => exact RepC.ofVal s.fh (.inr rfl) h2
        | s => cases hf
        | w => cases hf
        | d => cases hf
      · cases w <;> cases hf
    · cases e
  · obtain ⟨hg, h⟩ := gd_some h
    obtain ⟨d, h1, h2⟩ := Option.map_eq_some_iff.mp h
    subst h2
    obtain ⟨ha, v, u, hm, r, q⟩ := o.con x d h1
    have gl : Gl X x := by
      show X.env.scope.names.lookup x = some .globalImplicit
      rw [o.sc]
      unfold glK at hg
      split at hg <;> first | assumption | (exact Bool.noConfusion hg)
    refine PE.imp (pe_glob gl hm r p1) fun σ H Q ⟨H0, F0, F, ρ, fps, d', s, e, k⟩ => ?_
    cases e
    exact k v H F (.refl s.fh) (atom_res ha (q F))
theorem z_const {c : Const} {j : Nat} {pos : Pos} {z : ZE} (h : (cConst c).map eLit = some z) : PE X (.Constant c j pos) (zT M fe w z) := by
  obtain ⟨d, h1, h2⟩ := Option.map_eq_some_iff.mp h
  subst h2
  have fin : ∀ {v : V}, isAtom d = true → (∀ F, Rep M F d v) → ∀ σ H Q, zT M fe w (eLit d) σ H Q → tC v σ H Q := fun {v} ha r σ H Q ⟨H0, F0, F, ρ, fps, d', s, e, k⟩ => by
    cases e
    exact k v H F (.refl s.fh) (atom_res ha (r F))
  cases c with
  | none => cases h1; exact PE.imp pe_non (fin rfl fun F => by simp only [Rep])
  | bool b => cases h1; exact PE.imp pe_bl (fin rfl fun F => by simp only [Rep])
  | int i => cases h1; exact PE.imp pe_int (fin rfl fun F => by simp only [Rep])
  | str x => cases h1; exact PE.imp pe_str (fin rfl fun F => by simp only [Rep])
  | _ => cases h1

theorem star_cons {e : Expr} {es : List Expr} {env : PySem.Env} (h : notStar e = true) : starEach (e :: es) env = (false, eval e env) :: starEach es env := by
  cases e <;> first | rfl | (exact Bool.noConfusion h)
theorem star_any {env : PySem.Env} {pos : Pos} : ∀ {es : List Expr}, es.all notStar = true → (backTo pos (starEach es env)).any (·.1) = false
  | [], _ => rfl
  | e :: es, h => by
    rw [List.all_cons, Bool.and_eq_true] at h
    rw [star_cons h.1]
    show (false || (backTo pos (starEach es env)).any (·.1)) = false
    rw [Bool.false_or]
    exact star_any h.2
/-- arguments, one by one -/
theorem z_args {f : Expr → Option ZE} (hw : w = .c ∨ w = .s) : ∀ {es : List Expr} {zs : List ZE}, (∀ e ∈ es, ∀ z, f e = some z → PE X e (zT M fe w z)) → es.all notStar = true → mapO f es = some zs → PA X es (zAw M fe w zs)
  | [], zs, _, _, h => by
    cases h
    refine PA.imp pa_nil fun σ H Q ⟨H0, F0, F, ρ, fps, ds, s, e, k⟩ => ?_
    cases e
    exact k [] H F (.refl s.fh) .nil
  | e :: es, zs, hp, hn, h => by
    obtain ⟨z, h1, h⟩ := Option.bind_eq_some_iff.mp h
    obtain ⟨zr, h2, h3⟩ := Option.map_eq_some_iff.mp h
    subst h3
    rw [List.all_cons, Bool.and_eq_true] at hn
    have ih := z_args hw (fun e' he z => hp e' (List.mem_cons_of_mem _ he) z) hn.2 h2
    refine PA.imp (pa_cons (hp e List.mem_cons_self z h1) ih (star_cons hn.1)) fun σ H Q ⟨H0, F0, F, ρ, fps, ds, s, e, k⟩ => ?_
    obtain ⟨d, e1, e⟩ := R.bind_eq_ok e
    obtain ⟨dr, e2, e⟩ := R.bind_eq_ok e
    cases e
    refine zT_go s e1 fun v H1 F1 g1 s1 r1 => ⟨H0, F0, F1, ρ, fps, dr, s1, e2, fun vs H2 F2 g2 r2 => k _ H2 F2 (g1.trans g2) (.cons ((RepW.res hw r1).same g2.h g2.f) r2)⟩
theorem eArgs_len : ∀ {zs : List ZE} {ρ : Env} {ds : List D}, eArgs zs ρ = .ok ds → ds.length = zs.length
  | [], _, _, h => by cases h; rfl
  | z :: zs, ρ, ds, h => by
    obtain ⟨d, e1, e⟩ := R.bind_eq_ok h
    obtain ⟨dr, e2, e⟩ := R.bind_eq_ok e
    cases e
    rw [List.length_cons, List.length_cons, eArgs_len e2]
theorem mapO_len {α β : Type} {f : α → Option β} : ∀ {xs : List α} {ys : List β}, mapO f xs = some ys → ys.length = xs.length
  | [], _, h => by cases h; rfl
  | x :: xs, ys, h => by
    obtain ⟨z, h1, h⟩ := Option.bind_eq_some_iff.mp h
    obtain ⟨zr, h2, h3⟩ := Option.map_eq_some_iff.mp h
    subst h3
    rw [List.length_cons, List.length_cons, mapO_len h2]
theorem z_list {es : List Expr} {zs : List ZE} {pos : Pos} (hw : w ≠ .d) (hl : es.length ≤ 1000) (hz : zs.length = es.length) (ha : PA X es (zAw M fe .s zs)) : PE X (.List es pos) (zT M fe w (eLst zs)) := by
  refine PE.imp (pe_lst ha) fun σ H Q ⟨H0, F0, F, ρ, fps, d, s, e, k⟩ => ?_
  obtain ⟨ds, e1, e⟩ := R.bind_eq_ok e
  cases e
  refine ⟨H0, F0, F, ρ, fps, ds, s, e1, fun vs H1 F1 g1 r1 => ⟨?_, fun p hp => ?_⟩⟩
  · rw [← r1.length, eArgs_len e1, hz]
    exact Nat.le_trans hl (by decide)
  · obtain ⟨F', g, r⟩ := list_res (w := w) hw g1.fh hp r1.reps
    exact k _ _ _ (g1.trans g) (r.back g1)
theorem z_tuple {es : List Expr} {zs : List ZE} {j : Nat} {pos : Pos} (hw : w ≠ .d) (hl : es.length ≤ 1000) (hz : zs.length = es.length) (ha : PA X es (zAw M fe .s zs)) : PE X (.Tuple es j pos) (zT M fe w (eTup zs)) := by
  refine PE.imp (pe_tup ha) fun σ H Q ⟨H0, F0, F, ρ, fps, d, s, e, k⟩ => ?_
  obtain ⟨ds, e1, e⟩ := R.bind_eq_ok e
  cases e
  refine ⟨H0, F0, F, ρ, fps, ds, s, e1, fun vs H1 F1 g1 r1 => ⟨?_, fun p hp => ?_⟩⟩
  · rw [← r1.length, eArgs_len e1, hz]
    exact Nat.le_trans hl (by decide)
  · obtain ⟨F', g, r⟩ := tup_res (w := w) hw g1.fh hp r1.reps
    exact k _ _ _ (g1.trans g) (r.back g1)
theorem z_bin {a b : Expr} {x y : ZE} {op : Operator} {pos : Pos} (o : XOk C M X sc) (hw : w ≠ .d) (ha : PE X a (zT M fe .c x)) (hb : PE X b (zT M fe .c y)) : PE X (.BinOp a op b pos) (zT M fe w (eBin op x y)) := by
  obtain ⟨r, ho, hr⟩ := op_binZ o.k op
  refine PE.imp (pe_op ho ha hb) fun σ H Q ⟨H0, F0, F, ρ, fps, d, s, e, k⟩ => ?_
  obtain ⟨d1, e1, e⟩ := R.bind_eq_ok e
  obtain ⟨d2, e2, e⟩ := R.bind_eq_ok e
  refine zT_go s e1 fun v1 H1 F1 g1 s1 r1 => zT_go s1 e2 fun v2 H2 F2 g2 s2 r2 => ?_
  have r1 : RepC M H1 F1 d1 v1 := r1
  exact hr H2 F2 d1 d2 d v1 v2 w Q hw g2.fh e (r1.same g2.h g2.f) r2 fun v H' F' g r => k v H' F' ((g1.trans g2).trans g) (r.back (g1.trans g2))
theorem z_neg {a : Expr} {x : ZE} {pos : Pos} (ha : PE X a (zL M x)) : PE X (.UnaryOp .USub a pos) (zT M fe w (eNeg x)) := by
  refine PE.imp (pe_un un_neg ha) fun σ H Q ⟨H0, F0, F, ρ, fps, d, s, e, k⟩ => ?_
  obtain ⟨d1, e1, e⟩ := R.bind_eq_ok e
  refine lend s e1 fun v H' g s' r => ?_
  cases d1 with
  | int i =>
    cases e
    simp only [Rep] at r
    exact ⟨i, r, k _ _ _ g (atom_res rfl (by simp only [Rep]))⟩
  | _ => cases e
theorem z_not {a : Expr} {x : ZE} {pos : Pos} (o : XOk C M X sc) (ha : PE X a (zL M x)) : PE X (.UnaryOp .Not a pos) (zT M fe w (eNot x)) := by
  refine PE.imp (pe_notT ha) fun σ H Q ⟨H0, F0, F, ρ, fps, d, s, e, k⟩ => ?_
  obtain ⟨d1, e1, e⟩ := R.bind_eq_ok e
  obtain ⟨t, e2, e⟩ := R.bind_eq_ok e
  cases e
  refine lend s e1 fun v H' g s' r => ⟨t, tru_z o.k e2 r, k _ _ _ g (atom_res rfl (by simp only [Rep]))⟩
theorem z_cmp {a b : Expr} {x y : ZE} {op : CmpOp} {pos : Pos} (o : XOk C M X sc) (hm : behindInMarks op b = false) (ha : PE X a (zL M x)) (hb : PE X b (zL M y)) : PE X (.Compare a [op] [b] pos) (zT M fe w (eCmp op x y)) := by
  obtain ⟨r, ho, hr⟩ := op_cmpZ o.k (by have := o.room; omega) op
  refine PE.imp (pe_cmpR ho ha hb hm) fun σ H Q ⟨H0, F0, F, ρ, fps, d, s, e, k⟩ => ?_
  obtain ⟨d1, e1, e⟩ := R.bind_eq_ok e
  obtain ⟨d2, e2, e⟩ := R.bind_eq_ok e
  obtain ⟨c, e3, e⟩ := R.bind_eq_ok e
  cases e
  refine lend s e1 fun v1 H1 g1 s1 r1 => lend s1 e2 fun v2 H2 g2 s2 r2 => ?_
  exact hr H2 d1 d2 c v1 v2 Q e3 (Rep.same g2.h _ _ r1) r2 (k _ _ _ (g1.trans g2) (atom_res rfl (by simp only [Rep])))
theorem z_cmp2 {a b c : Expr} {x y z : ZE} {op op2 : CmpOp} {pos : Pos} (o : XOk C M X sc) (hm : lastMarks [op, op2] [b, c] = false) (ha : PE X a (zL M x)) (hb : PE X b (zL M y)) (hc : PE X c (zL M z)) : PE X (.Compare a [op, op2] [b, c] pos) (zT M fe w (eCmp2 op op2 x y z)) := by
  obtain ⟨r, ho, hr⟩ := op_cmpZ o.k (by have := o.room; omega) op
  obtain ⟨r2, ho2, hr2⟩ := op_cmpZ o.k (by have := o.room; omega) op2
  refine PE.imp (pe_chain ho ho2 ha hb hc hm) fun σ H Q ⟨H0, F0, F, ρ, fps, d, s, e, k⟩ => ?_
  obtain ⟨d1, e1, e⟩ := R.bind_eq_ok e
  obtain ⟨d2, e2, e⟩ := R.bind_eq_ok e
  obtain ⟨t, e3, e⟩ := R.bind_eq_ok e
  refine lend s e1 fun v1 H1 g1 s1 q1 => lend s1 e2 fun v2 H2 g2 s2 q2 => ?_
  refine hr H2 d1 d2 t v1 v2 _ e3 (Rep.same g2.h _ _ q1) q2 ⟨t, rfl, ?_⟩
  cases t with
  | false =>
    cases e
    exact iteF (k _ _ _ (g1.trans g2) (atom_res rfl (by simp only [Rep])))
  | true =>
    obtain ⟨d3, e4, e⟩ := R.bind_eq_ok e
    obtain ⟨t2, e5, e⟩ := R.bind_eq_ok e
    cases e
    refine iteT (lend s2 e4 fun v3 H3 g3 s3 q3 => ?_)
    exact hr2 H3 d2 d3 t2 v2 v3 Q e5 (Rep.same g3.h _ _ q2) q3 (k _ _ _ ((g1.trans g2).trans g3) (atom_res rfl (by simp only [Rep])))
theorem RepC.rep {H F : Hp} {d : D} {v : V} (h : Same F H) (x : RepC M H F d v) : Rep M H d v := by
  cases d with
  | lst xs => obtain ⟨a, vs, r, q, z⟩ := x; simp only [Rep]; exact ⟨a, vs, r, q, Reps.same h _ _ z⟩
  | dic ks ds => obtain ⟨a, us, r, q, z⟩ := x; simp only [Rep]; exact ⟨a, us, r, q, Reps.same h _ _ z⟩
  | obj c fs ds => obtain ⟨a, C, dx, us, r, q, l, c, z⟩ := x; simp only [Rep]; exact ⟨a, C, dx, us, r, q, l, c, Reps.same h _ _ z⟩
  | non => exact Rep.same h _ _ x
  | bl _ => exact Rep.same h _ _ x
  | int _ => exact Rep.same h _ _ x
  | str _ => exact Rep.same h _ _ x
  | tup _ => exact Rep.same h _ _ x
  | scr _ => exact Rep.same h _ _ x
/-- and, or, as values -/
theorem z_bool (o : XOk C M X sc) (hw : w = .s ∨ w = .c) {op : BoolOp} {pos : Pos} {f : Expr → Option ZE} : ∀ {es : List Expr} {zs : List ZE} {z : ZE}, (∀ e ∈ es, ∀ z, f e = some z → PE X e (zT M fe w z)) → mapO f es = some zs → foldB (boolF op) zs = some z → PE X (.BoolOp op es pos) (zT M fe w z)
  | [], zs, z, _, h, h2 => by cases h; cases h2
  | [e], zs, z, hp, h, h2 => by
    obtain ⟨x, h1, h⟩ := Option.bind_eq_some_iff.mp h
    cases h
    cases h2
    exact pe_one (hp e List.mem_cons_self _ h1)
  | e :: e' :: es, zs, z, hp, h, h2 => by
    obtain ⟨x, h1, h⟩ := Option.bind_eq_some_iff.mp h
    obtain ⟨zr, h3, h⟩ := Option.map_eq_some_iff.mp h
    subst h
    cases zr with
    | nil => have := mapO_len h3; simp at this
    | cons y zr =>
      obtain ⟨q, h4, h5⟩ := Option.map_eq_some_iff.mp h2
      subst h5
      have ih := z_bool (pos := pos) o hw (fun e2 he z => hp e2 (List.mem_cons_of_mem _ he) z) h3 h4
      have hx := hp e List.mem_cons_self _ h1
      have rep : ∀ {H H' F' : Hp} {d : D} {v : V}, Same F' H' → Res M H H' F' w d v → Rep M H' d v := fun {H H' F' d v} hf r => by
        rcases hw with rfl | rfl
        · exact Rep.same hf _ _ r
        · exact RepC.rep hf r
      cases op with
      | And =>
        refine PE.imp (pe_andT hx ih) fun σ H Q ⟨H0, F0, F, ρ, fps, d, s, e, k⟩ => ?_
        obtain ⟨d1, e1, e⟩ := R.bind_eq_ok e
        obtain ⟨t, e2, e⟩ := R.bind_eq_ok e
        refine zT_go s e1 fun v H1 F1 g1 s1 r1 => ⟨t, tru_z o.k e2 (rep g1.fh r1), ?_⟩
        cases t with
        | true => exact iteT (zT_go s1 e fun v2 H2 F2 g2 s2 r2 => k _ _ _ (g1.trans g2) (r2.back g1))
        | false => cases e; exact iteF (k _ _ _ g1 r1)
      | Or =>
        refine PE.imp (pe_orT hx ih) fun σ H Q ⟨H0, F0, F, ρ, fps, d, s, e, k⟩ => ?_
        obtain ⟨d1, e1, e⟩ := R.bind_eq_ok e
        obtain ⟨t, e2, e⟩ := R.bind_eq_ok e
        refine zT_go s e1 fun v H1 F1 g1 s1 r1 => ⟨t, tru_z o.k e2 (rep g1.fh r1), ?_⟩
        cases t with
        | true => cases e; exact iteT (k _ _ _ g1 r1)
        | false => exact iteF (zT_go s1 e fun v2 H2 F2 g2 s2 r2 => k _ _ _ (g1.trans g2) (r2.back g1))
theorem z_ite {a b c : Expr} {x y z : ZE} {pos : Pos} (hc : PT X c (zTT M x)) (ha : PE X a (zT M fe w y)) (hb : PE X b (zT M fe w z)) : PE X (.IfExp c a b pos) (zT M fe w (eIte x y z)) := by
  refine PE.imp (pe_ifExp hc ha hb) fun σ H Q ⟨H0, F0, F, ρ, fps, d, s, e, k⟩ => ?_
  obtain ⟨d1, e1, e⟩ := R.bind_eq_ok e
  obtain ⟨t, e2, e⟩ := R.bind_eq_ok e
  refine ⟨H0, F0, F, fe, ρ, fps, d1, t, s, e1, e2, fun H1 g1 => ?_⟩
  have s1 := s.grow g1
  cases t with
  | true => exact iteT (zT_go s1 e fun v2 H2 F2 g2 s2 r2 => k _ _ _ (g1.trans g2) (r2.back g1))
  | false => exact iteF (zT_go s1 e fun v2 H2 F2 g2 s2 r2 => k _ _ _ (g1.trans g2) (r2.back g1))
theorem z_ix {a i : Expr} {x y : ZE} {pos : Pos} (o : XOk C M X sc) (hw : w = .c ∨ w = .s) (hn : notSlice i = true) (ha : PE X a (zT M fe .c x)) (hb : PE X i (zL M y)) : PE X (.Subscript a i pos) (zT M fe w (eIx x y)) := by
  refine PE.imp (pe_ix ix_seq ha hb (fun _ _ => by cases i <;> first | rfl | (exact Bool.noConfusion hn))) fun σ H Q ⟨H0, F0, F, ρ, fps, d, s, e, k⟩ => ?_
  obtain ⟨d1, e1, e⟩ := R.bind_eq_ok e
  obtain ⟨d2, e2, e⟩ := R.bind_eq_ok e
  refine zT_go s e1 fun v1 H1 F1 g1 s1 r1 => lend s1 e2 fun v2 H2 g2 s2 r2 => ?_
  have r1 : RepC M H1 F1 d1 v1 := r1
  exact ix_z o.k g2.fh e (r1.same g2.h g2.f) r2 fun v r => k v _ _ (g1.trans g2) (sh_res hw g2.fh r)

/-! ### slices -/
theorem cutL_len {α : Type} (xs : List α) (lo hi : Option Int) : (cutL xs lo hi).length = min (HT.sIx xs.length xs.length hi - HT.sIx xs.length 0 lo) (xs.length - HT.sIx xs.length 0 lo) := by
  unfold cutL
  rw [List.length_take, List.length_drop]
theorem reps_cut {F : Hp} {xs : List D} {vs : List V} (h : Reps M F xs vs) (lo hi : Option Int) : Reps M F (cutL xs lo hi) (cutV vs lo hi) := by
  unfold cutL cutV
  rw [h.len]
  exact (h.drop _).take _
theorem cutL_all {α : Type} {xs : List α} {lo hi : Option Int} (h : HT.sIx xs.length 0 lo = 0 ∧ HT.sIx xs.length xs.length hi = xs.length) : cutL xs lo hi = xs := by
  unfold cutL
  rw [h.1, h.2, List.drop_zero, Nat.sub_zero, List.take_length]
def rCutZ (K : PySem.W.Frag) : V → Option Int → Option Int → Hp → VK → Prop := fun x lo hi H Q => rSlL K x lo hi H Q ∨ rSlA K x lo hi H Q ∨ rSlS x lo hi H Q
theorem SlR.or {r r' : V → Option Int → Option Int → Hp → VK → Prop} (h : SlR X r) (h' : SlR X r') : SlR X (fun x lo hi H Q => r x lo hi H Q ∨ r' x lo hi H Q) := by
  intro pins s σ H x v vl vu lo hi sl Q I rx hs pl pu q
  rcases q with q | q
  · exact h pins s σ H x v vl vu lo hi sl Q I rx hs pl pu q
  · exact h' pins s σ H x v vl vu lo hi sl Q I rx hs pl pu q
theorem sl_cutZ : SlR X (rCutZ X.K) := SlR.or sl_list (SlR.or sl_tupA sl_str)
def zO (M : Mx) (fe : List Fl) (z : Option ZE) : TO := fun σ H Q => ∃ H0 F0 F ρ fps o, St M H0 F0 σ H F fe ρ fps ∧ ePart z ρ = .ok o ∧ ∀ H', Gr H F H' F → Q o H'
theorem PO.imp {e : Option Expr} {t t' : TO} (h : PO X e t) (q : ∀ σ H Q, t' σ H Q → t σ H Q) : PO X e t' := ⟨fun pins s σ H Q I z => h.run pins s σ H Q I (q _ _ _ z)⟩
theorem z_part {l : Option Expr} {z : Option ZE} {f : Expr → Option ZE} (hp : ∀ e z, f e = some z → PE X e (zL M z)) (h : (match l with | none => some none | some l => (f l).map some) = some z) : PO X l (zO M fe z) := by
  cases l with
  | none =>
    cases h
    refine PO.imp po_none fun σ H Q ⟨H0, F0, F, ρ, fps, o, s, e, k⟩ => ?_
    cases e
    exact k H (.refl s.fh)
  | some l =>
    obtain ⟨y, h1, h2⟩ := Option.map_eq_some_iff.mp h
    subst h2
    refine PO.imp (po_some (hp l y h1)) fun σ H Q ⟨H0, F0, F, ρ, fps, o, s, e, k⟩ => ?_
    obtain ⟨d1, e1, e⟩ := R.bind_eq_ok e
    refine lend s e1 fun v1 H1 g1 s1 r1 => ?_
    cases d1 with
    | int i => cases e; simp only [Rep] at r1; exact ⟨i, r1, k _ g1⟩
    | _ => cases e
theorem z_cut {a : Expr} {lo hi : Option Expr} {x : ZE} {l h : Option ZE} {p2 pos : Pos} (o : XOk C M X sc) (hw : w ≠ .d) (ha : PE X a (zT M fe .c x)) (hl : PO X lo (zO M fe l)) (hh : PO X hi (zO M fe h)) : PE X (.Subscript a (.Slice lo hi none p2) pos) (zT M fe w (eCut x l h)) := by
  refine PE.imp (pe_slice sl_cutZ ha hl hh) fun σ H Q ⟨H0, F0, F, ρ, fps, d, s, e, k⟩ => ?_
  obtain ⟨d1, e1, e⟩ := R.bind_eq_ok e
  obtain ⟨i, e2, e⟩ := R.bind_eq_ok e
  obtain ⟨j, e3, e⟩ := R.bind_eq_ok e
  refine zT_go s e1 fun v1 H1 F1 g1 s1 r1 => ⟨H0, F0, F1, ρ, fps, i, s1, e2, fun H2 g2 => ⟨H0, F0, F1, ρ, fps, j, s1.grow g2, e3, fun H3 g3 => ?_⟩⟩
  have g := g2.trans g3
  have r1 : RepC M H1 F1 d1 v1 := r1
  have r3 := r1.same g.h g.f
  have k' : ∀ v H' F', Gr H3 F1 H' F' → Res M H3 H' F' w d v → Q v H' := fun v H' F' q r => k v H' F' ((g1.trans g).trans q) (r.back (g1.trans g))
  cases d1 with
  | lst xs =>
    cases e
    obtain ⟨b, us, rfl, q, z⟩ := r3
    refine .inl ⟨b, us, rfl, .inl (.inl q), fun p hp => ?_⟩
    obtain ⟨F', g', r⟩ := list_res (w := w) hw g.fh hp (reps_cut z i j)
    exact k' _ _ _ g' r
  | tup xs =>
    cases e
    have r4 : Rep M F1 (.tup xs) v1 := r3
    have r5 := r4
    simp only [Rep] at r5
    obtain ⟨b, us, rfl, q, z⟩ := r5
    refine .inr (.inl ⟨b, us, rfl, by rw [o.k]; exact SqT.same g.fh q, fun hall => ?_, fun _ p hp => ?_⟩)
    · rw [← z.len] at hall
      rw [cutL_all hall] at k'
      refine k' _ _ _ (.refl g.fh) ?_
      cases w with
      | d => exact absurd rfl hw
      | w => exact ⟨[], r4, fun b hb => by cases hb⟩
      | c => exact r4
      | s => exact r4
    · obtain ⟨F', g', r⟩ := tup_res (w := w) hw g.fh hp (reps_cut z i j)
      exact k' _ _ _ g' r
  | str y =>
    obtain ⟨h1, h2⟩ := chk_ok e
    cases h2
    have e1 : v1 = .str y := by simpa only [RepC, Rep] using r3
    subst e1
    exact .inr (.inr ⟨y, rfl, of_decide_eq_true h1, k' _ _ _ (.refl g.fh) (atom_res rfl (by simp only [Rep]))⟩)
  | _ => cases e
end
end Z
/-! Z, part H: calls, targets, what is walked, comprehensions; all expressions. -/
namespace Z
open PySem PySem.Spec PyProof.Rows L2

section
variable {C : CC} {M : Mx} {X : Cx} {sc : Scope} {fe : List Fl} {w : Wt}
theorem glOf {x : Str} (o : XOk C M X sc) (hg : glK (sc.names.lookup x) = true) : Gl X x := by
  show X.env.scope.names.lookup x = some .globalImplicit
  rw [o.sc]
  unfold glK at hg
  split at hg <;> first | assumption | (exact Bool.noConfusion hg)
theorem plain_parts {x : Str} (h : plainName x = true) : (x == ("__debug__" : Str)) = false ∧ x ≠ "__name__" := by
  unfold plainName at h
  simp only [Bool.and_eq_true, Bool.not_eq_true'] at h
  exact ⟨h.1.1, by simpa using h.2⟩
theorem builtin_parts {x : Str} (o : XOk C M X sc) (h : isBuiltin C sc x = true) : Gl X x ∧ X.mg x = none ∧ (x == ("__debug__" : Str)) = false ∧ x ≠ "__name__" := by
  unfold isBuiltin at h
  simp only [Bool.and_eq_true] at h
  exact ⟨glOf o h.1.2, o.free x (blt_mem h.2), plain_parts h.1.1⟩
/-- which value a built-in's name has -/
def bltV : Blt → Value
  | .len => .builtin "len" | .all => .builtin "all" | .any => .builtin "any" | .sum => .builtin "sum" | .int => .type "int" | .str => .type "str" | .list => .type "list" | .tuple => .type "tuple" | .sorted => .builtin "sorted"
def blt1 : Blt → D → R D
  | .len => lenD | .all => allD | .any => anyD | .sum => sumD | .int => intD | .str => strD | .list => listD | .tuple => tupleD | .sorted => sortedD
theorem bltD_one (g : Blt) (x : D) : bltD g [x] = blt1 g x := by cases g <;> rfl
theorem bltOf_cases {f : Str} {g : Blt} (h : bltOf f = some g) : bootBuiltins f = some (bltV g) ∧ ((∃ id, bltV g = .builtin id) ∨ ∃ T, bltV g = .type T) := by
  unfold bltOf at h
  repeat
    (split at h
     · rename_i e; subst e; cases h
       first
        | exact ⟨by decide +kernel, .inl ⟨_, rfl⟩⟩
        | exact ⟨by decide +kernel, .inr ⟨_, rfl⟩⟩)
  cases h
theorem blt_rule (o : XOk C M X sc) (g : Blt) : BltZ M X (bltV g) (blt1 g) := by
  have hu : X.A.units + 150 < cLine := by have := o.room; omega
  cases g with
  | len => exact blt_len o.k
  | all => exact blt_all o.calm
  | any => exact blt_any o.calm
  | sum => exact blt_sum o.calm
  | int => exact blt_int
  | str => exact blt_str
  | list => exact blt_list o.k
  | tuple => exact blt_tuple o.k
  | sorted => exact blt_sorted o.k hu
theorem pa_one {a : Expr} {x : ZE} (hn : notStar a = true) (ha : PE X a (zT M fe w x)) (hw : w = .c ∨ w = .s) : PA X [a] (fun σ H Q => ∃ H0 F0 F ρ fps d, St M H0 F0 σ H F fe ρ fps ∧ x ρ = .ok d ∧ ∀ v H' F', Gr H F H' F' → RepW M H' F' w d v → Q [v] H') := by
  refine PA.imp (pa_cons ha pa_nil (star_cons hn)) fun σ H Q ⟨H0, F0, F, ρ, fps, d, s, e, k⟩ => ?_
  exact zT_go s e fun v H' F' g s' r => k v H' F' g (RepW.res hw r)
theorem z_blt {f : Str} {g : Blt} {a : Expr} {x : ZE} {p pos : Pos} (o : XOk C M X sc) (hb : isBuiltin C sc f = true) (hg : bltOf f = some g) (hw : w ≠ .d) (hn : notStar a = true) (ha : PE X a (zT M fe .c x)) : PE X (.Call (.Name f p) [a] [] pos) (zT M fe w (eBlt g [x])) := by
  obtain ⟨gl, hm, hd, hnm⟩ := builtin_parts o hb
  obtain ⟨hv, hk⟩ := bltOf_cases hg
  obtain ⟨r, hc, hr⟩ := blt_rule o g
  have pa := pa_one (w := .c) hn ha (.inl rfl)
  have fin : ∀ σ H Q, zT M fe w (eBlt g [x]) σ H Q → tCB r (fun σ H Q => ∃ H0 F0 F ρ fps d, St M H0 F0 σ H F fe ρ fps ∧ x ρ = .ok d ∧ ∀ v H' F', Gr H F H' F' → RepW M H' F' .c d v → Q [v] H') σ H Q := fun σ H Q ⟨H0, F0, F, ρ, fps, d, s, e, k⟩ => by
    obtain ⟨ds, e1, e⟩ := R.bind_eq_ok e
    obtain ⟨d1, e2, e1⟩ := R.bind_eq_ok e1
    obtain ⟨ds2, e3, e1⟩ := R.bind_eq_ok e1
    cases e3
    cases e1
    rw [bltD_one] at e
    exact ⟨H0, F0, F, ρ, fps, d1, s, e2, fun v H' F' g1 r1 => hr H' F' d1 d v w Q hw g1.fh e r1 fun v2 H2 F2 g2 r2 => k _ _ _ (g1.trans g2) (r2.back g1)⟩
  rcases hk with ⟨id, hk⟩ | ⟨T, hk⟩
  · rw [hk] at hv hc
    exact PE.imp (pe_callB hc gl hm hv pa hnm hd (star_cons hn) rfl) fin
  · rw [hk] at hv hc
    exact PE.imp (pe_callTy hc gl hm hv pa hnm hd (star_cons hn) rfl) fin

/-! ### isinstance -/
theorem tyx_of {H : Hp} {d : D} {v : V} (hK : X.K = M.K) (h : Rep M H d v) (hn : (tyD d != "") = true) : TyX X.K H v (.type (tyD d)) := by
  cases d with
  | non => simp only [Rep] at h; subst h; exact .base .non
  | bl b => simp only [Rep] at h; subst h; exact .base (.bl b)
  | int b => simp only [Rep] at h; subst h; exact .base (.int b)
  | str b => simp only [Rep] at h; subst h; exact .base (.str b)
  | tup xs =>
    simp only [Rep] at h
    obtain ⟨a, vs, rfl, q, z⟩ := h
    rcases q with (q | ⟨o, q⟩) | ⟨o, its, n, hk, hc, _⟩
    · exact .base (.tup q)
    · exact .fTuple q
    · rw [hK]; exact .kTuple hk hc
  | lst xs =>
    simp only [Rep] at h
    obtain ⟨a, vs, rfl, q, z⟩ := h
    exact .base (.lst q)
  | dic ks ds => exact Bool.noConfusion hn
  | obj c fs ds => exact Bool.noConfusion hn
  | scr ns => exact Bool.noConfusion hn
theorem tyOf_boot {t : Str} {s : String} (h : tyOf t = some s) : bootBuiltins t = some (.type s) := by
  unfold tyOf at h
  repeat
    (split at h
     · rename_i e; subst e; cases h; decide +kernel)
  cases h
theorem boot_isi : bootBuiltins ("isinstance" : Str) = some (.builtin "isinstance") := by decide +kernel
theorem z_isi {a : Expr} {x : ZE} {t : Str} {ty : String} {p p2 pos : Pos} (o : XOk C M X sc) (hb : isBuiltin C sc "isinstance" = true) (ht : isBuiltin C sc t = true) (hty : tyOf t = some ty) (hn : notStar a = true) (ha : PE X a (zL M x)) :
    PE X (.Call (.Name "isinstance" p) [a, .Name t p2] [] pos) (zT M fe w (eIsi x ty)) := by
  obtain ⟨gl, hm, hd, hnm⟩ := builtin_parts o hb
  obtain ⟨gl2, hm2, hd2, hnm2⟩ := builtin_parts o ht
  have pa := pa_cons ha (pa_cons (pe_bltn (v := .ty ty) (pos := p2) gl2 hm2 (tyOf_boot hty) rfl hnm2 hd2) pa_nil (star_cons rfl)) (star_cons hn)
  refine PE.imp (pe_callB call_isi gl hm boot_isi pa hnm hd (star_cons hn) rfl) fun σ H Q ⟨H0, F0, F, ρ, fps, d, s, e, k⟩ => ?_
  obtain ⟨d1, e1, e⟩ := R.bind_eq_ok e
  refine lend s e1 fun v H' g s' r => ?_
  unfold isiD at e
  split at e
  · rename_i b hb
    obtain ⟨h1, h2⟩ := chk_ok e
    cases h2
    exact ⟨v, .ty ty, _, _, b, rfl, .ty ty, tyx_of o.k r h1, kit_ty hb, k _ _ _ g (atom_res rfl (by simp only [Rep]))⟩
  · cases e

/-! ### calls of the text's defs -/
theorem val_w {H H' F F' : Hp} {fl : Fl} {d : D} {v : V} {fp : List Addr} (hw : (w == .s || w == .c || (w == .w && fl == .own)) = true) (g : Gr H F H' F') (x : Val M H' F' fl d v fp) (fr : Fresh H F' fp) : ∃ F'', Gr H F H' F'' ∧ Res M H H' F'' w d v := by
  have sh : Gr H F H' (ext F' H' fp) ∧ Rep M (ext F' H' fp) d v := ⟨g.give fr, Val.sh g.fh x⟩
  cases w with
  | s => exact ⟨_, sh.1, sh.2⟩
  | c => exact ⟨_, sh.1, RepC.of sh.1.fh sh.2⟩
  | w =>
    have : fl = .own := by simpa using hw
    subst this
    exact ⟨F', g, fp, x, fr⟩
  | d => exact Bool.noConfusion hw
theorem z_call {f : Str} {es : List Expr} {zs : List ZE} {p pos : Pos} (o : XOk C M X sc) (hf : C.fn f = true) (hp : plainName f = true) (hg : glK (sc.names.lookup f) = true) (hn : es.all notStar = true)
    (hw : (w == .s || w == .c || (w == .w && C.fl f == .own)) = true) (hz : zs.length = es.length) (ha : PA X es (zAw M fe .s zs)) : PE X (.Call (.Name f p) es [] pos) (zT M fe w (eCall C.call f zs)) := by
  obtain ⟨fa, fd, ps, kk, F, hr, hm, hk, hb, hl⟩ := o.fn f hf
  have gl := glOf o hg
  obtain ⟨hd, _⟩ := plain_parts hp
  have fin : ∀ {t : TA} σ H Q, (∀ σ H Q, zAw M fe .s zs σ H Q → t σ H Q) → zT M fe w (eCall C.call f zs) σ H Q → tCall (spOf M (C.fl f) (C.call f) ps.length) [] E0 t σ H Q := fun {t} σ H Q ht ⟨H0, F0, F, ρ, fps, d, s, e, k⟩ => by
    obtain ⟨ds, e1, e⟩ := R.bind_eq_ok e
    refine ht σ H _ ⟨H0, F0, F, ρ, fps, ds, s, e1, fun vs H1 F1 g1 r1 => ?_⟩
    show spOf M (C.fl f) (C.call f) ps.length (vs ++ []) H1 Q E0
    rw [List.append_nil]
    refine ⟨ds, F1, d, hl ds d e, g1.fh, r1.reps, e, fun v H2 F2 fp g2 x fr => ?_⟩
    obtain ⟨F3, g3, r3⟩ := val_w (w := w) hw g2 x fr
    exact k v H2 F3 (g1.trans g3) (r3.back g1)
  cases es with
  | nil => exact PE.imp (pe_call0 F (hr.mono (by omega)) gl hm hk hb .nil pass0 hd) fun σ H Q z => fin σ H Q (fun σ H Q ⟨H0, F0, F, ρ, fps, ds, s, e, k⟩ => by
      cases zs with
      | nil => cases e; exact k [] H F (.refl s.fh) .nil
      | cons z zr => cases hz) z
  | cons e es =>
    rw [List.all_cons, Bool.and_eq_true] at hn
    exact PE.imp (pe_call F (hr.mono (by omega)) gl hm hk hb .nil pass0 ha hd (star_cons hn.1) (star_any hn.2)) fun σ H Q z => fin σ H Q (fun _ _ _ z => z) z

/-! ### targets -/
theorem St.put {H0 F0 H F : Hp} {σ : L2.St} {ρ : Env} {fps : Nat → List Addr} {i : Nat} {d : D} {v : V} (s : St M H0 F0 σ H F fe ρ fps) (r : Rep M F d v) : St M H0 F0 (σ.set i (some v)) H F (fe.set i .sh) (ρ.set i (some d)) (fun j => if j = i then [] else fps j) where
  h0 := s.h0
  f0 := s.f0
  fh := s.fh
  new := s.new
  len := by rw [List.length_set, List.length_set, s.len]
  slot := fun j e h => by
    by_cases hj : j = i
    · subst hj
      have hl : j < ρ.length := by
        obtain ⟨hl, _⟩ := List.getElem?_eq_some_iff.mp h
        simpa using hl
      rw [List.getElem?_set_self hl] at h
      cases h
      refine ⟨v, by rw [List.getElem?_set_self (by rw [← s.len]; exact hl)], ?_⟩
      have : (fe.set j .sh).getD j .sh = .sh := by
        rw [List.getD_eq_getElem?_getD]
        by_cases h2 : j < fe.length
        · rw [List.getElem?_set_self h2]; rfl
        · rw [List.getElem?_eq_none (by simpa using h2)]; rfl
      rw [this]
      exact r
    · rw [List.getElem?_set_ne (Ne.symm hj)] at h
      obtain ⟨u, h1, h2⟩ := s.slot j e h
      refine ⟨u, by rw [List.getElem?_set_ne (Ne.symm hj)]; exact h1, ?_⟩
      rw [getD_set hj, if_neg hj]
      exact h2
  out := fun j b hb => by
    by_cases hj : j = i
    · rw [if_pos hj] at hb; cases hb
    · rw [if_neg hj] at hb; exact s.out j b hb
  dis := fun j k b hb hc => by
    by_cases hj : j = i
    · rw [if_pos hj] at hb; cases hb
    · by_cases hk : k = i
      · rw [if_pos hk] at hc; cases hc
      · rw [if_neg hj] at hb
        rw [if_neg hk] at hc
        exact s.dis j k b hb hc
theorem wipe_set {σ : L2.St} {i : Nat} {x : Option V} : ∀ {vs : List Nat}, i ∈ vs → wipe (σ.set i x) vs = wipe σ vs
  | [], h => by cases h
  | v :: vs, h => by
    unfold wipe
    by_cases hi : i ∈ vs
    · rw [wipe_set hi]
    · have e : i = v := by
        rcases List.mem_cons.mp h with h | h
        · exact h
        · exact absurd h hi
      subst e
      have key : ∀ {vs : List Nat}, i ∉ vs → wipe (σ.set i x) vs = (wipe σ vs).set i x := fun {vs} => by
        induction vs with
        | nil => intro _; rfl
        | cons a r ih =>
          intro hn
          unfold wipe
          rw [ih (fun z => hn (List.mem_cons_of_mem _ z)), List.set_comm _ _ (fun z => hn (by rw [z]; exact List.mem_cons_self))]
      rw [key hi, List.set_set]
/-- where items go: the slots ss are set, to shared values -/
def zG (M : Mx) (fe : List Fl) (g : ZG) (ss : List Nat) : TG := fun v σ H Q => ∃ H0 F0 F ρ fps d ρ', St M H0 F0 σ H F fe ρ fps ∧ Rep M F d v ∧ g d ρ = .ok ρ' ∧
  ∀ σ' fps', St M H0 F0 σ' H F (setSh fe ss) ρ' fps' → (∀ vs : List Nat, (∀ i ∈ ss, i ∈ vs) → wipe σ' vs = wipe σ vs) → Q σ' H
def zGs (M : Mx) (fe : List Fl) (gs : List ZG) (ss : List Nat) : TGs := fun us σ H Q => ∃ H0 F0 F ρ fps ds ρ', St M H0 F0 σ H F fe ρ fps ∧ Reps M F ds us ∧ gEach gs ds ρ = .ok ρ' ∧
  ∀ σ' fps', St M H0 F0 σ' H F (setSh fe ss) ρ' fps' → (∀ vs : List Nat, (∀ i ∈ ss, i ∈ vs) → wipe σ' vs = wipe σ vs) → Q σ' H
theorem PG.imp {e : Expr} {t t' : TG} (h : PG X e t) (q : ∀ v σ H Q, t' v σ H Q → t v σ H Q) : PG X e t' := ⟨fun pins s σ H v u Q I r z => h.run pins s σ H v u Q I r (q _ _ _ _ z)⟩
theorem PGs.imp {e : List Expr} {t t' : TGs} (h : PGs X e t) (q : ∀ v σ H Q, t' v σ H Q → t v σ H Q) : PGs X e t' := ⟨fun pins s σ H v u Q I r z => h.run pins s σ H v u Q I r (q _ _ _ _ z)⟩
/-- the names that may be stored, in this context -/
def LocOk (sc0 : Scope) (X : Cx) : Prop := ∀ x, locK (sc0.names.lookup x) = true → Loc X.env.scope x ∧ (X.fn x = true ∨ X.env.scope.names.lookup x = some .local)
theorem assign_cons {e : Expr} {es : List Expr} {env : PySem.Env} (h : notStar e = true) : assignEach (e :: es) env = (false, assign e env) :: assignEach es env := by
  cases e <;> first | rfl | (exact Bool.noConfusion h)
theorem assign_len {env : PySem.Env} : ∀ {es : List Expr}, es.all notStar = true → (assignEach es env).length = es.length ∧ (assignEach es env).findIdx? (·.1) = none
  | [], _ => ⟨rfl, rfl⟩
  | e :: es, h => by
    rw [List.all_cons, Bool.and_eq_true] at h
    obtain ⟨h1, h2⟩ := assign_len (env := env) h.2
    rw [assign_cons h.1]
    refine ⟨by rw [List.length_cons, List.length_cons, h1], ?_⟩
    rw [List.findIdx?_cons, h2]
    rfl
theorem setSh_append (fe : List Fl) (a b : List Nat) : setSh fe (a ++ b) = setSh (setSh fe a) b := by unfold setSh; rw [List.foldl_append]
theorem z_tgts {f : Expr → Option (ZG × List Nat)} (hf : ∀ e ps fe, f e = some ps → PG X e (zG M fe ps.1 ps.2)) : ∀ {es : List Expr} {ps : List (ZG × List Nat)} {fe : List Fl}, es.all notStar = true → mapO f es = some ps → PGs X es (zGs M fe (ps.map (·.1)) (ps.flatMap (·.2)))
  | [], ps, fe, _, h => by
    cases h
    refine PGs.imp pgs_nil fun us σ H Q ⟨H0, F0, F, ρ, fps, ds, ρ', s, r, e, k⟩ => ?_
    cases ds with
    | nil =>
      cases e
      rw [Reps.nil_iff] at r
      exact ⟨r, k σ fps s fun _ _ => rfl⟩
    | cons _ _ => cases e
  | e :: es, ps, fe, hn, h => by
    obtain ⟨z, h1, h⟩ := Option.bind_eq_some_iff.mp h
    obtain ⟨zr, h2, h3⟩ := Option.map_eq_some_iff.mp h
    subst h3
    rw [List.all_cons, Bool.and_eq_true] at hn
    have ih := z_tgts (fe := setSh fe z.2) hf hn.2 h2
    refine PGs.imp (pgs_cons (hf e z fe h1) ih (by rw [assign_cons hn.1]; rfl)) fun us σ H Q ⟨H0, F0, F, ρ, fps, ds, ρ', s, r, e, k⟩ => ?_
    cases ds with
    | nil => cases e
    | cons d ds =>
      obtain ⟨ρ1, e1, e2⟩ := R.bind_eq_ok e
      simp only [Reps] at r
      obtain ⟨v, ur, rfl, r1, r2⟩ := r
      refine ⟨v, ur, rfl, H0, F0, F, ρ, fps, d, ρ1, s, r1, e1, fun σ1 fps1 s1 w1 => ⟨H0, F0, F, ρ1, fps1, ds, ρ', s1, r2, e2, fun σ2 fps2 s2 w2 => ?_⟩⟩
      rw [List.flatMap_cons] at k
      rw [← setSh_append] at s2
      exact k σ2 fps2 s2 fun vs hv => (w2 vs fun i hi => hv i (List.mem_append_right _ hi)).trans (w1 vs fun i hi => hv i (List.mem_append_left _ hi))
theorem z_tgt (hn : X.N = C.N) (nd : C.N.Nodup) (hK : X.K = M.K) (hc : X.calm = true) {sc0 : Scope} (hl : LocOk sc0 X) : ∀ (n : Nat) (e : Expr) (ps : ZG × List Nat) (fe : List Fl), cG n C sc0 e = some ps → PG X e (zG M fe ps.1 ps.2)
  | 0, e, ps, fe, h => by cases e <;> cases h
  | n + 1, .Name x pos, ps, fe, h => by
    obtain ⟨h1, h2⟩ := gd_some h
    obtain ⟨i, h3, h4⟩ := Option.map_eq_some_iff.mp h2
    subst h4
    obtain ⟨l1, l2⟩ := hl x h1
    refine PG.imp (pg_name (i := i) (by rw [hn]; exact nd) (by rw [hn]; exact ixOf_get h3) l1 l2) fun v σ H Q ⟨H0, F0, F, ρ, fps, d, ρ', s, r, e, k⟩ => ?_
    cases e
    exact k _ _ (s.put r) fun vs hv => wipe_set (hv i (by simp))
  | n + 1, .Tuple es j pos, ps, fe, h => by
    obtain ⟨h1, h2⟩ := gd_some h
    obtain ⟨qs, h3, h4⟩ := Option.map_eq_some_iff.mp h2
    subst h4
    obtain ⟨a1, a2⟩ := assign_len (env := X.env) h1
    have ih := z_tgts (M := M) (X := X) (fe := fe) (fun e ps fe h => z_tgt hn nd hK hc hl n e ps fe h) h1 h3
    refine PG.imp (pg_tup hc ih a1 a2) fun v σ H Q ⟨H0, F0, F, ρ, fps, d, ρ', s, r, e, k⟩ => ?_
    cases d with
    | tup ds =>
      simp only [Rep] at r
      obtain ⟨a, us, rfl, q, z⟩ := r
      refine ⟨a, us, rfl, by rw [hK]; exact SqT.same s.fh q, ?_, H0, F0, F, ρ, fps, ds, ρ', s, z, e, k⟩
      rw [← z.len]
      have key : ∀ {gs : List ZG} {ds : List D} {ρ ρ' : Env}, gEach gs ds ρ = .ok ρ' → ds.length = gs.length := fun {gs} => by
        induction gs with
        | nil => intro ds ρ ρ' e; cases ds <;> first | rfl | cases e
        | cons g gs ih =>
          intro ds ρ ρ' e
          cases ds with
          | nil => cases e
          | cons d ds =>
            obtain ⟨ρ1, e1, e2⟩ := R.bind_eq_ok e
            rw [List.length_cons, List.length_cons, ih e2]
      have e : gEach (qs.map (·.1)) ds ρ = .ok ρ' := e
      rw [key e, List.length_map, mapO_len h3]
    | _ => cases e
  | n + 1, .BoolOp _ _ _, ps, fe, h => by cases h
  | n + 1, .NamedExpr _ _ _, ps, fe, h => by cases h
  | n + 1, .BinOp _ _ _ _, ps, fe, h => by cases h
  | n + 1, .UnaryOp _ _ _, ps, fe, h => by cases h
  | n + 1, .Lambda _ _ _ _, ps, fe, h => by cases h
  | n + 1, .IfExp _ _ _ _, ps, fe, h => by cases h
  | n + 1, .Dict _ _ _, ps, fe, h => by cases h
  | n + 1, .Set _ _ _, ps, fe, h => by cases h
  | n + 1, .ListComp _ _ _ _, ps, fe, h => by cases h
  | n + 1, .SetComp _ _ _ _, ps, fe, h => by cases h
  | n + 1, .DictComp _ _ _ _ _, ps, fe, h => by cases h
  | n + 1, .GeneratorExp _ _ _ _, ps, fe, h => by cases h
  | n + 1, .Await _ _, ps, fe, h => by cases h
  | n + 1, .Yield _ _, ps, fe, h => by cases h
  | n + 1, .YieldFrom _ _, ps, fe, h => by cases h
  | n + 1, .Compare _ _ _ _, ps, fe, h => by cases h
  | n + 1, .Call _ _ _ _, ps, fe, h => by cases h
  | n + 1, .FormattedValue _ _ _ _, ps, fe, h => by cases h
  | n + 1, .JoinedStr _ _, ps, fe, h => by cases h
  | n + 1, .Constant _ _ _, ps, fe, h => by cases h
  | n + 1, .Attribute _ _ _, ps, fe, h => by cases h
  | n + 1, .Subscript _ _ _, ps, fe, h => by cases h
  | n + 1, .Starred _ _, ps, fe, h => by cases h
  | n + 1, .List _ _, ps, fe, h => by cases h
  | n + 1, .Slice _ _ _ _, ps, fe, h => by cases h
end
end Z
/-! Z, part HK: sorted by a key that is a def of the text; keys of any data that may be sorted. -/
namespace Z
open PySem PySem.Spec PyProof.Rows L2

section
variable {M : Mx} {X : Cx} {pins : List (Addr × Obj)} {σ : L2.St} {H : Hp} {s : Shared}
/-- the same state one call deeper -/
abbrev deep2 (X : Cx) : Cx := { X with A := X.A.in1.in1, xe := fun _ _ => False }
theorem inv_deep2 (I : Inv X pins σ H s) : Inv (deep2 X) pins σ H s :=
  ⟨⟨I.ok.mod, I.ok.kind, I.ok.glob, I.ok.blt, I.ok.above, I.ok.inj, I.ok.has, I.ok.cab, I.ok.hd, I.ok.frames, I.ok.stk, I.ok.exf, I.ok.bs, I.ok.bsz, I.ok.noex, I.ok.exfs, I.ok.funs, I.ok.frf⟩, I.os, I.bare, I.base, I.loc, I.cell, I.free, I.freeC, I.pin, I.hok, I.len⟩
theorem inv_undeep2 (ok : X.Ok) (I : Inv (deep2 X) pins σ H s) : Inv X pins σ H s :=
  ⟨ok, I.os, I.bare, I.base, I.loc, I.cell, I.free, I.freeC, I.pin, I.hok, I.len⟩
/-- an address that no one tracks and that was made after the frame began -/
structure Loose (X : Cx) (pins : List (Addr × Obj)) (H : Hp) (k : Addr) : Prop where
  n : H k = none
  l : k ≠ X.env.locals
  a : X.s_0.heap.objs.size ≤ k
  ce : ∀ x d, X.env.cells.lookup x = some d → d ≠ k
  p : ∀ p ∈ X.pn ++ pins, p.1 ≠ k
  f : k ∉ X.fs
theorem loose_new (I : Inv X pins σ H s) {c : Addr} (hc : s.heap.objs.size ≤ c) : Loose X pins H c where
  n := I.hok.fresh hc
  l := fun z => absurd (Nat.lt_of_lt_of_le I.lt hc) (by rw [z]; exact Nat.lt_irrefl _)
  a := Nat.le_trans I.sz hc
  ce := fun x d e z => by
    obtain ⟨v, q⟩ := I.cell x d e
    exact absurd (Nat.lt_of_lt_of_le q.lt hc) (by rw [z]; exact Nat.lt_irrefl _)
  p := fun p hp z => absurd (Nat.lt_of_lt_of_le (Heap.lt_size (I.pin p hp).1) hc) (by rw [z]; exact Nat.lt_irrefl _)
  f := I.nofs hc
theorem Loose.at {H' : Hp} {c : Addr} (l : Loose X pins H c) (h : H' c = none) : Loose X pins H' c := ⟨h, l.l, l.a, l.ce, l.p, l.f⟩
/-- both the key store and the list being sorted are watched -/
theorem pin2 {a b : Addr} {oa ob : Obj} (I : Inv X pins σ H s) (la : Loose X pins H a) (lb : Loose X pins H b) (ha : s.heap.get? a = some oa) (hb : s.heap.get? b = some ob) (da : ∀ v, oa.data ≠ .cell v) (db : ∀ v, ob.data ≠ .cell v) : Inv X (pins ++ [(a, oa), (b, ob)]) σ H s :=
  I.pins_of fun p hp => by
    rcases List.mem_append.mp hp with hp | hp
    · exact I.pin p (List.mem_append_right _ hp)
    · rcases List.mem_cons.mp hp with hp | hp
      · subst hp; exact ⟨ha, la.n, la.l, la.f, da⟩
      · have hp : p = (b, ob) := by simpa using hp
        subst hp; exact ⟨hb, lb.n, lb.l, lb.f, db⟩
theorem mapR_get {α β : Type} {f : α → R β} : ∀ {xs : List α} {ys : List β}, mapR f xs = .ok ys → ys.length = xs.length ∧ ∀ (i : Nat) (x : α), xs[i]? = some x → ∃ y, ys[i]? = some y ∧ f x = .ok y
  | [], ys, h => by cases h; exact ⟨rfl, fun i x e => by simp at e⟩
  | x :: xs, ys, h => by
    obtain ⟨y, h1, h⟩ := R.bind_eq_ok h
    obtain ⟨zs, h2, h⟩ := R.bind_eq_ok h
    cases h
    obtain ⟨l, g⟩ := mapR_get h2
    refine ⟨by rw [List.length_cons, List.length_cons, l], fun i x' e => ?_⟩
    cases i with
    | zero => simp at e; subst e; exact ⟨y, rfl, h1⟩
    | succ i => simp at e; obtain ⟨y', e1, e2⟩ := g i x' e; exact ⟨y', by simpa using e1, e2⟩
/-- behind the sort: the list is laid, the key store forgotten -/
theorem inv_lay {a kS : Addr} {h' : Heap} {tk : Nat} {ys : List V} {out : List Value} {c : Nat} (I : Inv X pins σ H s) (la : Loose X pins H a) (lk : Loose X pins H kS) (hk : ∀ b o, b ≠ a → b ≠ kS → s.heap.get? b = some o → h'.get? b = some o)
    (ho : h'.get? a = some { cls := .type "list", data := .seq out.toArray c }) (hv : Vals ys out) (hz : ys.length ≤ sizeLine) : Inv X pins σ (upd H a (.lst ys)) { s with heap := h', toks := tk } := by
  have nb : ∀ {b : Addr} {o : HO}, H b = some o → b ≠ a := fun {b o} e z => by rw [z, la.n] at e; cases e
  have nk : ∀ {b : Addr} {o : HO}, H b = some o → b ≠ kS := fun {b o} e z => by rw [z, lk.n] at e; cases e
  have nc : ∀ {b : Addr}, b ∉ [a, kS] → b ≠ a ∧ b ≠ kS := fun {b} h => ⟨fun z => h (by simp [z]), fun z => h (by simp [z])⟩
  refine I.step (g' := s.gens) (d' := s.drawn) (ch := [a, kS]) (fun b hb => ?_) (fun b o _ _ h e _ => hk b o (nc h).1 (nc h).2 e) (fun b o _ _ h e _ => ⟨o.slots, hk b o (nc h).1 (nc h).2 e⟩) (fun b o h _ n => by rw [upd_ne (nc h).1]; exact n)
    (fun b o h e => ⟨o, hk b o (nc h).1 (nc h).2 e⟩) (fun b xs e => by rw [upd_ne (nb e)]; exact e) (fun b o u e => by rw [upd_ne (nb e)]; exact e) (fun b ps e => ⟨#[], by rw [upd_ne (nb e), e]; simp⟩) (fun m hm => ?_) (fun b u e => ?_) I.bare
  · rcases List.mem_cons.mp hb with hb | hb
    · subst hb; exact ⟨.inr la.a, la.l, la.ce, la.p⟩
    · have hb : b = kS := by simpa using hb
      subst hb; exact ⟨.inr lk.a, lk.l, lk.ce, lk.p⟩
  · obtain ⟨o, es, ep, h1, r⟩ := hm
    exact ⟨o, es, ep, hk _ o (Ne.symm la.l) (Ne.symm lk.l) h1, r⟩
  · by_cases hb : b = a
    · subst hb
      rw [upd_same] at e
      cases e
      exact ⟨hz, out, c, hv, ho⟩
    · rw [upd_ne hb] at e
      refine (I.hok b u e).stay (fun d v hc q => ?_) (fun d q => by rw [upd_ne (nb q)]; exact q) fun d xs q => by rw [upd_ne (nb q)]; exact q
      rcases hc with z | z
      · rw [z] at q ⊢; exact hk b v hb (nk e) q
      · exact hk d v (nb z) (nk z) q
theorem each_reads {K : PySem.W.Frag} (I : Inv X pins σ H s) (hK : X.K = M.K) : ∀ {ks : List D} {kvs : List V} {us : List Value}, (∀ k ∈ ks, fine k = true) → Reps M H ks kvs → Vals kvs us → PySem.W.EachIs (fun v k => ∃ as, Reads s.heap v k as) us (ks.map toPy)
  | [], kvs, us, _, h, r => by
    rw [Reps.nil_iff] at h
    subst h
    cases r
    exact .nil
  | k :: ks, kvs, us, hf, h, r => by
    simp only [Reps] at h
    obtain ⟨v, vr, rfl, h1, h2⟩ := h
    cases r with
    | cons r1 r2 =>
      have z := rep_dp k v (fine_iff (hf k List.mem_cons_self)).1 h1
      rw [← hK] at z
      exact .cons (z.reads I _ _ _ r1) (each_reads (K := K) I hK (fun x hx => hf x (List.mem_cons_of_mem _ hx)) h2 r2)
theorem each3 : ∀ {ds : List D} {us : List V} {ks : List D} {its : List Value}, ds.length = us.length → ks.length = us.length → Vals us its → PySem.W.EachIs (fun u (b : (D × V) × D) => RelV b.1.2 u) its ((ds.zip us).zip ks)
  | [], [], [], _, _, _, .nil => .nil
  | d :: ds, u :: us, k :: ks, _, h1, h2, .cons r t => .cons r (each3 (by simpa using h1) (by simpa using h2) t)
theorem vals3 : ∀ {us : List Value} {bs : List ((D × V) × D)}, PySem.W.EachIs (fun u (b : (D × V) × D) => RelV b.1.2 u) us bs → Vals (bs.map (·.1.2)) us
  | _, [], .nil => .nil
  | _, _ :: _, .cons r t => .cons r (vals3 t)
theorem Rep_same_all {F : Hp} (h : Same F H) {ks : List D} {kvs : List V} (z : Reps M F ks kvs) : Reps M H ks kvs := Reps.same h _ _ z
theorem sortK_rest {fa a kS : Addr} {kk e1 : Nat} {fdd : FuncData} {ps : List Str} {fl : Fl} {m : List D → R D} {us : List V} {its : List Value} {ds ks : List D} {F0 : Hp} {Q : VK} {E' : Value → Shared → Prop}
    (hK : X.K = M.K) (hu : X.A.units + 150 < cLine) (G : FnOk X.prog X.w X.K X.mg X.base CX0 kk fa fdd ps (spOf M fl m ps.length)) (hr : Room (kk + 2) X.A) (hb : Binds X.K fdd ps []) (hl1 : ∀ ds d, m ds = .ok d → ds.length = ps.length)
    (I : Inv X pins σ H s) (hf : Same F0 H) (la : Loose X pins H a) (lk : Loose X pins H kS) (hka : kS ≠ a) (nk : s.heap.get? kS = some (seqObj "list" #[] 0)) (na : s.heap.get? a = some (seqObj "list" #[] e1))
    (hz : Reps M F0 ds us) (rv : Vals us its) (hL : its.length ≤ sizeLine) (hk : mapR (fun d => m [d]) ds = .ok ks) (hs : sortable ks = true)
    (q : ∀ H' F', Gr H F0 H' F' → H' a = none → F' a = none → Q (.ref a) (upd H' a (.lst ((((ds.zip us).zip ks).mergeSort (PySem.W.dataLe false fun b => toPy b.2)).map (·.1.2))))) :
    wpAny (model X.prog X.w) X.A.in1.in1 (PyProof.Rows.ksk_rest a (.ref fa) false its.toArray e1 (.ref kS)) (fun f s' => f = .done (.ret .none) ∧ EP X pins σ Q (.ref a) s') E' s := by
  obtain ⟨lks, gk⟩ := mapR_get hk
  have lus := hz.len
  have lit := rv.length
  obtain ⟨s1, s2, s3⟩ := sortable_z (ps := ks.map fun k => (k, V.non)) (by rw [List.map_map]; simpa [Function.comp_def] using hs)
  rw [List.map_map] at s1 s2
  have s1 : PySem.W.AllAlike (ks.map toPy) := s1
  have s2 : PySem.W.Sortable (ks.map toPy) := s2
  have s3 : ∀ k ∈ ks, fine k = true := fun k hk => s3 (k, V.non) (List.mem_map.mpr ⟨k, hk, rfl⟩)
  unfold PyProof.Rows.ksk_rest
  refine wpAny_bind (wpAny_rule ?_)
  rw [List.forIn_toArray]
  refine wpAny_bind (PyProof.Rows.ksk_fold (fun i s' => ∃ H' F' kvs kA ep, Inv X pins σ H' s' ∧ Gr H F0 H' F' ∧ H' a = none ∧ H' kS = none ∧ s'.heap.get? kS = some (seqObj "list" kA ep) ∧ s'.heap.get? a = some (seqObj "list" #[] e1) ∧ Vals kvs kA.toList ∧ Reps M F' (ks.take i) kvs) its 0 s
    ⟨H, F0, [], #[], 0, I, .refl hf, la.n, lk.n, nk, na, .nil, by simp [Reps]⟩ ?step ?done)
  case step =>
    rintro j x s' hx ⟨H', F', kvs, kA, ep, I', g', ha', hk', nk', na', rk, zk⟩
    simp only [Nat.zero_add] at zk ⊢
    have hj : j < its.length := (List.getElem?_eq_some_iff.mp hx).1
    have hjd : j < ds.length := by omega
    obtain ⟨u, hu1, hu2⟩ := hz.get (List.getElem?_eq_getElem hjd)
    obtain ⟨k, hk1, hk2⟩ := gk j _ (List.getElem?_eq_getElem hjd)
    obtain ⟨x', hx1, rx⟩ := rv.get hu1
    rw [hx] at hx1
    cases hx1
    have P := inv_deep2 (pin2 I' (la.at ha') (lk.at hk') na' nk' (fun v z => nomatch z) (fun v z => nomatch z))
    have call := run_fn (X := deep2 X) (E := E0) (dvs := []) (ds := []) (Q := fun v H2 => ∃ F2, Gr H' F' H2 F2 ∧ Rep M F2 k v) G (hr.in1.in1) hb .nil pass0 P (.cons rx .nil) (by
      refine ⟨[ds[j]], F', k, hl1 _ _ hk2, g'.fh, Reps.cons (Rep.same g'.f _ _ hu2) (by simp [Reps]), hk2, fun v H2 F2 fp g x fr => ⟨_, g.give fr, Val.sh g.fh x⟩⟩)
    refine wpAny_bind (wpAny_attempt (wpAny_mono call (fun v s2 he => ?_) fun _ _ hF => hF.elim))
    obtain ⟨kv, H2, I2, rk2, F2, g2, z2⟩ := he
    have pin : ∀ p ∈ [(a, seqObj "list" #[] e1), (kS, seqObj "list" kA ep)], s2.heap.get? p.1 = some p.2 ∧ H2 p.1 = none := fun p hp => by
      have := I2.pin p (List.mem_append_right _ (List.mem_append_right _ hp))
      exact ⟨this.1, this.2.1⟩
    obtain ⟨na2, ha2⟩ := pin (a, seqObj "list" #[] e1) (by simp)
    obtain ⟨nk2, hk2'⟩ := pin (kS, seqObj "list" kA ep) (by simp)
    have I3 : Inv X pins σ H2 s2 := (inv_undeep2 I.ok I2).pins_of fun p hp => I2.pin p (List.mem_append_right _ (List.mem_append_left _ hp))
    have hz2 : kA.size ≤ its.length := by
      have h1 : kvs.length = kA.toList.length := rk.length
      have h2 : (ks.take j).length = kvs.length := zk.len
      have h3 : kA.toList.length = kA.size := Array.length_toList
      rw [List.length_take] at h2
      omega
    dsimp only
    have sb := Heap.SameBut.update s2.heap kS (Obj.mapSeq (·.push v))
    obtain ⟨c2, hc2⟩ : ∃ c2, (s2.heap.update kS (Obj.mapSeq (·.push v))).get? kS = some (seqObj "list" (kA.push v) c2) := ⟨_, PyProof.Rows.get?_update_seq nk2 (·.push v)⟩
    refine wpAny_bind (PyProof.Rows.listUpdate_at nk2 rfl ?_ (Nat.le_trans hz2 hL) (Nat.le_trans (Nat.le_of_eq (Array.size_push ..)) (Nat.succ_le_succ (Nat.le_trans hz2 hL))))
    have lk2 := lk.at hk2'
    refine wpAny_pure ⟨rfl, H2, F2, kvs ++ [kv], kA.push v, c2, I3.turned (it := kS) (t' := s2.toks) (fun b o hb e => (sb.2 b hb).trans e) lk2.n lk2.l (.inr lk2.a) lk2.ce lk2.p, g'.trans g2, ha2, hk2', hc2, (sb.2 a hka.symm).trans na2, ?_, ?_⟩
    · rw [Array.toList_push]
      exact rk.append (.cons rk2 .nil)
    · rw [List.take_add_one, hk1]
      exact (Reps.same g2.f _ _ zk).append (Reps.cons z2 (by simp [Reps]))
  case done =>
    rintro s' ⟨H', F', kvs, kA, ep, I', g', ha', hk', nk', na', rk, zk⟩
    have e3 : ks.take (0 + its.length) = ks := List.take_of_length_le (by omega)
    rw [e3] at zk
    have er := each_reads (M := M) (K := X.K) I' hK s3 (Rep_same_all g'.fh zk) rk
    have hsz : kA.size = its.length := by
      have h1 : kvs.length = kA.toList.length := rk.length
      have h2 : ks.length = kvs.length := zk.len
      have h3 : kA.toList.length = kA.size := Array.length_toList
      omega
    obtain ⟨G0, G1, G2⟩ := L2.restrict s'.heap fun b => decide (b ≠ kS)
    have kp : PySem.W.KeepsBut a G0 s'.heap := fun b o hb e => by
      by_cases h : b = kS
      · rw [G2 b (by simp [h])] at e; cases e
      · rw [← G1 b (by simp [h])]; exact e
    refine wpAny_bind (PyProof.Rows.listItems_at nk' rfl ?_)
    refine PySem.W.keyH_end (κ := PySem.W.dataKind s'.heap (ks.map toPy)) (h₁ := G0) kp (G2 kS (by simp)) nk' na' hka (PySem.W.SortsAt.data er s1 s2 fun d hd => ?_) hsz hL fun h3 tk c k3 n3 => ⟨rfl, ?_⟩
    · obtain ⟨k, hk, rfl⟩ := List.mem_map.mp hd
      have := (fine_iff (s3 k hk)).2
      show X.A.units + 1 + 1 + _ < cLine
      omega
    · have eo := PySem.W.keyedOut_each (rev := false) (R := fun u (b : (D × V) × D) => RelV b.1.2 u) (bs := (ds.zip us).zip ks) (vs := its) (out := PySem.W.sortVals (PySem.W.dataKind s'.heap (ks.map toPy)) false kA.toList its) (fun b => toPy b.2) (by
        have e4 : ((ds.zip us).zip ks).map (fun b => toPy b.2) = ks.map toPy := by
          have := zip_snd (xs := ds.zip us) (ys := ks) (by rw [List.length_zip]; omega)
          calc ((ds.zip us).zip ks).map (fun b => toPy b.2) = (((ds.zip us).zip ks).map (·.2)).map toPy := by rw [List.map_map]; rfl
            _ = ks.map toPy := by rw [this]
        rw [e4]
        exact ⟨s'.heap, kA.toList, s1, rfl, er⟩) (each3 lus (by omega) rv)
      refine ⟨.ref a, _, inv_lay I' (la.at ha') (lk.at hk') (fun b o h1 h2 e => k3 b o h1 (by rw [G1 b (by simp [h2])]; exact e)) n3 (ys := (((ds.zip us).zip ks).mergeSort (PySem.W.dataLe false fun b => toPy b.2)).map (·.1.2)) (vals3 eo) (by rw [List.length_map, List.length_mergeSort, List.length_zip, List.length_zip]; omega), rfl, q H' F' g' ha' (g'.fh.free ha')⟩
theorem sortK_run {fa l : Addr} {kk : Nat} {fdd : FuncData} {ps : List Str} {fl : Fl} {m : List D → R D} {us : List V} {ds ks : List D} {F0 : Hp} {Q : VK}
    (hK : X.K = M.K) (hu : X.A.units + 150 < cLine) (G : FnOk X.prog X.w X.K X.mg X.base CX0 kk fa fdd ps (spOf M fl m ps.length)) (hr : Room (kk + 2) X.A) (hb : Binds X.K fdd ps []) (hl1 : ∀ ds d, m ds = .ok d → ds.length = ps.length)
    (I : Inv X pins σ H s) (hf : Same F0 H) (ha : H l = some (.lst us)) (hz : Reps M F0 ds us) (hk : mapR (fun d => m [d]) ds = .ok ks) (hs : sortable ks = true)
    (q : ∀ H' F' p, Gr H F0 H' F' → H' p = none → F' p = none → H p = none → Q (.ref p) (upd H' p (.lst ((((ds.zip us).zip ks).mergeSort (PySem.W.dataLe false fun b => toPy b.2)).map (·.1.2))))) :
    wpAny (model X.prog X.w) X.A (call (.builtin "sorted") [.ref l] [(Str.ofString "key", .ref fa)]) (EP X pins σ Q) X.xe s := by
  obtain ⟨hzl, its, n, rv, e⟩ := I.hok l _ ha
  have hL : its.length ≤ sizeLine := by rw [← rv.length]; exact hzl
  refine PySem.W.sorted_of_sort (l := l) (vs := its) ⟨_, e, rfl, _, rfl⟩ hL (PyProof.Rows.ksk_s1 _ _) (fun _ => PyProof.Rows.ksk_l1 _ _) fun E' => ?_
  rw [PyProof.Rows.ksk_t1]
  have ho := PySem.W.copyHeap_at s.heap its
  have hold : ∀ b o, s.heap.get? b = some o → (PySem.W.copyHeap s.heap its).get? b = some o := fun b o q => PySem.W.copyHeap_old q
  generalize hch : PySem.W.copyHeap s.heap its = hc at *
  have hlt : s.heap.objs.size + 1 < hc.objs.size := Heap.lt_size ho
  have la : Loose X pins H (s.heap.objs.size + 1) := loose_new I (Nat.le_succ _)
  obtain ⟨a, haa⟩ : ∃ a, s.heap.objs.size + 1 = a := ⟨_, rfl⟩
  rw [haa] at ho la hlt ⊢
  unfold PyProof.Rows.ksk_tree
  refine wpAny_bind (PyProof.Rows.listItems_at ho rfl ?_)
  refine wpAny_bind (PyProof.Rows.listUpdate_at ho rfl ?_ (by rw [List.size_toArray]; exact hL) (Nat.zero_le _))
  obtain ⟨e1, ho1⟩ : ∃ e1, (hc.update a (Obj.mapSeq fun _ => (#[] : Array Value))).get? a = some (seqObj "list" #[] e1) := ⟨_, PyProof.Rows.get?_update_seq ho fun _ => #[]⟩
  refine wpAny_bind (PyProof.Rows.seqEpoch_at ho1 rfl ?_)
  refine wpAny_bind (wpAny_newTuple ?_ (by show its.length ≤ _; exact hL))
  refine wpAny_bind (wpAny_newList ?_ (Nat.zero_le _))
  refine wpAny_holding ?_
  have sz1 : (hc.update a (Obj.mapSeq fun _ => (#[] : Array Value))).objs.size = hc.objs.size := Heap.size_update ..
  have sz2 : ((hc.update a (Obj.mapSeq fun _ => (#[] : Array Value))).push (seqObj "tuple" its.toArray 0)).objs.size = hc.objs.size + 1 := by rw [PyProof.Rows.size_push', sz1]
  have I4 : Inv X pins σ H { s with heap := ((hc.update a (Obj.mapSeq fun _ => (#[] : Array Value))).push (seqObj "tuple" its.toArray 0)).push (seqObj "list" #[] 0), toks := s.toks } := I.kept (t' := s.toks) fun b o hb => by
    have hbl : b < s.heap.objs.size := Heap.lt_size hb
    refine Heap.get?_push_of_some _ (Heap.get?_push_of_some _ ?_)
    have hba : b ≠ a := Nat.ne_of_lt (by rw [← haa]; exact Nat.lt_succ_of_lt hbl)
    rw [Heap.get?_update_ne _ _ _ _ hba]
    exact hold b o hb
  have lk := loose_new (c := ((hc.update a (Obj.mapSeq fun _ => (#[] : Array Value))).push (seqObj "tuple" its.toArray 0)).objs.size) I (by rw [sz2]; omega)
  have nka : ((hc.update a (Obj.mapSeq fun _ => (#[] : Array Value))).push (seqObj "tuple" its.toArray 0)).objs.size ≠ a := by rw [sz2]; omega
  have key := sortK_rest (E' := E') (a := a) (kS := ((hc.update a (Obj.mapSeq fun _ => (#[] : Array Value))).push (seqObj "tuple" its.toArray 0)).objs.size) hK hu G hr hb hl1 I4 hf la lk nka (Heap.get?_push_size _ rfl)
    (Heap.get?_push_of_some _ (Heap.get?_push_of_some _ ho1)) hz rv hL hk hs (fun H' F' g h1 h2 => q H' F' a g h1 h2 la.n)
  exact key
theorem tri_zip : ∀ {ds : List D} {us : List V} {ks : List D}, ds.length = us.length → ks.length = us.length → ((ds.zip us).zip ks).map (fun b => (b.1.1, b.2)) = ds.zip ks
  | [], [], [], _, _ => rfl
  | d :: ds, u :: us, k :: ks, h1, h2 => by
    simp only [List.zip_cons_cons, List.map_cons]
    rw [tri_zip (by simpa using h1) (by simpa using h2)]
/-- sorted(a, key=f) -/
theorem z_sortK {C : CC} {sc : Scope} {fe : List Fl} {w : Wt} {kf : Str} {a : Expr} {x : ZE} {p p2 p3 pos : Pos} (o : XOk C M X sc) (hb : isBuiltin C sc "sorted" = true) (hf : C.fn kf = true) (hp : plainName kf = true) (hg : glK (sc.names.lookup kf) = true) (hn : notStar a = true) (hw : w ≠ .d) (ha : PE X a (zT M fe .c x)) :
    PE X (.Call (.Name "sorted" p) [a] [⟨some "key", .Name kf p2, p3⟩] pos) (zT M fe w (eSortK C.call kf x)) := by
  obtain ⟨gl, hm, hd, hnm⟩ := builtin_parts o hb
  obtain ⟨fa, fd, ps, kk, G, hr, gm, hk, bnd, hl⟩ := o.fn kf hf
  have hu : X.A.units + 150 < cLine := by have := o.room; omega
  let r : List V → List V → Hp → VK → Prop := fun vs zs H Q => ∃ (l : Addr) (us : List V) (ds ks : List D) (F0 : Hp), vs = [.ref l] ∧ zs = [.ref fa] ∧ Same F0 H ∧ H l = some (.lst us) ∧ Reps M F0 ds us ∧ mapR (fun d => C.call kf [d]) ds = .ok ks ∧ sortable ks = true ∧
    ∀ H' F' p, Gr H F0 H' F' → H' p = none → F' p = none → H p = none → Q (.ref p) (upd H' p (.lst ((((ds.zip us).zip ks).mergeSort (PySem.W.dataLe false fun b => toPy b.2)).map (·.1.2))))
  have cr : CallRK X (.builtin "sorted") [Str.ofString "key"] r := by
    intro pins s σ H vs zs us ws Q I rv rz ⟨l, us', ds, ks, F0, e1, e2, h1, h2, h3, h4, h5, q⟩
    subst e1
    subst e2
    obtain ⟨u1, rfl, r1⟩ := vals1 rv
    obtain ⟨w1, rfl, r2⟩ := vals1 rz
    obtain rfl : u1 = Value.ref l := r1
    obtain rfl : w1 = Value.ref fa := r2
    exact sortK_run o.k hu G hr bnd hl I h1 h2 h3 h4 h5 q
  have pf : PE X (.Name kf p2) (tC (.ref fa)) := pe_glob (glOf o hg) gm rfl (plain_parts hp).1
  refine PE.imp (pe_callBK (kws := [⟨some "key", .Name kf p2, p3⟩]) cr gl hm (by decide +kernel) (pa_one (w := .c) hn ha (.inl rfl)) (pk_cons pf pk_nil) hnm hd (by rw [star_cons hn]; rfl) (by rw [star_cons hn]; rfl) rfl rfl rfl) fun σ H Q ⟨H0, F0, F, ρ, fps, d, s, e, k⟩ => ?_
  obtain ⟨d1, e1, e⟩ := R.bind_eq_ok e
  cases d1 with
  | lst ds =>
    obtain ⟨ks, e2, e⟩ := R.bind_eq_ok e
    obtain ⟨e3, e4⟩ := chk_ok e
    cases e4
    refine ⟨H0, F0, F, ρ, fps, _, s, e1, fun v H1 F1 g1 r1 => ?_⟩
    obtain ⟨l, us, rfl, ql, zl⟩ := r1
    refine ⟨l, us, ds, ks, F1, rfl, rfl, g1.fh, ql, zl, e2, e3, fun H2 F2 p g2 n1 n2 n3 => ?_⟩
    obtain ⟨lk, _⟩ := mapR_get e2
    have lu := zl.len
    have zz := reps_of (M := M) (F := F2) (l := (((ds.zip us).zip ks).mergeSort (PySem.W.dataLe false fun b => toPy b.2)).map (·.1)) fun q hq => by
      obtain ⟨b, hb, rfl⟩ := List.mem_map.mp hq
      have hb := (List.mergeSort_perm _ _).mem_iff.mp hb
      have hb : b.1 ∈ ds.zip us := (List.of_mem_zip (a := b.1) (b := b.2) hb).1
      exact Rep.same g2.f _ _ (reps_zip zl _ hb)
    rw [List.map_map, List.map_map] at zz
    have e5 : (((ds.zip us).zip ks).mergeSort (PySem.W.dataLe false fun b => toPy b.2)).map (fun b => b.1.1) = sortByL ds ks := by
      unfold sortByL
      have h1 : ((ds.zip us).zip ks).map (fun b => (b.1.1, b.2)) = ds.zip ks := tri_zip lu (by omega)
      rw [← h1, ← List.map_mergeSort (f := fun b : (D × V) × D => (b.1.1, b.2)) (r := PySem.W.dataLe false fun b => toPy b.2) (fun a _ b _ => rfl), List.map_map]
      rfl
    have zz : Reps M F2 ((((ds.zip us).zip ks).mergeSort (PySem.W.dataLe false fun b => toPy b.2)).map (fun b => b.1.1)) ((((ds.zip us).zip ks).mergeSort (PySem.W.dataLe false fun b => toPy b.2)).map (fun b => b.1.2)) := zz
    rw [e5] at zz
    obtain ⟨F3, g3, r3⟩ := list_res (w := w) hw g2.fh n1 zz
    exact k _ _ _ ((g1.trans g2).trans g3) (r3.back (g1.trans g2))
  | _ => cases e
end
end Z
/-! Z, part I: what is walked, comprehensions; all expressions. -/
namespace Z
open PySem PySem.Spec PyProof.Rows L2

/-- J yields the data ds, one by one, while what stands in B and F stands -/
def Yields (M : Mx) (J : It) (ds : List D) (B F : Hp) : Prop := ds.length ≤ sizeLine ∧ ∀ (Hc Fc : Hp), Same B Hc → Same F Fc → Same Fc Hc → ∀ i : Nat,
  (i < ds.length → J.go i Hc ∧ ∀ x Hn, J.yld i Hc x Hn → ∃ d Fn, ds[i]? = some d ∧ Gr Hc Fc Hn Fn ∧ Rep M Fn d x) ∧ (ds.length ≤ i → J.stop i Hc)
/-- the heap that a walk leans on -/
def baseOf (w : Wt) (H F : Hp) : Hp := match w with
  | .c => H
  | _ => F
def zI (M : Mx) (fe : List Fl) (w : Wt) (it : ZI) : TI := fun σ H W => ∃ H0 F0 F ρ fps xs, St M H0 F0 σ H F fe ρ fps ∧ it ρ = .ok xs ∧ ∀ J H' F', Gr H F H' F' → Yields M J xs (baseOf w H' F') F' → W J H'
theorem PI.imp {X : Cx} {tg e : Expr} {t t' : TI} (h : PI X tg e t) (q : ∀ σ H W, t' σ H W → t σ H W) : PI X tg e t' := ⟨fun pins s σ H W I z => h.run pins s σ H W I (q _ _ _ z)⟩

section
variable {C : CC} {M : Mx} {X : Cx} {sc : Scope} {fe : List Fl} {w : Wt}
/-- a list, a tuple or a text, by its value -/
def iAny (K : PySem.W.Frag) (tl : TE) : TI := fun σ H W => tl σ H fun x H1 =>
  (∃ a xs, x = .ref a ∧ SqL K H1 a xs ∧ (xs.length ≤ sizeLine → W (Itl K a) H1)) ∨ (∃ a xs, x = .ref a ∧ SqT K H1 a xs ∧ (xs.length ≤ sizeLine → W (Itt K a) H1)) ∨ ∃ z, x = .str z ∧ W (Its z) H1
theorem pi_any {tg l : Expr} {tl : TE} (hl : PE X l tl) : PI X tg l (iAny X.K tl) := by
  refine ⟨fun pins s σ H W I h => ?_⟩
  refine thn (hl.run pins s σ H _ I h) fun v s1 hh => ?_
  obtain ⟨x, H1, I1, r1, q1⟩ := hh
  rcases q1 with ⟨a, xs, ex, hq, q⟩ | ⟨a, xs, ex, hq, q⟩ | ⟨z, ex, q⟩
  · subst ex
    obtain rfl : v = Value.ref a := r1
    obtain ⟨its, rv, p, hz⟩ := I1.list hq
    exact wpAny_pyIter_list p.isList (pi_one (tk := s1.toks) I1 _ (turn_list a _) ⟨_, Heap.get?_push_size _ rfl, rfl, rfl⟩ (q hz))
  · subst ex
    obtain rfl : v = Value.ref a := r1
    obtain ⟨its, rv, p, hz⟩ := I1.tuple hq
    exact wpAny_pyIter_tuple (show s1.heap.IsTuple a its.toArray from p) (pi_one (tk := s1.toks) I1 _ (turn_tuple a _) ⟨_, Heap.get?_push_size _ rfl, rfl, rfl⟩ (q hz))
  · subst ex
    obtain ⟨t, rfl⟩ := r1
    cases ha : z.cps.all (· < 128)
    · exact wpAny_pyIter_wide ha (pi_one (tk := s1.toks) I1 _ (turn_str _ z t "str_iterator" (.inr rfl)) ⟨_, Heap.get?_push_size _ rfl, rfl, rfl⟩ q)
    · exact wpAny_pyIter_ascii ha (pi_one (tk := s1.toks) I1 _ (turn_str _ z t "str_ascii_iterator" (.inl rfl)) ⟨_, Heap.get?_push_size _ rfl, rfl, rfl⟩ q)
theorem yields_list {H F : Hp} {a : Addr} {xs : List D} {us : List V} (hz : us.length ≤ sizeLine) (hB : H a = some (.lst us)) (z : Reps M F xs us) : Yields M (Itl M.K a) xs H F := by
  refine ⟨by rw [z.len]; exact hz, fun Hc Fc b f h i => ⟨fun hi => ?_, fun hi => ⟨us, .inl (.inl (b _ _ hB)), by rw [← z.len]; exact hi⟩⟩⟩
  have hq : SqL M.K Hc a us := .inl (.inl (b _ _ hB))
  obtain ⟨v, h1, h2⟩ := z.get (List.getElem?_eq_getElem hi)
  refine ⟨⟨us, v, hq, h1⟩, fun x Hn hy => ?_⟩
  obtain ⟨rfl, hy⟩ := hy
  have e := hy us hq
  rw [h1] at e
  cases e
  exact ⟨_, Fc, List.getElem?_eq_getElem hi, .refl h, Rep.same f _ _ h2⟩
theorem yields_tup {B F : Hp} {a : Addr} {xs : List D} {us : List V} (hz : us.length ≤ sizeLine) (hB : SqT M.K F a us) (z : Reps M F xs us) : Yields M (Itt M.K a) xs B F := by
  refine ⟨by rw [z.len]; exact hz, fun Hc Fc b f h i => ⟨fun hi => ?_, fun hi => ⟨us, SqT.same h (SqT.same f hB), by rw [← z.len]; exact hi⟩⟩⟩
  have hq : SqT M.K Hc a us := SqT.same h (SqT.same f hB)
  obtain ⟨v, h1, h2⟩ := z.get (List.getElem?_eq_getElem hi)
  refine ⟨⟨us, v, hq, h1⟩, fun x Hn hy => ?_⟩
  obtain ⟨rfl, hy⟩ := hy
  have e := hy us hq
  rw [h1] at e
  cases e
  exact ⟨_, Fc, List.getElem?_eq_getElem hi, .refl h, Rep.same f _ _ h2⟩
theorem yields_str {B F : Hp} {z : Str} (hz : z.length ≤ sizeLine) : Yields M (Its z) (z.cps.toList.map fun c => .str ⟨#[c]⟩) B F := by
  have hz' : z.cps.size ≤ sizeLine := hz
  refine ⟨by simpa using hz', fun Hc Fc b f h i => ⟨fun hi => ?_, fun hi => (show z.cps.size ≤ i by simpa using hi)⟩⟩
  have hi' : i < z.cps.size := by simpa using hi
  refine ⟨hi', fun x Hn hy => ?_⟩
  obtain ⟨rfl, c, hc, rfl⟩ := hy
  refine ⟨.str ⟨#[c]⟩, Fc, ?_, .refl h, by simp only [Rep]⟩
  rw [List.getElem?_map, Array.getElem?_toList, hc]
  rfl
theorem z_iseq {tg l : Expr} {z : ZE} (o : XOk C M X sc) (hw : w = .c ∨ w = .s) (hl : PE X l (zT M fe w z)) : PI X tg l (zI M fe w (iSeq z)) := by
  refine PI.imp (pi_any hl) fun σ H W ⟨H0, F0, F, ρ, fps, xs, s, e, k⟩ => ?_
  obtain ⟨d, e1, e⟩ := R.bind_eq_ok e
  refine zT_go s e1 fun v H1 F1 g1 s1 r1 => ?_
  have k := fun J y => k J H1 F1 g1 y
  rw [o.k]
  cases d with
  | lst ds =>
    cases e
    rcases hw with rfl | rfl
    · obtain ⟨a, us, rfl, q, z⟩ := r1
      exact .inl ⟨a, us, rfl, .inl (.inl q), fun hz => k _ (yields_list hz q z)⟩
    · have r1 : Rep M F1 (.lst xs) v := r1
      simp only [Rep] at r1
      obtain ⟨a, us, rfl, q, z⟩ := r1
      exact .inl ⟨a, us, rfl, .inl (.inl (g1.fh _ _ q)), fun hz => k _ (yields_list hz q z)⟩
  | tup ds =>
    cases e
    have r1 : Rep M F1 (.tup xs) v := by rcases hw with rfl | rfl <;> exact r1
    simp only [Rep] at r1
    obtain ⟨a, us, rfl, q, z⟩ := r1
    exact .inr (.inl ⟨a, us, rfl, SqT.same g1.fh q, fun hz => k _ (yields_tup hz q z)⟩)
  | str y =>
    obtain ⟨h1, h2⟩ := chk_ok e
    cases h2
    have e1 : v = .str y := by rcases hw with rfl | rfl <;> simpa only [Res, RepC, Rep] using r1
    exact .inr (.inr ⟨y, e1, k _ (yields_str (of_decide_eq_true h1))⟩)
  | _ => cases e
theorem yields_range {B F : Hp} {lo : Int} {n : Nat} {xs : List D} (hz : n ≤ sizeLine) (hx : xs = (List.range n).map fun (k : Nat) => .int (lo + k)) : Yields M (Itr lo n) xs B F := by
  subst hx
  refine ⟨by simpa using hz, fun Hc Fc b f h i => ⟨fun hi => ?_, fun hi => ?_⟩⟩
  · have hi' : i < n := by simpa using hi
    refine ⟨hi', fun x Hn hy => ?_⟩
    obtain ⟨rfl, rfl⟩ := hy
    refine ⟨.int (lo + i), Fc, ?_, .refl h, by simp only [Rep]⟩
    rw [List.getElem?_map, List.getElem?_range hi']
    rfl
  · exact (show n ≤ i by simpa using hi)
theorem z_irange {tg : Expr} {es : List Expr} {zs : List ZE} {p pos : Pos} (o : XOk C M X sc) (hb : isBuiltin C sc "range" = true) (h1 : es.length ≤ 2) (h2 : 1 ≤ es.length) (hn : es.all notStar = true) (ha : PA X es (zAw M [] .s zs)) (hz : zs.length = es.length) :
    PI X tg (.Call (.Name "range" p) es [] pos) (zI M fe w (iRange zs)) := by
  obtain ⟨gl, hm, hd, hnm⟩ := builtin_parts o hb
  have lend2 : ∀ {ta : TA} σ H (W : It → Hp → Prop), (∀ σ H Q, zAw M [] .s zs σ H Q → ta σ H Q) → zI M fe w (iRange zs) σ H W →
      ∃ ds xs, zAw M [] .s zs σ H (fun vs H1 => rangeD ds = .ok xs ∧ (∃ F1, Reps M F1 ds vs) ∧ ∀ J, (∀ B F, Yields M J xs B F) → W J H1) := fun {ta} σ H W ht ⟨H0, F0, F, ρ, fps, xs, s, e, k⟩ => by
    obtain ⟨ds, e1, e⟩ := R.bind_eq_ok e
    exact ⟨ds, xs, H, H, H, ρ, _, ds, s.lend, e1, fun vs H1 F1 g1 r1 => ⟨e, ⟨F1, r1.reps⟩, fun J y => k J H1 F (Gr.back s.fh g1) (y _ _)⟩⟩
  have sl : (16000000 : Nat) ≤ sizeLine := by rw [sizeLine_eq]; decide
  match es, hn, ha, h1, h2, hz with
  | [a], hn, ha, _, _, hz =>
    rw [List.all_cons, Bool.and_eq_true] at hn
    refine PI.imp (pi_range1 gl hm ha (by rw [star_cons hn.1]; rfl)) fun σ H W z => ?_
    obtain ⟨ds, xs, q⟩ := lend2 σ H W (fun _ _ _ z => z) z
    obtain ⟨H0, F0, F, ρ, fps, ds', s, e, k⟩ := q
    refine ⟨H0, F0, F, ρ, fps, ds', s, e, fun vs H1 F1 g1 r1 => ?_⟩
    obtain ⟨er, ⟨F2, r2⟩, kk⟩ := k vs H1 F1 g1 r1
    match ds, er, r2 with
    | [.int n], er, r2 =>
      obtain ⟨h3, h4⟩ := chk_ok er
      have h3 : -16000000 ≤ n ∧ n ≤ 16000000 := of_decide_eq_true h3
      simp only [Reps, Rep] at r2
      obtain ⟨v, r, rfl, rfl, rfl⟩ := r2
      refine ⟨n, rfl, by omega, by omega, kk _ fun B F => yields_range (by omega) ?_⟩
      rw [← R.ok.inj h4]
      exact List.map_congr_left fun k _ => by rw [Int.zero_add]
    | [.int a, .int b], er, r2 =>
      have l0 := eArgs_len e
      have l1 := r2.len
      have l2 := r1.length
      rw [hz] at l0
      simp at l0 l1
      omega
  | [a, b], hn, ha, _, _, hz =>
    rw [List.all_cons, Bool.and_eq_true, List.all_cons, Bool.and_eq_true] at hn
    refine PI.imp (pi_range2 gl hm ha (by rw [star_cons hn.1, star_cons hn.2.1]; rfl) (by rw [star_cons hn.2.1]; rfl)) fun σ H W z => ?_
    obtain ⟨ds, xs, q⟩ := lend2 σ H W (fun _ _ _ z => z) z
    obtain ⟨H0, F0, F, ρ, fps, ds', s, e, k⟩ := q
    refine ⟨H0, F0, F, ρ, fps, ds', s, e, fun vs H1 F1 g1 r1 => ?_⟩
    obtain ⟨er, ⟨F2, r2⟩, kk⟩ := k vs H1 F1 g1 r1
    match ds, er, r2 with
    | [.int n], er, r2 =>
      have l0 := eArgs_len e
      have l1 := r2.len
      have l2 := r1.length
      rw [hz] at l0
      simp at l0 l1
      omega
    | [.int a, .int b], er, r2 =>
      obtain ⟨h3, h4⟩ := chk_ok er
      have h3 : -8000000 ≤ a ∧ a ≤ 8000000 ∧ -8000000 ≤ b ∧ b ≤ 8000000 := of_decide_eq_true h3
      simp only [Reps, Rep] at r2
      obtain ⟨v, r, rfl, rfl, v2, r3, rfl, rfl, rfl⟩ := r2
      exact ⟨a, b, rfl, ⟨by omega, by omega, by omega, by omega⟩, kk _ fun B F => yields_range (by omega) (R.ok.inj h4).symm⟩
theorem yields_zip {H F : Hp} {a b : Addr} {xs ys : List D} {us ws : List V} (hz : us.length ≤ sizeLine) (ha : H a = some (.lst us)) (hb : H b = some (.lst ws)) (za : Reps M F xs us) (zb : Reps M F ys ws) :
    Yields M (Itz M.K a b) (List.zipWith (fun x y => .tup [x, y]) xs ys) H F := by
  have la := za.len
  have lb := zb.len
  refine ⟨by rw [List.length_zipWith]; omega, fun Hc Fc q f h i => ⟨fun hi => ?_, fun hi => ?_⟩⟩
  all_goals
    have qa : SqL M.K Hc a us := .inl (.inl (q _ _ ha))
    have qb : SqL M.K Hc b ws := .inl (.inl (q _ _ hb))
    rw [List.length_zipWith] at hi
  · have ia : i < xs.length := by omega
    have ib : i < ys.length := by omega
    obtain ⟨v, h1, h2⟩ := za.get (List.getElem?_eq_getElem ia)
    obtain ⟨u, h3, h4⟩ := zb.get (List.getElem?_eq_getElem ib)
    refine ⟨⟨us, ws, v, u, qa, qb, h1, h3⟩, fun x Hn hy => ?_⟩
    obtain ⟨T, x1, x2, rfl, hT, rfl, f1, f2⟩ := hy
    have e1 := f1 us qa
    have e2 := f2 ws qb
    rw [h1] at e1
    rw [h3] at e2
    cases e1
    cases e2
    refine ⟨.tup [xs[i], ys[i]], upd Fc T (.tup [v, u]), ?_, Gr.newF h hT, ?_⟩
    · rw [List.getElem?_zipWith, List.getElem?_eq_getElem ia, List.getElem?_eq_getElem ib]
    · have sm := (Gr.newF (o := .tup [v, u]) h hT).f
      simp only [Rep]
      exact ⟨T, [v, u], rfl, .inl (.inl upd_same), Reps.cons (Rep.same sm _ _ (Rep.same f _ _ h2)) (Reps.cons (Rep.same sm _ _ (Rep.same f _ _ h4)) (by simp only [Reps]))⟩
  · exact ⟨us, ws, qa, qb, by omega⟩
/-- arguments whose first one is a list: its length is known -/
def tLen (K : PySem.W.Frag) (ta : TA) : TA := fun σ H Q => ta σ H fun vs H1 => ∃ a r xs, vs = .ref a :: r ∧ SqL K H1 a xs ∧ (xs.length ≤ sizeLine → Q vs H1)
theorem pa_len {es : List Expr} {ta : TA} (ha : PA X es ta) : PA X es (tLen X.K ta) := ⟨fun pos pins s σ H Q I h => thn (ha.run pos pins s σ H _ I h) fun us s1 hh => by
  obtain ⟨vs, H1, I1, r, a, vr, xs, ev, hx, q⟩ := hh
  obtain ⟨_, _, _, hz⟩ := I1.list hx
  exact ⟨vs, H1, I1, r, q hz⟩⟩
theorem z_izip {a b : Expr} {x y : ZE} {p pos tpos : Pos} {elts : List Expr} {kk : Nat} (o : XOk C M X sc) (hb : isBuiltin C sc "zip" = true) (na : notStar a = true) (nb : notStar b = true) (hw : w = .c ∨ w = .s) (ha : PE X a (zT M fe w x)) (hy : PE X b (zT M fe w y)) :
    PI X (.Tuple elts kk tpos) (.Call (.Name "zip" p) [a, b] [] pos) (zI M fe w (iZip x y)) := by
  obtain ⟨gl, hm, hd, hnm⟩ := builtin_parts o hb
  have pa := pa_len (pa_cons ha (pa_cons hy pa_nil (star_cons nb)) (star_cons na))
  refine PI.imp (pi_zip gl hm pa (by rw [star_cons na]) (by rw [star_cons nb]; rfl)) fun σ H W ⟨H0, F0, F, ρ, fps, xs, s, e, k⟩ => ?_
  obtain ⟨d1, e1, e⟩ := R.bind_eq_ok e
  obtain ⟨d2, e2, e⟩ := R.bind_eq_ok e
  refine zT_go s e1 fun v1 H1 F1 g1 s1 r1 => zT_go s1 e2 fun v2 H2 F2 g2 s2 r2 => ?_
  rw [o.k]
  cases d1 with
  | lst us =>
    cases d2 with
    | lst ws =>
      cases e
      have q1 : ∃ l vs, v1 = .ref l ∧ baseOf w H2 F2 l = some (.lst vs) ∧ H2 l = some (.lst vs) ∧ Reps M F2 us vs := by
        rcases hw with rfl | rfl
        · obtain ⟨l, vs, rfl, q, z⟩ := r1
          exact ⟨l, vs, rfl, g2.h _ _ q, g2.h _ _ q, Reps.same g2.f _ _ z⟩
        · have r1 : Rep M F1 (.lst us) v1 := r1
          simp only [Rep] at r1
          obtain ⟨l, vs, rfl, q, z⟩ := r1
          exact ⟨l, vs, rfl, g2.f _ _ q, g2.fh _ _ (g2.f _ _ q), Reps.same g2.f _ _ z⟩
      have q2 : ∃ l vs, v2 = .ref l ∧ baseOf w H2 F2 l = some (.lst vs) ∧ H2 l = some (.lst vs) ∧ Reps M F2 ws vs := by
        rcases hw with rfl | rfl
        · obtain ⟨l, vs, rfl, q, z⟩ := r2
          exact ⟨l, vs, rfl, q, q, z⟩
        · have r2 : Rep M F2 (.lst ws) v2 := r2
          simp only [Rep] at r2
          obtain ⟨l, vs, rfl, q, z⟩ := r2
          exact ⟨l, vs, rfl, q, g2.fh _ _ q, z⟩
      obtain ⟨l1, vs1, rfl, b1, h1, z1⟩ := q1
      obtain ⟨l2, vs2, rfl, b2, h2, z2⟩ := q2
      refine ⟨l1, [.ref l2], vs1, rfl, .inl (.inl h1), fun hz => ⟨l1, l2, vs1, vs2, rfl, .inl (.inl h1), .inl (.inl h2), ?_⟩⟩
      exact k _ H2 F2 (g1.trans g2) (yields_zip hz b1 b2 z1 z2)
    | _ => cases e
  | _ => cases e
theorem yields_enum {H F : Hp} {a : Addr} {xs : List D} {us : List V} (hz : us.length ≤ sizeLine) (ha : H a = some (.lst us)) (za : Reps M F xs us) :
    Yields M (Ite M.K a) (List.zipWith (fun (k : Nat) x => .tup [.int k, x]) (List.range xs.length) xs) H F := by
  have la := za.len
  refine ⟨by rw [List.length_zipWith, List.length_range]; omega, fun Hc Fc q f h i => ⟨fun hi => ?_, fun hi => ?_⟩⟩
  all_goals
    have qa : SqL M.K Hc a us := .inl (.inl (q _ _ ha))
    rw [List.length_zipWith, List.length_range] at hi
  · have ia : i < xs.length := by omega
    obtain ⟨v, h1, h2⟩ := za.get (List.getElem?_eq_getElem ia)
    refine ⟨⟨us, v, qa, h1⟩, fun x Hn hy => ?_⟩
    obtain ⟨T, x1, rfl, hT, rfl, f1⟩ := hy
    have e1 := f1 us qa
    rw [h1] at e1
    cases e1
    refine ⟨.tup [.int i, xs[i]], upd Fc T (.tup [.int i, v]), ?_, Gr.newF h hT, ?_⟩
    · rw [List.getElem?_zipWith, List.getElem?_eq_getElem ia, List.getElem?_range ia]
    · have sm := (Gr.newF (o := .tup [.int i, v]) h hT).f
      simp only [Rep]
      exact ⟨T, [.int i, v], rfl, .inl (.inl upd_same), Reps.cons (by simp only [Rep]) (Reps.cons (Rep.same sm _ _ (Rep.same f _ _ h2)) (by simp only [Reps]))⟩
  · exact ⟨us, qa, by omega⟩
theorem z_ienum {a : Expr} {x : ZE} {p pos tpos : Pos} {elts : List Expr} {kk : Nat} (o : XOk C M X sc) (hb : isBuiltin C sc "enumerate" = true) (na : notStar a = true) (hw : w = .c ∨ w = .s) (ha : PE X a (zT M fe w x)) :
    PI X (.Tuple elts kk tpos) (.Call (.Name "enumerate" p) [a] [] pos) (zI M fe w (iEnum x)) := by
  obtain ⟨gl, hm, hd, hnm⟩ := builtin_parts o hb
  have pa := pa_len (pa_cons ha pa_nil (star_cons na))
  refine PI.imp (pi_enum gl hm pa (by rw [star_cons na]; rfl)) fun σ H W ⟨H0, F0, F, ρ, fps, xs, s, e, k⟩ => ?_
  obtain ⟨d1, e1, e⟩ := R.bind_eq_ok e
  refine zT_go s e1 fun v1 H1 F1 g1 s1 r1 => ?_
  rw [o.k]
  cases d1 with
  | lst us =>
    cases e
    have q1 : ∃ l vs, v1 = .ref l ∧ baseOf w H1 F1 l = some (.lst vs) ∧ H1 l = some (.lst vs) ∧ Reps M F1 us vs := by
      rcases hw with rfl | rfl
      · obtain ⟨l, vs, rfl, q, z⟩ := r1
        exact ⟨l, vs, rfl, q, q, z⟩
      · have r1 : Rep M F1 (.lst us) v1 := r1
        simp only [Rep] at r1
        obtain ⟨l, vs, rfl, q, z⟩ := r1
        exact ⟨l, vs, rfl, q, g1.fh _ _ q, z⟩
    obtain ⟨l1, vs1, rfl, b1, h1, z1⟩ := q1
    refine ⟨l1, [], vs1, rfl, .inl (.inl h1), fun hz => ⟨l1, vs1, rfl, .inl (.inl h1), ?_⟩⟩
    exact k _ H1 F1 g1 (yields_enum hz b1 z1)
  | _ => cases e

/-! ### list comprehensions -/
theorem compL_cons {α : Type} {f : α → R (Option D)} {x : α} {r : List α} {ys : List D} (h : compL f (x :: r) = .ok ys) : ∃ o zs, f x = .ok o ∧ compL f r = .ok zs ∧ ys = (match o with | some y => y :: zs | none => zs) := by
  obtain ⟨o, h1, h⟩ := R.bind_eq_ok h
  obtain ⟨zs, h2, h⟩ := R.bind_eq_ok h
  cases h
  exact ⟨o, zs, h1, h2, rfl⟩
theorem St.wipe1 {H0 F0 H F : Hp} {σ : L2.St} {ρ : Env} {fps : Nat → List Addr} {i : Nat} (s : St M H0 F0 σ H F fe ρ fps) : St M H0 F0 (σ.set i none) H F (fe.set i .sh) (ρ.set i none) (fun j => if j = i then [] else fps j) where
  h0 := s.h0
  f0 := s.f0
  fh := s.fh
  new := s.new
  len := by rw [List.length_set, List.length_set, s.len]
  slot := fun j e h => by
    by_cases hj : j = i
    · subst hj
      by_cases hl : j < ρ.length
      · rw [List.getElem?_set_self hl] at h; cases h
      · rw [List.getElem?_eq_none (by simpa using hl)] at h; cases h
    · rw [List.getElem?_set_ne (Ne.symm hj)] at h
      obtain ⟨u, h1, h2⟩ := s.slot j e h
      refine ⟨u, by rw [List.getElem?_set_ne (Ne.symm hj)]; exact h1, ?_⟩
      rw [getD_set hj, if_neg hj]
      exact h2
  out := fun j b hb => by
    by_cases hj : j = i
    · rw [if_pos hj] at hb; cases hb
    · rw [if_neg hj] at hb; exact s.out j b hb
  dis := fun j k b hb hc => by
    by_cases hj : j = i
    · rw [if_pos hj] at hb; cases hb
    · by_cases hk : k = i
      · rw [if_pos hk] at hc; cases hc
      · rw [if_neg hj] at hb
        rw [if_neg hk] at hc
        exact s.dis j k b hb hc
theorem wipe_foldl : ∀ (vs : List Nat) (σ : L2.St) (x : Nat), (wipe σ vs).set x none = wipe (σ.set x none) vs
  | [], _, _ => rfl
  | v :: vs, σ, x => by
    unfold wipe
    rw [← wipe_foldl vs σ x]
    by_cases h : v = x
    · rw [h]
    · rw [List.set_comm _ _ h]
theorem wipe_twice {σ : L2.St} {vs : List Nat} : ∀ {us : List Nat}, (∀ i ∈ us, i ∈ vs) → wipe (wipe σ us) vs = wipe σ vs
  | [], _ => rfl
  | u :: us, h => by
    have e : wipe σ (u :: us) = (wipe σ us).set u none := rfl
    rw [e, wipe_set (h u (by simp)), wipe_twice fun i hi => h i (by simp [hi])]
theorem St.wiped {H0 F0 H F : Hp} : ∀ (vs : List Nat) {σ : L2.St} {fe : List Fl} {ρ : Env} {fps : Nat → List Addr}, St M H0 F0 σ H F fe ρ fps → ∃ fps', St M H0 F0 (wipe σ vs) H F (setSh fe vs) (killE vs ρ) fps'
  | [], _, _, _, fps, s => ⟨fps, s⟩
  | v :: vs, σ, fe, ρ, fps, s => by
    obtain ⟨fps', q⟩ := St.wiped vs (s.wipe1 (i := v))
    refine ⟨fps', ?_⟩
    have e : wipe σ (v :: vs) = wipe (σ.set v none) vs := wipe_foldl vs σ v
    rw [e]
    exact q
def zTs (M : Mx) (cs : List ZE) : TT := fun σ H Q => ∃ H0 F0 F fe ρ fps k, St M H0 F0 σ H F fe ρ fps ∧ tests cs ρ = .ok k ∧ ∀ H', Gr H F H' F → Q k H'
theorem PTs.imp {e : List Expr} {t t' : TT} (h : PTs X e t) (q : ∀ σ H Q, t' σ H Q → t σ H Q) : PTs X e t' := ⟨fun pins s σ H Q I z => h.run pins s σ H Q I (q _ _ _ z)⟩
theorem z_tests {f : Expr → Option ZE} {ifs : List Expr} {cs : List ZE} (hl : ifs.length ≤ 1) (hf : ∀ e z, f e = some z → PT X e (zTT M z)) (h : mapO f ifs = some cs) : PTs X ifs (zTs M cs) := by
  match ifs, hl, h with
  | [], _, h =>
    cases h
    refine PTs.imp pts_nil fun σ H Q ⟨H0, F0, F, fe, ρ, fps, k, s, e, q⟩ => ?_
    cases e
    exact q H (.refl s.fh)
  | [a], _, h =>
    obtain ⟨z, h1, h⟩ := Option.bind_eq_some_iff.mp h
    cases h
    refine PTs.imp (pts_one (hf a z h1)) fun σ H Q ⟨H0, F0, F, fe, ρ, fps, k, s, e, q⟩ => ?_
    obtain ⟨d, e1, e⟩ := R.bind_eq_ok e
    obtain ⟨t, e2, e⟩ := R.bind_eq_ok e
    refine ⟨H0, F0, F, fe, ρ, fps, d, t, s, e1, e2, fun H' g => ?_⟩
    cases t with
    | true => cases e; exact q H' g
    | false => cases e; exact q H' g
theorem comp_read {vs : List Nat} {it : ZI} {g : ZG} {ss : List Nat} {cs : List ZE} {e : ZE} (hw : w ≠ .d) (hss : ∀ i ∈ ss, i ∈ vs) (σ : L2.St) (H : Hp) (Q : VK) (hz : zT M fe w (eComp vs g it cs e) σ H Q) :
    tLc (zI M fe .c it) (zG M (setSh fe vs) g ss) (zTs M cs) (zT M (setSh (setSh fe vs) ss) .s e) vs σ H Q := by
  obtain ⟨H0, F0, F, ρ, fps, d, s, ev, k⟩ := hz
  obtain ⟨xs, e1, ev⟩ := R.bind_eq_ok ev
  obtain ⟨ys, e2, ev⟩ := R.bind_eq_ok ev
  cases ev
  refine ⟨H0, F0, F, ρ, fps, xs, s, e1, fun J H1 F1 g1 hY D hD => ?_⟩
  obtain ⟨hlen, hY⟩ := hY
  have hFD : F1 D = none := g1.fh.free hD
  -- between two turns
  let P : Nat → Hp → Prop := fun i Hc => ∃ Fc us acc rest, Gr H1 F1 Hc Fc ∧ Hc D = some (.lst us) ∧ Fc D = none ∧ Reps M Fc acc us ∧ acc.length ≤ i ∧ compL (compF vs g cs e ρ) (xs.drop i) = .ok rest ∧ acc ++ rest = ys
  refine ⟨fun i m Hc => i ≤ xs.length ∧ m = xs.length - i ∧ P i Hc, ⟨xs.length, Nat.zero_le _, by omega, F1, [], [], ys, ?_, upd_same, hFD, by simp [Reps], Nat.zero_le _, by rw [List.drop_zero]; exact e2, rfl⟩, ?_⟩
  · exact Gr.write (.refl g1.fh) hD hFD
  rintro i m Hc ⟨hi, rfl, Fc, us, acc, rest, gc, hc, fc, za, la, er, ea⟩
  obtain ⟨y1, y2⟩ := hY Hc Fc gc.h gc.f gc.fh i
  by_cases hlt : i < xs.length
  · obtain ⟨go, yld⟩ := y1 hlt
    refine .inr ⟨go, P (i + 1), fun H' p => ⟨xs.length - (i + 1), by omega, by omega, rfl, p⟩, fun x Hn hy => ?_⟩
    obtain ⟨dx, Fn, hx, gn, rx⟩ := yld x Hn hy
    have edr : xs.drop i = dx :: xs.drop (i + 1) := by
      rw [List.drop_eq_getElem_cons hlt]
      rw [List.getElem?_eq_getElem hlt] at hx
      cases hx
      rfl
    rw [edr] at er
    obtain ⟨ov, zs, f1, f2, f3⟩ := compL_cons er
    obtain ⟨ρ1, q1, f1⟩ := R.bind_eq_ok f1
    obtain ⟨t, q2, f1⟩ := R.bind_eq_ok f1
    obtain ⟨fps1, s1⟩ := (((s.grow g1).grow gc).grow gn).wiped vs
    refine ⟨H0, F0, Fn, killE vs ρ, fps1, dx, ρ1, s1, rx, q1, fun σ2 fps2 s2 w2 => ⟨(w2 vs hss).trans (wipe_twice fun _ z => z), H0, F0, Fn, _, ρ1, fps2, t, s2, q2, fun H3 g3 => ?_⟩⟩
    have gg : Gr H1 F1 H3 Fn := (gc.trans gn).trans g3
    have hD3 : H3 D = some (.lst us) := g3.h _ _ (gn.h _ _ hc)
    have hFn : Fn D = none := gn.off fc (by rw [hc]; simp)
    cases t with
    | true =>
      obtain ⟨yv, q3, f1⟩ := R.bind_eq_ok f1
      cases f1
      refine iteT (zT_go (s2.grow g3) q3 fun v H4 F4 g4 s4 r4 => ⟨us, g4.h _ _ hD3, ?_, F4, us ++ [v], acc ++ [yv], zs, ?_, upd_same, ?_, ?_, ?_, f2, ?_⟩)
      · rw [← za.len]; omega
      · exact (gg.trans g4).write hD (g4.off hFn (by rw [hD3]; simp))
      · exact g4.off hFn (by rw [hD3]; simp)
      · exact (Reps.same (gn.f.trans g4.f) _ _ za).append (Reps.cons r4 (by simp [Reps]))
      · rw [List.length_append]; exact Nat.succ_le_succ la
      · rw [← ea, f3, List.append_assoc]; rfl
    | false =>
      cases f1
      exact iteF ⟨Fn, us, acc, zs, gg, hD3, hFn, Reps.same gn.f _ _ za, Nat.le_succ_of_le la, f2, by rw [← ea, f3]⟩
  · have ei : i = xs.length := by omega
    subst ei
    rw [List.drop_length] at er
    cases er
    rw [List.append_nil] at ea
    subst ea
    refine .inl ⟨y2 (Nat.le_refl _), ?_⟩
    cases w with
    | d => exact absurd rfl hw
    | c => exact k _ Hc Fc (g1.trans gc) ⟨D, us, rfl, hc, za⟩
    | w => exact k _ Hc Fc (g1.trans gc) ⟨[D], ⟨D, us, rfl, rfl, hc, za⟩, fun b hb => by
        have eb : b = D := by simpa using hb
        subst eb
        exact ⟨g1.h.free hD, fc⟩⟩
    | s =>
      have fr : Fresh H Fc [D] := fun b hb => by
        have eb : b = D := by simpa using hb
        subst eb
        exact ⟨g1.h.free hD, fc⟩
      exact k _ Hc (ext Fc Hc [D]) ((g1.trans gc).give fr) (Val.sh (fl := .own) gc.fh ⟨D, us, rfl, rfl, hc, za⟩)
theorem z_comp {elt tg iter : Expr} {ifs : List Expr} {scope : Scope} {own : List (Str × Nat)} {pos : Pos} {it : ZI} {g : ZG} {ss : List Nat} {cs : List ZE} {e : ZE} (o : XOk C M X sc) (hw : w ≠ .d) (hi : PI X tg iter (zI M fe .c it)) (ok : BlkOk X.N X.env.scope scope own) (hss : ∀ i ∈ ss, i ∈ own.map (·.2))
    (hg : ∀ (s : Shared) (H : Hp) (C : Addr) (cl : List (Str × Addr)) (fp : List Addr), PG (X.blk s H scope (compEnvC scope cl C X.env) fp) tg (zG M (setSh fe (own.map (·.2))) g ss))
    (ht : ∀ (s : Shared) (H : Hp) (C : Addr) (cl : List (Str × Addr)) (fp : List Addr), PTs (X.blk s H scope (compEnvC scope cl C X.env) fp) ifs (zTs M cs))
    (he : ∀ (s : Shared) (H : Hp) (C : Addr) (cl : List (Str × Addr)) (fp : List Addr), PE (X.blk s H scope (compEnvC scope cl C X.env) fp) elt (zT M (setSh (setSh fe (own.map (·.2))) ss) .s e)) (hs : ∀ x, foldedSetIterable iter X.env x = pure x) :
    PE X (.ListComp elt [⟨tg, iter, ifs, 0⟩] scope pos) (zT M fe w (eComp (own.map (·.2)) g it cs e)) :=
  PE.imp (pe_lc o.calm (by rw [o.n]; exact o.nd) hi ok hg ht he hs) (comp_read hw hss)
end
end Z
/-! Z, part J: every expression that compiles is worth what it compiles to. -/
namespace Z
open PySem PySem.Spec PyProof.Rows L2

theorem want_cs {w : Wt} (h : (w == .s || w == .c) = true) : w = .c ∨ w = .s := by
  cases w <;> first | exact .inl rfl | exact .inr rfl | (exact Bool.noConfusion h)
theorem want_nd {w : Wt} (h : (w != .d) = true) : w ≠ .d := by
  rintro rfl
  exact Bool.noConfusion h
theorem XOk.blk {C : CC} {M : Mx} {X : Cx} {sc : Scope} (o : XOk C M X sc) (s : Shared) (H : Hp) (scope : Scope) (cl : List (Str × Addr)) (Cc : Addr) (fp : List Addr) : XOk C M (X.blk s H scope (compEnvC scope cl Cc X.env) fp) (relS scope sc) where
  n := o.n
  nd := o.nd
  sc := by
    have e := o.sc
    subst e
    rfl
  k := o.k
  calm := o.calm
  room := o.room
  free := o.free
  con := o.con
  fn := o.fn
theorem LocOk.blk {X : Cx} (s : Shared) (H : Hp) (scope : Scope) (cl : List (Str × Addr)) (Cc : Addr) (fp : List Addr) : LocOk scope (X.blk s H scope (compEnvC scope cl Cc X.env) fp) := fun x h => by
  have key : ∀ k, k ≠ NameKind.free → scope.names.lookup x = some k → (relS scope X.env.scope).names.lookup x = some k := fun k hk e => lookup_relS_keep hk e
  unfold locK at h
  split at h
  · rename_i e
    exact ⟨.inl (key _ (by decide) e), .inr (key _ (by decide) e)⟩
  · rename_i e
    exact ⟨.inr (key _ (by decide) e), .inl (by show (scope.names.lookup x == some NameKind.cell) = true; rw [e]; rfl)⟩
  · exact Bool.noConfusion h
theorem notSet_folded {e : Expr} {env : PySem.Env} (h : notSet e = true) : ∀ x, foldedSetIterable e env x = pure x := by
  intro x
  cases e <;> first | rfl | (exact Bool.noConfusion h)
theorem z_chainT {C : CC} {M : Mx} {X : Cx} {sc : Scope} {a b c : Expr} {x y z : ZE} {op op2 : CmpOp} {pos : Pos} (o : XOk C M X sc) (hm : lastMarks [op, op2] [b, c] = false) (ha : PE X a (zL M x)) (hb : PE X b (zL M y)) (hc : PE X c (zL M z)) : PT X (.Compare a [op, op2] [b, c] pos) (zTT M (eCmp2 op op2 x y z)) := by
  obtain ⟨r, ho, hr⟩ := op_cmpZ o.k (by have := o.room; omega) op
  obtain ⟨r2, ho2, hr2⟩ := op_cmpZ o.k (by have := o.room; omega) op2
  refine PT.imp (pt_chain ho ho2 ha hb hc hm) fun σ H Q ⟨H0, F0, F, fe, ρ, fps, d, k0, s, e, et, k⟩ => ?_
  obtain ⟨d1, e1, e⟩ := R.bind_eq_ok e
  obtain ⟨d2, e2, e⟩ := R.bind_eq_ok e
  obtain ⟨t, e3, e⟩ := R.bind_eq_ok e
  refine lend s e1 fun v1 H1 g1 s1 q1 => lend s1 e2 fun v2 H2 g2 s2 q2 => ?_
  refine hr H2 d1 d2 t v1 v2 _ e3 (Rep.same g2.h _ _ q1) q2 ⟨t, rfl, ?_⟩
  cases t with
  | false =>
    cases e
    cases et
    exact iteF ⟨false, rfl, k _ (g1.trans g2)⟩
  | true =>
    obtain ⟨d3, e4, e⟩ := R.bind_eq_ok e
    obtain ⟨t2, e5, e⟩ := R.bind_eq_ok e
    cases e
    cases et
    refine iteT (lend s2 e4 fun v3 H3 g3 s3 q3 => ?_)
    exact hr2 H3 d2 d3 _ v2 v3 _ e5 (Rep.same g3.h _ _ q2) q3 ⟨_, rfl, k _ ((g1.trans g2).trans g3)⟩
theorem z_cmpT {C : CC} {M : Mx} {X : Cx} {sc : Scope} {a b : Expr} {x y : ZE} {op : CmpOp} {pos : Pos} (o : XOk C M X sc) (hm : behindInMarks op b = false) (ha : PE X a (zL M x)) (hb : PE X b (zL M y)) : PT X (.Compare a [op] [b] pos) (zTT M (eCmp op x y)) := by
  obtain ⟨r, ho, hr⟩ := op_cmpZ o.k (by have := o.room; omega) op
  refine PT.imp (pt_cmpR ho ha hb hm) fun σ H Q ⟨H0, F0, F, fe, ρ, fps, d, k0, s, e, et, k⟩ => ?_
  obtain ⟨d1, e1, e⟩ := R.bind_eq_ok e
  obtain ⟨d2, e2, e⟩ := R.bind_eq_ok e
  obtain ⟨c, e3, e⟩ := R.bind_eq_ok e
  cases e
  cases et
  refine lend s e1 fun v1 H1 g1 s1 r1 => lend s1 e2 fun v2 H2 g2 s2 r2 => ?_
  exact hr H2 d1 d2 _ v1 v2 _ e3 (Rep.same g2.h _ _ r1) r2 ⟨_, rfl, k _ (g1.trans g2)⟩
theorem z_truthT {C : CC} {M : Mx} {X : Cx} {sc : Scope} {a : Expr} {x : ZE} (o : XOk C M X sc) (hp : plainTest a = true) (ha : PE X a (zL M x)) : PT X a (zTT M x) := by
  refine PT.imp (pt_truth ha (fun whole => ?_)) fun σ H Q ⟨H0, F0, F, fe, ρ, fps, d, k0, s, e, et, k⟩ => ?_
  · cases a <;> first
      | rfl
      | (exact Bool.noConfusion hp)
      | (rename_i op _ _; cases op <;> first | rfl | (exact Bool.noConfusion hp))
  · exact lend s e fun v H' g s' r => ⟨k0, tru_z o.k et r, k _ g⟩
/-- and, or, as tests -/
theorem z_boolT {M : Mx} {X : Cx} {op : BoolOp} {pos : Pos} {f : Expr → Option ZE} : ∀ {es : List Expr} {zs : List ZE} {z : ZE}, (∀ e ∈ es, ∀ z, f e = some z → PT X e (zTT M z)) → mapO f es = some zs → foldB (boolF op) zs = some z → PW X (.BoolOp op es pos) (zTT M z)
  | [], zs, z, _, h, h2 => by cases h; cases h2
  | [e], zs, z, hp, h, h2 => by
    obtain ⟨x, h1, h⟩ := Option.bind_eq_some_iff.mp h
    cases h
    cases h2
    have q := hp e List.mem_cons_self _ h1
    cases op with
    | And => exact pw_and1 q
    | Or => exact pw_or1 q
  | e :: e' :: es, zs, z, hp, h, h2 => by
    obtain ⟨x, h1, h⟩ := Option.bind_eq_some_iff.mp h
    obtain ⟨zr, h3, h⟩ := Option.map_eq_some_iff.mp h
    subst h
    cases zr with
    | nil => have := mapO_len h3; simp at this
    | cons y zr =>
      obtain ⟨q, h4, h5⟩ := Option.map_eq_some_iff.mp h2
      subst h5
      have ih := z_boolT (pos := pos) (fun e2 he z => hp e2 (List.mem_cons_of_mem _ he) z) h3 h4
      have hx := hp e List.mem_cons_self _ h1
      cases op with
      | And =>
        refine PW.imp (pw_and hx ih) fun σ H Q ⟨H0, F0, F, fe, ρ, fps, d, k0, s, e, et, k⟩ => ?_
        obtain ⟨d1, e1, e⟩ := R.bind_eq_ok e
        obtain ⟨t, e2, e⟩ := R.bind_eq_ok e
        refine ⟨H0, F0, F, fe, ρ, fps, d1, t, s, e1, e2, fun H1 g1 => ?_⟩
        cases t with
        | true => exact iteT ⟨H0, F0, F, fe, ρ, fps, d, k0, s.grow g1, e, et, fun H2 g2 => k _ (g1.trans g2)⟩
        | false =>
          cases e
          rw [e2] at et
          cases et
          exact iteF (k _ g1)
      | Or =>
        refine PW.imp (pw_or hx ih) fun σ H Q ⟨H0, F0, F, fe, ρ, fps, d, k0, s, e, et, k⟩ => ?_
        obtain ⟨d1, e1, e⟩ := R.bind_eq_ok e
        obtain ⟨t, e2, e⟩ := R.bind_eq_ok e
        refine ⟨H0, F0, F, fe, ρ, fps, d1, t, s, e1, e2, fun H1 g1 => ?_⟩
        cases t with
        | true =>
          cases e
          rw [e2] at et
          cases et
          exact iteT (k _ g1)
        | false => exact iteF ⟨H0, F0, F, fe, ρ, fps, d, k0, s.grow g1, e, et, fun H2 g2 => k _ (g1.trans g2)⟩
theorem z_notT {M : Mx} {X : Cx} {a : Expr} {x : ZE} {pos : Pos} (ha : PT X a (zTT M x)) : PT X (.UnaryOp .Not a pos) (zTT M (eNot x)) := by
  refine PT.imp (pt_not ha) fun σ H Q ⟨H0, F0, F, fe, ρ, fps, d, k0, s, e, et, k⟩ => ?_
  obtain ⟨d1, e1, e⟩ := R.bind_eq_ok e
  obtain ⟨t, e2, e⟩ := R.bind_eq_ok e
  cases e
  cases et
  exact ⟨H0, F0, F, fe, ρ, fps, d1, t, s, e1, e2, fun H1 g1 => k _ g1⟩

theorem cBl_ok {C : CC} {sc : Scope} {f : Str} {w : Wt} {ec es : Expr → Option ZE} {l : List Expr} {z : ZE} (h : cBl C sc f w ec es l = some z) :
    (∃ a g x, l = [a] ∧ bltOf f = some g ∧ (w != .d) = true ∧ ec a = some x ∧ eBlt g [x] = z) ∨
    (∃ a t q ty x, l = [a, .Name t q] ∧ f = "isinstance" ∧ isBuiltin C sc t = true ∧ tyOf t = some ty ∧ es a = some x ∧ eIsi x ty = z) := by
  unfold cBl at h
  split at h
  · obtain ⟨g, h2, h⟩ := Option.bind_eq_some_iff.mp h
    obtain ⟨h3, h⟩ := gd_some h
    obtain ⟨x, h4, h5⟩ := Option.map_eq_some_iff.mp h
    exact .inl ⟨_, g, x, rfl, h2, h3, h4, h5⟩
  · obtain ⟨h2, h⟩ := gd_some h
    rw [Bool.and_eq_true] at h2
    obtain ⟨ty, h3, h⟩ := Option.bind_eq_some_iff.mp h
    obtain ⟨x, h4, h5⟩ := Option.map_eq_some_iff.mp h
    exact .inr ⟨_, _, _, ty, x, rfl, of_decide_eq_true h2.1, h2.2, h3, h4, h5⟩
  · cases h
theorem sound (C : CC) (M : Mx) : ∀ n : Nat,
    (∀ (X : Cx) (sc : Scope) (fe : List Fl) (w : Wt) (e : Expr) (z : ZE), XOk C M X sc → cE n C sc fe w e = some z → PE X e (zT M fe w z)) ∧
    (∀ (X : Cx) (sc : Scope) (fe : List Fl) (w : Wt) (tg e : Expr) (it : ZI), XOk C M X sc → cI n C sc fe w tg e = some it → PI X tg e (zI M fe w it)) ∧
    (∀ (X : Cx) (sc : Scope) (e : Expr) (z : ZE), XOk C M X sc → cT n C sc e = some z → PT X e (zTT M z)) := by
  intro n
  induction n with
  | zero => exact ⟨fun X sc fe w e z o h => (by cases h), fun X sc fe w tg e it o h => (by cases h), fun X sc e z o h => (by cases h)⟩
  | succ n ih =>
    obtain ⟨iE, iI, iT⟩ := ih
    refine ⟨fun X sc fe w e z o h => ?_, fun X sc fe w tg e it o h => ?_, fun X sc e z o h => ?_⟩
    · cases e with
      | Name x p => exact z_name o h
      | Constant c j p => exact z_const h
      | List es p =>
        obtain ⟨h1, h⟩ := gd_some h
        obtain ⟨zs, h2, h3⟩ := Option.map_eq_some_iff.mp h
        subst h3
        simp only [Bool.and_eq_true, decide_eq_true_eq] at h1
        exact z_list (want_nd h1.1.1) h1.1.2 (mapO_len h2) (z_args (.inr rfl) (fun e _ z => iE X sc fe .s e z o) h1.2 h2)
      | Tuple es j p =>
        obtain ⟨h1, h⟩ := gd_some h
        obtain ⟨zs, h2, h3⟩ := Option.map_eq_some_iff.mp h
        subst h3
        simp only [Bool.and_eq_true, decide_eq_true_eq] at h1
        exact z_tuple (want_nd h1.1.1) h1.1.2 (mapO_len h2) (z_args (.inr rfl) (fun e _ z => iE X sc fe .s e z o) h1.2 h2)
      | BinOp a op b p =>
        obtain ⟨h1, h⟩ := gd_some h
        obtain ⟨x, h2, h⟩ := Option.bind_eq_some_iff.mp h
        obtain ⟨y, h3, h4⟩ := Option.map_eq_some_iff.mp h
        subst h4
        exact z_bin o (want_nd h1) (iE X sc fe .c a x o h2) (iE X sc fe .c b y o h3)
      | UnaryOp op a p =>
        cases op with
        | USub =>
          obtain ⟨x, h2, h3⟩ := Option.map_eq_some_iff.mp h
          subst h3
          exact z_neg (iE X sc [] .s a x o h2)
        | Not =>
          obtain ⟨x, h2, h3⟩ := Option.map_eq_some_iff.mp h
          subst h3
          exact z_not o (iE X sc [] .s a x o h2)
        | _ => cases h
      | Compare a ops bs p =>
        match ops, bs, h with
        | [op], [b], h =>
          obtain ⟨h1, h⟩ := gd_some h
          obtain ⟨x, h2, h⟩ := Option.bind_eq_some_iff.mp h
          obtain ⟨y, h3, h4⟩ := Option.map_eq_some_iff.mp h
          subst h4
          exact z_cmp o (by simpa using h1) (iE X sc [] .s a x o h2) (iE X sc [] .s b y o h3)
        | [op, op2], [b, c], h =>
          obtain ⟨h1, h⟩ := gd_some h
          obtain ⟨x, h2, h⟩ := Option.bind_eq_some_iff.mp h
          obtain ⟨y, h3, h⟩ := Option.bind_eq_some_iff.mp h
          obtain ⟨q, h4, h5⟩ := Option.map_eq_some_iff.mp h
          subst h5
          exact z_cmp2 o (by simpa using h1) (iE X sc [] .s a x o h2) (iE X sc [] .s b y o h3) (iE X sc [] .s c q o h4)
      | BoolOp op es p =>
        obtain ⟨h1, h⟩ := gd_some h
        obtain ⟨zs, h2, h3⟩ := Option.bind_eq_some_iff.mp h
        exact z_bool o (want_cs h1).symm (fun e _ z => iE X sc fe w e z o) h2 h3
      | IfExp c a b p =>
        obtain ⟨x, h2, h⟩ := Option.bind_eq_some_iff.mp h
        obtain ⟨y, h3, h⟩ := Option.bind_eq_some_iff.mp h
        obtain ⟨q, h4, h5⟩ := Option.map_eq_some_iff.mp h
        subst h5
        exact z_ite (iT X sc c x o h2) (iE X sc fe w a y o h3) (iE X sc fe w b q o h4)
      | Subscript a i p =>
        have gen : gd ((w == .s || w == .c) && notSlice i) ((cE n C sc fe .c a).bind fun x => (cE n C sc [] .s i).map fun y => eIx x y) = some z → PE X (.Subscript a i p) (zT M fe w z) := fun h => by
          obtain ⟨h1, h⟩ := gd_some h
          obtain ⟨x, h2, h⟩ := Option.bind_eq_some_iff.mp h
          obtain ⟨y, h3, h4⟩ := Option.map_eq_some_iff.mp h
          subst h4
          rw [Bool.and_eq_true] at h1
          exact z_ix o (want_cs h1.1) h1.2 (iE X sc fe .c a x o h2) (iE X sc [] .s i y o h3)
        cases i with
        | Slice lo hi st q =>
          cases st with
          | none =>
            obtain ⟨h1, h⟩ := gd_some h
            obtain ⟨x, h2, h⟩ := Option.bind_eq_some_iff.mp h
            obtain ⟨l, h3, h⟩ := Option.bind_eq_some_iff.mp h
            obtain ⟨hh, h4, h5⟩ := Option.map_eq_some_iff.mp h
            subst h5
            exact z_cut o (want_nd h1) (iE X sc fe .c a x o h2) (z_part (fun e z => iE X sc [] .s e z o) h3) (z_part (fun e z => iE X sc [] .s e z o) h4)
          | some _ => exact gen h
        | _ => exact gen h
      | Call f es ks p =>
        cases f with
        | Name f q =>
          cases ks with
          | nil =>
            change (if C.fn f = true then gd (plainName f && glK (sc.names.lookup f) && es.all notStar && (w == .s || w == .c || (w == .w && C.fl f == .own))) ((mapO (cE n C sc fe .s) es).map (eCall C.call f))
              else gd (isBuiltin C sc f && es.all notStar) (cBl C sc f w (cE n C sc fe .c) (cE n C sc [] .s) es)) = some z at h
            split at h
            · rename_i hf
              obtain ⟨h1, h⟩ := gd_some h
              obtain ⟨zs, h2, h3⟩ := Option.map_eq_some_iff.mp h
              subst h3
              simp only [Bool.and_eq_true] at h1
              exact z_call o hf h1.1.1.1 h1.1.1.2 h1.1.2 h1.2 (mapO_len h2) (z_args (.inr rfl) (fun e _ z => iE X sc fe .s e z o) h1.1.2 h2)
            · obtain ⟨h1, h⟩ := gd_some h
              rw [Bool.and_eq_true] at h1
              rcases cBl_ok h with ⟨a, g, x, rfl, h2, h3, h4, h5⟩ | ⟨a, t, q2, ty, x, rfl, ef, h2, h3, h4, h5⟩
              · subst h5
                have hn := h1.2
                rw [List.all_cons, Bool.and_eq_true] at hn
                exact z_blt o h1.1 h2 (want_nd h3) hn.1 (iE X sc fe .c a x o h4)
              · subst h5
                subst ef
                have hn := h1.2
                rw [List.all_cons, Bool.and_eq_true] at hn
                exact z_isi o h1.1 h2 h3 hn.1 (iE X sc [] .s a x o h4)
          | cons kw kr =>
            match es, kw, kr, h with
            | [a], ⟨some key, .Name kf p2, p3⟩, [], h =>
              obtain ⟨h1, h⟩ := gd_some h
              obtain ⟨x, h2, h3⟩ := Option.map_eq_some_iff.mp h
              subst h3
              simp only [Bool.and_eq_true, decide_eq_true_eq] at h1
              obtain ⟨⟨⟨⟨⟨⟨⟨c1, c2⟩, c3⟩, c4⟩, c5⟩, c6⟩, c7⟩, c8⟩ := h1
              subst c1
              subst c2
              exact z_sortK o c3 c4 c5 c6 c7 (want_nd c8) (iE X sc fe .c a x o h2)
            | [], kw, kr, h => exact absurd h (by cases kw; simp [cE])
            | _ :: _ :: _, kw, kr, h => exact absurd h (by cases kw; simp [cE])
        | _ => cases h
      | ListComp elt gs scope p =>
        match gs, h with
        | [⟨tg, iter, ifs, 0⟩], h =>
          obtain ⟨h1, h⟩ := gd_some h
          obtain ⟨own, h2, h⟩ := Option.bind_eq_some_iff.mp h
          obtain ⟨h3, h⟩ := gd_some h
          obtain ⟨g, h4, h⟩ := Option.bind_eq_some_iff.mp h
          obtain ⟨h5, h⟩ := gd_some h
          obtain ⟨it, h6, h⟩ := Option.bind_eq_some_iff.mp h
          obtain ⟨cs, h7, h⟩ := Option.bind_eq_some_iff.mp h
          obtain ⟨ez, h8, h9⟩ := Option.map_eq_some_iff.mp h
          subst h9
          simp only [Bool.and_eq_true, decide_eq_true_eq] at h1 h3
          have ok : BlkOk X.N X.env.scope scope own := by
            rw [o.n, o.sc]
            exact blkOk_by h3.1
          exact z_comp o (want_nd h1.1.1) (iI X sc fe .c tg iter it o h6) ok (fun i hi => by simpa using List.all_eq_true.mp h5 i hi)
            (fun s H Cc cl fp => z_tgt (o.blk s H scope cl Cc fp).n (o.blk s H scope cl Cc fp).nd (o.blk s H scope cl Cc fp).k (o.blk s H scope cl Cc fp).calm (LocOk.blk s H scope cl Cc fp) 9 tg g _ h4)
            (fun s H Cc cl fp => z_tests h1.2 (fun e z h => iT _ _ e z (o.blk s H scope cl Cc fp) h) h7)
            (fun s H Cc cl fp => iE _ _ _ .s elt ez (o.blk s H scope cl Cc fp) h8) (notSet_folded h1.1.2)
      | _ => cases h
    · have gen : gd ((w == .s || w == .c) && notSet e) ((cE n C sc fe w e).map iSeq) = some it → PI X tg e (zI M fe w it) := fun h => by
        obtain ⟨h1, h⟩ := gd_some h
        obtain ⟨x, h2, h3⟩ := Option.map_eq_some_iff.mp h
        subst h3
        rw [Bool.and_eq_true] at h1
        exact z_iseq o (want_cs h1.1) (iE X sc fe w e x o h2)
      cases e with
      | Call f es ks p =>
        cases f with
        | Name f q =>
          cases ks with
          | nil =>
            change (if (isBuiltin C sc f && decide (f = "range")) = true then gd (decide (es.length ≤ 2) && decide (1 ≤ es.length) && es.all notStar) ((mapO (cE n C sc [] .s) es).map iRange)
              else if (isBuiltin C sc f && decide (f = "zip")) = true then (cZip w (cE n C sc fe w) es tg)
              else if (isBuiltin C sc f && decide (f = "enumerate")) = true then (cEnum w (cE n C sc fe w) es tg)
              else gd (w == .s || w == .c) ((cE n C sc fe w (.Call (.Name f q) es [] p)).map iSeq)) = some it at h
            split at h
            · rename_i hf
              rw [Bool.and_eq_true] at hf
              have ef := of_decide_eq_true hf.2
              subst ef
              obtain ⟨h1, h⟩ := gd_some h
              simp only [Bool.and_eq_true, decide_eq_true_eq] at h1
              obtain ⟨zs, h2, h3⟩ := Option.map_eq_some_iff.mp h
              subst h3
              exact z_irange o hf.1 h1.1.1 h1.1.2 h1.2 (z_args (.inr rfl) (fun e _ z => iE X sc [] .s e z o) h1.2 h2) (mapO_len h2)
            · split at h
              · rename_i hf
                rw [Bool.and_eq_true] at hf
                have ef := of_decide_eq_true hf.2
                subst ef
                unfold cZip at h
                split at h
                · obtain ⟨h1, h⟩ := gd_some h
                  simp only [Bool.and_eq_true] at h1
                  obtain ⟨x, h2, h⟩ := Option.bind_eq_some_iff.mp h
                  obtain ⟨y, h3, h4⟩ := Option.map_eq_some_iff.mp h
                  subst h4
                  exact z_izip o hf.1 h1.1.1 h1.1.2 (want_cs h1.2) (iE X sc fe w _ x o h2) (iE X sc fe w _ y o h3)
                · cases h
              · split at h
                · rename_i hf
                  rw [Bool.and_eq_true] at hf
                  have ef := of_decide_eq_true hf.2
                  subst ef
                  unfold cEnum at h
                  split at h
                  · obtain ⟨h1, h⟩ := gd_some h
                    simp only [Bool.and_eq_true] at h1
                    obtain ⟨x, h2, h3⟩ := Option.map_eq_some_iff.mp h
                    subst h3
                    exact z_ienum o hf.1 h1.1 (want_cs h1.2) (iE X sc fe w _ x o h2)
                  · cases h
                · refine gen ?_
                  have e1 : notSet (.Call (.Name f q) es [] p) = true := rfl
                  rw [e1, Bool.and_true]
                  exact h
          | cons _ _ => exact gen h
        | _ => exact gen h
      | _ => exact gen h
    · have gen : gd (plainTest e) (cE n C sc [] .s e) = some z → PT X e (zTT M z) := fun h => by
        obtain ⟨h1, h⟩ := gd_some h
        exact z_truthT o h1 (iE X sc [] .s e z o h)
      cases e with
      | UnaryOp op a p =>
        cases op with
        | Not =>
          obtain ⟨x, h2, h3⟩ := Option.map_eq_some_iff.mp h
          subst h3
          exact z_notT (iT X sc a x o h2)
        | _ => exact gen h
      | BoolOp op es p =>
        obtain ⟨zs, h2, h3⟩ := Option.bind_eq_some_iff.mp h
        exact (z_boolT (fun e _ z => iT X sc e z o) h2 h3).pt
      | Compare a ops bs p =>
        match ops, bs, h with
        | [op], [b], h =>
          obtain ⟨h1, h⟩ := gd_some h
          obtain ⟨x, h2, h⟩ := Option.bind_eq_some_iff.mp h
          obtain ⟨y, h3, h4⟩ := Option.map_eq_some_iff.mp h
          subst h4
          exact z_cmpT o (by simpa using h1) (iE X sc [] .s a x o h2) (iE X sc [] .s b y o h3)
        | [op, op2], [b, c], h =>
          obtain ⟨h1, h⟩ := gd_some h
          obtain ⟨x, h2, h⟩ := Option.bind_eq_some_iff.mp h
          obtain ⟨y, h3, h⟩ := Option.bind_eq_some_iff.mp h
          obtain ⟨q, h4, h5⟩ := Option.map_eq_some_iff.mp h
          subst h5
          exact z_chainT o (by simpa using h1) (iE X sc [] .s a x o h2) (iE X sc [] .s b y o h3) (iE X sc [] .s c q o h4)
      | _ => exact gen h
end Z
/-! Z, part JD: values all of whose objects are new. -/
namespace Z
open PySem PySem.Spec PyProof.Rows L2

def isDeepCall (C : CC) (sc : Scope) : Expr → Bool
  | .Call (.Name f _) _ [] _ => C.fn f && (C.fl f == .deep)
  | _ => false
/-- a value whose objects are all new -/
def cD : Nat → CC → Scope → List Fl → Expr → Option ZE
  | 0, _, _, _, _ => none
  | _ + 1, _, _, _, .Constant c _ _ => (cConst c).map eLit
  | n + 1, C, sc, fe, .List es _ => gd (decide (es.length ≤ 1000) && es.all notStar) ((mapO (cD n C sc fe) es).map eLst)
  | n + 1, C, sc, fe, .Tuple es _ _ => gd (decide (es.length ≤ 1000) && es.all notStar) ((mapO (cD n C sc fe) es).map eTup)
  | n + 1, C, sc, fe, .IfExp c a b _ => (cT n C sc c).bind fun x => (cD n C sc fe a).bind fun y => (cD n C sc fe b).map fun z => eIte x y z
  | n + 1, C, sc, fe, .ListComp elt [⟨tg, iter, ifs, 0⟩] scope _ =>
      gd (notSet iter && decide (ifs.length ≤ 1)) ((mapO (fun x => (ixOf x C.N).map fun i => (x, i)) (tgNames 9 tg)).bind fun own =>
        gd (blkC C.N sc scope own && own.all (fun p => locK (scope.names.lookup p.1))) ((cG 9 C scope tg).bind fun g => gd (g.2.all fun i => (own.map (·.2)).contains i) ((cI n C sc fe .c tg iter).bind fun it =>
          (mapO (cT n C (relS scope sc)) ifs).bind fun cs => (cD n C (relS scope sc) (setSh (setSh fe (own.map (·.2))) g.2) elt).map fun e => eComp (own.map (·.2)) g.1 it cs e)))
  | n + 1, C, sc, fe, .Call (.Name f p0) es [] p => if isDeepCall C sc (.Call (.Name f p0) es [] p) = true then gd (plainName f && glK (sc.names.lookup f) && es.all notStar) ((mapO (cE n C sc fe .s) es).map (eCall C.call f))
      else (cE n C sc fe .w (.Call (.Name f p0) es [] p)).map eFlat
  | n + 1, C, sc, fe, e => (cE n C sc fe .w e).map eFlat

section
variable {C : CC} {M : Mx} {X : Cx} {sc : Scope} {fe : List Fl}
/-- the addresses in use alone -/
theorem RepD.tight {H : Hp} {fp fq : List Addr} (hq : ∀ b ∈ fp, H b ≠ none → b ∈ fq) : (∀ (d : D) (v : V), RepD M H fp d v → RepD M H fq d v) ∧ (∀ (ds : List D) (vs : List V), RepDs M H fp ds vs → RepDs M H fq ds vs) := by
  have key : ∀ n : Nat, ∀ fp fq : List Addr, (∀ b ∈ fp, H b ≠ none → b ∈ fq) → (∀ (d : D) (v : V), sizeOf d < n → RepD M H fp d v → RepD M H fq d v) ∧ (∀ (ds : List D) (vs : List V), sizeOf ds < n → RepDs M H fp ds vs → RepDs M H fq ds vs) := by
    intro n
    induction n with
    | zero => exact fun fp fq hq => ⟨fun d v h => absurd h (Nat.not_lt_zero _), fun d v h => absurd h (Nat.not_lt_zero _)⟩
    | succ n ihn =>
      intro fp fq hq
      have ih := ihn fp fq hq
      have ihb : ∀ a, (∀ (ds : List D) (vs : List V), sizeOf ds < n → RepDs M H (but fp a) ds vs → RepDs M H (but fq a) ds vs) := fun a => (ihn (but fp a) (but fq a) fun b hb hn => mem_but.mpr ⟨hq b (mem_but.mp hb).1 hn, (mem_but.mp hb).2⟩).2
      refine ⟨fun d v hn h => ?_, fun ds vs hn h => ?_⟩
      · cases d with
        | non => simpa only [RepD] using h
        | bl _ => simpa only [RepD] using h
        | int _ => simpa only [RepD] using h
        | str _ => simpa only [RepD] using h
        | tup xs =>
          simp only [RepD] at h ⊢
          obtain ⟨a, vs, r, m, q, z⟩ := h
          exact ⟨a, vs, r, hq a m (by rw [q]; simp), q, ihb a xs vs (by simp at hn; omega) z⟩
        | lst xs =>
          simp only [RepD] at h ⊢
          obtain ⟨a, vs, r, m, q, z⟩ := h
          exact ⟨a, vs, r, hq a m (by rw [q]; simp), q, ihb a xs vs (by simp at hn; omega) z⟩
        | dic _ _ => simp only [RepD] at h
        | obj _ _ _ => simp only [RepD] at h
        | scr _ => simp only [RepD] at h
      · cases ds with
        | nil => simpa only [RepDs] using h
        | cons d ds =>
          simp only [RepDs] at h ⊢
          obtain ⟨v, r, rfl, h1, h2⟩ := h
          exact ⟨v, r, rfl, ih.1 d v (by simp at hn; omega) h1, ih.2 ds r (by simp at hn; omega) h2⟩
  exact ⟨fun d v => (key (sizeOf d + 1) fp fq hq).1 d v (Nat.lt_succ_self _), fun ds vs => (key (sizeOf ds + 1) fp fq hq).2 ds vs (Nat.lt_succ_self _)⟩
theorem inUse (H : Hp) (fp : List Addr) : ∃ fq : List Addr, (∀ b ∈ fp, H b ≠ none → b ∈ fq) ∧ (∀ b ∈ fq, b ∈ fp ∧ H b ≠ none) := by
  classical
  exact ⟨fp.filter fun b => decide (H b ≠ none), fun b hb hn => List.mem_filter.mpr ⟨hb, by simpa using hn⟩, fun b hb => by
    have := List.mem_filter.mp hb
    exact ⟨this.1, by simpa using this.2⟩⟩
theorem RepDs_len {H : Hp} {fp : List Addr} : ∀ {ds : List D} {vs : List V}, RepDs M H fp ds vs → ds.length = vs.length
  | [], _, h => by simp only [RepDs] at h; rw [h]; rfl
  | d :: ds, vs, h => by
    simp only [RepDs] at h
    obtain ⟨v, r, rfl, _, t⟩ := h
    rw [List.length_cons, List.length_cons, RepDs_len t]
/-- an own value without objects within is all new -/
theorem own_deep {H F : Hp} {d : D} {v : V} {fp : List Addr} (hf : flat d = true) (x : Val M H F .own d v fp) : Val M H F .deep d v fp := by
  cases d with
  | non => have x : Rep M F .non v := x; simp only [Rep] at x; simpa only [Val, RepD] using x
  | bl b => have x : Rep M F (.bl b) v := x; simp only [Rep] at x; simpa only [Val, RepD] using x
  | int b => have x : Rep M F (.int b) v := x; simp only [Rep] at x; simpa only [Val, RepD] using x
  | str b => have x : Rep M F (.str b) v := x; simp only [Rep] at x; simpa only [Val, RepD] using x
  | lst xs =>
    obtain ⟨a, vs, rfl, rfl, q, z⟩ := x
    have key : ∀ {xs : List D} {vs : List V}, xs.all isAtom = true → Reps M F xs vs → RepDs M H (but [a] a) xs vs := fun {xs} => by
      induction xs with
      | nil => intro vs _ h; simp only [Reps] at h; simpa only [RepDs] using h
      | cons d ds ih =>
        intro vs hf h
        rw [List.all_cons, Bool.and_eq_true] at hf
        simp only [Reps] at h
        obtain ⟨v, r, rfl, h1, h2⟩ := h
        refine RepDs.cons ?_ (ih hf.2 h2)
        cases d <;> first | (exact Bool.noConfusion hf.1) | (simp only [Rep] at h1; simpa only [RepD] using h1)
    show RepD M H [a] (.lst xs) (.ref a)
    simp only [RepD]
    exact ⟨a, vs, rfl, by simp, q, key hf z⟩
  | tup _ => exact Bool.noConfusion hf
  | dic _ _ => exact Bool.noConfusion hf
  | obj _ _ _ => exact Bool.noConfusion hf
  | scr _ => exact Bool.noConfusion hf
theorem d_flat {e : Expr} {z : ZE} (h : PE X e (zT M fe .w z)) : PE X e (zT M fe .d (eFlat z)) := PE.imp h fun σ H Q ⟨H0, F0, F, ρ, fps, d, s, e, k⟩ => by
  obtain ⟨d1, e1, e⟩ := R.bind_eq_ok e
  obtain ⟨c, e2⟩ := chk_ok e
  cases e2
  refine ⟨H0, F0, F, ρ, fps, d, s, e1, fun v H' F' g r => ?_⟩
  obtain ⟨fp, x, fr⟩ := r
  exact k v H' F' g ⟨fp, own_deep c x, fr⟩
/-- a row of new values -/
def zAd (M : Mx) (fe : List Fl) (zs : List ZE) : TA := fun σ H Q => ∃ H0 F0 F ρ fps ds, St M H0 F0 σ H F fe ρ fps ∧ eArgs zs ρ = .ok ds ∧ ∀ vs H' F' fp, Gr H F H' F' → RepDs M H' fp ds vs → (∀ b ∈ fp, H b = none ∧ F' b = none ∧ H' b ≠ none) → Q vs H'
theorem zT_goD {z : ZE} {H0 F0 H F : Hp} {σ : L2.St} {ρ : Env} {fps : Nat → List Addr} {d : D} {Q : VK} (s : St M H0 F0 σ H F fe ρ fps) (e : z ρ = .ok d) (k : ∀ v H' F' fp, Gr H F H' F' → St M H0 F0 σ H' F' fe ρ fps → RepD M H' fp d v → (∀ b ∈ fp, H b = none ∧ F' b = none ∧ H' b ≠ none) → Q v H') : zT M fe .d z σ H Q :=
  ⟨H0, F0, F, ρ, fps, d, s, e, fun v H' F' g ⟨fp, x, fr⟩ => by
    obtain ⟨fq, h1, h2⟩ := inUse H' fp
    exact k v H' F' fq g (s.grow g) ((RepD.tight h1).1 d v x) fun b hb => ⟨(fr b (h2 b hb).1).1, (fr b (h2 b hb).1).2, (h2 b hb).2⟩⟩
theorem d_args {f : Expr → Option ZE} : ∀ {es : List Expr} {zs : List ZE}, (∀ e ∈ es, ∀ z, f e = some z → PE X e (zT M fe .d z)) → es.all notStar = true → mapO f es = some zs → PA X es (zAd M fe zs)
  | [], zs, _, _, h => by
    cases h
    refine PA.imp pa_nil fun σ H Q ⟨H0, F0, F, ρ, fps, ds, s, e, k⟩ => ?_
    cases e
    exact k [] H F [] (.refl s.fh) (by simp only [RepDs]) fun b hb => (List.not_mem_nil hb).elim
  | e :: es, zs, hp, hn, h => by
    obtain ⟨z, h1, h⟩ := Option.bind_eq_some_iff.mp h
    obtain ⟨zr, h2, h3⟩ := Option.map_eq_some_iff.mp h
    subst h3
    rw [List.all_cons, Bool.and_eq_true] at hn
    have ih := d_args (fun e' he z => hp e' (List.mem_cons_of_mem _ he) z) hn.2 h2
    refine PA.imp (pa_cons (hp e List.mem_cons_self z h1) ih (star_cons hn.1)) fun σ H Q ⟨H0, F0, F, ρ, fps, ds, s, e, k⟩ => ?_
    obtain ⟨d, e1, e⟩ := R.bind_eq_ok e
    obtain ⟨dr, e2, e⟩ := R.bind_eq_ok e
    cases e
    refine zT_goD s e1 fun v H1 F1 fp1 g1 s1 r1 f1 => ⟨H0, F0, F1, ρ, fps, dr, s1, e2, fun vs H2 F2 fp2 g2 r2 f2 => ?_⟩
    refine k _ H2 F2 (fp1 ++ fp2) (g1.trans g2) (RepDs.cons (RepD.mono (fun b _ o e => g2.h b o e) (fun b hb => List.mem_append_left _ hb) d v r1) (RepDs.mono (fun b _ o e => e) (fun b hb => List.mem_append_right _ hb) dr vs r2)) fun b hb => ?_
    rcases List.mem_append.mp hb with hb | hb
    · obtain ⟨q1, q2, q3⟩ := f1 b hb
      exact ⟨q1, g2.off q2 q3, fun z => q3 (g2.h.free z)⟩
    · obtain ⟨q1, q2, q3⟩ := f2 b hb
      exact ⟨g1.h.free q1, q2, q3⟩
theorem d_list {es : List Expr} {zs : List ZE} {pos : Pos} (hl : es.length ≤ 1000) (hz : zs.length = es.length) (ha : PA X es (zAd M fe zs)) : PE X (.List es pos) (zT M fe .d (eLst zs)) := by
  refine PE.imp (pe_lst ha) fun σ H Q ⟨H0, F0, F, ρ, fps, d, s, e, k⟩ => ?_
  obtain ⟨ds, e1, e⟩ := R.bind_eq_ok e
  cases e
  refine ⟨H0, F0, F, ρ, fps, ds, s, e1, fun vs H1 F1 fp g1 r1 f1 => ⟨?_, fun p hp => ?_⟩⟩
  · rw [← RepDs_len r1, eArgs_len e1, hz]
    exact Nat.le_trans hl (by decide)
  · have g2 := Gr.newO (o := .lst vs) g1.fh hp
    refine k _ _ F1 (g1.trans g2) ⟨p :: fp, ?_, fun b hb => ?_⟩
    · show RepD M _ _ (.lst ds) (.ref p)
      simp only [RepD]
      exact ⟨p, vs, rfl, List.mem_cons_self, upd_same, RepDs.mono (fun b _ o e => g2.h b o e) (fun b hb => mem_but.mpr ⟨List.mem_cons_of_mem _ hb, fun z => (f1 b hb).2.2 (by rw [z]; exact hp)⟩) _ _ r1⟩
    · rcases List.mem_cons.mp hb with hb | hb
      · subst hb; exact ⟨g1.h.free hp, g1.fh.free hp⟩
      · exact ⟨(f1 b hb).1, (f1 b hb).2.1⟩
theorem d_tuple {es : List Expr} {zs : List ZE} {j : Nat} {pos : Pos} (hl : es.length ≤ 1000) (hz : zs.length = es.length) (ha : PA X es (zAd M fe zs)) : PE X (.Tuple es j pos) (zT M fe .d (eTup zs)) := by
  refine PE.imp (pe_tup ha) fun σ H Q ⟨H0, F0, F, ρ, fps, d, s, e, k⟩ => ?_
  obtain ⟨ds, e1, e⟩ := R.bind_eq_ok e
  cases e
  refine ⟨H0, F0, F, ρ, fps, ds, s, e1, fun vs H1 F1 fp g1 r1 f1 => ⟨?_, fun p hp => ?_⟩⟩
  · rw [← RepDs_len r1, eArgs_len e1, hz]
    exact Nat.le_trans hl (by decide)
  · have g2 := Gr.newO (o := .tup vs) g1.fh hp
    refine k _ _ F1 (g1.trans g2) ⟨p :: fp, ?_, fun b hb => ?_⟩
    · show RepD M _ _ (.tup ds) (.ref p)
      simp only [RepD]
      exact ⟨p, vs, rfl, List.mem_cons_self, upd_same, RepDs.mono (fun b _ o e => g2.h b o e) (fun b hb => mem_but.mpr ⟨List.mem_cons_of_mem _ hb, fun z => (f1 b hb).2.2 (by rw [z]; exact hp)⟩) _ _ r1⟩
    · rcases List.mem_cons.mp hb with hb | hb
      · subst hb; exact ⟨g1.h.free hp, g1.fh.free hp⟩
      · exact ⟨(f1 b hb).1, (f1 b hb).2.1⟩
theorem d_ite {a b c : Expr} {x y z : ZE} {pos : Pos} (hc : PT X c (zTT M x)) (ha : PE X a (zT M fe .d y)) (hb : PE X b (zT M fe .d z)) : PE X (.IfExp c a b pos) (zT M fe .d (eIte x y z)) := z_ite hc ha hb
theorem d_call {f : Str} {es : List Expr} {zs : List ZE} {p pos : Pos} (o : XOk C M X sc) (hf : C.fn f = true) (hd : C.fl f = .deep) (hp : plainName f = true) (hg : glK (sc.names.lookup f) = true) (hn : es.all notStar = true)
    (hz : zs.length = es.length) (ha : PA X es (zAw M fe .s zs)) : PE X (.Call (.Name f p) es [] pos) (zT M fe .d (eCall C.call f zs)) := by
  obtain ⟨fa, fd, ps, kk, F, hr, hm, hk, hb, hl⟩ := o.fn f hf
  have gl := glOf o hg
  obtain ⟨hdb, _⟩ := plain_parts hp
  rw [hd] at F
  have fin : ∀ {t : TA} σ H Q, (∀ σ H Q, zAw M fe .s zs σ H Q → t σ H Q) → zT M fe .d (eCall C.call f zs) σ H Q → tCall (spOf M .deep (C.call f) ps.length) [] E0 t σ H Q := fun {t} σ H Q ht ⟨H0, F0, F, ρ, fps, d, s, e, k⟩ => by
    obtain ⟨ds, e1, e⟩ := R.bind_eq_ok e
    refine ht σ H _ ⟨H0, F0, F, ρ, fps, ds, s, e1, fun vs H1 F1 g1 r1 => ?_⟩
    show spOf M .deep (C.call f) ps.length (vs ++ []) H1 Q E0
    rw [List.append_nil]
    exact ⟨ds, F1, d, hl ds d e, g1.fh, r1.reps, e, fun v H2 F2 fp g2 x fr => k v H2 F2 (g1.trans g2) ⟨fp, x, fun b hb => ⟨g1.h.free (fr b hb).1, (fr b hb).2⟩⟩⟩
  cases es with
  | nil => exact PE.imp (pe_call0 F (hr.mono (by omega)) gl hm hk hb .nil pass0 hdb) fun σ H Q z => fin σ H Q (fun σ H Q ⟨H0, F0, F, ρ, fps, ds, s, e, k⟩ => by
      cases zs with
      | nil => cases e; exact k [] H F (.refl s.fh) .nil
      | cons z zr => cases hz) z
  | cons e es =>
    rw [List.all_cons, Bool.and_eq_true] at hn
    exact PE.imp (pe_call F (hr.mono (by omega)) gl hm hk hb .nil pass0 ha hdb (star_cons hn.1) (star_any hn.2)) fun σ H Q z => fin σ H Q (fun _ _ _ z => z) z
/-- a comprehension whose items are all new -/
theorem comp_readD {vs : List Nat} {it : ZI} {g : ZG} {ss : List Nat} {cs : List ZE} {e : ZE} (hss : ∀ i ∈ ss, i ∈ vs) (σ : L2.St) (H : Hp) (Q : VK) (hz : zT M fe .d (eComp vs g it cs e) σ H Q) :
    tLc (zI M fe .c it) (zG M (setSh fe vs) g ss) (zTs M cs) (zT M (setSh (setSh fe vs) ss) .d e) vs σ H Q := by
  obtain ⟨H0, F0, F, ρ, fps, d, s, ev, k⟩ := hz
  obtain ⟨xs, e1, ev⟩ := R.bind_eq_ok ev
  obtain ⟨ys, e2, ev⟩ := R.bind_eq_ok ev
  cases ev
  refine ⟨H0, F0, F, ρ, fps, xs, s, e1, fun J H1 F1 g1 hY D hD => ?_⟩
  obtain ⟨hlen, hY⟩ := hY
  have hFD : F1 D = none := g1.fh.free hD
  let P : Nat → Hp → Prop := fun i Hc => ∃ Fc us acc rest fp, Gr H1 F1 Hc Fc ∧ Hc D = some (.lst us) ∧ Fc D = none ∧ RepDs M Hc fp acc us ∧ (∀ b ∈ fp, H1 b = none ∧ Fc b = none ∧ Hc b ≠ none ∧ b ≠ D) ∧ acc.length ≤ i ∧ compL (compF vs g cs e ρ) (xs.drop i) = .ok rest ∧ acc ++ rest = ys
  refine ⟨fun i m Hc => i ≤ xs.length ∧ m = xs.length - i ∧ P i Hc, ⟨xs.length, Nat.zero_le _, by omega, F1, [], [], ys, [], ?_, upd_same, hFD, by simp [RepDs], fun b hb => (List.not_mem_nil hb).elim, Nat.zero_le _, by rw [List.drop_zero]; exact e2, rfl⟩, ?_⟩
  · exact Gr.write (.refl g1.fh) hD hFD
  rintro i m Hc ⟨hi, rfl, Fc, us, acc, rest, fp, gc, hc, fc, za, fr, la, er, ea⟩
  obtain ⟨y1, y2⟩ := hY Hc Fc gc.h gc.f gc.fh i
  by_cases hlt : i < xs.length
  · obtain ⟨go, yld⟩ := y1 hlt
    refine .inr ⟨go, P (i + 1), fun H' p => ⟨xs.length - (i + 1), by omega, by omega, rfl, p⟩, fun x Hn hy => ?_⟩
    obtain ⟨dx, Fn, hx, gn, rx⟩ := yld x Hn hy
    have edr : xs.drop i = dx :: xs.drop (i + 1) := by
      rw [List.drop_eq_getElem_cons hlt]
      rw [List.getElem?_eq_getElem hlt] at hx
      cases hx
      rfl
    rw [edr] at er
    obtain ⟨ov, zs, f1, f2, f3⟩ := compL_cons er
    obtain ⟨ρ1, q1, f1⟩ := R.bind_eq_ok f1
    obtain ⟨t, q2, f1⟩ := R.bind_eq_ok f1
    obtain ⟨fps1, s1⟩ := (((s.grow g1).grow gc).grow gn).wiped vs
    refine ⟨H0, F0, Fn, killE vs ρ, fps1, dx, ρ1, s1, rx, q1, fun σ2 fps2 s2 w2 => ⟨(w2 vs hss).trans (wipe_twice fun _ z => z), H0, F0, Fn, _, ρ1, fps2, t, s2, q2, fun H3 g3 => ?_⟩⟩
    have gg : Gr H1 F1 H3 Fn := (gc.trans gn).trans g3
    have hD3 : H3 D = some (.lst us) := g3.h _ _ (gn.h _ _ hc)
    have hFn : Fn D = none := gn.off fc (by rw [hc]; simp)
    have fr3 : ∀ b ∈ fp, H1 b = none ∧ Fn b = none ∧ H3 b ≠ none ∧ b ≠ D := fun b hb => by
      obtain ⟨p1, p2, p3, p4⟩ := fr b hb
      exact ⟨p1, gn.off p2 p3, fun z => p3 (gn.h.free (g3.h.free z)), p4⟩
    have za3 : RepDs M H3 fp acc us := RepDs.mono (fun b _ o e => g3.h _ _ (gn.h _ _ e)) (fun _ z => z) _ _ za
    cases t with
    | true =>
      obtain ⟨yv, q3, f1⟩ := R.bind_eq_ok f1
      cases f1
      refine iteT (zT_goD (s2.grow g3) q3 fun v H4 F4 fp4 g4 s4 r4 fr4 => ⟨us, g4.h _ _ hD3, ?_, F4, us ++ [v], acc ++ [yv], zs, fp ++ fp4, ?_, upd_same, ?_, ?_, fun b hb => ?_, ?_, f2, ?_⟩)
      · rw [← RepDs_len za]; omega
      · exact (gg.trans g4).write hD (g4.off hFn (by rw [hD3]; simp))
      · exact g4.off hFn (by rw [hD3]; simp)
      · have nD : ∀ b ∈ fp4, b ≠ D := fun b hb z => by
          have := (fr4 b hb).1
          rw [z, hD3] at this
          cases this
        refine RepDs.append (RepDs.mono (fun b hb o e => ?_) (fun b hb => List.mem_append_left _ hb) _ _ za3) (RepDs.cons (RepD.mono (fun b hb o e => ?_) (fun b hb => List.mem_append_right _ hb) _ _ r4) (by simp only [RepDs]))
        · rw [upd_ne (fr b hb).2.2.2]; exact g4.h _ _ e
        · rw [upd_ne (nD b hb)]; exact e
      · rcases List.mem_append.mp hb with hb | hb
        · obtain ⟨p1, p2, p3, p4⟩ := fr3 b hb
          exact ⟨p1, g4.off p2 p3, by rw [upd_ne p4]; exact fun z => p3 (g4.h.free z), p4⟩
        · obtain ⟨p1, p2, p3⟩ := fr4 b hb
          have nD : b ≠ D := fun z => by rw [z, hD3] at p1; cases p1
          exact ⟨gg.h.free p1, p2, by rw [upd_ne nD]; exact p3, nD⟩
      · rw [List.length_append]; exact Nat.succ_le_succ la
      · rw [← ea, f3, List.append_assoc]; rfl
    | false =>
      cases f1
      exact iteF ⟨Fn, us, acc, zs, fp, gg, hD3, hFn, za3, fr3, Nat.le_succ_of_le la, f2, by rw [← ea, f3]⟩
  · have ei : i = xs.length := by omega
    subst ei
    rw [List.drop_length] at er
    cases er
    rw [List.append_nil] at ea
    subst ea
    refine .inl ⟨y2 (Nat.le_refl _), k _ Hc Fc (g1.trans gc) ⟨D :: fp, ?_, fun b hb => ?_⟩⟩
    · show RepD M Hc (D :: fp) (.lst acc) (.ref D)
      simp only [RepD]
      exact ⟨D, us, rfl, List.mem_cons_self, hc, RepDs.mono (fun b _ o e => e) (fun b hb => mem_but.mpr ⟨List.mem_cons_of_mem _ hb, (fr b hb).2.2.2⟩) _ _ za⟩
    · rcases List.mem_cons.mp hb with hb | hb
      · subst hb; exact ⟨g1.h.free hD, fc⟩
      · exact ⟨g1.h.free (fr b hb).1, (fr b hb).2.1⟩
end
/-- what a comprehension of new items is made of -/
theorem comp_partsD {C : CC} {M : Mx} {X : Cx} {sc : Scope} {fe : List Fl} {z : ZE} {n : Nat} {elt tg iter : Expr} {ifs : List Expr} {scope : Scope} {pos : Pos} (iD : ∀ (X : Cx) (sc : Scope) (fe : List Fl) (e : Expr) (z : ZE), XOk C M X sc → cD n C sc fe e = some z → PE X e (zT M fe .d z))
    (o : XOk C M X sc) (h : cD (n + 1) C sc fe (.ListComp elt [⟨tg, iter, ifs, 0⟩] scope pos) = some z) :
    ∃ (own : List (Str × Nat)) (it : ZI) (g : ZG) (ss : List Nat) (cs : List ZE) (ez : ZE), z = eComp (own.map (·.2)) g it cs ez ∧ PI X tg iter (zI M fe .c it) ∧ BlkOk X.N X.env.scope scope own ∧ (∀ i ∈ ss, i ∈ own.map (·.2)) ∧
    (∀ (s : Shared) (H : Hp) (C : Addr) (cl : List (Str × Addr)) (fp : List Addr), PG (X.blk s H scope (compEnvC scope cl C X.env) fp) tg (zG M (setSh fe (own.map (·.2))) g ss)) ∧
    (∀ (s : Shared) (H : Hp) (C : Addr) (cl : List (Str × Addr)) (fp : List Addr), PTs (X.blk s H scope (compEnvC scope cl C X.env) fp) ifs (zTs M cs)) ∧
    (∀ (s : Shared) (H : Hp) (C : Addr) (cl : List (Str × Addr)) (fp : List Addr), PE (X.blk s H scope (compEnvC scope cl C X.env) fp) elt (zT M (setSh (setSh fe (own.map (·.2))) ss) .d ez)) ∧ (∀ x, foldedSetIterable iter X.env x = pure x) := by
  obtain ⟨iE, iI, iT⟩ := sound C M n
  obtain ⟨h1, h⟩ := gd_some h
  obtain ⟨own, h2, h⟩ := Option.bind_eq_some_iff.mp h
  obtain ⟨h3, h⟩ := gd_some h
  obtain ⟨g, h4, h⟩ := Option.bind_eq_some_iff.mp h
  obtain ⟨h5, h⟩ := gd_some h
  obtain ⟨it, h6, h⟩ := Option.bind_eq_some_iff.mp h
  obtain ⟨cs, h7, h⟩ := Option.bind_eq_some_iff.mp h
  obtain ⟨ez, h8, h9⟩ := Option.map_eq_some_iff.mp h
  simp only [Bool.and_eq_true, decide_eq_true_eq] at h1 h3
  have ok : BlkOk X.N X.env.scope scope own := by
    rw [o.n, o.sc]
    exact blkOk_by h3.1
  exact ⟨own, it, g.1, g.2, cs, ez, h9.symm, iI X sc fe .c tg iter it o h6, ok, (fun i hi => by simpa using List.all_eq_true.mp h5 i hi),
    (fun s H Cc cl fp => z_tgt (o.blk s H scope cl Cc fp).n (o.blk s H scope cl Cc fp).nd (o.blk s H scope cl Cc fp).k (o.blk s H scope cl Cc fp).calm (LocOk.blk s H scope cl Cc fp) 9 tg g _ h4),
    (fun s H Cc cl fp => z_tests h1.2 (fun e z h => iT _ _ e z (o.blk s H scope cl Cc fp) h) h7),
    (fun s H Cc cl fp => iD _ _ _ elt ez (o.blk s H scope cl Cc fp) h8), notSet_folded h1.1⟩
theorem soundD (C : CC) (M : Mx) : ∀ (n : Nat) (X : Cx) (sc : Scope) (fe : List Fl) (e : Expr) (z : ZE), XOk C M X sc → cD n C sc fe e = some z → PE X e (zT M fe .d z) := by
  intro n
  induction n with
  | zero => intro X sc fe e z o h; cases h
  | succ n iD =>
    intro X sc fe e z o h
    have gen : (cE n C sc fe .w e).map eFlat = some z → PE X e (zT M fe .d z) := fun h => by
      obtain ⟨x, h1, h2⟩ := Option.map_eq_some_iff.mp h
      subst h2
      exact d_flat ((sound C M n).1 X sc fe .w e x o h1)
    cases e with
    | Constant c j p => exact z_const h
    | List es p =>
      obtain ⟨h1, h⟩ := gd_some h
      obtain ⟨zs, h2, h3⟩ := Option.map_eq_some_iff.mp h
      subst h3
      simp only [Bool.and_eq_true, decide_eq_true_eq] at h1
      exact d_list h1.1 (mapO_len h2) (d_args (fun e _ z => iD X sc fe e z o) h1.2 h2)
    | Tuple es j p =>
      obtain ⟨h1, h⟩ := gd_some h
      obtain ⟨zs, h2, h3⟩ := Option.map_eq_some_iff.mp h
      subst h3
      simp only [Bool.and_eq_true, decide_eq_true_eq] at h1
      exact d_tuple h1.1 (mapO_len h2) (d_args (fun e _ z => iD X sc fe e z o) h1.2 h2)
    | IfExp c a b p =>
      obtain ⟨x, h2, h⟩ := Option.bind_eq_some_iff.mp h
      obtain ⟨y, h3, h⟩ := Option.bind_eq_some_iff.mp h
      obtain ⟨q, h4, h5⟩ := Option.map_eq_some_iff.mp h
      subst h5
      exact d_ite ((sound C M n).2.2 X sc c x o h2) (iD X sc fe a y o h3) (iD X sc fe b q o h4)
    | Call f es ks p =>
      cases f with
      | Name f q =>
        cases ks with
        | nil =>
          change (if isDeepCall C sc (.Call (.Name f q) es [] p) = true then _ else _) = some z at h
          split at h
          · rename_i hc
            obtain ⟨h1, h⟩ := gd_some h
            obtain ⟨zs, h2, h3⟩ := Option.map_eq_some_iff.mp h
            subst h3
            unfold isDeepCall at hc
            simp only [Bool.and_eq_true, beq_iff_eq] at h1 hc
            exact d_call o hc.1 hc.2 h1.1.1 h1.1.2 h1.2 (mapO_len h2) (z_args (.inr rfl) (fun e _ z => (sound C M n).1 X sc fe .s e z o) h1.2 h2)
          · exact gen h
        | cons _ _ => exact gen h
      | _ => exact gen h
    | ListComp elt gs scope p =>
      match gs, h with
      | [⟨tg, iter, ifs, 0⟩], h =>
        obtain ⟨own, it, g, ss, cs, ez, e0, a1, a2, a3, a4, a5, a6, a7⟩ := comp_partsD iD o h
        subst e0
        exact PE.imp (pe_lc o.calm (by rw [o.n]; exact o.nd) a1 a2 a4 a5 a6 a7) (comp_readD a3)
      | [], h => exact gen h
      | ⟨_, _, _, .ofNat (_ + 1)⟩ :: _, h => exact gen h
      | ⟨_, _, _, .negSucc _⟩ :: _, h => exact gen h
      | ⟨_, _, _, 0⟩ :: _ :: _, h => exact gen h
    | _ => exact gen h
end Z
/-! Z, part K: the frame's state through statements. -/
namespace Z
open PySem PySem.Spec PyProof.Rows L2

theorem PS.imp {X : Cx} {e : Stmt} {t t' : TS} (h : PS X e t) (q : ∀ D σ H, t' D σ H → t D σ H) : PS X e t' := ⟨fun pins s σ H D I z => h.run pins s σ H D I (q _ _ _ z)⟩
theorem PSs.imp {X : Cx} {e : List Stmt} {t t' : TS} (h : PSs X e t) (q : ∀ D σ H, t' D σ H → t D σ H) : PSs X e t' := ⟨fun pins s σ H D I z => h.run pins s σ H D I (q _ _ _ z)⟩

/-- fe' owns less than fe -/
def Wk (fe' fe : List Fl) : Prop := ∀ i : Nat, fe'.getD i .sh = fe.getD i .sh ∨ fe'.getD i .sh = .sh
theorem Wk.refl (fe : List Fl) : Wk fe fe := fun i => .inl rfl
theorem Wk.trans {a b c : List Fl} (h : Wk a b) (q : Wk b c) : Wk a c := fun i => by
  rcases h i with h | h
  · rcases q i with q | q
    · exact .inl (h.trans q)
    · exact .inr (h.trans q)
  · exact .inr h
theorem wk_nil (fe : List Fl) : Wk [] fe := fun i => .inr (by simp)
theorem setSh_get (is : List Nat) : ∀ (fe : List Fl) (i : Nat), (setSh fe is).getD i .sh = if i ∈ is then .sh else fe.getD i .sh := by
  induction is with
  | nil => intro fe i; simp [setSh]
  | cons a is ih =>
    intro fe i
    have e : setSh fe (a :: is) = setSh (fe.set a .sh) is := rfl
    rw [e, ih]
    by_cases h : i ∈ is
    · rw [if_pos h, if_pos (List.mem_cons_of_mem _ h)]
    · rw [if_neg h]
      by_cases h2 : i = a
      · subst h2
        rw [if_pos List.mem_cons_self, List.getD_eq_getElem?_getD]
        by_cases hl : i < fe.length
        · rw [List.getElem?_set_self hl]; rfl
        · rw [List.getElem?_eq_none (by simpa using hl)]; rfl
      · rw [if_neg (by simp [h, h2])]
        exact getD_set h2
theorem wk_setSh (fe : List Fl) (is : List Nat) : Wk (setSh fe is) fe := fun i => by
  rw [setSh_get]
  by_cases h : i ∈ is
  · exact .inr (if_pos h)
  · exact .inl (if_neg h)
def meet1 (a b : Fl) : Fl := if a = b then a else .sh
def meet (a b : List Fl) : List Fl := List.zipWith meet1 a b
theorem meet_get (a b : List Fl) (i : Nat) : (meet a b).getD i .sh = meet1 (a.getD i .sh) (b.getD i .sh) := by
  unfold meet
  simp only [List.getD_eq_getElem?_getD, List.getElem?_zipWith]
  cases a[i]? with
  | none => cases b[i]? <;> simp [meet1] <;> (intro h; exact h.symm ▸ rfl)
  | some x =>
    cases b[i]? with
    | none => simp [meet1]; intro h; rw [h]
    | some y => rfl
theorem meet_left (a b : List Fl) : Wk (meet a b) a := fun i => by
  rw [meet_get]
  unfold meet1
  split
  · exact .inl rfl
  · exact .inr rfl
theorem meet_right (a b : List Fl) : Wk (meet a b) b := fun i => by
  rw [meet_get]
  unfold meet1
  split
  · rename_i h; exact .inl h
  · exact .inr rfl
/-- less is owned: what is given up goes into F -/
theorem St.weak {M : Mx} {H0 F0 H F : Hp} {σ : L2.St} {fe fe' : List Fl} {ρ : Env} {fps : Nat → List Addr} (s : St M H0 F0 σ H F fe ρ fps) (w : Wk fe' fe) : ∃ F' fps', St M H0 F0 σ H F' fe' ρ fps' ∧ Same F F' := by
  classical
  let gv : Nat → Prop := fun i => fe'.getD i .sh ≠ fe.getD i .sh
  let F' : Hp := fun b => if ∃ i, gv i ∧ b ∈ fps i then H b else F b
  have hin : ∀ {b}, (∃ i, gv i ∧ b ∈ fps i) → F' b = H b := fun {b} h => if_pos h
  have hout : ∀ {b}, ¬ (∃ i, gv i ∧ b ∈ fps i) → F' b = F b := fun {b} h => if_neg h
  have sm : Same F F' := fun b o e => by
    by_cases h : ∃ i, gv i ∧ b ∈ fps i
    · rw [hin h]; exact s.fh b o e
    · rw [hout h]; exact e
  refine ⟨F', fun i => if gv i then [] else fps i, ?_, sm⟩
  constructor
  case h0 => exact s.h0
  case f0 => exact s.f0.trans sm
  case fh =>
    intro b o e
    by_cases h : ∃ i, gv i ∧ b ∈ fps i
    · rw [hin h] at e; exact e
    · rw [hout h] at e; exact s.fh b o e
  case new =>
    intro b z
    by_cases h : ∃ i, gv i ∧ b ∈ fps i
    · obtain ⟨i, _, hb⟩ := h
      exact .inr (s.out i b hb).2.1
    · rw [hout h] at z; exact s.new b z
  case len => exact s.len
  case slot =>
    intro i d e
    obtain ⟨v, h1, h2⟩ := s.slot i d e
    refine ⟨v, h1, ?_⟩
    by_cases hg : gv i
    · rcases w i with q | q
      · exact absurd q hg
      · rw [if_pos hg, q]
        have r := Val.sh s.fh h2
        refine Rep.same (fun b o e => ?_) d v r
        by_cases hb : b ∈ fps i
        · rw [ext_at hb] at e
          rw [hin ⟨i, hg, hb⟩]
          exact e
        · rw [ext_off hb] at e
          exact sm b o e
    · rw [if_neg hg]
      have e2 : fe'.getD i .sh = fe.getD i .sh := by
        by_cases z : fe'.getD i .sh = fe.getD i .sh
        · exact z
        · exact absurd z hg
      exact (show Val M H F' (fe'.getD i .sh) d v (fps i) by rw [e2]; exact h2.grow (.refl _) sm)
  case out =>
    intro i b hb
    by_cases hg : gv i
    · rw [if_pos hg] at hb; cases hb
    · rw [if_neg hg] at hb
      obtain ⟨h1, h2, h3⟩ := s.out i b hb
      refine ⟨?_, h2, h3⟩
      rw [hout ?_]
      · exact h1
      · rintro ⟨j, hj, hbj⟩
        have := s.dis i j b hb hbj
        subst this
        exact hg hj
  case dis =>
    intro i j b hb hc
    by_cases hg : gv i
    · rw [if_pos hg] at hb; cases hb
    · by_cases hj : gv j
      · rw [if_pos hj] at hc; cases hc
      · rw [if_neg hg] at hb
        rw [if_neg hj] at hc
        exact s.dis i j b hb hc
section
variable {M : Mx} {H0 F0 H F : Hp} {σ : L2.St} {fe : List Fl} {ρ : Env} {fps : Nat → List Addr}
theorem killE_len : ∀ (ks : List Nat) (ρ : Env), (killE ks ρ).length = ρ.length
  | [], _ => rfl
  | k :: ks, ρ => (killE_len ks (ρ.set k none)).trans (List.length_set ..)
theorem killE_get : ∀ (ks : List Nat) (ρ : Env) {i : Nat} {d : D}, (killE ks ρ)[i]? = some (some d) → ρ[i]? = some (some d)
  | [], _, _, _, h => h
  | k :: ks, ρ, i, d, h => by
    have h1 := killE_get ks (ρ.set k none) h
    by_cases hi : i = k
    · subst hi
      by_cases hl : i < ρ.length
      · rw [List.getElem?_set_self hl] at h1; cases h1
      · rw [List.getElem?_eq_none (by simpa using hl)] at h1; cases h1
    · rw [List.getElem?_set_ne (Ne.symm hi)] at h1; exact h1
theorem St.kill (s : St M H0 F0 σ H F fe ρ fps) (ks : List Nat) : St M H0 F0 σ H F fe (killE ks ρ) fps :=
  ⟨s.h0, s.f0, s.fh, s.new, by rw [killE_len]; exact s.len, fun i d e => s.slot i d (killE_get ks ρ e), s.out, s.dis⟩
/-- the same state, seen from a later F -/
theorem St.from_ (s : St M H0 F0 σ H F fe ρ fps) : St M H0 F σ H F fe ρ fps := ⟨s.h0, .refl _, s.fh, fun b z => .inl z, s.len, s.slot, s.out, s.dis⟩
theorem St.back {H1 F1 : Hp} {σ1 : L2.St} {fe1 : List Fl} {ρ1 : Env} {fps1 : Nat → List Addr} (s : St M H0 F0 σ H F fe ρ fps) (t : St M H0 F σ1 H1 F1 fe1 ρ1 fps1) : St M H0 F0 σ1 H1 F1 fe1 ρ1 fps1 :=
  ⟨t.h0, s.f0.trans t.f0, t.fh, fun b z => (t.new b z).elim (s.new b) .inr, t.len, t.slot, t.out, t.dis⟩
theorem St.gr (s : St M H0 F0 σ H F fe ρ fps) : Gr H0 F0 H F := ⟨s.h0, s.f0, s.fh, s.new⟩
/-- an own value's addresses are in use -/
theorem Val.tight {d : D} {v : V} {fp : List Addr} (x : Val M H F .own d v fp) : ∃ fp', Val M H F .own d v fp' ∧ (∀ b ∈ fp', b ∈ fp) ∧ ∀ b ∈ fp', H b ≠ none := by
  cases d with
  | lst xs =>
    obtain ⟨a, vs, e, rfl, q, z⟩ := x
    exact ⟨[a], ⟨a, vs, e, rfl, q, z⟩, fun _ h => h, fun b hb => by
      have e : b = a := by simpa using hb
      rw [e, q]; simp⟩
  | dic ks ds =>
    obtain ⟨a, us, e, rfl, q, nf, z⟩ := x
    refine ⟨[a], ⟨a, us, e, rfl, q, nf, z⟩, fun _ h => h, fun b hb => ?_⟩
    have e : b = a := by simpa using hb
    subst e
    rcases q with ⟨kvs, q | ⟨o, q⟩, _⟩ | ⟨kvs, q | ⟨o, q⟩, _⟩ <;> rw [q] <;> simp
  | obj c fs ds =>
    obtain ⟨a, C, dx, us, e, rfl, q, z⟩ := x
    exact ⟨[a], ⟨a, C, dx, us, e, rfl, q, z⟩, fun _ h => h, fun b hb => by
      have e : b = a := by simpa using hb
      rw [e, q]; simp⟩
  | non => exact ⟨[], x, fun _ h => (List.not_mem_nil h).elim, fun _ h => (List.not_mem_nil h).elim⟩
  | bl _ => exact ⟨[], x, fun _ h => (List.not_mem_nil h).elim, fun _ h => (List.not_mem_nil h).elim⟩
  | int _ => exact ⟨[], x, fun _ h => (List.not_mem_nil h).elim, fun _ h => (List.not_mem_nil h).elim⟩
  | str _ => exact ⟨[], x, fun _ h => (List.not_mem_nil h).elim, fun _ h => (List.not_mem_nil h).elim⟩
  | tup _ => exact ⟨[], x, fun _ h => (List.not_mem_nil h).elim, fun _ h => (List.not_mem_nil h).elim⟩
  | scr _ => exact ⟨[], x, fun _ h => (List.not_mem_nil h).elim, fun _ h => (List.not_mem_nil h).elim⟩
/-- a slot gets an own value -/
theorem St.putO {H1 F1 : Hp} {i : Nat} {d : D} {v : V} {fp : List Addr} (s0 : St M H0 F0 σ H1 F1 fe ρ fps) (g : Gr H1 F1 H F) (hi : i < fe.length) (x : Val M H F .own d v fp) (fr : Fresh H1 F fp) :
    ∃ fps', St M H0 F0 (σ.set i (some v)) H F (fe.set i .own) (ρ.set i (some d)) fps' := by
  have s := s0.grow g
  obtain ⟨fq, y, hs, hu⟩ := x.tight
  refine ⟨fun j => if j = i then fq else fps j, s.h0, s.f0, s.fh, s.new, by rw [List.length_set, List.length_set, s.len], fun j e h => ?_, fun j b hb => ?_, fun j k b hb hc => ?_⟩
  · by_cases hj : j = i
    · subst hj
      have hl : j < ρ.length := by
        obtain ⟨hl, _⟩ := List.getElem?_eq_some_iff.mp h
        simpa using hl
      rw [List.getElem?_set_self hl] at h
      cases h
      refine ⟨v, by rw [List.getElem?_set_self (by rw [← s.len]; exact hl)], ?_⟩
      rw [List.getD_eq_getElem?_getD, List.getElem?_set_self hi, if_pos rfl]
      exact y
    · rw [List.getElem?_set_ne (Ne.symm hj)] at h
      obtain ⟨u, h1, h2⟩ := s.slot j e h
      refine ⟨u, by rw [List.getElem?_set_ne (Ne.symm hj)]; exact h1, ?_⟩
      rw [getD_set hj, if_neg hj]
      exact h2
  · by_cases hj : j = i
    · rw [if_pos hj] at hb
      obtain ⟨h1, h2⟩ := fr b (hs b hb)
      exact ⟨h2, s0.h0.free h1, hu b hb⟩
    · rw [if_neg hj] at hb; exact s.out j b hb
  · have key : ∀ j b, b ∈ fq → b ∈ fps j → False := fun j b hb hc => (s0.out j b hc).2.2 (fr b (hs b hb)).1
    by_cases hj : j = i
    · by_cases hk : k = i
      · rw [hj, hk]
      · rw [if_pos hj] at hb
        rw [if_neg hk] at hc
        exact (key k b hb hc).elim
    · by_cases hk : k = i
      · rw [if_neg hj] at hb
        rw [if_pos hk] at hc
        exact (key j b hc hb).elim
      · rw [if_neg hj] at hb
        rw [if_neg hk] at hc
        exact s.dis j k b hb hc
/-- a slot's own value goes to another slot -/
theorem St.move {i j : Nat} {d : D} {v : V} (s : St M H0 F0 σ H F fe ρ fps) (hij : i ≠ j) (hi : i < fe.length) (hd : ρ[j]? = some (some d)) (hv : σ[j]? = some (some v)) :
    ∃ fps', St M H0 F0 (σ.set i (some v)) H F ((fe.set j .sh).set i (fe.getD j .sh)) ((ρ.set j none).set i (some d)) fps' := by
  obtain ⟨v', h1, h2⟩ := s.slot j d hd
  rw [hv] at h1
  cases h1
  have hjl : j < ρ.length := (List.getElem?_eq_some_iff.mp hd).1
  refine ⟨fun k => if k = i then fps j else if k = j then [] else fps k, s.h0, s.f0, s.fh, s.new, by rw [List.length_set, List.length_set, List.length_set, s.len], fun k e h => ?_, fun k b hb => ?_, fun k l b hb hc => ?_⟩
  · by_cases hk : k = i
    · subst hk
      have hl : k < ρ.length := by
        obtain ⟨hl, _⟩ := List.getElem?_eq_some_iff.mp h
        simpa using hl
      rw [List.getElem?_set_self (by simpa using hl)] at h
      cases h
      refine ⟨v, by rw [List.getElem?_set_self (by rw [← s.len]; exact hl)], ?_⟩
      rw [List.getD_eq_getElem?_getD, List.getElem?_set_self (by simpa using hi), if_pos rfl]
      exact h2
    · rw [List.getElem?_set_ne (Ne.symm hk)] at h
      by_cases hkj : k = j
      · subst hkj
        rw [List.getElem?_set_self hjl] at h
        cases h
      · rw [List.getElem?_set_ne (Ne.symm hkj)] at h
        obtain ⟨u, q1, q2⟩ := s.slot k e h
        refine ⟨u, by rw [List.getElem?_set_ne (Ne.symm hk)]; exact q1, ?_⟩
        rw [getD_set hk, getD_set hkj, if_neg hk, if_neg hkj]
        exact q2
  · by_cases hk : k = i
    · rw [if_pos hk] at hb; exact s.out j b hb
    · rw [if_neg hk] at hb
      by_cases hkj : k = j
      · rw [if_pos hkj] at hb; cases hb
      · rw [if_neg hkj] at hb; exact s.out k b hb
  · have key : ∀ k, k ≠ i → b ∈ (if k = i then fps j else if k = j then [] else fps k) → k ≠ j ∧ b ∈ fps k := fun k hk h => by
      rw [if_neg hk] at h
      by_cases hkj : k = j
      · rw [if_pos hkj] at h; cases h
      · rw [if_neg hkj] at h; exact ⟨hkj, h⟩
    by_cases hk : k = i
    · by_cases hl : l = i
      · rw [hk, hl]
      · have hb : b ∈ fps j := by simpa [hk] using hb
        obtain ⟨q1, q2⟩ := key l hl hc
        exact absurd (s.dis j l b hb q2).symm q1
    · obtain ⟨q1, q2⟩ := key k hk hb
      by_cases hl : l = i
      · have hc : b ∈ fps j := by simpa [hl] using hc
        exact absurd (s.dis k j b q2 hc) q1
      · obtain ⟨q3, q4⟩ := key l hl hc
        exact s.dis k l b q2 q4
/-- a write outside fp and F -/
theorem Val.upd {a : Addr} {o : HO} {fl : Fl} {d : D} {v : V} {fp : List Addr} (ha : a ∉ fp) (x : Val M H F fl d v fp) : Val M (upd H a o) F fl d v fp := by
  have ne : ∀ b ∈ fp, L2.upd H a o b = H b := fun b hb => upd_ne (fun z => ha (by rw [← z]; exact hb))
  cases fl with
  | sh => exact x
  | deep => exact RepD.mono (fun b hb o' e => by rw [ne b hb]; exact e) (fun _ z => z) d v x
  | own =>
    cases d with
    | lst xs =>
      obtain ⟨b, vs, e, rfl, q, z⟩ := x
      exact ⟨b, vs, e, rfl, by rw [ne b (by simp)]; exact q, z⟩
    | dic ks ds =>
      obtain ⟨b, us, e, rfl, q, nf, z⟩ := x
      have eb := ne b (by simp)
      refine ⟨b, us, e, rfl, ?_, by rw [eb]; exact nf, z⟩
      rcases q with ⟨kvs, q, r⟩ | ⟨kvs, q, r⟩
      · exact .inl ⟨kvs, by unfold Rd at q ⊢; rw [eb]; exact q, r⟩
      · exact .inr ⟨kvs, by unfold Rd at q ⊢; rw [eb]; exact q, r⟩
    | obj c fs ds =>
      obtain ⟨b, C, dx, us, e, rfl, q, z⟩ := x
      exact ⟨b, C, dx, us, e, rfl, by rw [ne b (by simp)]; exact q, z⟩
    | non => exact x
    | bl _ => exact x
    | int _ => exact x
    | str _ => exact x
    | tup _ => exact x
    | scr _ => exact x
/-- a slot gets a value all of whose objects are new -/
theorem St.putD {H1 F1 : Hp} {i : Nat} {d : D} {v : V} {fp : List Addr} (s0 : St M H0 F0 σ H1 F1 fe ρ fps) (g : Gr H1 F1 H F) (hi : i < fe.length) (x : RepD M H fp d v) (fr : ∀ b ∈ fp, H1 b = none ∧ F b = none ∧ H b ≠ none) :
    ∃ fps', St M H0 F0 (σ.set i (some v)) H F (fe.set i .deep) (ρ.set i (some d)) fps' := by
  have s := s0.grow g
  refine ⟨fun j => if j = i then fp else fps j, s.h0, s.f0, s.fh, s.new, by rw [List.length_set, List.length_set, s.len], fun j e h => ?_, fun j b hb => ?_, fun j k b hb hc => ?_⟩
  · by_cases hj : j = i
    · subst hj
      have hl : j < ρ.length := by
        obtain ⟨hl, _⟩ := List.getElem?_eq_some_iff.mp h
        simpa using hl
      rw [List.getElem?_set_self hl] at h
      cases h
      refine ⟨v, by rw [List.getElem?_set_self (by rw [← s.len]; exact hl)], ?_⟩
      rw [List.getD_eq_getElem?_getD, List.getElem?_set_self hi, if_pos rfl]
      exact x
    · rw [List.getElem?_set_ne (Ne.symm hj)] at h
      obtain ⟨u, h1, h2⟩ := s.slot j e h
      refine ⟨u, by rw [List.getElem?_set_ne (Ne.symm hj)]; exact h1, ?_⟩
      rw [getD_set hj, if_neg hj]
      exact h2
  · by_cases hj : j = i
    · rw [if_pos hj] at hb
      obtain ⟨h1, h2, h3⟩ := fr b hb
      exact ⟨h2, s0.h0.free h1, h3⟩
    · rw [if_neg hj] at hb; exact s.out j b hb
  · have key : ∀ j b, b ∈ fp → b ∈ fps j → False := fun j b hb hc => (s0.out j b hc).2.2 (fr b hb).1
    by_cases hj : j = i
    · by_cases hk : k = i
      · rw [hj, hk]
      · rw [if_pos hj] at hb
        rw [if_neg hk] at hc
        exact (key k b hb hc).elim
    · by_cases hk : k = i
      · rw [if_neg hj] at hb
        rw [if_pos hk] at hc
        exact (key j b hc hb).elim
      · rw [if_neg hj] at hb
        rw [if_neg hk] at hc
        exact s.dis j k b hb hc
/-- a slot that holds a list of new objects gets one more -/
theorem St.appD {H1 F1 : Hp} {i : Nat} {xs : List D} {d : D} {y : V} {fp : List Addr} (s0 : St M H0 F0 σ H1 F1 fe ρ fps) (g : Gr H1 F1 H F) (hf : fe.getD i .sh = .deep) (hd : ρ[i]? = some (some (.lst xs))) (x : RepD M H fp d y) (fr : ∀ b ∈ fp, H1 b = none ∧ F b = none ∧ H b ≠ none) :
    ∃ a vs, σ[i]? = some (some (.ref a)) ∧ H1 a = some (.lst vs) ∧ H a = some (.lst vs) ∧ vs.length = xs.length ∧ ∃ fps', St M H0 F0 σ (upd H a (.lst (vs ++ [y]))) F fe (ρ.set i (some (.lst (xs ++ [d])))) fps' := by
  obtain ⟨v, h1, h2⟩ := s0.slot i _ hd
  rw [hf] at h2
  have h2 : RepD M H1 (fps i) (.lst xs) v := h2
  simp only [RepD] at h2
  obtain ⟨a, vs, rfl, ma, q, z⟩ := h2
  have hl : i < ρ.length := (List.getElem?_eq_some_iff.mp hd).1
  have ha0 := s0.out i a ma
  have s := s0.grow g
  have ha := s.out i a ma
  have nfp : a ∉ fp := fun h => ha0.2.2 (fr a h).1
  refine ⟨a, vs, h1, q, g.h _ _ q, (RepDs_len z).symm, fun j => if j = i then fps i ++ fp else fps j, fun b o e => ?_, s.f0, fun b o e => ?_, s.new, by rw [List.length_set]; exact s.len, fun j e h => ?_, fun j b hb => ?_, fun j k b hb hc => ?_⟩
  · rw [upd_ne (ne_of_none e ha.2.1)]; exact s.h0 b o e
  · rw [upd_ne (ne_of_none e ha.1)]; exact s.fh b o e
  · by_cases hj : j = i
    · subst hj
      rw [List.getElem?_set_self hl] at h
      cases h
      refine ⟨_, h1, ?_⟩
      rw [hf, if_pos rfl]
      show RepD M _ _ (.lst (xs ++ [d])) (.ref a)
      simp only [RepD]
      refine ⟨a, vs ++ [y], rfl, List.mem_append_left _ ma, upd_same, RepDs.append (RepDs.mono (fun b hb o e => ?_) (fun b hb => ?_) _ _ z) (RepDs.cons (RepD.mono (fun b hb o e => ?_) (fun b hb => ?_) _ _ x) (by simp only [RepDs]))⟩
      · rw [upd_ne (mem_but.mp hb).2]; exact g.h _ _ e
      · exact mem_but.mpr ⟨List.mem_append_left _ (mem_but.mp hb).1, (mem_but.mp hb).2⟩
      · rw [upd_ne (fun z => nfp (by rw [← z]; exact hb))]; exact e
      · exact mem_but.mpr ⟨List.mem_append_right _ hb, fun z => nfp (by rw [← z]; exact hb)⟩
    · rw [List.getElem?_set_ne (Ne.symm hj)] at h
      obtain ⟨u, q1, q2⟩ := s.slot j e h
      refine ⟨u, q1, ?_⟩
      rw [if_neg hj]
      exact q2.upd fun hb => hj (s.dis j i a hb ma)
  · have nn : ∀ b, H b ≠ none → L2.upd H a (.lst (vs ++ [y])) b ≠ none := fun b h => by
      by_cases hb : b = a
      · rw [hb, upd_same]; simp
      · rw [upd_ne hb]; exact h
    by_cases hj : j = i
    · rw [if_pos hj] at hb
      rcases List.mem_append.mp hb with hb | hb
      · obtain ⟨q1, q2, q3⟩ := s.out i b hb
        exact ⟨q1, q2, nn b q3⟩
      · obtain ⟨q1, q2, q3⟩ := fr b hb
        exact ⟨q2, s0.h0.free q1, nn b q3⟩
    · rw [if_neg hj] at hb
      obtain ⟨q1, q2, q3⟩ := s.out j b hb
      exact ⟨q1, q2, nn b q3⟩
  · have key : ∀ j b, b ∈ fp → b ∈ fps j → False := fun j b hb hc => (s0.out j b hc).2.2 (fr b hb).1
    have cut : ∀ j, b ∈ (if j = i then fps i ++ fp else fps j) → b ∈ fps j ∨ (j = i ∧ b ∈ fp) := fun j h => by
      by_cases hj : j = i
      · rw [if_pos hj] at h
        rcases List.mem_append.mp h with h | h
        · exact .inl (by rw [hj]; exact h)
        · exact .inr ⟨hj, h⟩
      · rw [if_neg hj] at h; exact .inl h
    rcases cut j hb with hb | ⟨hj, hb⟩
    · rcases cut k hc with hc | ⟨hk, hc⟩
      · exact s.dis j k b hb hc
      · exact (key j b hc hb).elim
    · rcases cut k hc with hc | ⟨hk, hc⟩
      · exact (key k b hb hc).elim
      · rw [hj, hk]
/-- a slot is forgotten, one of its own objects is changed -/
theorem St.spoil {i : Nat} {a : Addr} {o : HO} (s : St M H0 F0 σ H F fe ρ fps) (ma : a ∈ fps i) : St M H0 F0 σ (upd H a o) F fe (ρ.set i none) fps := by
  have ha := s.out i a ma
  refine ⟨fun b o e => ?_, s.f0, fun b o e => ?_, s.new, by rw [List.length_set]; exact s.len, fun j e h => ?_, fun j b hb => ?_, s.dis⟩
  · rw [upd_ne (ne_of_none e ha.2.1)]; exact s.h0 b o e
  · rw [upd_ne (ne_of_none e ha.1)]; exact s.fh b o e
  · by_cases hj : j = i
    · subst hj
      by_cases hl : j < ρ.length
      · rw [List.getElem?_set_self hl] at h; cases h
      · rw [List.getElem?_eq_none (by simpa using hl)] at h; cases h
    · rw [List.getElem?_set_ne (Ne.symm hj)] at h
      obtain ⟨u, q1, q2⟩ := s.slot j e h
      exact ⟨u, q1, q2.upd fun hb => hj (s.dis j i a hb ma)⟩
  · obtain ⟨q1, q2, q3⟩ := s.out j b hb
    refine ⟨q1, q2, ?_⟩
    by_cases hb : b = a
    · rw [hb, upd_same]; simp
    · rw [upd_ne hb]; exact q3
/-- an own list is rewritten -/
theorem St.wrL {i : Nat} {xs : List D} (s : St M H0 F0 σ H F fe ρ fps) (hf : fe.getD i .sh = .own) (hd : ρ[i]? = some (some (.lst xs))) :
    ∃ a vs, σ[i]? = some (some (.ref a)) ∧ H a = some (.lst vs) ∧ Reps M F xs vs ∧ (∀ (ys : List D) (us : List V), Reps M F ys us → St M H0 F0 σ (upd H a (.lst us)) F fe (ρ.set i (some (.lst ys))) fps) := by
  obtain ⟨v, h1, h2⟩ := s.slot i _ hd
  rw [hf] at h2
  obtain ⟨a, vs, rfl, hfp, q, z⟩ := h2
  have hl : i < ρ.length := (List.getElem?_eq_some_iff.mp hd).1
  have ha := s.out i a (by rw [hfp]; simp)
  refine ⟨a, vs, h1, q, z, fun ys us r => ⟨fun b o e => ?_, s.f0, fun b o e => ?_, s.new, by rw [List.length_set]; exact s.len, fun j e h => ?_, fun j b hb => ?_, s.dis⟩⟩
  · rw [upd_ne (ne_of_none e ha.2.1)]; exact s.h0 b o e
  · rw [upd_ne (ne_of_none e ha.1)]; exact s.fh b o e
  · by_cases hj : j = i
    · subst hj
      rw [List.getElem?_set_self hl] at h
      cases h
      refine ⟨_, h1, ?_⟩
      rw [hf]
      exact ⟨a, us, rfl, hfp, upd_same, r⟩
    · rw [List.getElem?_set_ne (Ne.symm hj)] at h
      obtain ⟨u, q1, q2⟩ := s.slot j e h
      exact ⟨u, q1, q2.upd fun hb => hj (s.dis j i a hb (by rw [hfp]; simp))⟩
  · obtain ⟨q1, q2, q3⟩ := s.out j b hb
    refine ⟨q1, q2, ?_⟩
    by_cases hb : b = a
    · rw [hb, upd_same]; simp
    · rw [upd_ne hb]; exact q3
end

/-! ### what a statement's reading is -/
def outOk (M : Mx) (H0 F0 : Hp) (fo co : Option (List Fl)) (fl : Fl) (D : Ends) : Out → Prop
  | .nx ρ => ∀ fe, fo = some fe → ∀ σ H F fps, St M H0 F0 σ H F fe ρ fps → D.nx σ H
  | .ct ρ => ∀ fe, co = some fe → ∀ σ H F fps, St M H0 F0 σ H F fe ρ fps → D.ct σ H
  | .rt d => ∀ v H F fp, Gr H0 F0 H F → Val M H F fl d v fp → Fresh H0 F fp → D.rt v H
  | .ex _ _ => False
  | .no => False
def zS (M : Mx) (fe : List Fl) (fo co : Option (List Fl)) (fl : Fl) (z : ZS) : TS := fun D σ H => ∃ H0 F0 F ρ fps, St M H0 F0 σ H F fe ρ fps ∧ outOk M H0 F0 fo co fl D (z ρ)
/-- b is a's join with something -/
def OWk (a b : Option (List Fl)) : Prop := ∀ fe, a = some fe → ∃ fe', b = some fe' ∧ Wk fe' fe
theorem OWk.refl (a : Option (List Fl)) : OWk a a := fun fe h => ⟨fe, h, .refl _⟩
def joinO : Option (List Fl) → Option (List Fl) → Option (List Fl)
  | none, b => b
  | some a, none => some a
  | some a, some b => some (meet a b)
theorem join_left (a b : Option (List Fl)) : OWk a (joinO a b) := fun fe h => by
  subst h
  cases b with
  | none => exact ⟨fe, rfl, .refl _⟩
  | some b => exact ⟨_, rfl, meet_left _ _⟩
theorem join_right (a b : Option (List Fl)) : OWk b (joinO a b) := fun fe h => by
  subst h
  cases a with
  | none => exact ⟨fe, rfl, .refl _⟩
  | some a => exact ⟨_, rfl, meet_right _ _⟩
section
variable {M : Mx} {H0 F0 H F : Hp} {σ : L2.St} {fe fe2 : List Fl} {fo co fo' co' : Option (List Fl)} {fl : Fl} {D : Ends} {o : Out} {z : ZS} {X : Cx} {st : Stmt}
theorem outOk.weak (h : outOk M H0 F0 fo' co' fl D o) (a : OWk fo fo') (b : OWk co co') : outOk M H0 F0 fo co fl D o := by
  cases o with
  | nx ρ =>
    intro fe e σ H F fps s
    obtain ⟨fe', e', w⟩ := a fe e
    obtain ⟨F', fps', s', _⟩ := s.weak w
    exact h fe' e' σ H F' fps' s'
  | ct ρ =>
    intro fe e σ H F fps s
    obtain ⟨fe', e', w⟩ := b fe e
    obtain ⟨F', fps', s', _⟩ := s.weak w
    exact h fe' e' σ H F' fps' s'
  | rt d => exact h
  | ex c d => exact h
  | no => exact h
theorem outOk.from_ {ρ : Env} {fps : Nat → List Addr} (s : St M H0 F0 σ H F fe ρ fps) (h : outOk M H0 F0 fo co fl D o) : outOk M H0 F fo co fl D o := by
  cases o with
  | nx ρ => exact fun fe e σ1 H1 F1 fps1 t => h fe e σ1 H1 F1 fps1 (s.back t)
  | ct ρ => exact fun fe e σ1 H1 F1 fps1 t => h fe e σ1 H1 F1 fps1 (s.back t)
  | rt d => exact fun v H1 F1 fp g x fr => h v H1 F1 fp ⟨g.h, s.f0.trans g.f, g.fh, fun b z => (g.new b z).elim (s.new b) .inr⟩ x fr
  | ex c d => exact h
  | no => exact h
/-- less owned at the start -/
theorem zS.pre (h : PS X st (zS M fe2 fo co fl z)) (w : Wk fe2 fe) : PS X st (zS M fe fo co fl z) := PS.imp h fun D σ H ⟨H0, F0, F, ρ, fps, s, q⟩ => by
  obtain ⟨F', fps', s', _⟩ := s.weak w
  exact ⟨H0, F0, F', ρ, fps', s', q⟩
end
end Z
/-! Z, part L: from the text's statements to functions. -/
namespace Z
open PySem PySem.Spec PyProof.Rows L2

/-- the names in an expression -/
def nmE : Nat → Expr → List Str
  | 0, _ => []
  | _ + 1, .Name x _ => [x]
  | n + 1, .List es _ => es.flatMap (nmE n)
  | n + 1, .Tuple es _ _ => es.flatMap (nmE n)
  | n + 1, .BinOp a _ b _ => nmE n a ++ nmE n b
  | n + 1, .UnaryOp _ a _ => nmE n a
  | n + 1, .Compare a _ bs _ => nmE n a ++ bs.flatMap (nmE n)
  | n + 1, .BoolOp _ es _ => es.flatMap (nmE n)
  | n + 1, .IfExp a b c _ => nmE n a ++ nmE n b ++ nmE n c
  | n + 1, .Subscript a b _ => nmE n a ++ nmE n b
  | n + 1, .Call f es _ _ => nmE n f ++ es.flatMap (nmE n)
  | n + 1, .Attribute a _ _ => nmE n a
  | n + 1, .ListComp e gs _ _ => nmE n e ++ gs.flatMap (fun g => match g with | ⟨_, it, ifs, _⟩ => nmE n it ++ ifs.flatMap (nmE n))
  | _ + 1, _ => []
def freeze (C : CC) (fe : List Fl) (e : Expr) : List Fl := setSh fe ((nmE 40 e).filterMap fun x => ixOf x C.N)
def eFuel : Nat := 60
/-- a shared value; where need be, what it names is given up -/
def cSh (C : CC) (sc : Scope) (fe : List Fl) (e : Expr) : Option (ZE × List Fl) :=
  match cE eFuel C sc fe .s e with
  | some z => some (z, fe)
  | none => (cE eFuel C sc (freeze C fe e) .s e).map fun z => (z, freeze C fe e)
/-- a value all of whose objects are new; where need be, what it names is given up -/
def cDeep (C : CC) (sc : Scope) (fe : List Fl) (e : Expr) : Option (ZE × List Fl) :=
  match cD eFuel C sc fe e with
  | some z => some (z, fe)
  | none => (cD eFuel C sc (freeze C fe e) e).map fun z => (z, freeze C fe e)
/-- an own value, else a shared one -/
def cOwn (C : CC) (sc : Scope) (fe : List Fl) (e : Expr) : Option (ZE × Wt × List Fl) :=
  match cE eFuel C sc fe .w e with
  | some z => some (z, .w, fe)
  | none => (cSh C sc fe e).map fun p => (p.1, .s, p.2)
def cIter (C : CC) (sc : Scope) (fe : List Fl) (tg e : Expr) : Option (ZI × List Fl) :=
  match cI eFuel C sc fe .s tg e with
  | some z => some (z, fe)
  | none => (cI eFuel C sc (freeze C fe e) .s tg e).map fun z => (z, freeze C fe e)
def wFl : Wt → Fl
  | .w => .own
  | _ => .sh
abbrev OF := Option (List Fl)
abbrev ZR := ZS × OF × OF
/-- a value that may be stored under a name by the plain rule -/
def plainVal : Expr → Bool
  | .ListComp _ _ _ _ => false
  | .SetComp _ _ _ _ => false
  | .DictComp _ _ _ _ _ => false
  | _ => true
/-- a comprehension that is stored as it is built -/
def swapVal (sc : Scope) (x : Str) (px : Pos) : Expr → Bool
  | .ListComp _ [⟨_, _, _, 0⟩] scope lp => (sc.names.lookup x == some .local) && (px.line == lp.line) && !(scope.names.any fun (n, k) => n == x && (k == .local || k == .cell))
  | _ => false
def moveOf (C : CC) (sc : Scope) (fe : List Fl) (i : Nat) (pos : Pos) : Expr → Option Nat
  | .Name y _ => gd (plainName y && visK (sc.names.lookup y)) ((ixOf y C.N).bind fun j => gd ((C.kills pos).contains j && decide (i ≠ j)) (some j))
  | _ => none
def cSet (C : CC) (sc : Scope) (fe : List Fl) (x : Str) (px : Pos) (e : Expr) (pos : Pos) : Option ZR :=
  gd (locK (sc.names.lookup x)) ((ixOf x C.N).bind fun i => gd (decide (i < fe.length)) (
    match moveOf C sc fe i pos e with
    | some j => some (sMove i j, some ((fe.set j .sh).set i (fe.getD j .sh)), none)
    | none => if C.dp pos = true then gd (plainVal e || swapVal sc x px e) ((cDeep C sc fe e).map fun p => (sSet i p.1, some (p.2.set i .deep), none)) else gd (plainVal e || swapVal sc x px e) ((cOwn C sc fe e).map fun p => (sSet i p.1, some (p.2.2.set i (wFl p.2.1)), none))))
def notTuple : Expr → Bool
  | .Tuple _ _ _ => false
  | _ => true
/-- names stored from a tuple that is never made -/
def parB (sc : Scope) (line : Nat) : List Expr → Option (List Str)
  | [] => some []
  | .Name x p :: r => gd ((sc.names.lookup x == some .local) && (p.line == line)) ((parB sc line r).map (x :: ·))
  | _ => none
def cPar (C : CC) (sc : Scope) (fe : List Fl) (ts es : List Expr) : Option ZR :=
  (parB sc ((ts.head?.map (·.pos.line)).getD 0) ts).bind fun xs => gd ((ts.length == 2 || ts.length == 3) && (es.length == ts.length) && decide xs.Nodup && es.all notStar && !(es.all (foldedForSure 8)) && !(es.all (constantsAlone 8)))
    ((mapO (fun x => ixOf x C.N) xs).bind fun is =>
      match mapO (cE eFuel C sc fe .s) es with
      | some zs => some (sPar is zs, some (setSh fe is), none)
      | none => let f2 := es.foldl (freeze C) fe; (mapO (cE eFuel C sc f2 .s) es).map fun zs => (sPar is zs, some (setSh f2 is), none))
def cTup (C : CC) (sc : Scope) (fe : List Fl) (ts : List Expr) (k : Nat) (pt : Pos) : Expr → Option ZR
  | .Tuple es _ _ => cPar C sc fe ts es
  | e => gd (plainVal e) ((cG 9 C sc (.Tuple ts k pt)).bind fun g => (cSh C sc fe e).map fun p => (sUnp g.1 p.1, some (setSh p.2 g.2), none))
def augOp : Operator → Bool
  | .Add => true
  | .Sub => true
  | .Mult => true
  | _ => false
def cAug (C : CC) (sc : Scope) (fe : List Fl) (x : Str) (op : Operator) (e : Expr) : Option ZR :=
  gd (locK (sc.names.lookup x) && augOp op) ((ixOf x C.N).bind fun i => (cE eFuel C sc [] .s e).map fun z => (sAug op i z, some (fe.set i .sh), none))
def cMut (C : CC) (sc : Scope) (fe : List Fl) (x m : Str) (al cl : Nat) (e : Expr) : Option ZR :=
  gd (plainName x && visK (sc.names.lookup x) && (al == cl) && notStar e) ((ixOf x C.N).bind fun i =>
    if (decide (m = "append") && (fe.getD i .sh == .deep)) = true then (cDeep C sc fe e).bind fun p => gd (p.2.getD i .sh == .deep) (some (sApp i p.1, some p.2, none))
    else if m = "append" then (cSh C sc fe e).bind fun p => gd (p.2.getD i .sh == .own) (some (sApp i p.1, some p.2, none))
    else if m = "extend" then gd (fe.getD i .sh == .own) ((cE eFuel C sc fe .c e).map fun z => (sExt i z, some fe, none))
    else none)
def ownName (C : CC) (sc : Scope) (fe : List Fl) : Expr → Option Nat
  | .Name y _ => gd (plainName y && visK (sc.names.lookup y)) ((ixOf y C.N).bind fun j => gd (fe.getD j .sh == .own) (some j))
  | _ => none
def deepName (C : CC) (sc : Scope) (fe : List Fl) : Expr → Option Nat
  | .Name y _ => gd (plainName y && visK (sc.names.lookup y)) ((ixOf y C.N).bind fun j => gd (fe.getD j .sh == .deep) (some j))
  | _ => none
def cRet (C : CC) (sc : Scope) (fl : Fl) (fe : List Fl) (e : Expr) : Option ZS :=
  match fl with
  | .sh => (cSh C sc fe e).map fun p => sRet p.1
  | .own => match ownName C sc fe e with
    | some j => some (sRet (eVar j))
    | none => (cE eFuel C sc fe .w e).map sRet
  | .deep => match deepName C sc fe e with
    | some j => some (sRet (eVar j))
    | none => (cD eFuel C sc fe e).map sRet
/-- y.pop(e) -/
def popOf : Expr → Option (Str × Expr)
  | .Call (.Attribute (.Name y _) m ap) [e] [] cp => gd (decide (m = "pop") && (ap.endLine == cp.line) && notStar e) (some (y, e))
  | _ => none
def cAppPop (C : CC) (sc : Scope) (fe : List Fl) (x m : Str) (al cl : Nat) (y : Str) (e : Expr) : Option ZR :=
  gd (plainName x && visK (sc.names.lookup x) && (al == cl) && plainName y && visK (sc.names.lookup y) && decide (m = "append")) ((ixOf x C.N).bind fun i => (ixOf y C.N).bind fun j =>
    gd (decide (i ≠ j) && (fe.getD i .sh == .own) && (fe.getD j .sh == .own)) ((cE eFuel C sc fe .s e).map fun z => (sAppPop i j z, some fe, none)))
/-- the way to a value within a slot's new objects -/
def cWay : Nat → CC → Scope → List Fl → Expr → Option (ZE × Nat)
  | 0, _, _, _, _ => none
  | _ + 1, C, sc, fe, .Name y _ => gd (plainName y && visK (sc.names.lookup y)) ((ixOf y C.N).bind fun j => gd (fe.getD j .sh == .deep) (some (eVar j, j)))
  | n + 1, C, sc, fe, .Subscript a i _ => gd (notSlice i) ((cWay n C sc fe a).bind fun p => (cE eFuel C sc [] .s i).map fun z => (eIx p.1 z, p.2))
  | _ + 1, _, _, _, _ => none
def wayBase : Expr → Bool
  | .Name _ _ => true
  | .Subscript _ _ _ => true
  | _ => false
def cSpoil (C : CC) (sc : Scope) (fe : List Fl) (r : Expr) (m : Str) (al cl : Nat) (e : Expr) : Option ZR :=
  gd ((al == cl) && notStar e && decide (m = "append") && wayBase r) ((cWay 9 C sc fe r).bind fun p => (cE eFuel C sc [] .s e).map fun z => (sSpoil p.2 p.1 z, some fe, none))
/-- a statement without statements within -/
def cA (C : CC) (sc : Scope) (fl : Fl) (fe : List Fl) : Stmt → Option ZR
  | .Pass _ => some (sNil, some fe, none)
  | .Continue _ => some (sCont, none, some fe)
  | .Raise _ _ _ => some (sNever, none, none)
  | .Return none _ => some (sRetN, none, none)
  | .Return (some e) _ => (cRet C sc fl fe e).map fun z => (z, none, none)
  | .Assign [.Name x px] e pos => cSet C sc fe x px e pos
  | .Assign [.Tuple ts k pt] e _ => cTup C sc fe ts k pt e
  | .AugAssign (.Name x _) op e _ => cAug C sc fe x op e
  | .Expr (.Call (.Attribute (.Name x _) m ap) [e] [] cp) _ => match popOf e with
    | some q => cAppPop C sc fe x m ap.endLine cp.line q.1 q.2
    | none => cMut C sc fe x m ap.endLine cp.line e
  | .Expr (.Call (.Attribute r m ap) [e] [] cp) _ => cSpoil C sc fe r m ap.endLine cp.line e
  | _ => none
def wkB (a b : List Fl) : Bool := (List.range a.length).all fun i => (a.getD i .sh == b.getD i .sh) || (a.getD i .sh == .sh)
def owkB (a : List Fl) : OF → Bool
  | none => true
  | some b => wkB a b
def meetO (a : List Fl) : OF → List Fl
  | none => a
  | some b => meet a b
/-- flags that a loop's body keeps -/
def fixL (f : List Fl → Option ZR) : Nat → List Fl → Option (List Fl × ZS)
  | 0, _ => none
  | k + 1, c => match f c with
    | none => none
    | some (z, fo, co) => if (owkB c fo && owkB c co) = true then some (c, z) else fixL f k (meetO (meetO c fo) co)
mutual
def cS : Nat → CC → Scope → Fl → List Fl → Stmt → Option ZR
  | 0, _, _, _, _, _ => none
  | n + 1, C, sc, fl, fe, .If c a b _ => (cT eFuel C sc c).bind fun t => (cSs n C sc fl fe a).bind fun p => (cSs n C sc fl fe b).map fun q => (sIf t p.1 q.1, joinO p.2.1 q.2.1, joinO p.2.2 q.2.2)
  | n + 1, C, sc, fl, fe, .For tg it body [] pos => gd (notSet it) ((cIter C sc fe tg it).bind fun p => (cG 9 C sc tg).bind fun g =>
      (fixL (fun c => cSs n C sc fl (setSh c g.2) body) 4 p.2).map fun q => (sFor (C.kills pos) g.1 p.1 q.2, some q.1, none))
  | n + 1, C, sc, fl, fe, .While c body [] pos => (cT eFuel C sc c).bind fun t =>
      (fixL (fun c => cSs n C sc fl c body) 4 fe).map fun q => (sWhile (C.kills pos) t q.2, some q.1, none)
  | _ + 1, C, sc, fl, fe, st => cA C sc fl fe st
def cSs : Nat → CC → Scope → Fl → List Fl → List Stmt → Option ZR
  | 0, _, _, _, _, _ => none
  | _ + 1, _, _, _, fe, [] => some (sNil, some fe, none)
  | n + 1, C, sc, fl, fe, st :: r => (cS n C sc fl fe st).bind fun p => match p.2.1 with
    | none => some (p.1, none, p.2.2)
    | some f2 => match r with
      | [] => some p
      | _ :: _ => (cSs n C sc fl f2 r).map fun q => (sSeq p.1 q.1, q.2.1, joinO p.2.2 q.2.2)
end
end Z
/-! Z, part M: statements are worth what they compile to: the single ones. -/
namespace Z
open PySem PySem.Spec PyProof.Rows L2

structure SOk (C : CC) (M : Mx) (X : Cx) (sc : Scope) : Prop extends XOk C M X sc where
  hp : PassesOwn (model X.prog X.w) X.A X.env X.xe
  fnT : ∀ x, X.fn x = true
  kind : X.env.scope.kind = .function

section
variable {C : CC} {M : Mx} {X : Cx} {sc : Scope} {fe fe2 : List Fl} {w : Wt} {fl : Fl} {e : Expr} {z : ZE}
theorem setSh_len (is : List Nat) : ∀ fe : List Fl, (setSh fe is).length = fe.length := by
  induction is with
  | nil => intro fe; rfl
  | cons a is ih => intro fe; exact (ih _).trans (List.length_set ..)
theorem sh_sound (o : XOk C M X sc) {p : ZE × List Fl} (h : cSh C sc fe e = some p) : PE X e (zT M p.2 .s p.1) ∧ Wk p.2 fe ∧ p.2.length = fe.length := by
  unfold cSh at h
  split at h
  · rename_i z hz
    cases h
    exact ⟨(sound C M _).1 X sc fe .s e z o hz, .refl _, rfl⟩
  · obtain ⟨z, h1, h2⟩ := Option.map_eq_some_iff.mp h
    subst h2
    exact ⟨(sound C M _).1 X sc _ .s e z o h1, wk_setSh _ _, setSh_len _ _⟩
theorem own_sound (o : XOk C M X sc) {p : ZE × Wt × List Fl} (h : cOwn C sc fe e = some p) : cE eFuel C sc p.2.2 p.2.1 e = some p.1 ∧ (p.2.1 = .w ∨ p.2.1 = .s) ∧ Wk p.2.2 fe ∧ p.2.2.length = fe.length := by
  unfold cOwn at h
  split at h
  · rename_i z hz
    cases h
    exact ⟨hz, .inl rfl, .refl _, rfl⟩
  · obtain ⟨q, h1, h2⟩ := Option.map_eq_some_iff.mp h
    subst h2
    unfold cSh at h1
    split at h1
    · rename_i z hz
      cases h1
      exact ⟨hz, .inr rfl, .refl _, rfl⟩
    · obtain ⟨z, h3, h4⟩ := Option.map_eq_some_iff.mp h1
      subst h4
      exact ⟨h3, .inr rfl, wk_setSh _ _, setSh_len _ _⟩
theorem deep_sound (o : XOk C M X sc) {p : ZE × List Fl} (h : cDeep C sc fe e = some p) : cD eFuel C sc p.2 e = some p.1 ∧ Wk p.2 fe ∧ p.2.length = fe.length := by
  unfold cDeep at h
  split at h
  · rename_i z hz
    cases h
    exact ⟨hz, .refl _, rfl⟩
  · obtain ⟨z, h1, h2⟩ := Option.map_eq_some_iff.mp h
    subst h2
    exact ⟨h1, wk_setSh _ _, setSh_len _ _⟩
theorem iter_sound (o : XOk C M X sc) {tg : Expr} {p : ZI × List Fl} (h : cIter C sc fe tg e = some p) : PI X tg e (zI M p.2 .s p.1) ∧ Wk p.2 fe ∧ p.2.length = fe.length := by
  unfold cIter at h
  split at h
  · rename_i z hz
    cases h
    exact ⟨(sound C M _).2.1 X sc fe .s tg e z o hz, .refl _, rfl⟩
  · obtain ⟨z, h1, h2⟩ := Option.map_eq_some_iff.mp h
    subst h2
    exact ⟨(sound C M _).2.1 X sc _ .s tg e z o h1, wk_setSh _ _, setSh_len _ _⟩
theorem loc_of (o : XOk C M X sc) {x : Str} (h : locK (sc.names.lookup x) = true) : Loc X.env.scope x := by
  rw [o.sc]
  unfold locK at h
  split at h
  · rename_i q; exact .inl q
  · rename_i q; exact .inr q
  · exact Bool.noConfusion h
theorem vis_of (o : XOk C M X sc) {x : Str} (hv : visK (sc.names.lookup x) = true) : Vis X.env.scope x := by
  rw [o.sc]
  unfold Vis
  unfold visK at hv
  split at hv <;> first | (exact Bool.noConfusion hv) | (simp_all)
theorem nodup_of (o : XOk C M X sc) : X.N.Nodup := by rw [o.n]; exact o.nd
theorem at_of (o : XOk C M X sc) {x : Str} {i : Nat} (h : ixOf x C.N = some i) : X.N[i]? = some x := by rw [o.n]; exact ixOf_get h
/-- what a comprehension is made of -/
theorem comp_parts {n : Nat} {elt tg iter : Expr} {ifs : List Expr} {scope : Scope} {pos : Pos} (o : XOk C M X sc) (h : cE (n + 1) C sc fe w (.ListComp elt [⟨tg, iter, ifs, 0⟩] scope pos) = some z) :
    ∃ (own : List (Str × Nat)) (it : ZI) (g : ZG) (ss : List Nat) (cs : List ZE) (ez : ZE), z = eComp (own.map (·.2)) g it cs ez ∧ w ≠ .d ∧ PI X tg iter (zI M fe .c it) ∧ BlkOk X.N X.env.scope scope own ∧ (∀ i ∈ ss, i ∈ own.map (·.2)) ∧
    (∀ (s : Shared) (H : Hp) (C : Addr) (cl : List (Str × Addr)) (fp : List Addr), PG (X.blk s H scope (compEnvC scope cl C X.env) fp) tg (zG M (setSh fe (own.map (·.2))) g ss)) ∧
    (∀ (s : Shared) (H : Hp) (C : Addr) (cl : List (Str × Addr)) (fp : List Addr), PTs (X.blk s H scope (compEnvC scope cl C X.env) fp) ifs (zTs M cs)) ∧
    (∀ (s : Shared) (H : Hp) (C : Addr) (cl : List (Str × Addr)) (fp : List Addr), PE (X.blk s H scope (compEnvC scope cl C X.env) fp) elt (zT M (setSh (setSh fe (own.map (·.2))) ss) .s ez)) ∧ (∀ x, foldedSetIterable iter X.env x = pure x) := by
  obtain ⟨iE, iI, iT⟩ := sound C M n
  obtain ⟨h1, h⟩ := gd_some h
  obtain ⟨own, h2, h⟩ := Option.bind_eq_some_iff.mp h
  obtain ⟨h3, h⟩ := gd_some h
  obtain ⟨g, h4, h⟩ := Option.bind_eq_some_iff.mp h
  obtain ⟨h5, h⟩ := gd_some h
  obtain ⟨it, h6, h⟩ := Option.bind_eq_some_iff.mp h
  obtain ⟨cs, h7, h⟩ := Option.bind_eq_some_iff.mp h
  obtain ⟨ez, h8, h9⟩ := Option.map_eq_some_iff.mp h
  simp only [Bool.and_eq_true, decide_eq_true_eq] at h1 h3
  have ok : BlkOk X.N X.env.scope scope own := by
    rw [o.n, o.sc]
    exact blkOk_by h3.1
  exact ⟨own, it, g.1, g.2, cs, ez, h9.symm, want_nd h1.1.1, iI X sc fe .c tg iter it o h6, ok, (fun i hi => by simpa using List.all_eq_true.mp h5 i hi),
    (fun s H Cc cl fp => z_tgt (o.blk s H scope cl Cc fp).n (o.blk s H scope cl Cc fp).nd (o.blk s H scope cl Cc fp).k (o.blk s H scope cl Cc fp).calm (LocOk.blk s H scope cl Cc fp) 9 tg g _ h4),
    (fun s H Cc cl fp => z_tests h1.2 (fun e z h => iT _ _ e z (o.blk s H scope cl Cc fp) h) h7),
    (fun s H Cc cl fp => iE _ _ _ .s elt ez (o.blk s H scope cl Cc fp) h8), notSet_folded h1.1.2⟩
theorem set_read {i : Nat} (hw : w = .w ∨ w = .s) (hi : i < fe.length) (D : Ends) (σ : L2.St) (H : Hp) (h : zS M fe (some (fe.set i (wFl w))) none fl (sSet i z) D σ H) : zT M fe w z σ H (fun x H1 => gName i x σ H1 D.nx) := by
  obtain ⟨H0, F0, F, ρ, fps, s, q⟩ := h
  unfold sSet at q
  cases hz : z ρ with
  | no => rw [hz] at q; exact q.elim
  | ex c d => rw [hz] at q; exact q.elim
  | ok d =>
    rw [hz] at q
    refine ⟨H0, F0, F, ρ, fps, d, s, hz, fun v H' F' g r => ?_⟩
    rcases hw with rfl | rfl
    · obtain ⟨fp, x, fr⟩ := r
      obtain ⟨fps', s'⟩ := s.putO g hi x fr
      exact q _ rfl _ _ F' fps' s'
    · exact q _ rfl _ _ F' _ ((s.grow g).put r)
theorem set_readD {i : Nat} (hi : i < fe.length) (D : Ends) (σ : L2.St) (H : Hp) (h : zS M fe (some (fe.set i .deep)) none fl (sSet i z) D σ H) : zT M fe .d z σ H (fun x H1 => gName i x σ H1 D.nx) := by
  obtain ⟨H0, F0, F, ρ, fps, s, q⟩ := h
  unfold sSet at q
  cases hz : z ρ with
  | no => rw [hz] at q; exact q.elim
  | ex c d => rw [hz] at q; exact q.elim
  | ok d =>
    rw [hz] at q
    refine zT_goD s hz fun v H' F' fp g _ r fr => ?_
    obtain ⟨fps', s'⟩ := s.putD g hi r fr
    exact q _ rfl _ _ F' fps' s'
theorem look_ok {ρ : Env} {j : Nat} {d : D} (h : look ρ j = .ok d) : ρ[j]? = some (some d) := by
  unfold look at h
  split at h
  · rename_i q; cases h; exact q
  · cases h
theorem move_read {i j : Nat} (hij : i ≠ j) (hi : i < fe.length) (D : Ends) (σ : L2.St) (H : Hp) (h : zS M fe (some ((fe.set j .sh).set i (fe.getD j .sh))) none fl (sMove i j) D σ H) : ∃ v, σ[j]? = some (some v) ∧ D.nx (σ.set i (some v)) H := by
  obtain ⟨H0, F0, F, ρ, fps, s, q⟩ := h
  unfold sMove at q
  cases hz : look ρ j with
  | no => rw [hz] at q; exact q.elim
  | ex c d => rw [hz] at q; exact q.elim
  | ok d =>
    rw [hz] at q
    have hz := look_ok hz
    obtain ⟨v, hv, hx⟩ := s.slot j d hz
    obtain ⟨fps', s'⟩ := s.move hij hi hz hv
    exact ⟨v, hv, q _ rfl _ _ F fps' s'⟩
theorem set_sound (o : SOk C M X sc) {x : Str} {px pos : Pos} {r : ZR} (h : cSet C sc fe x px e pos = some r) : PS X (.Assign [.Name x px] e pos) (zS M fe r.2.1 r.2.2 fl r.1) := by
  obtain ⟨hl, h⟩ := gd_some h
  obtain ⟨i, hi, h⟩ := Option.bind_eq_some_iff.mp h
  obtain ⟨hil, h⟩ := gd_some h
  have hil := of_decide_eq_true hil
  have lc := loc_of o.toXOk hl
  have ia := at_of o.toXOk hi
  split at h
  · rename_i j hm
    cases h
    unfold moveOf at hm
    split at hm
    · rename_i y q
      obtain ⟨h1, hm⟩ := gd_some hm
      obtain ⟨j', hj, hm⟩ := Option.bind_eq_some_iff.mp hm
      obtain ⟨h2, hm⟩ := gd_some hm
      cases hm
      rw [Bool.and_eq_true] at h1
      simp only [Bool.and_eq_true, decide_eq_true_eq] at h2
      obtain ⟨p1, p2⟩ := plain_parts h1.1
      refine PS.imp (ps_set (i := i) (nodup_of o.toXOk) ia lc (pe_var (i := j) (at_of o.toXOk hj) (vis_of o.toXOk h1.2) p1 (by
        have := h1.1
        unfold plainName at this
        simp only [Bool.and_eq_true, Bool.not_eq_true'] at this
        exact this.1.2)) rfl (.inl (o.fnT x))) fun D σ H z => move_read h2.2 hil D σ H z
    · cases hm
  · split at h
    · obtain ⟨hp, h⟩ := gd_some h
      obtain ⟨p, h1, h2⟩ := Option.map_eq_some_iff.mp h
      subst h2
      obtain ⟨h1, q3, q4⟩ := deep_sound o.toXOk h1
      have il : i < p.2.length := by rw [q4]; exact hil
      refine zS.pre ?_ q3
      rw [Bool.or_eq_true] at hp
      rcases hp with hp | hp
      · have pe := soundD C M _ X sc _ e _ o.toXOk h1
        exact PS.imp (ps_set (i := i) (nodup_of o.toXOk) ia lc pe (by cases e <;> first | rfl | (exact Bool.noConfusion hp)) (.inl (o.fnT x))) fun D σ H z => set_readD il D σ H z
      · unfold swapVal at hp
        split at hp
        · simp only [Bool.and_eq_true, beq_iff_eq, Bool.not_eq_true'] at hp
          obtain ⟨own, it, g, ss, cs, ez, e0, a1, a2, a3, a4, a5, a6, a7⟩ := comp_partsD (n := 59) (soundD C M 59) o.toXOk h1
          have nm : X.env.scope.names.lookup x = some .local := by rw [o.sc]; exact hp.1.1
          refine PS.imp (ps_setLc o.calm (nodup_of o.toXOk) ia nm (sw_true o.kind nm (by simpa using hp.1.2) hp.2) a1 a2 a4 a5 a6 a7) fun D σ H z => ?_
          have z := set_readD il D σ H z
          rw [e0] at z
          exact comp_readD a3 _ _ _ z
        · exact Bool.noConfusion hp
    obtain ⟨hp, h⟩ := gd_some h
    obtain ⟨p, h1, h2⟩ := Option.map_eq_some_iff.mp h
    subst h2
    obtain ⟨q1, q2, q3, q4⟩ := own_sound o.toXOk h1
    have il : i < p.2.2.length := by rw [q4]; exact hil
    refine zS.pre ?_ q3
    rw [Bool.or_eq_true] at hp
    rcases hp with hp | hp
    · have pe := (sound C M _).1 X sc _ _ e _ o.toXOk q1
      exact PS.imp (ps_set (i := i) (nodup_of o.toXOk) ia lc pe (by cases e <;> first | rfl | (exact Bool.noConfusion hp)) (.inl (o.fnT x))) fun D σ H z => set_read q2 il D σ H z
    · unfold swapVal at hp
      split at hp
      · simp only [Bool.and_eq_true, beq_iff_eq, Bool.not_eq_true'] at hp
        obtain ⟨own, it, g, ss, cs, ez, e0, hw, a1, a2, a3, a4, a5, a6, a7⟩ := comp_parts (n := 59) o.toXOk q1
        have nm : X.env.scope.names.lookup x = some .local := by rw [o.sc]; exact hp.1.1
        refine PS.imp (ps_setLc o.calm (nodup_of o.toXOk) ia nm (sw_true o.kind nm (by simpa using hp.1.2) hp.2) a1 a2 a4 a5 a6 a7) fun D σ H z => ?_
        have z := set_read q2 il D σ H z
        rw [e0] at z
        exact comp_read hw a3 _ _ _ z
      · exact Bool.noConfusion hp
end
end Z
/-! Z, part N: the other single statements. -/
namespace Z
open PySem PySem.Spec PyProof.Rows L2

section
variable {C : CC} {M : Mx} {X : Cx} {sc : Scope} {fe fe2 : List Fl} {w : Wt} {fl : Fl} {e : Expr} {z : ZE}
theorem locOk (o : SOk C M X sc) : LocOk sc X := fun x h => ⟨loc_of o.toXOk h, .inl (o.fnT x)⟩
theorem unp_read {g : ZG} {ss : List Nat} (D : Ends) (σ : L2.St) (H : Hp) (h : zS M fe (some (setSh fe ss)) none fl (sUnp g z) D σ H) : tAsg (zT M fe .s z) (zG M fe g ss) D σ H := by
  obtain ⟨H0, F0, F, ρ, fps, s, q⟩ := h
  unfold sUnp at q
  cases hz : z ρ with
  | no => rw [hz] at q; exact q.elim
  | ex c d => rw [hz] at q; exact q.elim
  | ok d =>
    rw [hz] at q
    rw [ofR_ok] at q
    cases hg : g d ρ with
    | no => rw [hg] at q; exact q.elim
    | ex c d => rw [hg] at q; exact q.elim
    | ok ρ' =>
      rw [hg] at q
      refine zT_go s hz fun v H1 F1 g1 s1 r1 => ⟨H0, F0, F1, ρ, fps, d, ρ', s1, r1, hg, fun σ' fps' s' _ => q _ rfl _ _ F1 fps' s'⟩
theorem par_read2 {i j : Nat} {zs : List ZE} (D : Ends) (σ : L2.St) (H : Hp) (hz : zs.length = 2) (h : zS M fe (some (setSh fe [i, j])) none fl (sPar [i, j] zs) D σ H) : tPar i j (zAw M fe .s zs) D σ H := by
  obtain ⟨H0, F0, F, ρ, fps, s, q⟩ := h
  unfold sPar at q
  cases he : eArgs zs ρ with
  | no => rw [he] at q; exact q.elim
  | ex c d => rw [he] at q; exact q.elim
  | ok ds =>
    rw [he] at q
    refine ⟨H0, F0, F, ρ, fps, ds, s, he, fun vs H1 F1 g1 r1 => ?_⟩
    have hl := eArgs_len he
    rw [hz] at hl
    match ds, hl, vs, r1 with
    | [d1, d2], _, _, .cons a (.cons b .nil) => exact ⟨_, _, rfl, q _ rfl _ _ F1 _ (((s.grow g1).put a).put b)⟩
theorem par_read3 {i j l : Nat} {zs : List ZE} (D : Ends) (σ : L2.St) (H : Hp) (hz : zs.length = 3) (h : zS M fe (some (setSh fe [i, j, l])) none fl (sPar [i, j, l] zs) D σ H) : tPar3 i j l (zAw M fe .s zs) D σ H := by
  obtain ⟨H0, F0, F, ρ, fps, s, q⟩ := h
  unfold sPar at q
  cases he : eArgs zs ρ with
  | no => rw [he] at q; exact q.elim
  | ex c d => rw [he] at q; exact q.elim
  | ok ds =>
    rw [he] at q
    refine ⟨H0, F0, F, ρ, fps, ds, s, he, fun vs H1 F1 g1 r1 => ?_⟩
    have hl := eArgs_len he
    rw [hz] at hl
    match ds, hl, vs, r1 with
    | [d1, d2, d3], _, _, .cons a (.cons b (.cons c .nil)) => exact ⟨_, _, _, rfl, q _ rfl _ _ F1 _ ((((s.grow g1).put a).put b).put c)⟩
theorem star_none : ∀ {es : List Expr}, es.all notStar = true → (es.any fun | .Starred .. => true | _ => false) = false
  | [], _ => rfl
  | e :: es, h => by
    rw [List.all_cons, Bool.and_eq_true] at h
    rw [List.any_cons, star_none h.2, Bool.or_false]
    cases e <;> first | rfl | (exact Bool.noConfusion h.1)
theorem parB_names {line : Nat} {env : PySem.Env} (he : env.scope = sc) : ∀ {ts : List Expr} {xs : List Str}, parB sc line ts = some xs →
    (ts.filterMap fun | .Name id pos => if env.kindOf id == some .local && pos.line == line then some id else none | _ => none) = xs ∧ xs.length = ts.length ∧ (∀ x ∈ xs, sc.names.lookup x = some .local) ∧ ∃ ps : List Pos, ts = List.zipWith (fun x p => Expr.Name x p) xs ps ∧ ps.length = xs.length
  | [], xs, h => by cases h; exact ⟨rfl, rfl, fun _ h => (List.not_mem_nil h).elim, [], rfl, rfl⟩
  | t :: ts, xs, h => by
    cases t with
    | Name x p =>
      obtain ⟨h1, h⟩ := gd_some h
      obtain ⟨xr, h2, h3⟩ := Option.map_eq_some_iff.mp h
      subst h3
      obtain ⟨i1, i2, i3, ps, i4, i5⟩ := parB_names he h2
      simp only [Bool.and_eq_true, beq_iff_eq] at h1
      have hk : env.kindOf x = some .local := by
        show env.scope.names.lookup x = _
        rw [he]; exact h1.1
      refine ⟨?_, by rw [List.length_cons, List.length_cons, i2], fun y hy => ?_, p :: ps, by rw [i4]; rfl, by rw [List.length_cons, List.length_cons, i5]⟩
      · rw [List.filterMap_cons]
        dsimp only
        rw [hk, if_pos (by simp [h1.2])]
        dsimp only
        rw [i1]
      · rcases List.mem_cons.mp hy with hy | hy
        · rw [hy]; exact h1.1
        · exact i3 y hy
    | _ => cases h
theorem dedup_len : ∀ {xs : List Str}, xs.Nodup → xs.eraseDups = xs
  | [], _ => rfl
  | x :: xs, h => by
    obtain ⟨h1, h2⟩ := List.nodup_cons.mp h
    rw [List.eraseDups_cons]
    have e : xs.filter (fun b => !b == x) = xs := List.filter_eq_self.mpr fun a ha => by
      have : a ≠ x := fun z => h1 (by rw [← z]; exact ha)
      simpa using this
    rw [e, dedup_len h2]
theorem swapped_of {ts es : List Expr} {k k2 : Nat} {pt pt2 : Pos} {env : PySem.Env} {xs : List Str} (hk : env.scope.kind = .function) (he : env.scope = sc) (hp : parB sc ((ts.head?.map (·.pos.line)).getD 0) ts = some xs)
    (hl : (ts.length == 2 || ts.length == 3) = true) (h2 : (es.length == ts.length) = true) (hn : xs.Nodup) (hs : es.all notStar = true) (hf : es.all (foldedForSure 8) = false) (hc : es.all (constantsAlone 8) = false) :
    swappedStores [.Tuple ts k pt] (.Tuple es k2 pt2) env = pure (some xs) := by
  obtain ⟨a, b, _, _⟩ := parB_names (env := env) he hp
  have hb : env.blockKind = .function := by unfold Env.blockKind; rw [hk]; rfl
  have h2 : es.length = ts.length := by simpa using h2
  unfold swappedStores
  dsimp only
  rw [hb, hl]
  have e1 : (!true || es.length != ts.length || ScopeKind.function != ScopeKind.function) = false := by rw [h2]; simp
  have e2 : (xs.length != ts.length || xs.eraseDups.length != xs.length) = false := by rw [dedup_len hn, b]; simp
  refine (if_neg (fun z => Bool.noConfusion (e1.symm.trans z))).trans ?_
  refine (if_neg (fun z => Bool.noConfusion ((star_none hs).symm.trans z))).trans ?_
  have go : ∀ ys : List Str, ys = xs → (if (ys.length != ts.length || ys.eraseDups.length != ys.length) = true then pure none else if es.all (foldedForSure 8) = true then pure none else if es.all (constantsAlone 8) = true then (do let _ ← (unsupported "assign.tuple-of-constant-expressions:order-of-the-stores" : Sem PUnit); pure (some ys)) else pure (some ys) : Sem (Option (List Str))) = pure (some xs) := fun ys hy => by
    subst hy
    rw [e2, hf, hc]
    rfl
  exact go _ a
end
end Z
/-! Z, part O: single statements, all. -/
namespace Z
open PySem PySem.Spec PyProof.Rows L2

section
variable {C : CC} {M : Mx} {X : Cx} {sc : Scope} {fe fe2 : List Fl} {w : Wt} {fl : Fl} {e : Expr} {z : ZE}
theorem plainVal_sw {o : Option Expr} {line : Nat} {env : PySem.Env} (h : plainVal e = true) : swapsWith e o line env = pure false := by
  cases e <;> first | rfl | (exact Bool.noConfusion h)
theorem foldl_freeze (C : CC) : ∀ (es : List Expr) (fe : List Fl), Wk (es.foldl (freeze C) fe) fe
  | [], fe => .refl _
  | e :: es, fe => (foldl_freeze C es (freeze C fe e)).trans (wk_setSh _ _)
theorem par_done (o : SOk C M X sc) {ts es : List Expr} {k k2 : Nat} {pt pt2 pos : Pos} {xs : List Str} {is : List Nat} {zs : List ZE} (hp : parB sc ((ts.head?.map (·.pos.line)).getD 0) ts = some xs)
    (hc : ((ts.length == 2 || ts.length == 3) && (es.length == ts.length) && decide xs.Nodup && es.all notStar && !(es.all (foldedForSure 8)) && !(es.all (constantsAlone 8))) = true)
    (hi : mapO (fun x => ixOf x C.N) xs = some is) (hz : mapO (cE eFuel C sc fe .s) es = some zs) : PS X (.Assign [.Tuple ts k pt] (.Tuple es k2 pt2) pos) (zS M fe (some (setSh fe is)) none fl (sPar is zs)) := by
  simp only [Bool.and_eq_true, Bool.not_eq_true', decide_eq_true_eq] at hc
  obtain ⟨⟨⟨⟨⟨c1, c2⟩, c3⟩, c4⟩, c5⟩, c6⟩ := hc
  have sw := swapped_of (k := k) (k2 := k2) (pt := pt) (pt2 := pt2) o.kind o.sc hp c1 c2 c3 c4 c5 c6
  obtain ⟨_, a2, a3, ps, a4, a5⟩ := parB_names (env := X.env) o.sc hp
  have pa := z_args (M := M) (X := X) (fe := fe) (w := .s) (.inr rfl) (fun e _ z => (sound C M eFuel).1 X sc fe .s e z o.toXOk) c4 hz
  have lz := mapO_len hz
  have li := mapO_len hi
  have e2 : es.length = ts.length := by simpa using c2
  have nm : ∀ x ∈ xs, X.env.scope.names.lookup x = some .local := fun x hx => by rw [o.sc]; exact a3 x hx
  have sole : swapsWithSole [.Tuple ts k pt] (.Tuple es k2 pt2) pos.line X.env = pure false := rfl
  have nd := nodup_of o.toXOk
  rw [Bool.or_eq_true, beq_iff_eq, beq_iff_eq] at c1
  rcases c1 with c1 | c1
  · match xs, ps, is, es, a2, a5, li, e2, a4 with
    | [x, y], [p, q], [i, j], [a, b], _, _, _, _, a4 =>
      subst a4
      obtain ⟨i', h1, hi⟩ := Option.bind_eq_some_iff.mp hi
      obtain ⟨is', hi, h2⟩ := Option.map_eq_some_iff.mp hi
      cases h2
      obtain ⟨j', h3, hi⟩ := Option.bind_eq_some_iff.mp hi
      obtain ⟨is'', hi, h4⟩ := Option.map_eq_some_iff.mp hi
      cases h4
      have ne : i ≠ j := fun z => by
        subst z
        have := (ixOf_get h1).symm.trans (ixOf_get h3)
        simp at this
        simp [this] at c3
      exact PS.imp (ps_par o.calm nd (at_of o.toXOk h1) (at_of o.toXOk h3) ne (nm x (by simp)) (nm y (by simp)) pa sw sole) fun D σ H z => par_read2 D σ H (by rw [lz]; rfl) z
    | [], _, _, _, a2, _, _, _, _ => rw [c1] at a2; simp at a2
    | [_], _, _, _, a2, _, _, _, _ => rw [c1] at a2; simp at a2
    | _ :: _ :: _ :: _, _, _, _, a2, _, _, _, _ => rw [c1] at a2; simp at a2
    | [_, _], [], _, _, _, a5, _, _, _ => simp at a5
    | [_, _], [_], _, _, _, a5, _, _, _ => simp at a5
    | [_, _], _ :: _ :: _ :: _, _, _, _, a5, _, _, _ => simp at a5
    | [_, _], [_, _], [], _, _, _, li, _, _ => simp at li
    | [_, _], [_, _], [_], _, _, _, li, _, _ => simp at li
    | [_, _], [_, _], _ :: _ :: _ :: _, _, _, _, li, _, _ => simp at li
    | [_, _], [_, _], [_, _], [], _, _, _, e2, _ => rw [c1] at e2; simp at e2
    | [_, _], [_, _], [_, _], [_], _, _, _, e2, _ => rw [c1] at e2; simp at e2
    | [_, _], [_, _], [_, _], _ :: _ :: _ :: _, _, _, _, e2, _ => rw [c1] at e2; simp at e2
  · match xs, ps, is, es, a2, a5, li, e2, a4 with
    | [x, y, u], [p, q, r], [i, j, l], [a, b, c], _, _, _, _, a4 =>
      subst a4
      obtain ⟨i', h1, hi⟩ := Option.bind_eq_some_iff.mp hi
      obtain ⟨is', hi, h2⟩ := Option.map_eq_some_iff.mp hi
      cases h2
      obtain ⟨j', h3, hi⟩ := Option.bind_eq_some_iff.mp hi
      obtain ⟨is'', hi, h4⟩ := Option.map_eq_some_iff.mp hi
      cases h4
      obtain ⟨l', h5, hi⟩ := Option.bind_eq_some_iff.mp hi
      obtain ⟨is''', hi, h6⟩ := Option.map_eq_some_iff.mp hi
      cases h6
      have ne : ∀ {i j : Nat} {x y : Str}, ixOf x C.N = some i → ixOf y C.N = some j → x ≠ y → i ≠ j := fun h1 h3 hn z => by
        subst z
        have := (ixOf_get h1).symm.trans (ixOf_get h3)
        simp at this
        exact hn this
      simp only [List.nodup_cons, List.mem_cons, List.not_mem_nil, or_false, not_or] at c3
      exact PS.imp (ps_par3 o.calm nd (at_of o.toXOk h1) (at_of o.toXOk h3) (at_of o.toXOk h5) (ne h1 h3 c3.1.1) (ne h1 h5 c3.1.2) (ne h3 h5 c3.2.1) (nm x (by simp)) (nm y (by simp)) (nm u (by simp)) pa sw sole) fun D σ H z => par_read3 D σ H (by rw [lz]; rfl) z
    | [], _, _, _, a2, _, _, _, _ => rw [c1] at a2; simp at a2
    | [_], _, _, _, a2, _, _, _, _ => rw [c1] at a2; simp at a2
    | [_, _], _, _, _, a2, _, _, _, _ => rw [c1] at a2; simp at a2
    | _ :: _ :: _ :: _ :: _, _, _, _, a2, _, _, _, _ => rw [c1] at a2; simp at a2
    | [_, _, _], [], _, _, _, a5, _, _, _ => simp at a5
    | [_, _, _], [_], _, _, _, a5, _, _, _ => simp at a5
    | [_, _, _], [_, _], _, _, _, a5, _, _, _ => simp at a5
    | [_, _, _], _ :: _ :: _ :: _ :: _, _, _, _, a5, _, _, _ => simp at a5
    | [_, _, _], [_, _, _], [], _, _, _, li, _, _ => simp at li
    | [_, _, _], [_, _, _], [_], _, _, _, li, _, _ => simp at li
    | [_, _, _], [_, _, _], [_, _], _, _, _, li, _, _ => simp at li
    | [_, _, _], [_, _, _], _ :: _ :: _ :: _ :: _, _, _, _, li, _, _ => simp at li
    | [_, _, _], [_, _, _], [_, _, _], [], _, _, _, e2, _ => rw [c1] at e2; simp at e2
    | [_, _, _], [_, _, _], [_, _, _], [_], _, _, _, e2, _ => rw [c1] at e2; simp at e2
    | [_, _, _], [_, _, _], [_, _, _], [_, _], _, _, _, e2, _ => rw [c1] at e2; simp at e2
    | [_, _, _], [_, _, _], [_, _, _], _ :: _ :: _ :: _ :: _, _, _, _, e2, _ => rw [c1] at e2; simp at e2
theorem tup_sound (o : SOk C M X sc) {ts : List Expr} {k : Nat} {pt pos : Pos} {r : ZR} (h : cTup C sc fe ts k pt e = some r) : PS X (.Assign [.Tuple ts k pt] e pos) (zS M fe r.2.1 r.2.2 fl r.1) := by
  have gen : (gd (plainVal e) ((cG 9 C sc (.Tuple ts k pt)).bind fun g => (cSh C sc fe e).map fun p => (sUnp g.1 p.1, some (setSh p.2 g.2), (none : OF)))) = some r → notTuple e = true → PS X (.Assign [.Tuple ts k pt] e pos) (zS M fe r.2.1 r.2.2 fl r.1) := fun h hn => by
    obtain ⟨h1, h⟩ := gd_some h
    obtain ⟨g, h2, h⟩ := Option.bind_eq_some_iff.mp h
    obtain ⟨p, h3, h4⟩ := Option.map_eq_some_iff.mp h
    subst h4
    obtain ⟨q1, q2, q3⟩ := sh_sound o.toXOk h3
    refine zS.pre ?_ q2
    have pg := z_tgt (M := M) o.n o.nd o.k o.calm (locOk o) 9 (.Tuple ts k pt) g p.2 h2
    exact PS.imp (ps_asg q1 pg (by cases e <;> first | rfl | (exact Bool.noConfusion h1)) (by cases e <;> first | rfl | (exact Bool.noConfusion hn)) rfl) fun D σ H z => unp_read D σ H z
  cases e with
  | Tuple es k2 pt2 =>
    obtain ⟨xs, h1, h⟩ := Option.bind_eq_some_iff.mp h
    obtain ⟨h2, h⟩ := gd_some h
    obtain ⟨is, h3, h⟩ := Option.bind_eq_some_iff.mp h
    split at h
    · rename_i zs hz
      cases h
      exact par_done o h1 h2 h3 hz
    · obtain ⟨zs, hz, h4⟩ := Option.map_eq_some_iff.mp h
      subst h4
      exact zS.pre (par_done o h1 h2 h3 hz) (foldl_freeze C es fe)
  | _ => exact gen h rfl
/-- op= of atoms -/
theorem aug_rule {op : Operator} (h : augOp op = true) : ∃ r : R2, OpR X (inplaceOp op) r ∧ ∀ (H F : Hp) (a b d : D) (x y : V) (Q : VK), isAtom a = true → isAtom b = true → binD op a b = .ok d → Rep M F a x → Rep M H b y → (∀ v, isAtom d = true → (∀ F, Rep M F d v) → Q v H) → r x y H Q := by
  cases op with
  | Add =>
    refine ⟨_, iop_add.or iop_add_str, fun H F a b d x y Q ha hb e ra rb k => ?_⟩
    cases a with
    | int i => cases b with
      | int j =>
        cases e
        simp only [Rep] at ra rb
        exact .inl ⟨i, j, ra, rb, k _ rfl fun F => by simp only [Rep]⟩
      | _ => cases e
    | str i => cases b with
      | str j =>
        obtain ⟨h1, h2⟩ := chk_ok e
        cases h2
        simp only [Rep] at ra rb
        exact .inr ⟨i, j, ra, rb, of_decide_eq_true h1, k _ rfl fun F => by simp only [Rep]⟩
      | _ => cases e
    | lst _ => exact Bool.noConfusion ha
    | tup _ => exact Bool.noConfusion ha
    | _ => cases e
  | Sub =>
    refine ⟨_, iop_sub, fun H F a b d x y Q ha hb e ra rb k => ?_⟩
    cases a with
    | int i => cases b with
      | int j =>
        cases e
        simp only [Rep] at ra rb
        exact ⟨i, j, ra, rb, k _ rfl fun F => by simp only [Rep]⟩
      | _ => cases e
    | _ => cases e
  | Mult =>
    refine ⟨_, iop_mul, fun H F a b d x y Q ha hb e ra rb k => ?_⟩
    cases a with
    | int i => cases b with
      | int j =>
        obtain ⟨h1, h2⟩ := chk_ok e
        cases h2
        simp only [Rep] at ra rb
        exact ⟨i, j, ra, rb, cmul_of (of_decide_eq_true h1), k _ rfl fun F => by simp only [Rep]⟩
      | _ => cases e
    | lst _ => exact Bool.noConfusion ha
    | _ => cases e
  | _ => exact Bool.noConfusion h
theorem atom_rep2 {H F : Hp} {fl : Fl} {d : D} {v : V} {fp : List Addr} (ha : isAtom d = true) (x : Val M H F fl d v fp) (K : Hp) : Rep M K d v := by
  cases fl with
  | sh => exact atom_rep ha x
  | own => cases d <;> first | (exact Bool.noConfusion ha) | (have x : Rep M F _ v := x; simpa only [Rep] using x)
  | deep => cases d <;> first | (exact Bool.noConfusion ha) | (have x : RepD M H fp _ v := x; simpa only [Rep, RepD] using x)
theorem outOk_ok {α : Type} {H0 F0 : Hp} {fo co : OF} {D : Ends} {r : R α} {f : α → Out} (h : outOk M H0 F0 fo co fl D (ofR r f)) : ∃ a, r = .ok a ∧ outOk M H0 F0 fo co fl D (f a) := by
  cases r with
  | ok a => exact ⟨a, rfl, h⟩
  | ex c d => exact h.elim
  | no => exact h.elim
theorem aug_read {op : Operator} {r : R2} {i : Nat} (hr : ∀ (H F : Hp) (a b d : D) (x y : V) (Q : VK), isAtom a = true → isAtom b = true → binD op a b = .ok d → Rep M F a x → Rep M H b y → (∀ v, isAtom d = true → (∀ F, Rep M F d v) → Q v H) → r x y H Q)
    (D : Ends) (σ : L2.St) (H : Hp) (h : zS M fe (some (fe.set i .sh)) none fl (sAug op i z) D σ H) : tAug i (zT M [] .s z) r D σ H := by
  obtain ⟨H0, F0, F, ρ, fps, s, q⟩ := h
  obtain ⟨dx, hx, q⟩ := outOk_ok q
  obtain ⟨dy, hz, q⟩ := outOk_ok q
  obtain ⟨d, hc, q⟩ := outOk_ok q
  obtain ⟨c1, c2⟩ := chk_ok hc
  rw [Bool.and_eq_true] at c1
  obtain ⟨v, hv, xv⟩ := s.slot i dx (look_ok hx)
  refine ⟨v, hv, lend s hz fun u H1 g s1 r1 => ?_⟩
  exact hr H1 F dx dy d v u _ c1.1 c1.2 c2 (atom_rep2 c1.1 xv F) r1 fun v' ha rv => q _ rfl _ _ F _ (s1.put (rv F))
theorem app_read {i : Nat} (hf : fe.getD i .sh = .own) (D : Ends) (σ : L2.St) (H : Hp) (h : zS M fe (some fe) none fl (sApp i z) D σ H) :
    tBM M.K "list" rAppend (tVar i) (tCons (zT M fe .s z) tNil) σ H fun _ H1 => D.nx σ H1 := by
  obtain ⟨H0, F0, F, ρ, fps, s, q⟩ := h
  obtain ⟨d, hz, q⟩ := outOk_ok q
  obtain ⟨dx, hx, q⟩ := outOk_ok q
  obtain ⟨d2, hc, q⟩ := outOk_ok q
  cases dx with
  | lst xs =>
    obtain ⟨k1, k2⟩ := chk_ok hc
    cases k2
    obtain ⟨a, vs, ha, hH, zv, _⟩ := s.wrL hf (look_ok hx)
    refine ⟨_, ha, .inl ⟨rfl, _, SqL.of hH⟩, ?_⟩
    refine zT_go s hz fun y H1 F1 g1 s1 r1 => ?_
    obtain ⟨a', vs', ha', hH', zv', wr⟩ := s1.wrL hf (look_ok hx)
    rw [ha] at ha'
    cases ha'
    exact ⟨_, vs', y, rfl, rfl, hH', by rw [← zv'.len]; exact of_decide_eq_true k1, q _ rfl _ _ F1 _ (wr _ _ (zv'.append (Reps.cons r1 (by simp only [Reps]))))⟩
  | _ => cases hc
theorem app_readD {i : Nat} (hf : fe.getD i .sh = .deep) (D : Ends) (σ : L2.St) (H : Hp) (h : zS M fe (some fe) none fl (sApp i z) D σ H) :
    tBM M.K "list" rAppend (tVar i) (tCons (zT M fe .d z) tNil) σ H fun _ H1 => D.nx σ H1 := by
  obtain ⟨H0, F0, F, ρ, fps, s, q⟩ := h
  obtain ⟨d, hz, q⟩ := outOk_ok q
  obtain ⟨dx, hx, q⟩ := outOk_ok q
  obtain ⟨d2, hc, q⟩ := outOk_ok q
  cases dx with
  | lst xs =>
    obtain ⟨k1, k2⟩ := chk_ok hc
    cases k2
    obtain ⟨v, hv, xv⟩ := s.slot i _ (look_ok hx)
    rw [hf] at xv
    have xv : RepD M H (fps i) (.lst xs) v := xv
    simp only [RepD] at xv
    obtain ⟨a, vs, rfl, ma, qa, za⟩ := xv
    refine ⟨_, hv, .inl ⟨rfl, _, SqL.of qa⟩, ?_⟩
    refine zT_goD s hz fun y H1 F1 fp g1 s1 r1 f1 => ?_
    obtain ⟨a', vs', ha', _, hH', hl, fps', s'⟩ := s.appD (d := d) g1 hf (look_ok hx) r1 f1
    rw [hv] at ha'
    cases ha'
    exact ⟨_, vs', y, rfl, rfl, hH', by rw [hl]; exact of_decide_eq_true k1, q _ rfl _ _ F1 _ s'⟩
  | _ => cases hc
theorem seqIx {i : Int} {n : Nat} (h : 0 ≤ i) (hn : i.toNat < n) : seqIndex? i n = some i.toNat := by
  unfold seqIndex?
  have h1 : ¬ i < 0 := by omega
  simp [h1]
  omega
theorem popD_ok {x k : D} {p : D × D} (h : popD x k = .ok p) : ∃ xs i d, x = .lst xs ∧ k = .int i ∧ 0 ≤ i ∧ i < 16777216 ∧ xs[i.toNat]? = some d ∧ p = (d, .lst (xs.eraseIdx i.toNat)) := by
  cases x with
  | lst xs => cases k with
    | int i =>
      obtain ⟨c, h⟩ := chk_ok h
      have c : 0 ≤ i ∧ xs.length ≤ sizeLine := of_decide_eq_true c
      cases hx : xs[i.toNat]? with
      | none => rw [hx] at h; cases h
      | some d =>
        rw [hx] at h
        cases h
        have hlt : i.toNat < xs.length := (List.getElem?_eq_some_iff.mp hx).1
        have e := sizeLine_eq
        exact ⟨xs, i, d, rfl, rfl, c.1, by omega, hx, rfl⟩
    | _ => cases h
  | _ => cases h
theorem Reps.erase {H : Hp} : ∀ {ds : List D} {vs : List V} (i : Nat), Reps M H ds vs → Reps M H (ds.eraseIdx i) (vs.eraseIdx i)
  | [], _, i, h => by simp only [Reps] at h; subst h; simp [Reps]
  | d :: ds, vs, 0, h => by
    simp only [Reps] at h
    obtain ⟨v, r, rfl, q, z⟩ := h
    exact z
  | d :: ds, vs, i + 1, h => by
    simp only [Reps] at h
    obtain ⟨v, r, rfl, q, z⟩ := h
    exact Reps.cons q (Reps.erase i z)
theorem appPop_read {i j : Nat} (hij : i ≠ j) (hi : fe.getD i .sh = .own) (hj : fe.getD j .sh = .own) (D : Ends) (σ : L2.St) (H : Hp) (h : zS M fe (some fe) none fl (sAppPop i j z) D σ H) :
    tBM M.K "list" rAppend (tVar i) (tCons (tBM M.K "list" rPopAt (tVar j) (tCons (zT M fe .s z) tNil)) tNil) σ H fun _ H1 => D.nx σ H1 := by
  obtain ⟨H0, F0, F, ρ, fps, s, q⟩ := h
  obtain ⟨k, hz, q⟩ := outOk_ok q
  obtain ⟨dy, hy, q⟩ := outOk_ok q
  obtain ⟨p, hp, q⟩ := outOk_ok q
  obtain ⟨dx, hx, q⟩ := outOk_ok q
  obtain ⟨d2, hc, q⟩ := outOk_ok q
  obtain ⟨ys, n, d, rfl, rfl, n0, n1, hn, rfl⟩ := popD_ok hp
  cases dx with
  | lst xs =>
    obtain ⟨k1, k2⟩ := chk_ok hc
    cases k2
    obtain ⟨a, vs, ha, hH, zv, _⟩ := s.wrL hi (look_ok hx)
    obtain ⟨b, us, hb, hK, zu, _⟩ := s.wrL hj (look_ok hy)
    refine ⟨_, ha, .inl ⟨rfl, _, SqL.of hH⟩, _, hb, .inl ⟨rfl, _, SqL.of hK⟩, ?_⟩
    refine zT_go s hz fun kv H1 F1 g1 s1 r1 => ?_
    have r1 : Rep M F1 (.int n) kv := r1
    simp only [Rep] at r1
    subst r1
    obtain ⟨b', us', hb', hK', zu', wr⟩ := s1.wrL hj (look_ok hy)
    rw [hb] at hb'
    cases hb'
    obtain ⟨y, hy1, hy2⟩ := zu'.get hn
    have hlt : n.toNat < us'.length := (List.getElem?_eq_some_iff.mp hy1).1
    have s2 := wr _ _ (zu'.erase n.toNat)
    have hx2 : (ρ.set j (some (.lst (ys.eraseIdx n.toNat))))[i]? = some (some (.lst xs)) := by
      rw [List.getElem?_set_ne (Ne.symm hij)]
      exact look_ok hx
    obtain ⟨a', vs', ha', hH', zv', wr2⟩ := s2.wrL hi hx2
    rw [ha] at ha'
    cases ha'
    exact ⟨b, us', n, n.toNat, y, rfl, rfl, hK', by omega, by omega, seqIx n0 hlt, hy1, _, vs', y, rfl, rfl, hH', by rw [← zv'.len]; exact of_decide_eq_true k1, q _ rfl _ _ F1 _ (wr2 _ _ (zv'.append (Reps.cons hy2 (by simp only [Reps]))))⟩
  | _ => cases hc
theorem ext_read {i : Nat} (hf : fe.getD i .sh = .own) (D : Ends) (σ : L2.St) (H : Hp) (h : zS M fe (some fe) none fl (sExt i z) D σ H) :
    tBM M.K "list" rExtend (tVar i) (tCons (zT M fe .c z) tNil) σ H fun _ H1 => D.nx σ H1 := by
  obtain ⟨H0, F0, F, ρ, fps, s, q⟩ := h
  obtain ⟨d, hz, q⟩ := outOk_ok q
  obtain ⟨dx, hx, q⟩ := outOk_ok q
  obtain ⟨d2, hc, q⟩ := outOk_ok q
  cases dx with
  | lst xs => cases d with
    | lst ys =>
      obtain ⟨k1, k2⟩ := chk_ok hc
      cases k2
      obtain ⟨a, vs, ha, hH, zv, _⟩ := s.wrL hf (look_ok hx)
      refine ⟨_, ha, .inl ⟨rfl, _, SqL.of hH⟩, ?_⟩
      refine zT_go s hz fun y H1 F1 g1 s1 r1 => ?_
      obtain ⟨b, us, rfl, hb, zb⟩ := r1
      obtain ⟨a', vs', ha', hH', zv', wr⟩ := s1.wrL hf (look_ok hx)
      rw [ha] at ha'
      cases ha'
      exact ⟨_, b, vs', us, rfl, rfl, hH', hb, by rw [← zv'.len, ← zb.len]; exact of_decide_eq_true k1, q _ rfl _ _ F1 _ (wr _ _ (zv'.append zb))⟩
    | _ => cases hc
  | _ => cases hc
theorem aug_sound (o : SOk C M X sc) {x : Str} {p pos : Pos} {op : Operator} {r : ZR} (h : cAug C sc fe x op e = some r) : PS X (.AugAssign (.Name x p) op e pos) (zS M fe r.2.1 r.2.2 fl r.1) := by
  obtain ⟨h1, h⟩ := gd_some h
  obtain ⟨i, h2, h⟩ := Option.bind_eq_some_iff.mp h
  obtain ⟨z, h3, h4⟩ := Option.map_eq_some_iff.mp h
  subst h4
  rw [Bool.and_eq_true] at h1
  obtain ⟨r, ho, hr⟩ := aug_rule (M := M) (X := X) h1.2
  have pe := (sound C M _).1 X sc _ _ e _ o.toXOk h3
  exact PS.imp (ps_aug (nodup_of o.toXOk) (at_of o.toXOk h2) (loc_of o.toXOk h1.1) pe (ti := r) ho (.inl (o.fnT x))) fun D σ H z => aug_read hr D σ H z
theorem mut_few {cp : Pos} {env : PySem.Env} (hn : notStar e = true) : ((backTo cp (starEach [e] env)).all (fun x => !x.1) && (backToKw cp (keywordEach [] env)).all (fun x => x.1.isSome)
      && decide ([e].length + ([] : List Keyword).length + (if ([] : List Keyword).isEmpty then 0 else 1) < 30)) = true := by
  rw [star_cons hn]
  rfl
theorem mut_sound (o : SOk C M X sc) {x m : Str} {p ap cp pos : Pos} {r : ZR} (h : cMut C sc fe x m ap.endLine cp.line e = some r) : PS X (.Expr (.Call (.Attribute (.Name x p) m ap) [e] [] cp) pos) (zS M fe r.2.1 r.2.2 fl r.1) := by
  obtain ⟨h1, hb⟩ := gd_some h
  obtain ⟨i, h2, hc⟩ := Option.bind_eq_some_iff.mp hb
  simp only [Bool.and_eq_true] at h1
  obtain ⟨⟨⟨c1, c2⟩, c3⟩, c4⟩ := h1
  have cd : (x == ("__classdict__" : Str)) = false := by
    have := c1
    unfold plainName at this
    simp only [Bool.and_eq_true, Bool.not_eq_true'] at this
    exact this.1.2
  have pv := pe_var (pos := p) (i := i) (at_of o.toXOk h2) (vis_of o.toXOk c2) (plain_parts c1).1 cd
  clear h hb
  split at hc
  · rename_i em
    rw [Bool.and_eq_true, decide_eq_true_eq] at em
    obtain ⟨em, h4⟩ := em
    subst em
    obtain ⟨q, h3, hd⟩ := Option.bind_eq_some_iff.mp hc
    obtain ⟨h5, hd⟩ := gd_some hd
    cases hd
    have h5 : q.2.getD i .sh = .deep := by simpa using h5
    obtain ⟨q1, q2, q3⟩ := deep_sound o.toXOk h3
    refine zS.pre ?_ q2
    have pa := pa_cons (soundD C M _ X sc _ e _ o.toXOk q1) pa_nil (star_cons c4)
    exact PS.imp (ps_expr (pe_bm PySem.F.plainAttrs_list PySem.F.slot_list_append PySem.F.type_list_append mt_append pv pa rfl (mut_few c4) c3 (star_cons c4) rfl) rfl) fun D σ H z => by
      rw [o.k]
      exact app_readD h5 D σ H z
  split at hc
  · rename_i em
    subst em
    obtain ⟨q, h3, hd⟩ := Option.bind_eq_some_iff.mp hc
    obtain ⟨h4, hd⟩ := gd_some hd
    cases hd
    have h4 : q.2.getD i .sh = .own := by simpa using h4
    obtain ⟨q1, q2, q3⟩ := sh_sound o.toXOk h3
    refine zS.pre ?_ q2
    have pa := pa_cons q1 pa_nil (star_cons c4)
    exact PS.imp (ps_expr (pe_bm PySem.F.plainAttrs_list PySem.F.slot_list_append PySem.F.type_list_append mt_append pv pa rfl (mut_few c4) c3 (star_cons c4) rfl) rfl) fun D σ H z => by
      rw [o.k]
      exact app_read h4 D σ H z
  split at hc
  · rename_i em
    subst em
    obtain ⟨h4, hd⟩ := gd_some hc
    obtain ⟨z, h3, he⟩ := Option.map_eq_some_iff.mp hd
    cases he
    have h4 : fe.getD i .sh = .own := by simpa using h4
    have pa := pa_cons ((sound C M _).1 X sc _ _ e _ o.toXOk h3) pa_nil (star_cons c4)
    exact PS.imp (ps_expr (pe_bm PySem.F.plainAttrs_list PySem.F.slot_list_extend PySem.F.type_list_extend mt_extend pv pa rfl (mut_few c4) c3 (star_cons c4) rfl) rfl) fun D σ H z => by
      rw [o.k]
      exact ext_read h4 D σ H z
  · cases hc
theorem cd_of {x : Str} (h : plainName x = true) : (x == ("__classdict__" : Str)) = false := by
  unfold plainName at h
  simp only [Bool.and_eq_true, Bool.not_eq_true'] at h
  exact h.1.2
theorem popOf_ok {q : Str × Expr} (h : popOf e = some q) : ∃ p1 ap p2 : Pos, e = .Call (.Attribute (.Name q.1 p1) "pop" ap) [q.2] [] p2 ∧ (ap.endLine == p2.line) = true ∧ notStar q.2 = true := by
  unfold popOf at h
  split at h
  · obtain ⟨h1, h2⟩ := gd_some h
    cases h2
    simp only [Bool.and_eq_true, decide_eq_true_eq] at h1
    obtain ⟨⟨h1, h2⟩, h3⟩ := h1
    subst h1
    exact ⟨_, _, _, rfl, h2, h3⟩
  · cases h
theorem appPop_sound (o : SOk C M X sc) {x m y : Str} {p ap cp pos p1 ap2 p2 : Pos} {e2 : Expr} {r : ZR} (hl2 : (ap2.endLine == p2.line) = true) (hn2 : notStar e2 = true) (h : cAppPop C sc fe x m ap.endLine cp.line y e2 = some r) :
    PS X (.Expr (.Call (.Attribute (.Name x p) m ap) [.Call (.Attribute (.Name y p1) "pop" ap2) [e2] [] p2] [] cp) pos) (zS M fe r.2.1 r.2.2 fl r.1) := by
  obtain ⟨h1, hb⟩ := gd_some h
  obtain ⟨i, h2, hb⟩ := Option.bind_eq_some_iff.mp hb
  obtain ⟨j, h3, hb⟩ := Option.bind_eq_some_iff.mp hb
  obtain ⟨h4, hb⟩ := gd_some hb
  obtain ⟨z, h5, h6⟩ := Option.map_eq_some_iff.mp hb
  clear h
  simp only [Bool.and_eq_true, decide_eq_true_eq, beq_iff_eq] at h1 h4
  obtain ⟨⟨⟨⟨⟨c1, c2⟩, c3⟩, c4⟩, c5⟩, c6⟩ := h1
  subst c6
  cases h6
  have pv := pe_var (pos := p) (i := i) (at_of o.toXOk h2) (vis_of o.toXOk c2) (plain_parts c1).1 (cd_of c1)
  have pw := pe_var (pos := p1) (i := j) (at_of o.toXOk h3) (vis_of o.toXOk c5) (plain_parts c4).1 (cd_of c4)
  have pa2 := pa_cons ((sound C M _).1 X sc _ _ e2 _ o.toXOk h5) pa_nil (star_cons hn2)
  have pp := pe_bm PySem.F.plainAttrs_list PySem.F.slot_list_pop PySem.F.type_list_pop mt_popAt pw pa2 rfl (mut_few hn2) hl2 (star_cons hn2) rfl
  have pa := pa_cons pp pa_nil (star_cons rfl)
  exact PS.imp (ps_expr (pe_bm PySem.F.plainAttrs_list PySem.F.slot_list_append PySem.F.type_list_append mt_append pv pa rfl (mut_few rfl) (by simpa using c3) (star_cons rfl) rfl) rfl) fun D σ H z => by
    rw [o.k]
    exact appPop_read h4.1.1 h4.1.2 h4.2 D σ H z
theorem RepDs_get {H : Hp} {fp : List Addr} : ∀ {ds : List D} {vs : List V} {i : Nat} {d : D}, RepDs M H fp ds vs → ds[i]? = some d → ∃ v, vs[i]? = some v ∧ RepD M H fp d v
  | [], _, _, _, _, e => by simp at e
  | d :: ds, vs, 0, x, h, e => by
    simp only [RepDs] at h
    obtain ⟨v, r, rfl, q, z⟩ := h
    simp at e
    subst e
    exact ⟨v, rfl, q⟩
  | d :: ds, vs, i + 1, x, h, e => by
    simp only [RepDs] at h
    obtain ⟨v, r, rfl, q, z⟩ := h
    simp at e
    obtain ⟨w, h1, h2⟩ := RepDs_get z e
    exact ⟨w, by simpa using h1, h2⟩
theorem but_sub {fp : List Addr} {a : Addr} : ∀ b ∈ but fp a, b ∈ fp := fun b hb => (mem_but.mp hb).1
theorem ix_d {H : Hp} {fp : List Addr} {a b d : D} {x y : V} {Q : VK} (hK : X.K = M.K) (e : ixD a b = .ok d) (ra : RepD M H fp a x) (rb : Rep M H b y) (k : ∀ v, RepD M H fp d v → Q v H) : rIx X.K x y H Q := by
  cases b with
  | int i =>
    have e2 : y = .int i := by simpa only [Rep] using rb
    cases a with
    | lst xs =>
      subst e2
      simp only [RepD] at ra
      obtain ⟨l, vs, rfl, ml, q, z⟩ := ra
      simp only [ixD] at e
      split at e
      · rename_i d' hd
        cases e
        obtain ⟨j, h1, h2⟩ := atI_get hd
        obtain ⟨v, h3, h4⟩ := RepDs_get z h2
        exact .inl ⟨l, vs, i, v, rfl, rfl, .inl (.inl q), atI_of (by rw [← RepDs_len z]; exact h1) h3, k v (RepD.mono (fun _ _ _ e => e) but_sub _ _ h4)⟩
      · cases e
    | tup xs =>
      subst e2
      simp only [RepD] at ra
      obtain ⟨l, vs, rfl, ml, q, z⟩ := ra
      simp only [ixD] at e
      split at e
      · rename_i d' hd
        cases e
        obtain ⟨j, h1, h2⟩ := atI_get hd
        obtain ⟨v, h3, h4⟩ := RepDs_get z h2
        exact .inr (.inl ⟨l, vs, i, v, rfl, rfl, .inl (.inl q), atI_of (by rw [← RepDs_len z]; exact h1) h3, k v (RepD.mono (fun _ _ _ e => e) but_sub _ _ h4)⟩)
      · cases e
    | str z =>
      have e1 : x = .str z := by simpa only [RepD] using ra
      have ds : ∃ c, d = .str c := by
        obtain ⟨_, h2⟩ := chk_ok e
        split at h2
        · cases h2; exact ⟨_, rfl⟩
        · cases h2
      obtain ⟨c, rfl⟩ := ds
      exact ix_z (M := M) (F := H) hK (.refl _) e (show RepC M H H (.str z) x by simpa only [RepC, Rep] using e1) rb fun v r => k v (by simp only [Rep] at r; simpa only [RepD] using r)
    | scr ns => simp only [RepD] at ra
    | _ => cases e
  | _ => cases a <;> cases e
/-- the way to what is new -/
def zW (M : Mx) (fe : List Fl) (p : ZE) (i : Nat) : TE := fun σ H Q => ∃ H0 F0 F ρ fps d, St M H0 F0 σ H F fe ρ fps ∧ p ρ = .ok d ∧ ∀ v H', Gr H F H' F → RepD M H' (fps i) d v → Q v H'
theorem way_sound (o : XOk C M X sc) : ∀ (n : Nat) (r : Expr) (p : ZE × Nat), cWay n C sc fe r = some p → fe.getD p.2 .sh = .deep ∧ PE X r (zW M fe p.1 p.2)
  | 0, r, p, h => by cases h
  | n + 1, r, p, h => by
    cases r with
    | Name y q =>
      obtain ⟨h1, h⟩ := gd_some h
      obtain ⟨j, h2, h⟩ := Option.bind_eq_some_iff.mp h
      obtain ⟨h3, h⟩ := gd_some h
      cases h
      rw [Bool.and_eq_true] at h1
      have h3 : fe.getD j .sh = .deep := by simpa using h3
      refine ⟨h3, PE.imp (pe_var (i := j) (at_of o h2) (vis_of o h1.2) (plain_parts h1.1).1 (cd_of h1.1)) fun σ H Q ⟨H0, F0, F, ρ, fps, d, s, e, k⟩ => ?_⟩
      obtain ⟨v, hv, x⟩ := s.slot j d (look_ok e)
      have h3 : fe.getD j .sh = .deep := h3
      rw [h3] at x
      exact ⟨v, hv, k v H (.refl s.fh) x⟩
    | Subscript a i q =>
      obtain ⟨h1, h⟩ := gd_some h
      obtain ⟨p', h2, h⟩ := Option.bind_eq_some_iff.mp h
      obtain ⟨z, h3, h4⟩ := Option.map_eq_some_iff.mp h
      subst h4
      obtain ⟨f1, f2⟩ := way_sound o n a p' h2
      refine ⟨f1, PE.imp (pe_ix ix_seq f2 ((sound C M _).1 X sc _ _ i _ o h3) (fun _ _ => by cases i <;> first | rfl | (exact Bool.noConfusion h1))) fun σ H Q ⟨H0, F0, F, ρ, fps, d, s, e, k⟩ => ?_⟩
      obtain ⟨d1, e1, e⟩ := R.bind_eq_ok e
      obtain ⟨d2, e2, e⟩ := R.bind_eq_ok e
      refine ⟨H0, F0, F, ρ, fps, d1, s, e1, fun v1 H1 g1 r1 => lend (s.grow g1) e2 fun v2 H2 g2 s2 r2 => ?_⟩
      exact ix_d o.k e (RepD.mono (fun b _ o e => g2.h b o e) (fun _ z => z) _ _ r1) r2 fun v r => k v _ (g1.trans g2) r
    | _ => cases h
theorem spoil_read {i : Nat} {p : ZE} (hf : fe.getD i .sh = .deep) (D : Ends) (σ : L2.St) (H : Hp) (h : zS M fe (some fe) none fl (sSpoil i p z) D σ H) :
    tBM M.K "list" rAppend (zW M fe p i) (tCons (zT M [] .s z) tNil) σ H fun _ H1 => D.nx σ H1 := by
  obtain ⟨H0, F0, F, ρ, fps, s, q⟩ := h
  obtain ⟨dx, hp, q⟩ := outOk_ok q
  obtain ⟨d, hz, q⟩ := outOk_ok q
  obtain ⟨d2, hc, qq⟩ := outOk_ok q
  cases dx with
  | lst xs =>
    obtain ⟨k1, k2⟩ := chk_ok hc
    refine ⟨H0, F0, F, ρ, fps, _, s, hp, fun v H1 g1 r1 => ?_⟩
    simp only [RepD] at r1
    obtain ⟨a, vs, rfl, ma, qa, za⟩ := r1
    refine ⟨.inl ⟨rfl, _, SqL.of qa⟩, ?_⟩
    refine lend (s.grow g1) hz fun y H2 g2 s2 r2 => ?_
    exact ⟨a, vs, y, rfl, rfl, g2.h _ _ qa, by rw [← RepDs_len za]; exact of_decide_eq_true k1, qq _ rfl _ _ F fps (s2.spoil ma)⟩
  | _ => cases hc
theorem spoil_sound (o : SOk C M X sc) {r0 : Expr} {m : Str} {ap cp pos : Pos} {r : ZR} (h : cSpoil C sc fe r0 m ap.endLine cp.line e = some r) : PS X (.Expr (.Call (.Attribute r0 m ap) [e] [] cp) pos) (zS M fe r.2.1 r.2.2 fl r.1) := by
  obtain ⟨h1, hb⟩ := gd_some h
  obtain ⟨p, h2, hb⟩ := Option.bind_eq_some_iff.mp hb
  obtain ⟨z, h3, h4⟩ := Option.map_eq_some_iff.mp hb
  clear h
  simp only [Bool.and_eq_true, decide_eq_true_eq] at h1
  obtain ⟨⟨⟨c1, c2⟩, c3⟩, c4⟩ := h1
  subst c3
  cases h4
  obtain ⟨f1, f2⟩ := way_sound (M := M) o.toXOk 9 r0 p h2
  have pa := pa_cons ((sound C M _).1 X sc _ _ e _ o.toXOk h3) pa_nil (star_cons c2)
  exact PS.imp (ps_expr (pe_bm PySem.F.plainAttrs_list PySem.F.slot_list_append PySem.F.type_list_append mt_append f2 pa (by cases r0 <;> first | rfl | (exact Bool.noConfusion c4)) (mut_few c2) c1 (star_cons c2) rfl) rfl) fun D σ H z => by
    rw [o.k]
    exact spoil_read f1 D σ H z
theorem ret_read (hw : (fl = .sh ∧ w = .s) ∨ (fl = .own ∧ w = .w) ∨ (fl = .deep ∧ w = .d)) (D : Ends) (σ : L2.St) (H : Hp) (h : zS M fe none none fl (sRet z) D σ H) : zT M fe w z σ H D.rt := by
  obtain ⟨H0, F0, F, ρ, fps, s, q⟩ := h
  obtain ⟨d, hz, q⟩ := outOk_ok q
  refine zT_go s hz fun v H1 F1 g1 s1 r1 => ?_
  rcases hw with ⟨rfl, rfl⟩ | ⟨rfl, rfl⟩ | ⟨rfl, rfl⟩
  · exact q v H1 F1 [] s1.gr r1 fun b hb => (List.not_mem_nil hb).elim
  · obtain ⟨fp, x, fr⟩ := r1
    exact q v H1 F1 fp s1.gr x fun b hb => ⟨s.h0.free (fr b hb).1, (fr b hb).2⟩
  · obtain ⟨fp, x, fr⟩ := r1
    exact q v H1 F1 fp s1.gr x fun b hb => ⟨s.h0.free (fr b hb).1, (fr b hb).2⟩
theorem ret_own {j : Nat} {fl : Fl} (_ : fl = .own ∨ fl = .deep) (hf : fe.getD j .sh = fl) (D : Ends) (σ : L2.St) (H : Hp) (h : zS M fe none none fl (sRet (eVar j)) D σ H) : tVar j σ H D.rt := by
  obtain ⟨H0, F0, F, ρ, fps, s, q⟩ := h
  obtain ⟨d, hz, q⟩ := outOk_ok q
  obtain ⟨v, hv, x⟩ := s.slot j d (look_ok hz)
  rw [hf] at x
  exact ⟨v, hv, q v H F (fps j) s.gr x fun b hb => ⟨(s.out j b hb).2.1, (s.out j b hb).1⟩⟩
theorem ret_sound (o : SOk C M X sc) {pos : Pos} {r : ZS} (h : cRet C sc fl fe e = some r) : PS X (.Return (some e) pos) (zS M fe none none fl r) := by
  cases fl with
  | sh =>
    obtain ⟨p, h1, h2⟩ := Option.map_eq_some_iff.mp h
    subst h2
    obtain ⟨q1, q2, q3⟩ := sh_sound o.toXOk h1
    exact zS.pre (PS.imp (ps_ret q1) fun D σ H z => ret_read (.inl ⟨rfl, rfl⟩) D σ H z) q2
  | own =>
    unfold cRet at h
    dsimp only at h
    split at h
    · rename_i j hj
      cases h
      cases e with
      | Name y q =>
        obtain ⟨h1, hj⟩ := gd_some hj
        obtain ⟨j', h2, hj⟩ := Option.bind_eq_some_iff.mp hj
        obtain ⟨h3, hj⟩ := gd_some hj
        cases hj
        rw [Bool.and_eq_true] at h1
        have cd : (y == ("__classdict__" : Str)) = false := by
          have := h1.1
          unfold plainName at this
          simp only [Bool.and_eq_true, Bool.not_eq_true'] at this
          exact this.1.2
        exact PS.imp (ps_ret (pe_var (i := j) (at_of o.toXOk h2) (vis_of o.toXOk h1.2) (plain_parts h1.1).1 cd)) fun D σ H z => ret_own (.inl rfl) (by simpa using h3) D σ H z
      | _ => cases hj
    · obtain ⟨z, h1, h2⟩ := Option.map_eq_some_iff.mp h
      subst h2
      exact PS.imp (ps_ret ((sound C M _).1 X sc _ _ e _ o.toXOk h1)) fun D σ H z => ret_read (.inr (.inl ⟨rfl, rfl⟩)) D σ H z
  | deep =>
    unfold cRet at h
    dsimp only at h
    split at h
    · rename_i j hj
      cases h
      cases e with
      | Name y q =>
        obtain ⟨h1, hj⟩ := gd_some hj
        obtain ⟨j', h2, hj⟩ := Option.bind_eq_some_iff.mp hj
        obtain ⟨h3, hj⟩ := gd_some hj
        cases hj
        rw [Bool.and_eq_true] at h1
        exact PS.imp (ps_ret (pe_var (i := j) (at_of o.toXOk h2) (vis_of o.toXOk h1.2) (plain_parts h1.1).1 (cd_of h1.1))) fun D σ H z => ret_own (.inr rfl) (by simpa using h3) D σ H z
      | _ => cases hj
    · obtain ⟨z, h1, h2⟩ := Option.map_eq_some_iff.mp h
      subst h2
      exact PS.imp (ps_ret (soundD C M _ X sc _ e _ o.toXOk h1)) fun D σ H z => ret_read (.inr (.inr ⟨rfl, rfl⟩)) D σ H z
theorem a_sound (o : SOk C M X sc) {st : Stmt} {r : ZR} (h : cA C sc fl fe st = some r) : PS X st (zS M fe r.2.1 r.2.2 fl r.1) := by
  unfold cA at h
  split at h
  · cases h
    exact PS.imp ps_pass fun D σ H ⟨H0, F0, F, ρ, fps, s, q⟩ => q _ rfl _ _ F _ s
  · cases h
    exact PS.imp ps_continue fun D σ H ⟨H0, F0, F, ρ, fps, s, q⟩ => q _ rfl _ _ F _ s
  · cases h
    exact PS.imp ps_never fun D σ H ⟨H0, F0, F, ρ, fps, s, q⟩ => q
  · cases h
    exact PS.imp ps_retN fun D σ H ⟨H0, F0, F, ρ, fps, s, q⟩ => q .non H F [] s.gr (by cases fl <;> simp only [Val, Rep, RepD]) fun b hb => (List.not_mem_nil hb).elim
  · obtain ⟨z, h1, h2⟩ := Option.map_eq_some_iff.mp h
    subst h2
    exact ret_sound o h1
  · exact set_sound o h
  · exact tup_sound o h
  · exact aug_sound o h
  · split at h
    · rename_i q hq
      obtain ⟨p1, ap2, p2, rfl, l1, l2⟩ := popOf_ok hq
      exact appPop_sound o l1 l2 h
    · exact mut_sound o h
  · exact spoil_sound o h
  · cases h
end
end Z
/-! Z, part P: statements with statements within; defs. -/
namespace Z
open PySem PySem.Spec PyProof.Rows L2

section
variable {C : CC} {M : Mx} {X : Cx} {sc : Scope} {fe fe2 : List Fl} {w : Wt} {fl : Fl} {e : Expr} {z : ZE}
theorem wkB_ok {a b : List Fl} (h : wkB a b = true) : Wk a b := fun i => by
  unfold wkB at h
  by_cases hi : i < a.length
  · have := List.all_eq_true.mp h i (by simpa using hi)
    simpa using this
  · exact .inr (by rw [List.getD_eq_getElem?_getD, List.getElem?_eq_none (by omega)]; rfl)
theorem owkB_ok {a : List Fl} {b : OF} (h : owkB a b = true) : OWk b (some a) := fun f e => by
  subst e
  exact ⟨a, rfl, wkB_ok h⟩
theorem meetO_wk (a : List Fl) (b : OF) : Wk (meetO a b) a := by
  cases b with
  | none => exact .refl _
  | some b => exact meet_left _ _
theorem fix_ok {f : List Fl → Option ZR} : ∀ {k : Nat} {c : List Fl} {q : List Fl × ZS}, fixL f k c = some q → Wk q.1 c ∧ ∃ fo co, f q.1 = some (q.2, fo, co) ∧ OWk fo (some q.1) ∧ OWk co (some q.1)
  | 0, _, _, h => by cases h
  | k + 1, c, q, h => by
    unfold fixL at h
    split at h
    · cases h
    · rename_i z fo co hf
      split at h
      · rename_i hc
        cases h
        rw [Bool.and_eq_true] at hc
        exact ⟨.refl _, fo, co, hf, owkB_ok hc.1, owkB_ok hc.2⟩
      · obtain ⟨h1, h2⟩ := fix_ok h
        exact ⟨h1.trans ((meetO_wk _ _).trans (meetO_wk _ _)), h2⟩
/-- one behind the other -/
theorem seq_read {a b : ZS} {fo1 co1 fo2 co2 : OF} {f2 : List Fl} (hf : fo1 = some f2) {D : Ends} {σ : L2.St} {H : Hp} (h : zS M fe fo2 (joinO co1 co2) fl (sSeq a b) D σ H) :
    zS M fe fo1 co1 fl a { D with nx := fun σ' H' => zS M f2 fo2 co2 fl b D σ' H' } σ H := by
  obtain ⟨H0, F0, F, ρ, fps, s, q⟩ := h
  refine ⟨H0, F0, F, ρ, fps, s, ?_⟩
  unfold sSeq at q
  cases hz : a ρ with
  | nx ρ1 =>
    rw [hz] at q
    intro fe' e σ1 H1 F1 fps1 s1
    rw [hf] at e
    cases e
    exact ⟨H0, F0, F1, ρ1, fps1, s1, outOk.weak q (.refl _) (join_right _ _)⟩
  | ct ρ1 =>
    rw [hz] at q
    intro fe' e σ1 H1 F1 fps1 s1
    obtain ⟨fe2, e2, w⟩ := join_left co1 co2 fe' e
    obtain ⟨F2, fps2, s2, _⟩ := s1.weak w
    exact q fe2 e2 σ1 H1 F2 fps2 s2
  | rt d => rw [hz] at q; exact q
  | ex c d => rw [hz] at q; exact q
  | no => rw [hz] at q; exact q
theorem if_read {c : ZE} {a b : ZS} {fo1 co1 fo2 co2 : OF} (D : Ends) (σ : L2.St) (H : Hp) (h : zS M fe (joinO fo1 fo2) (joinO co1 co2) fl (sIf c a b) D σ H) :
    tIfS (zTT M c) (zS M fe fo1 co1 fl a) (zS M fe fo2 co2 fl b) D σ H := by
  obtain ⟨H0, F0, F, ρ, fps, s, q⟩ := h
  obtain ⟨d, hz, q⟩ := outOk_ok q
  obtain ⟨k, hk, q⟩ := outOk_ok q
  refine ⟨H0, F0, F, fe, ρ, fps, d, k, s, hz, hk, fun H1 g => ?_⟩
  cases k with
  | true => exact iteT ⟨H0, F0, F, ρ, fps, s.grow g, outOk.weak q (join_left _ _) (join_left _ _)⟩
  | false => exact iteF ⟨H0, F0, F, ρ, fps, s.grow g, outOk.weak q (join_right _ _) (join_right _ _)⟩
theorem forL_cons {α : Type} {kill : List Nat} {f : α → Env → Out} {x : α} {r : List α} {ρ : Env} : forL kill f (x :: r) ρ = match f x ρ with
    | .nx ρ' => forL kill f r (killE kill ρ')
    | .ct ρ' => forL kill f r (killE kill ρ')
    | o => o := rfl
/-- for -/
theorem for_read {kill : List Nat} {it : ZI} {g : ZG} {b : ZS} {c : List Fl} {ss : List Nat} {fo co : OF} (w : Wk c fe) (hfo : OWk fo (some c)) (hco : OWk co (some c)) (D : Ends) (σ : L2.St) (H : Hp) (h : zS M fe (some c) none fl (sFor kill g it b) D σ H) :
    tFor (zI M fe .s it) (zG M c g ss) (zS M (setSh c ss) fo co fl b) D σ H := by
  obtain ⟨H0, F0, F, ρ, fps, s, q⟩ := h
  obtain ⟨xs, hz, q⟩ := outOk_ok q
  refine ⟨H0, F0, F, ρ, fps, xs, s, hz, fun J H1 F1 g1 hY => ?_⟩
  obtain ⟨hlen, hY⟩ := hY
  obtain ⟨Fw, fpw, sw, smw⟩ := ((s.grow g1).kill kill).weak w
  have q := outOk.from_ sw q
  have sw0 := sw.from_
  generalize hbf : (fun x ρ' => ofR (g x ρ') b) = f at q
  refine ⟨fun i m σc Hc => i ≤ xs.length ∧ m = xs.length - i ∧ ∃ Fc ρc fpc, St M H0 Fw σc Hc Fc c ρc fpc ∧ outOk M H0 Fw (some c) none fl D (forL kill f (xs.drop i) ρc), ⟨xs.length, Nat.zero_le _, by omega, Fw, _, fpw, sw0, by rw [List.drop_zero]; exact q⟩, ?_⟩
  rintro i m σc Hc ⟨hi, rfl, Fc, ρc, fpc, sc', qc⟩
  have s1c : Same F1 Fc := smw.trans sc'.f0
  obtain ⟨y1, y2⟩ := hY Hc Fc (s1c.trans sc'.fh) s1c sc'.fh i
  by_cases hlt : i < xs.length
  · obtain ⟨go, yld⟩ := y1 hlt
    refine .inr ⟨go, fun σ' H' => ∃ F' ρ' fp', St M H0 Fw σ' H' F' c ρ' fp' ∧ outOk M H0 Fw (some c) none fl D (forL kill f (xs.drop (i + 1)) (killE kill ρ')), fun σ' H' ⟨F', ρ', fp', s', q'⟩ => ⟨xs.length - (i + 1), by omega, by omega, rfl, F', _, fp', s'.kill kill, q'⟩, fun x Hn hy => ?_⟩
    obtain ⟨dx, Fn, hx, gn, rx⟩ := yld x Hn hy
    have edr : xs.drop i = dx :: xs.drop (i + 1) := by
      rw [List.drop_eq_getElem_cons hlt]
      rw [List.getElem?_eq_getElem hlt] at hx
      cases hx
      rfl
    rw [edr, forL_cons] at qc
    subst hbf
    dsimp only at qc
    cases hg : g dx ρc with
    | no => rw [hg] at qc; exact qc.elim
    | ex c d => rw [hg] at qc; exact qc.elim
    | ok ρ1 =>
      rw [hg, ofR_ok] at qc
      refine ⟨H0, Fw, Fn, ρc, fpc, dx, ρ1, sc'.grow gn, rx, hg, fun σ2 fp2 s2 _ => ⟨H0, Fw, Fn, ρ1, fp2, s2, ?_⟩⟩
      cases hb : b ρ1 with
      | nx ρ2 =>
        rw [hb] at qc
        intro fe' e σ3 H3 F3 fp3 s3
        obtain ⟨f3, e3, w3⟩ := hfo fe' e
        cases e3
        obtain ⟨F4, fp4, s4, _⟩ := s3.weak w3
        exact ⟨F4, ρ2, fp4, s4, qc⟩
      | ct ρ2 =>
        rw [hb] at qc
        intro fe' e σ3 H3 F3 fp3 s3
        obtain ⟨f3, e3, w3⟩ := hco fe' e
        cases e3
        obtain ⟨F4, fp4, s4, _⟩ := s3.weak w3
        exact ⟨F4, ρ2, fp4, s4, qc⟩
      | rt d => rw [hb] at qc; exact qc
      | ex c d => rw [hb] at qc; exact qc
      | no => rw [hb] at qc; exact qc
  · have ei : i = xs.length := by omega
    subst ei
    rw [List.drop_length] at qc
    exact .inl ⟨y2 (Nat.le_refl _), qc c rfl σc Hc Fc fpc sc'⟩
/-- while -/
theorem while_read {kill : List Nat} {t : ZE} {b : ZS} {c : List Fl} {fo co : OF} (w : Wk c fe) (hfo : OWk fo (some c)) (hco : OWk co (some c)) (D : Ends) (σ : L2.St) (H : Hp) (h : zS M fe (some c) none fl (sWhile kill t b) D σ H) :
    tWhile (zTT M t) (zS M c fo co fl b) D σ H := by
  obtain ⟨H0, F0, F, ρ, fps, s, q⟩ := h
  obtain ⟨Fw, fpw, sw, smw⟩ := (s.kill kill).weak w
  refine ⟨fun m σc Hc => ∃ Fc ρc fpc, St M H0 F0 σc Hc Fc c ρc fpc ∧ outOk M H0 F0 (some c) none fl D (whileL kill t b m ρc), ⟨wFuel, Fw, _, fpw, sw, q⟩, ?_⟩
  rintro m σc Hc ⟨Fc, ρc, fpc, sc', qc⟩
  cases m with
  | zero => exact qc.elim
  | succ m =>
    obtain ⟨d, hz, qc⟩ := outOk_ok qc
    obtain ⟨k, hk, qc⟩ := outOk_ok qc
    refine ⟨H0, F0, Fc, c, ρc, fpc, d, k, sc', hz, hk, fun H1 g1 => ?_⟩
    have s1 := sc'.grow g1
    cases k with
    | false => exact iteF (qc c rfl σc H1 Fc fpc s1)
    | true =>
      refine iteT ⟨fun σ' H' => ∃ F' ρ' fp', St M H0 F0 σ' H' F' c ρ' fp' ∧ outOk M H0 F0 (some c) none fl D (whileL kill t b m (killE kill ρ')), fun σ' H' ⟨F', ρ', fp', s', q'⟩ => ⟨m, Nat.lt_succ_self m, F', _, fp', s'.kill kill, q'⟩, H0, F0, Fc, ρc, fpc, s1, ?_⟩
      have qc : outOk M H0 F0 (some c) none fl D (match b ρc with
        | .nx ρ' => whileL kill t b m (killE kill ρ')
        | .ct ρ' => whileL kill t b m (killE kill ρ')
        | o => o) := qc
      cases hb : b ρc with
      | nx ρ2 =>
        rw [hb] at qc
        intro fe' e σ3 H3 F3 fp3 s3
        obtain ⟨f3, e3, w3⟩ := hfo fe' e
        cases e3
        obtain ⟨F4, fp4, s4, _⟩ := s3.weak w3
        exact ⟨F4, ρ2, fp4, s4, qc⟩
      | ct ρ2 =>
        rw [hb] at qc
        intro fe' e σ3 H3 F3 fp3 s3
        obtain ⟨f3, e3, w3⟩ := hco fe' e
        cases e3
        obtain ⟨F4, fp4, s4, _⟩ := s3.weak w3
        exact ⟨F4, ρ2, fp4, s4, qc⟩
      | rt d => rw [hb] at qc; exact qc
      | ex c d => rw [hb] at qc; exact qc
      | no => rw [hb] at qc; exact qc
end
theorem s_sound {C : CC} {M : Mx} {X : Cx} {sc : Scope} {fl : Fl} (o : SOk C M X sc) : ∀ n : Nat,
    (∀ (fe : List Fl) (st : Stmt) (r : ZR), cS n C sc fl fe st = some r → PS X st (zS M fe r.2.1 r.2.2 fl r.1)) ∧
    (∀ (fe : List Fl) (st : List Stmt) (r : ZR), cSs n C sc fl fe st = some r → PSs X st (zS M fe r.2.1 r.2.2 fl r.1)) := by
  intro n
  induction n with
  | zero => exact ⟨fun fe st r h => (by cases h), fun fe st r h => (by cases h)⟩
  | succ n ih =>
    obtain ⟨iS, iL⟩ := ih
    refine ⟨fun fe st r h => ?_, fun fe st r h => ?_⟩
    · cases st with
      | If c a b pos =>
        obtain ⟨t, h1, h⟩ := Option.bind_eq_some_iff.mp h
        obtain ⟨p, h2, h⟩ := Option.bind_eq_some_iff.mp h
        obtain ⟨q, h3, h4⟩ := Option.map_eq_some_iff.mp h
        subst h4
        exact PS.imp (ps_if ((sound C M _).2.2 X sc c t o.toXOk h1) (iL fe a p h2) (iL fe b q h3)) fun D σ H z => if_read D σ H z
      | For tg it body orelse pos =>
        cases orelse with
        | cons _ _ => exact a_sound o h
        | nil =>
          obtain ⟨h0, h⟩ := gd_some h
          obtain ⟨p, h1, h⟩ := Option.bind_eq_some_iff.mp h
          obtain ⟨g, h2, h⟩ := Option.bind_eq_some_iff.mp h
          obtain ⟨q, h3, h4⟩ := Option.map_eq_some_iff.mp h
          subst h4
          obtain ⟨q1, q2, q3⟩ := iter_sound o.toXOk h1
          obtain ⟨f1, fo, co, f2, f3, f4⟩ := fix_ok h3
          refine zS.pre ?_ q2
          have pg := z_tgt (M := M) o.n o.nd o.k o.calm (locOk o) 9 tg g q.1 h2
          exact PS.imp (ps_for o.hp o.calm q1 pg (iL _ body _ f2) (notSet_folded h0)) fun D σ H z => for_read f1 f3 f4 D σ H z
      | While c body orelse pos =>
        cases orelse with
        | cons _ _ => exact a_sound o h
        | nil =>
          obtain ⟨t, h1, h⟩ := Option.bind_eq_some_iff.mp h
          obtain ⟨q, h3, h4⟩ := Option.map_eq_some_iff.mp h
          subst h4
          obtain ⟨f1, fo, co, f2, f3, f4⟩ := fix_ok h3
          exact PS.imp (ps_while o.hp ((sound C M _).2.2 X sc c t o.toXOk h1) (iL _ body _ f2)) fun D σ H z => while_read f1 f3 f4 D σ H z
      | _ => exact a_sound o h
    · cases st with
      | nil =>
        cases h
        exact PSs.imp pss_nil fun D σ H ⟨H0, F0, F, ρ, fps, s, q⟩ => q _ rfl _ _ F _ s
      | cons st rest =>
        obtain ⟨p, h1, h⟩ := Option.bind_eq_some_iff.mp h
        have p1 := iS fe st p h1
        split at h
        · rename_i hn
          cases h
          refine PSs.imp (pss_cons p1 pss_never) fun D σ H ⟨H0, F0, F, ρ, fps, s, q⟩ => ⟨H0, F0, F, ρ, fps, s, ?_⟩
          cases hz : p.1 ρ with
          | nx ρ1 => intro fe' e; rw [hn] at e; cases e
          | ct ρ1 => rw [hz] at q; exact q
          | rt d => rw [hz] at q; exact q
          | ex c d => rw [hz] at q; exact q
          | no => rw [hz] at q; exact q
        · rename_i f2 hf
          cases rest with
          | nil => cases h; exact pss_one p1
          | cons st2 rest =>
            obtain ⟨q, h2, h3⟩ := Option.map_eq_some_iff.mp h
            subst h3
            exact PSs.imp (pss_cons p1 (iL f2 _ q h2)) fun D σ H z => seq_read hf z

/-! ### defs -/
theorem begin_len {nn : Nat} {ds : List D} (h : ds.length ≤ nn) : (begin_ nn ds).length = nn := by
  unfold begin_
  rw [List.length_append, List.length_map, List.length_replicate]
  omega
theorem start_len {N : List Str} {vs : List V} (h : vs.length ≤ N.length) : (L2.start N vs).length = N.length := by
  unfold L2.start
  rw [List.length_append, List.length_map, List.length_replicate]
  omega
theorem st_begin {M : Mx} {H F : Hp} {N : List Str} {ds : List D} {vs : List V} (h : Same F H) (r : Reps M F ds vs) (hl : ds.length ≤ N.length) : St M H F (L2.start N vs) H F (List.replicate N.length .sh) (begin_ N.length ds) (fun _ => []) where
  h0 := .refl _
  f0 := .refl _
  fh := h
  new := fun b z => .inl z
  len := by rw [begin_len hl, start_len (by rw [← r.len]; exact hl)]
  slot := fun i d e => by
    have hi : i < ds.length := by
      by_cases q : i < ds.length
      · exact q
      · unfold begin_ at e
        rw [List.getElem?_append_right (by rw [List.length_map]; omega), List.getElem?_replicate] at e
        split at e <;> cases e
    unfold begin_ at e
    rw [List.getElem?_append_left (by rw [List.length_map]; exact hi), List.getElem?_map, List.getElem?_eq_getElem hi] at e
    cases e
    obtain ⟨v, h1, h2⟩ := r.get (List.getElem?_eq_getElem hi)
    refine ⟨v, ?_, ?_⟩
    · unfold L2.start
      rw [List.getElem?_append_left (by rw [List.length_map, ← r.len]; exact hi), List.getElem?_map, h1]
      rfl
    · have e : (List.replicate N.length Fl.sh).getD i .sh = .sh := by
        rw [List.getD_eq_getElem?_getD, List.getElem?_replicate]
        split <;> rfl
      rw [e]
      exact h2
  out := fun i b hb => (List.not_mem_nil hb).elim
  dis := fun i j b hb => (List.not_mem_nil hb).elim
end Z
/-! Z, part Q: the text's defs keep what they are worth. -/
namespace Z
open PySem PySem.Spec PyProof.Rows L2

/-- a def of the text, with what it is worth -/
structure DZ where
  d : He.DefD
  N : List Str
  ps : List Str
  fl : Fl
  kills : List (Pos × List Nat)
  dps : List (Nat × Nat)
  fd : Fd
def findD (x : Str) : List DZ → Option DZ
  | [] => none
  | z :: r => if z.d.name = x then some z else findD x r
theorem findD_some {x : Str} : ∀ {L : List DZ} {z : DZ}, findD x L = some z → z ∈ L ∧ z.d.name = x
  | [], _, h => by cases h
  | y :: r, z, h => by
    unfold findD at h
    split at h
    · rename_i e; cases h; exact ⟨List.mem_cons_self, e⟩
    · obtain ⟨h1, h2⟩ := findD_some h; exact ⟨List.mem_cons_of_mem _ h1, h2⟩
def tabOf (L : List DZ) : Str → Option Fd := fun x => (findD x L).map (·.fd)
def flOf (L : List DZ) : Str → Fl := fun x => match findD x L with
  | some z => z.fl
  | none => .sh
def killAt (p : Pos) : List (Pos × List Nat) → List Nat
  | [] => []
  | q :: r => if (q.1.line == p.line && q.1.col == p.col) = true then q.2 else killAt p r
def ccOf (L : List DZ) (con : Str → Option D) (z : DZ) (call : Call) : CC :=
  { N := z.N, con := con, fn := fun x => (findD x L).isSome, fl := flOf L, call := call, kills := fun p => killAt p z.kills, dp := fun p => z.dps.any fun q => q.1 == p.line && q.2 == p.col }
def sFuel : Nat := 80
/-- what the text's tree says is what was written down -/
def Comp (L : List DZ) (con : Str → Option D) (z : DZ) : Prop := ∀ call : Call, (cSs sFuel (ccOf L con z call) z.d.scope z.fl (List.replicate z.N.length .sh) z.d.body).map (·.1) = some (z.fd.body call)
structure Side (z : DZ) : Prop where
  np : z.fd.np = z.ps.length
  nn : z.fd.nn = z.N.length
  le : z.ps.length ≤ z.N.length
  sc : FnScope z.N z.ps z.d.scope
/-- what is known of the text's module -/
structure TxtOk (K : PySem.W.Frag) (mg : Str → Option Value) (L : List DZ) (con : Str → Option D) (fa : Str → Addr × FuncData) : Prop where
  dup : ∀ z ∈ L, findD z.d.name L = some z
  fn : ∀ z ∈ L, FunD K z.d.name z.d.qual z.d.params z.d.body z.d.scope [] [] (fa z.d.name).1 (fa z.d.name).2 ∧ mg z.d.name = some (.ref (fa z.d.name).1) ∧ Binds K (fa z.d.name).2 z.ps []
  comp : ∀ z ∈ L, Comp L con z ∧ Side z
  con : ∀ x d, con x = some d → isAtom d = true ∧ ∃ v u, mg x = some u ∧ RelV v u ∧ ∀ M F, Rep M F d v
  free : ∀ x, x ∈ bltNames → mg x = none
theorem runFd_ok {call : Call} {f : Fd} {ds : List D} {r : D} (h : runFd call f ds = .ok r) : ds.length = f.np ∧ endD (f.body call (begin_ f.nn ds)) = .ok r := by
  obtain ⟨h1, h2⟩ := chk_ok h
  exact ⟨by simpa using h1, h2⟩
theorem run_len {L : List DZ} {n : Nat} {x : Str} {z : DZ} (hz : findD x L = some z) (hs : Side z) {ds : List D} {r : D} (h : run (tabOf L) n x ds = .ok r) : ds.length = z.ps.length := by
  cases n with
  | zero => cases h
  | succ n =>
    unfold run tabOf at h
    rw [hz] at h
    rw [(runFd_ok h).1, hs.np]
theorem run_ok {P : Program} {w : World} {M : Mx} {mg : Str → Option Value} {base : Heap} {L : List DZ} {con : Str → Option D} {fa : Str → Addr × FuncData} (t : TxtOk M.K mg L con fa) : ∀ (n : Nat) (z : DZ), z ∈ L →
    FnOk P w M.K mg base CX0 (3 * n) (fa z.d.name).1 (fa z.d.name).2 z.ps (spOf M z.fl (run (tabOf L) n z.d.name) z.ps.length) := by
  intro n
  induction n with
  | zero => exact fun z hz => ⟨fun vs H Q E ⟨ds, F, r, h1, h2, h3, h4, h5⟩ => by rw [← h1, h3.len], fun A outer s H args us vs Q E hr e0 hb r ⟨ds, F, r, h1, h2, h3, h4, h5⟩ => by cases h4⟩
  | succ n ih =>
    intro z hz
    obtain ⟨F, hm, hb⟩ := t.fn z hz
    obtain ⟨hc, hs⟩ := t.comp z hz
    refine F.ok (k := 3 * n + 2) hs.sc (fun vs H Q E ⟨ds, F, r, h1, h2, h3, h4, h5⟩ => by rw [← h1, h3.len]) fun cdv A outer s H vs Q E hr ⟨ds, F0, r, h1, h2, h3, h4, h5⟩ => ?_
    obtain ⟨⟨bz, fo, co⟩, hcs, hbz⟩ := Option.map_eq_some_iff.mp (hc (run (tabOf L) n))
    have hbz : bz = z.fd.body (run (tabOf L) n) := hbz
    subst hbz
    have o : SOk (ccOf L con z (run (tabOf L) n)) M (cxOf CX0 P w M.K mg base z.N z.d.qual z.d.scope (fa z.d.name).1 cdv A outer s H E).nox z.d.scope := {
      n := rfl
      nd := hs.sc.nd
      sc := rfl
      k := rfl
      calm := rfl
      room := by have := hr.un; show (A.deeper _).units + 160 < cLine; omega
      free := t.free
      con := fun x d h => by
        obtain ⟨a, v, u, b, c, q⟩ := t.con x d h
        exact ⟨a, v, u, b, c, q M⟩
      fn := fun x h => by
        have h : (findD x L).isSome = true := h
        obtain ⟨y, hy⟩ := Option.isSome_iff_exists.mp h
        obtain ⟨h6, h7⟩ := findD_some hy
        obtain ⟨G, gm, gb⟩ := t.fn y h6
        have e : (ccOf L con z (run (tabOf L) n)).fl x = y.fl := by show flOf L x = _; unfold flOf; rw [hy]
        rw [e]
        subst h7
        exact ⟨(fa y.d.name).1, (fa y.d.name).2, y.ps, 3 * n, ih y h6, hr, gm, G.kp, gb, fun ds d hd => run_len hy (t.comp y h6).2 hd⟩
      hp := PassesOwn.never
      fnT := fun _ => rfl
      kind := hs.sc.kind }
    have pb := (s_sound o sFuel).2 _ _ _ hcs
    refine ⟨_, PSs.nox pb, H, F0, F0, begin_ z.N.length ds, fun _ => [], st_begin h2 h3 (by rw [h1]; exact hs.le), ?_⟩
    have hrun : run (tabOf L) (n + 1) z.d.name ds = runFd (run (tabOf L) n) z.fd ds := by
      show (match tabOf L z.d.name with | some fd => runFd (run (tabOf L) n) fd ds | none => R.no) = _
      unfold tabOf
      rw [t.dup z hz]
      rfl
    rw [hrun] at h4
    obtain ⟨_, h6⟩ := runFd_ok h4
    rw [hs.nn] at h6
    show outOk M H F0 fo co z.fl _ (z.fd.body (run (tabOf L) n) (begin_ z.N.length ds))
    cases ho : z.fd.body (run (tabOf L) n) (begin_ z.N.length ds) with
    | nx ρ =>
      rw [ho] at h6
      cases h6
      intro fe e σ H' F' fps s'
      exact h5 .non H' F' [] s'.gr (by cases z.fl <;> simp only [Val, Rep, RepD]) fun b hb => (List.not_mem_nil hb).elim
    | ct ρ => rw [ho] at h6; cases h6
    | rt d =>
      rw [ho] at h6
      cases h6
      exact fun v H' F' fp g x fr => h5 v H' F' fp g x fr
    | ex c d => rw [ho] at h6; cases h6
    | no => rw [ho] at h6; cases h6
end Z
/-! Z, part T: from the head's facts to the text. -/
namespace Z
open PySem PySem.Spec PyProof.Rows L2

def conOf (l : List (Str × D)) : Str → Option D := fun x => l.lookup x
def conFa (p : Str × D) : He.Fa := match p.2 with
  | .str z => .str p.1 z
  | .int i => .int p.1 i
  | _ => .glo p.1
def factsOf (L : List DZ) (cs : List (Str × D)) : List He.Fa := L.map (fun z => .glo z.d.name) ++ (bltNames.map .free ++ cs.map conFa)
def BindOk (z : DZ) : Prop := ∀ (kV doc pm : Value) (an : Option Addr) (cdv ct : Value) (us : List Value), us.length = z.ps.length → bindArgs (PySem.W.fnOf z.d.name z.d.qual z.d.params z.d.body z.d.scope .none kV doc pm an cdv ct) ⟨us, []⟩ = pure (z.ps.zip us)
structure OneOk (L : List DZ) (cs : List (Str × D)) (z : DZ) : Prop where
  comp : Comp L (conOf cs) z
  side : Side z
  bind : BindOk z
  dfl : z.d.dfl = [] ∧ z.d.kwd = []
  at_ : z.d.at_ = (z.d.name, none)
structure TextL (L : List DZ) (cs : List (Str × D)) : Prop where
  nd : (L.map (·.d.name)).Nodup
  ok : ∀ z ∈ L, OneOk L cs z
  atoms : ∀ p ∈ cs, (match p.2 with | .str _ => true | .int _ => true | _ => false) = true
theorem allC {α : Type} {P : α → Prop} {a : α} {r : List α} (h : P a) (t : ∀ x ∈ r, P x) : ∀ x ∈ a :: r, P x := fun x hx => by
  rcases List.mem_cons.mp hx with e | e
  · rw [e]; exact h
  · exact t x e
theorem allN {α : Type} {P : α → Prop} : ∀ x ∈ ([] : List α), P x := fun _ h => (List.not_mem_nil h).elim
theorem findD_of : ∀ {L : List DZ}, (L.map (·.d.name)).Nodup → ∀ z ∈ L, findD z.d.name L = some z
  | [], _, z, h => (List.not_mem_nil h).elim
  | y :: r, nd, z, h => by
    rw [List.map_cons, List.nodup_cons] at nd
    unfold findD
    rcases List.mem_cons.mp h with e | e
    · rw [e, if_pos rfl]
    · have ne : y.d.name ≠ z.d.name := fun q => nd.1 (by rw [q]; exact List.mem_map.mpr ⟨z, e, rfl⟩)
      rw [if_neg ne]
      exact findD_of nd.2 z e
theorem txt_of {K : PySem.W.Frag} {h : Heap} {mg : Str → Option Value} {L : List DZ} {cs : List (Str × D)} (t : TextL L cs) (X : K.In h) (G : h.Ns mainGlobals mg) (c : He.SaysD (factsOf L cs) (L.map (·.d)) K) : ∃ fa : Str → Addr × FuncData, TxtOk K mg L (conOf cs) fa := by
  have fact : ∀ f ∈ factsOf L cs, f.ok K = true := fun f hf => by
    obtain ⟨i, hi⟩ := List.mem_iff_getElem?.mp hf
    exact c.fact i hi
  have glo : ∀ z ∈ L, mg z.d.name = some (.ref (He.ga K z.d.name)) := fun z hz => He.glo_ok X G (fact _ (List.mem_append_left _ (List.mem_map.mpr ⟨z, hz, rfl⟩)))
  have fn : ∀ z ∈ L, ∃ fd, FunD K z.d.name z.d.qual z.d.params z.d.body z.d.scope [] [] (He.ga K z.d.name) fd := fun z hz => by
    obtain ⟨i, hi⟩ := List.mem_iff_getElem?.mp hz
    obtain ⟨fd, F⟩ := c.def_ i (d := z.d) (by rw [List.getElem?_map, hi]; rfl)
    have o := t.ok z hz
    have e1 : z.d.dvs K = [] := by unfold He.DefD.dvs; rw [o.dfl.1]; rfl
    have e2 : z.d.kws K = [] := by unfold He.DefD.kws; rw [o.dfl.2]; rfl
    rw [e1, e2, o.at_] at F
    exact ⟨fd, F⟩
  refine ⟨fun x => (He.ga K x, match K.lookup (He.ga K x) with | some ⟨_, _, .func fd, _⟩ => fd | _ => default), ⟨findD_of t.nd, fun z hz => ?_, fun z hz => ⟨(t.ok z hz).comp, (t.ok z hz).side⟩, fun x d hx => ?_, fun x hx => ?_⟩⟩
  · obtain ⟨fd, F⟩ := fn z hz
    have e : (match K.lookup (He.ga K z.d.name) with | some ⟨_, _, .func fd, _⟩ => fd | _ => default) = fd := by
      obtain ⟨oc, od, dV, kV, doc, pm, an, cdv, ct, osl, h1, h2, _⟩ := F.ex
      rw [h2]
    refine ⟨?_, glo z hz, ?_⟩
    · show FunD K _ _ _ _ _ [] [] _ (match K.lookup (He.ga K z.d.name) with | some ⟨_, _, .func fd, _⟩ => fd | _ => default)
      rw [e]; exact F
    · show Binds K (match K.lookup (He.ga K z.d.name) with | some ⟨_, _, .func fd, _⟩ => fd | _ => default) z.ps []
      rw [e]
      exact F.bindsN fun kV doc pm an cdv ct us hl => (t.ok z hz).bind kV doc pm an cdv ct us hl
  · have hm : (x, d) ∈ cs := PySem.mem_of_lookup hx
    have f := fact _ (List.mem_append_right _ (List.mem_append_right _ (List.mem_map.mpr ⟨(x, d), hm, rfl⟩)))
    have a := t.atoms _ hm
    cases d with
    | str z =>
      obtain ⟨tk, e⟩ := He.str_ok X G (x := x) (z := z) f
      exact ⟨rfl, .str z, _, e, ⟨tk, rfl⟩, fun M F => by simp only [Rep]⟩
    | int i =>
      obtain ⟨tk, e⟩ := He.int_ok X G (x := x) (i := i) f
      exact ⟨rfl, .int i, _, e, ⟨tk, rfl⟩, fun M F => by simp only [Rep]⟩
    | _ => cases a
  · exact He.free_ok X G (fact _ (List.mem_append_right _ (List.mem_append_left _ (List.mem_map.mpr ⟨x, hx, rfl⟩))))
/-- a law whose own def gives True at every script keeps its promise -/
theorem law_facts {P : Program} {w : World} {K : PySem.W.Frag} {h : Heap} {mg : Str → Option Value} {f : Addr} {L : List DZ} {cs : List (Str × D)} {n : Nat} {z : DZ} (t : TextL L cs) (hz : z ∈ L) (hn : z.d.name = "law") (hp : z.ps = [("script" : Str)])
    (X : K.In h) (G : h.Ns mainGlobals mg) (hfa : mg ("law" : Str) = some (.ref f)) (c : He.SaysD (factsOf L cs) (L.map (·.d)) K) :
    ∃ fd : FuncData, (∀ (s : Shared) (v : Value), BindsTo s fd ⟨[v], []⟩ [("script", v)]) ∧ ∀ base : Heap, K.In base → base.Ns mainGlobals mg → FnOk P w K mg base CX0 (3 * n) f fd ["script"] (spOf ⟨K, fun _ => none⟩ z.fl (run (tabOf L) n "law") 1) := by
  obtain ⟨fa, T⟩ := txt_of t X G c
  obtain ⟨F, hm, hb⟩ := T.fn z hz
  rw [hn] at hm F hb
  have e := hfa.symm.trans hm
  cases e
  have o := t.ok z hz
  have b := FunD.bindsA (ps := ["script"]) F fun kV doc pm an cdv ct us hl => by
    have := o.bind kV doc pm an cdv ct us (by rw [hp]; exact hl)
    rw [hp, hn] at this
    exact this
  refine ⟨_, fun s v => b s [v] rfl, fun base hk hg => ?_⟩
  have := run_ok (P := P) (w := w) (M := ⟨K, fun _ => none⟩) (mg := mg) (base := base) T n z hz
  rw [hp, hn] at this
  exact this
theorem law_sp {K : PySem.W.Frag} {L : List DZ} {n : Nat} {fl : Fl} {ns : List Int} {a : Addr} {H : Hp} (hS : SqL K H a (ns.map V.int)) (hr : run (tabOf L) n "law" [.scr ns] = .ok (.bl true)) :
    spOf ⟨K, fun _ => none⟩ fl (run (tabOf L) n "law") 1 [.ref a] H (fun v _ => v = .bl true) (fun _ _ _ => False) := by
  refine ⟨[.scr ns], H, .bl true, rfl, .refl _, Reps.cons (by simp only [Rep]; exact ⟨a, rfl, hS⟩) (by simp only [Reps]), hr, fun v H' F' fp g x fr => ?_⟩
  cases fl with
  | sh => have x : Rep ⟨K, fun _ => none⟩ F' (.bl true) v := x; simpa only [Rep] using x
  | own => have x : Rep ⟨K, fun _ => none⟩ F' (.bl true) v := x; simpa only [Rep] using x
  | deep => have x : RepD ⟨K, fun _ => none⟩ H' fp (.bl true) v := x; simpa only [RepD] using x
end Z
/-! Z, part U: plain facts of the combinators, of data that stand for plain values. -/
namespace Z
open PySem PySem.Spec PyProof.Rows

/-! ### plain values as data -/
class En (α : Type) where
  en : α → D
  dep : Nat
  pl : ∀ a, (toPy (en a)).plain = true
  dp : ∀ a, (toPy (en a)).depth ≤ dep
  inj : ∀ a b, PyData.eqv (toPy (en a)) (toPy (en b)) = true ↔ a = b
open En (en)
instance : En Int where
  en := .int
  dep := 0
  pl := fun a => rfl
  dp := fun a => by simp [toPy, PyData.depth]
  inj := fun a b => by simp [toPy, PyData.eqv]
instance : En Bool where
  en := .bl
  dep := 0
  pl := fun a => rfl
  dp := fun a => by simp [toPy, PyData.depth]
  inj := fun a b => by simp [toPy, PyData.eqv]
instance : En Str where
  en := .str
  dep := 0
  pl := fun a => rfl
  dp := fun a => by simp [toPy, PyData.depth]
  inj := fun a b => by simp [toPy, PyData.eqv]
theorem plainAll_map {α : Type} [En α] : ∀ xs : List α, PyData.plainAll (toPys (xs.map en)) = true
  | [] => rfl
  | x :: xs => by simp only [List.map_cons, toPys, PyData.plainAll, En.pl, plainAll_map xs, Bool.and_self]
theorem depthAll_map {α : Type} [En α] : ∀ xs : List α, PyData.depthAll (toPys (xs.map en)) ≤ En.dep α
  | [] => by simp [toPys, PyData.depthAll]
  | x :: xs => by
    have h1 := En.dp x
    have h2 := depthAll_map xs
    simp only [List.map_cons, toPys, PyData.depthAll]
    omega
theorem eqvAll_map {α : Type} [En α] : ∀ xs ys : List α, PyData.eqvAll (toPys (xs.map en)) (toPys (ys.map en)) = true ↔ xs = ys
  | [], [] => by simp [toPys, PyData.eqvAll]
  | [], y :: ys => by simp [toPys, PyData.eqvAll]
  | x :: xs, [] => by simp [toPys, PyData.eqvAll]
  | x :: xs, y :: ys => by simp only [List.map_cons, toPys, PyData.eqvAll, Bool.and_eq_true, En.inj, eqvAll_map xs ys, List.cons.injEq]
instance {α : Type} [En α] : En (List α) where
  en := fun xs => .lst (xs.map en)
  dep := En.dep α + 1
  pl := fun xs => by simp only [toPy, PyData.plain, plainAll_map]
  dp := fun xs => by
    have := depthAll_map xs
    simp only [toPy, PyData.depth]
    omega
  inj := fun xs ys => by simp only [toPy, PyData.eqv, eqvAll_map]
instance {α β : Type} [En α] [En β] : En (α × β) where
  en := fun p => .tup [en p.1, en p.2]
  dep := max (En.dep α) (En.dep β) + 1
  pl := fun p => by simp only [toPy, toPys, PyData.plain, PyData.plainAll, En.pl, Bool.and_self]
  dp := fun p => by
    have h1 := En.dp p.1
    have h2 := En.dp p.2
    simp only [toPy, toPys, PyData.depth, PyData.depthAll]
    omega
  inj := fun p q => by simp only [toPy, toPys, PyData.eqv, PyData.eqvAll, Bool.and_eq_true, En.inj, and_true, Prod.ext_iff]
section
variable {α : Type} [En α] [DecidableEq α]
theorem en_list (xs : List α) : (en xs : D) = .lst (xs.map en) := rfl
theorem fine_en (h : En.dep α ≤ 100) (a : α) : fine (en a) = true := by
  unfold fine
  rw [En.pl, Bool.true_and, decide_eq_true_eq]
  exact Nat.le_trans (En.dp a) h
theorem eqv_en (a b : α) : eqv (en a) (en b) = decide (a = b) := by
  unfold eqv
  rw [Bool.eq_iff_iff, En.inj, decide_eq_true_eq]
theorem eqD_en (h : En.dep α ≤ 100) (a b : α) : eqD (en a) (en b) = .ok (decide (a = b)) := by
  unfold eqD
  rw [fine_en h, fine_en h, eqv_en]
  rfl
theorem inD_en (h : En.dep α ≤ 99) (x : α) (xs : List α) : inD (en x) (.lst (xs.map en)) = .ok (decide (x ∈ xs)) := by
  have h1 : fine (en x) = true := fine_en (by omega) x
  have h2 : fine (.lst (xs.map en)) = true := fine_en (α := List α) (by show En.dep α + 1 ≤ 100; omega) xs
  show chk (fine (en x) && fine (.lst (xs.map en))) (.ok ((xs.map en).any fun y => eqv y (en x))) = _
  rw [h1, h2, Bool.true_and, chk_true]
  congr 1
  rw [Bool.eq_iff_iff, List.any_map, List.any_eq_true, decide_eq_true_eq]
  constructor
  · rintro ⟨y, hy, e⟩
    simp only [Function.comp, eqv_en, decide_eq_true_eq] at e
    rw [← e]; exact hy
  · intro hx
    exact ⟨x, hx, by simp [Function.comp, eqv_en]⟩
theorem eqv_sym_none (a : α) (h : ∀ a : α, PyData.eqv (toPy (en a)) .none = false) : eqv (en a) .non = false := h a
end

/-! ### texts -/
def tx (l : List Nat) : Str := ⟨l.toArray⟩
theorem tx_len (l : List Nat) : (tx l).length = l.length := by show l.toArray.size = _; simp
theorem tx_app (a b : List Nat) : tx a ++ tx b = tx (a ++ b) := by
  show (⟨a.toArray ++ b.toArray⟩ : Str) = ⟨(a ++ b).toArray⟩
  simp
theorem tx_cps (l : List Nat) : (tx l).cps.toList = l := by
  show l.toArray.toList = l
  simp
theorem tx_inj {a b : List Nat} : tx a = tx b ↔ a = b := by
  constructor
  · intro h
    rw [← tx_cps a, ← tx_cps b, h]
  · intro h; rw [h]
theorem tx_of (s : Str) : tx s.cps.toList = s := by
  cases s
  show (⟨_⟩ : Str) = _
  simp

/-! ### steps -/
theorem run_at {T : Str → Option Fd} {n : Nat} {f : Str} {fd : Fd} {ds : List D} (h : T f = some fd) : run T (n + 1) f ds = runFd (run T n) fd ds := by
  show (match T f with | some fd => runFd (run T n) fd ds | none => R.no) = _
  rw [h]
@[simp] theorem sSeq_nx {a b : ZS} {ρ ρ' : Env} (h : a ρ = .nx ρ') : sSeq a b ρ = b ρ' := by unfold sSeq; rw [h]
theorem sSeq_rt {a b : ZS} {ρ : Env} {d : D} (h : a ρ = .rt d) : sSeq a b ρ = .rt d := by unfold sSeq; rw [h]
/-- a for whose body always goes on: the state is a function of what was walked -/
theorem forL_fold {α β : Type} {kill : List Nat} {f : α → Env → Out} (E : β → Env) (g : β → α → β) : ∀ (xs : List α) (b : β), (∀ b x, x ∈ xs → ∃ ρ, (f x (E b) = .nx ρ ∨ f x (E b) = .ct ρ) ∧ killE kill ρ = E (g b x)) → forL kill f xs (E b) = .nx (E (xs.foldl g b))
  | [], b, _ => rfl
  | x :: xs, b, h => by
    obtain ⟨ρ, h1, h2⟩ := h b x List.mem_cons_self
    rw [List.foldl_cons]
    have ih := forL_fold E g xs (g b x) fun b y hy => h b y (List.mem_cons_of_mem _ hy)
    show (match f x (E b) with | .nx ρ' => forL kill f xs (killE kill ρ') | .ct ρ' => forL kill f xs (killE kill ρ') | o => o) = _
    rcases h1 with h1 | h1 <;> rw [h1] <;> (dsimp only; rw [h2]; exact ih)
/-- a for whose body changes nothing, or returns -/
theorem forL_find {α : Type} {kill : List Nat} {f : α → Env → Out} {ρ : Env} (p : α → Option D) : ∀ (xs : List α), (∀ x, x ∈ xs → match p x with | some d => f x ρ = .rt d | none => ∃ ρ', (f x ρ = .nx ρ' ∨ f x ρ = .ct ρ') ∧ killE kill ρ' = ρ) →
    forL kill f xs ρ = match xs.findSome? p with | some d => .rt d | none => .nx ρ
  | [], _ => rfl
  | x :: xs, h => by
    have h1 := h x List.mem_cons_self
    have ih := forL_find p xs fun y hy => h y (List.mem_cons_of_mem _ hy)
    show (match f x ρ with | .nx ρ' => forL kill f xs (killE kill ρ') | .ct ρ' => forL kill f xs (killE kill ρ') | o => o) = _
    rw [List.findSome?_cons]
    cases hp : p x with
    | some d => rw [hp] at h1; dsimp only at h1; rw [h1]
    | none =>
      rw [hp] at h1
      obtain ⟨ρ', h2, h3⟩ := h1
      rcases h2 with h2 | h2 <;> rw [h2] <;> (dsimp only; rw [h3]; exact ih)
/-- a comprehension, item by item -/
theorem compL_map {α : Type} {f : α → R (Option D)} {g : α → Option D} : ∀ (xs : List α), (∀ x, x ∈ xs → f x = .ok (g x)) → compL f xs = .ok (xs.filterMap g)
  | [], _ => rfl
  | x :: xs, h => by
    unfold compL
    rw [h x List.mem_cons_self, compL_map xs fun y hy => h y (List.mem_cons_of_mem _ hy)]
    simp only [R.bind_ok, List.filterMap_cons]
    cases g x <;> rfl
theorem mapR_ok {α β : Type} {f : α → R β} {g : α → β} : ∀ (xs : List α), (∀ x, x ∈ xs → f x = .ok (g x)) → mapR f xs = .ok (xs.map g)
  | [], _ => rfl
  | x :: xs, h => by
    unfold mapR
    rw [h x List.mem_cons_self, mapR_ok xs fun y hy => h y (List.mem_cons_of_mem _ hy)]
    rfl
theorem boolsOf_map : ∀ bs : List Bool, boolsOf (bs.map .bl) = .ok bs
  | [] => rfl
  | b :: bs => by unfold boolsOf; rw [List.map_cons]; simp only [boolsOf_map bs, R.bind_ok]
theorem intsOf_map : ∀ bs : List Int, intsOf (bs.map .int) = .ok bs
  | [] => rfl
  | b :: bs => by unfold intsOf; rw [List.map_cons]; simp only [intsOf_map bs, R.bind_ok]
/-- a for by a word of the state -/
theorem forL_inv {α : Type} {kill : List Nat} {f : α → Env → Out} (P : Nat → Env → Prop) : ∀ (xs : List α) (i : Nat) (ρ : Env), P i ρ → (∀ j x ρ, xs[j]? = some x → P (i + j) ρ → ∃ ρ', (f x ρ = .nx ρ' ∨ f x ρ = .ct ρ') ∧ P (i + j + 1) (killE kill ρ')) → ∃ ρ', forL kill f xs ρ = .nx ρ' ∧ P (i + xs.length) ρ'
  | [], i, ρ, h, _ => ⟨ρ, rfl, h⟩
  | x :: xs, i, ρ, h, st => by
    obtain ⟨ρ1, h1, h2⟩ := st 0 x ρ rfl h
    obtain ⟨ρ2, h3, h4⟩ := forL_inv P xs (i + 1) (killE kill ρ1) h2 fun j y ρ hy hp => by
      have e : i + 1 + j = i + (j + 1) := by omega
      rw [e] at hp ⊢
      exact st (j + 1) y ρ (by simpa using hy) hp
    refine ⟨ρ2, ?_, by rw [List.length_cons]; have e : i + (xs.length + 1) = i + 1 + xs.length := by omega
                       rw [e]; exact h4⟩
    show (match f x ρ with | .nx ρ' => forL kill f xs (killE kill ρ') | .ct ρ' => forL kill f xs (killE kill ρ') | o => o) = _
    rcases h1 with h1 | h1 <;> rw [h1] <;> exact h3

/-! ### one step, for the simplifier -/
section
variable {ρ : Env} {a b c : ZE} {i j : Nat} {d x y : D} {op op2 : CmpOp}
@[simp] theorem q_var : eVar i ρ = look ρ i := rfl
@[simp] theorem q_look : look ρ i = match ρ[i]? with | some (some d) => R.ok d | _ => R.no := rfl
@[simp] theorem q_lit : eLit d ρ = .ok d := rfl
@[simp] theorem q_args0 : eArgs [] ρ = .ok [] := rfl
@[simp] theorem q_args {z : ZE} {zs : List ZE} : eArgs (z :: zs) ρ = (z ρ).bind fun d => (eArgs zs ρ).bind fun ds => .ok (d :: ds) := rfl
@[simp] theorem q_lst {zs : List ZE} : eLst zs ρ = (eArgs zs ρ).bind fun ds => .ok (.lst ds) := rfl
@[simp] theorem q_tup {zs : List ZE} : eTup zs ρ = (eArgs zs ρ).bind fun ds => .ok (.tup ds) := rfl
@[simp] theorem q_bin {o : Operator} : eBin o a b ρ = (a ρ).bind fun x => (b ρ).bind fun y => binD o x y := rfl
@[simp] theorem q_neg : eNeg a ρ = (a ρ).bind negD := rfl
@[simp] theorem q_not : eNot a ρ = (a ρ).bind fun x => (truD x).bind fun b => .ok (.bl (!b)) := rfl
@[simp] theorem q_cmp : eCmp op a b ρ = (a ρ).bind fun x => (b ρ).bind fun y => (cmpD op x y).bind fun k => .ok (.bl k) := rfl
@[simp] theorem q_cmp2 : eCmp2 op op2 a b c ρ = (a ρ).bind fun x => (b ρ).bind fun y => (cmpD op x y).bind fun k => if k = true then (c ρ).bind fun z => (cmpD op2 y z).bind fun k2 => .ok (.bl k2) else .ok (.bl false) := rfl
@[simp] theorem q_and : eAnd a b ρ = (a ρ).bind fun x => (truD x).bind fun k => if k = true then b ρ else .ok x := rfl
@[simp] theorem q_or : eOr a b ρ = (a ρ).bind fun x => (truD x).bind fun k => if k = true then .ok x else b ρ := rfl
@[simp] theorem q_ite : eIte c a b ρ = (c ρ).bind fun x => (truD x).bind fun k => if k = true then a ρ else b ρ := rfl
@[simp] theorem q_ix : eIx a b ρ = (a ρ).bind fun x => (b ρ).bind fun y => ixD x y := rfl
@[simp] theorem q_part0 : ePart none ρ = .ok none := rfl
@[simp] theorem q_part : ePart (some a) ρ = (a ρ).bind fun d => match d with | .int i => .ok (some i) | _ => .no := rfl
@[simp] theorem q_cut {l h : Option ZE} : eCut a l h ρ = (a ρ).bind fun x => (ePart l ρ).bind fun l => (ePart h ρ).bind fun h => cutD x l h := rfl
@[simp] theorem q_blt {f : Blt} {zs : List ZE} : eBlt f zs ρ = (eArgs zs ρ).bind fun ds => bltD f ds := rfl
@[simp] theorem q_isi {t : String} : eIsi a t ρ = (a ρ).bind fun x => isiD x t := rfl
@[simp] theorem q_call {call : Call} {f : Str} {zs : List ZE} : eCall call f zs ρ = (eArgs zs ρ).bind fun ds => call f ds := rfl
@[simp] theorem q_sortK {call : Call} {f : Str} : eSortK call f a ρ = (a ρ).bind fun x => sortKD call f x := rfl
@[simp] theorem q_flat : eFlat a ρ = (a ρ).bind fun d => chk (flat d) (.ok d) := rfl
@[simp] theorem q_iseq : iSeq a ρ = (a ρ).bind seqD := rfl
@[simp] theorem q_irange {zs : List ZE} : iRange zs ρ = (eArgs zs ρ).bind rangeD := rfl
@[simp] theorem q_izip : iZip a b ρ = (a ρ).bind fun x => (b ρ).bind fun y => zipD x y := rfl
@[simp] theorem q_ienum : iEnum a ρ = (a ρ).bind enumD := rfl
@[simp] theorem q_gN : gN i d ρ = .ok (ρ.set i (some d)) := rfl
@[simp] theorem q_gT {gs : List ZG} {ds : List D} : gT gs (.tup ds) ρ = gEach gs ds ρ := rfl
@[simp] theorem q_gE0 : gEach [] [] ρ = .ok ρ := rfl
@[simp] theorem q_gE {g : ZG} {gs : List ZG} {ds : List D} : gEach (g :: gs) (d :: ds) ρ = (g d ρ).bind fun ρ1 => gEach gs ds ρ1 := rfl
@[simp] theorem q_kill0 : killE [] ρ = ρ := rfl
@[simp] theorem q_kill {ks : List Nat} : killE (i :: ks) ρ = killE ks (ρ.set i none) := rfl
@[simp] theorem q_nil : sNil ρ = .nx ρ := rfl
@[simp] theorem q_seq {s t : ZS} : sSeq s t ρ = match s ρ with | .nx ρ' => t ρ' | o => o := rfl
@[simp] theorem q_set : sSet i a ρ = ofR (a ρ) fun d => .nx (ρ.set i (some d)) := rfl
@[simp] theorem q_move : sMove i j ρ = ofR (look ρ j) fun d => .nx ((ρ.set j none).set i (some d)) := rfl
@[simp] theorem q_unp {g : ZG} : sUnp g a ρ = ofR (a ρ) fun d => ofR (g d ρ) .nx := rfl
@[simp] theorem q_par {is : List Nat} {zs : List ZE} : sPar is zs ρ = ofR (eArgs zs ρ) fun ds => .nx ((is.zip ds).foldl (fun r p => r.set p.1 (some p.2)) ρ) := rfl
@[simp] theorem q_aug {o : Operator} : sAug o i a ρ = ofR (look ρ i) fun x => ofR (a ρ) fun y => ofR (chk (isAtom x && isAtom y) (binD o x y)) fun z => .nx (ρ.set i (some z)) := rfl
@[simp] theorem q_ret : sRet a ρ = ofR (a ρ) .rt := rfl
@[simp] theorem q_retN : sRetN ρ = .rt .non := rfl
@[simp] theorem q_if {s t : ZS} : sIf c s t ρ = ofR (c ρ) fun x => ofR (truD x) fun k => if k = true then s ρ else t ρ := rfl
@[simp] theorem q_cont : sCont ρ = .ct ρ := rfl
@[simp] theorem q_app : sApp i a ρ = ofR (a ρ) fun d => ofR (look ρ i) fun x => ofR (appD x d) fun z => .nx (ρ.set i (some z)) := rfl
@[simp] theorem q_ext : sExt i a ρ = ofR (a ρ) fun d => ofR (look ρ i) fun x => ofR (extD x d) fun z => .nx (ρ.set i (some z)) := rfl
@[simp] theorem q_appPop : sAppPop i j a ρ = ofR (a ρ) fun k => ofR (look ρ j) fun y => ofR (popD y k) fun p => ofR (look ρ i) fun x => ofR (appD x p.1) fun z => .nx ((ρ.set j (some p.2)).set i (some z)) := rfl
@[simp] theorem q_spoil : sSpoil i a b ρ = ofR (a ρ) fun x => ofR (b ρ) fun d => ofR (appD x d) fun _ => .nx (ρ.set i none) := rfl
@[simp] theorem q_tests0 : tests [] ρ = .ok true := rfl
@[simp] theorem q_tests {cs : List ZE} : tests (c :: cs) ρ = (c ρ).bind fun x => (truD x).bind fun k => if k = true then tests cs ρ else .ok false := rfl
@[simp] theorem q_compF {own : List Nat} {g : ZG} {cs : List ZE} : compF own g cs a ρ x = (g x (killE own ρ)).bind fun ρ1 => (tests cs ρ1).bind fun k => if k = true then (a ρ1).bind fun y => .ok (some y) else .ok none := rfl
theorem q_comp {own : List Nat} {g : ZG} {it : ZI} {cs : List ZE} : eComp own g it cs a ρ = (it ρ).bind fun xs => (compL (compF own g cs a ρ) xs).bind fun ys => .ok (.lst ys) := rfl
theorem q_for {kl : List Nat} {g : ZG} {it : ZI} {s : ZS} : sFor kl g it s ρ = ofR (it ρ) fun xs => forL kl (fun x ρ' => ofR (g x ρ') s) xs (killE kl ρ) := rfl
@[simp] theorem q_end_rt : endD (.rt d) = .ok d := rfl
@[simp] theorem q_end_nx : endD (.nx ρ) = .ok .non := rfl
end
/-! ### operators on data that are there -/
section
variable {i j : Int} {x y : Str} {xs ys : List D}
@[simp] theorem b_add : binD .Add (.int i) (.int j) = .ok (.int (i + j)) := rfl
@[simp] theorem b_sub : binD .Sub (.int i) (.int j) = .ok (.int (i - j)) := rfl
theorem b_mul (h : i.natAbs < 2 ^ 64 ∨ j.natAbs < 2 ^ 64) : binD .Mult (.int i) (.int j) = .ok (.int (i * j)) := by
  show chk (decide _) _ = _
  rw [decide_eq_true h]; rfl
theorem b_div (h : 0 < j ∧ j < 1073741824) : binD .FloorDiv (.int i) (.int j) = .ok (.int (i / j)) := by
  show chk (decide _) _ = _
  rw [decide_eq_true h]; rfl
theorem b_mod (h : 0 < j) : binD .Mod (.int i) (.int j) = .ok (.int (i % j)) := by
  show chk (decide _) _ = _
  rw [decide_eq_true h]; rfl
theorem b_pow (h : 0 ≤ j ∧ j ≤ 1000000 ∧ i.natAbs < 2 ^ 64) : binD .Pow (.int i) (.int j) = .ok (.int (i ^ j.toNat)) := by
  show chk (decide _) _ = _
  rw [decide_eq_true h]; rfl
theorem b_adds (h : x.length + y.length ≤ sizeLine) : binD .Add (.str x) (.str y) = .ok (.str (x ++ y)) := by
  show chk (decide _) _ = _
  rw [decide_eq_true h]; rfl
theorem b_addl (h : xs.length + ys.length ≤ sizeLine) : binD .Add (.lst xs) (.lst ys) = .ok (.lst (xs ++ ys)) := by
  show chk (decide _) _ = _
  rw [decide_eq_true h]; rfl
@[simp] theorem c_lt : cmpD .Lt (.int i) (.int j) = .ok (decide (i < j)) := rfl
@[simp] theorem c_le : cmpD .LtE (.int i) (.int j) = .ok (decide (i ≤ j)) := rfl
@[simp] theorem c_gt : cmpD .Gt (.int i) (.int j) = .ok (decide (j < i)) := rfl
@[simp] theorem c_ge : cmpD .GtE (.int i) (.int j) = .ok (decide (j ≤ i)) := rfl
@[simp] theorem c_eq {a b : D} : cmpD .Eq a b = eqD a b := rfl
@[simp] theorem c_ne {a b : D} : cmpD .NotEq a b = notR (eqD a b) := rfl
@[simp] theorem c_in {a b : D} : cmpD .In a b = inD a b := rfl
@[simp] theorem c_nin {a b : D} : cmpD .NotIn a b = notR (inD a b) := rfl
@[simp] theorem c_is {a : D} : cmpD .Is a .non = .ok (isNone a) := rfl
@[simp] theorem c_isn {a : D} : cmpD .IsNot a .non = .ok (!isNone a) := rfl
@[simp] theorem n_ok {b : Bool} : notR (.ok b) = .ok (!b) := rfl
@[simp] theorem t_bl {b : Bool} : truD (.bl b) = .ok b := rfl
@[simp] theorem t_lst : truD (.lst xs) = .ok (!xs.isEmpty) := rfl
@[simp] theorem f_len : bltD .len [.lst xs] = .ok (.int xs.length) := rfl
@[simp] theorem f_lenS {ns : List Int} : bltD .len [.scr ns] = .ok (.int ns.length) := rfl
@[simp] theorem f_int : bltD .int [.int i] = .ok (.int i) := rfl
@[simp] theorem f_intb {b : Bool} : bltD .int [.bl b] = .ok (.int (if b then 1 else 0)) := rfl
@[simp] theorem f_list : bltD .list [.lst xs] = .ok (.lst xs) := rfl
@[simp] theorem f_all {bs : List Bool} : bltD .all [.lst (bs.map .bl)] = .ok (.bl (bs.all id)) := by show (boolsOf _).bind _ = _; rw [boolsOf_map]; rfl
@[simp] theorem f_any {bs : List Bool} : bltD .any [.lst (bs.map .bl)] = .ok (.bl (bs.any id)) := by show (boolsOf _).bind _ = _; rw [boolsOf_map]; rfl
@[simp] theorem f_sum {bs : List Int} : bltD .sum [.lst (bs.map .int)] = .ok (.int bs.sum) := by show (intsOf _).bind _ = _; rw [intsOf_map]; rfl
theorem f_app {d : D} (h : xs.length < sizeLine) : appD (.lst xs) d = .ok (.lst (xs ++ [d])) := by
  show chk (decide _) _ = _
  rw [decide_eq_true h]; rfl
theorem f_range {n : Nat} (h : n ≤ 16000000) : rangeD [.int n] = .ok ((List.range n).map fun (k : Nat) => .int k) := by
  show chk (decide _) _ = _
  rw [decide_eq_true (by omega)]; rfl
theorem sizeLine_big : 16777216 ≤ sizeLine := by rw [sizeLine_eq]; exact Nat.le_refl _
end
end Z
/-! Z, part V: what many laws' own helpers give, in plain words. -/
namespace Z
open PySem PySem.Spec PyProof.Rows
open En (en)

/-- the numbers drawn from one of the script's -/
def zNumbersB : ZS := (sIf (eCmp .GtE (eVar 3) (eBin .Pow (eLit (.int 10)) (eLit (.int 18)))) (sSeq (sApp 4 (eBin .Mod (eVar 3) (eLit (.int 1009)))) (sSet 3 (eBin .FloorDiv (eVar 3) (eLit (.int 1009))))) (sSeq (sSet 6 (eBin .Mod (eBin .Add (eBin .Add (eBin .Mult (eVar 3) (eLit (.int 48271))) (eBin .Mult (eBin .Add (eVar 5) (eLit (.int 1))) (eLit (.int 69621)))) (eBin .Mult (eVar 1) (eLit (.int 4001)))) (eLit (.int 2147483647)))) (sSeq (sSet 6 (eBin .Mod (eBin .Add (eBin .Mult (eVar 6) (eVar 6)) (eBin .Mult (eLit (.int 16807)) (eBin .Add (eVar 5) (eLit (.int 3))))) (eLit (.int 2147483629)))) (sApp 4 (eBin .Mod (eBin .FloorDiv (eVar 6) (eLit (.int 7))) (eLit (.int 1009)))))))
def zNumbers : ZS := (sSeq (sSet 3 (eBin .Mult (eLit (.int 1000003)) (eBin .Add (eVar 1) (eLit (.int 1))))) (sSeq (sIf (eCmp .Lt (eVar 1) (eBlt .len [(eVar 0)])) (sSet 3 (eBlt .int [(eIx (eVar 0) (eVar 1))])) sNil) (sSeq (sIf (eCmp .Lt (eVar 3) (eLit (.int 0))) (sSet 3 (eBin .Sub (eLit (.int 1)) (eBin .Mult (eLit (.int 2)) (eVar 3)))) sNil) (sSeq (sSet 4 (eLst [])) (sSeq (sFor [5, 6] (gN 5) (iRange [(eVar 2)]) zNumbersB) (sRet (eVar 4)))))))
theorem numbers_body (scr : D) (at_ : Int) (cnt : D) (c : Int) (xs : List Int) (k : Nat) (hc : 0 ≤ c) (hl : xs.length = k) (hk : k ≤ 1000000) (hb : ∀ x ∈ xs, 0 ≤ x ∧ x < 1009) : ∃ (c' : Int) (x : Int) (m : Option D), 0 ≤ c' ∧ 0 ≤ x ∧ x < 1009 ∧
    zNumbersB [some scr, some (.int at_), some cnt, some (.int c), some (.lst (xs.map .int)), some (.int k), none] = .nx [some scr, some (.int at_), some cnt, some (.int c'), some (.lst ((xs ++ [x]).map .int)), some (.int k), m] := by
  have big := sizeLine_big
  have la : ∀ d : D, appD (.lst (xs.map .int)) d = .ok (.lst (xs.map .int ++ [d])) := fun d => f_app (by rw [List.length_map]; omega)
  by_cases h : 1000000000000000000 ≤ c
  · refine ⟨c / 1009, c % 1009, none, by omega, by omega, by omega, ?_⟩
    simp [zNumbersB, b_pow, b_mod, b_div, la, h]
  · refine ⟨c, ((((c * 48271 + (k + 1) * 69621 + at_ * 4001) % 2147483647) * ((c * 48271 + (k + 1) * 69621 + at_ * 4001) % 2147483647) + 16807 * (k + 3)) % 2147483629) / 7 % 1009, some (.int ((((c * 48271 + (k + 1) * 69621 + at_ * 4001) % 2147483647) * ((c * 48271 + (k + 1) * 69621 + at_ * 4001) % 2147483647) + 16807 * (k + 3)) % 2147483629)), hc, by omega, by omega, ?_⟩
    have m1 : binD .Mult (.int c) (.int 48271) = .ok (.int (c * 48271)) := b_mul (.inr (by decide))
    have m2 : binD .Mult (.int (k + 1)) (.int 69621) = .ok (.int ((k + 1) * 69621)) := b_mul (.inr (by decide))
    have m3 : binD .Mult (.int at_) (.int 4001) = .ok (.int (at_ * 4001)) := b_mul (.inr (by decide))
    have m4 : binD .Mult (.int 16807) (.int (k + 3)) = .ok (.int (16807 * (k + 3))) := b_mul (.inl (by decide))
    have m5 : ∀ z : Int, binD .Mult (.int (z % 2147483647)) (.int (z % 2147483647)) = .ok (.int (z % 2147483647 * (z % 2147483647))) := fun z => b_mul (.inl (by omega))
    simp [zNumbersB, b_pow, b_mod, b_div, la, h, m1, m2, m3, m4, m5]
theorem sFor_inv {kl : List Nat} {g : ZG} {it : ZI} {b : ZS} {ρ0 : Env} {xs : List D} (hit : it ρ0 = .ok xs) (P : Nat → Env → Prop) (h0 : P 0 (killE kl ρ0)) (st : ∀ j x ρ, xs[j]? = some x → P j ρ → ∃ ρ1 ρ', g x ρ = .ok ρ1 ∧ (b ρ1 = .nx ρ' ∨ b ρ1 = .ct ρ') ∧ P (j + 1) (killE kl ρ')) :
    ∃ ρ', sFor kl g it b ρ0 = .nx ρ' ∧ P xs.length ρ' := by
  obtain ⟨ρ', h1, h2⟩ := forL_inv (f := fun x ρ' => ofR (g x ρ') b) (kill := kl) P xs 0 (killE kl ρ0) h0 fun j x ρ hx hp => by
    rw [Nat.zero_add] at hp ⊢
    obtain ⟨ρ1, ρ', e1, e2, e3⟩ := st j x ρ hx hp
    exact ⟨ρ', by rw [e1]; exact e2, e3⟩
  rw [Nat.zero_add] at h2
  exact ⟨ρ', by rw [q_for, hit]; exact h1, h2⟩
theorem range_at {n j : Nat} {x : D} (h : ((List.range n).map fun (k : Nat) => D.int k)[j]? = some x) : j < n ∧ x = .int j := by
  have hj : j < n := by
    have := (List.getElem?_eq_some_iff.mp h).1
    simpa using this
  rw [List.getElem?_map, List.getElem?_range hj] at h
  exact ⟨hj, (Option.some.inj h).symm⟩
theorem numbers_ok (ns : List Int) (a n : Nat) (hn : n ≤ 1000000) : ∃ xs : List Int, endD (zNumbers [some (.scr ns), some (.int a), some (.int n), none, none, none, none]) = .ok (.lst (xs.map .int)) ∧ xs.length = n ∧ ∀ x ∈ xs, 0 ≤ x ∧ x < 1009 := by
  have key : ∀ c0 : Int, 0 ≤ c0 → ∃ (c : Int) (xs : List Int), sFor [5, 6] (gN 5) (iRange [(eVar 2)]) zNumbersB [some (.scr ns), some (.int a), some (.int n), some (.int c0), some (.lst []), none, none] = .nx [some (.scr ns), some (.int a), some (.int n), some (.int c), some (.lst (xs.map .int)), none, none] ∧ xs.length = n ∧ ∀ x ∈ xs, 0 ≤ x ∧ x < 1009 := fun c0 h0 => by
    let P : Nat → Env → Prop := fun i ρ => ∃ (c : Int) (xs : List Int), ρ = [some (.scr ns), some (.int a), some (.int n), some (.int c), some (.lst (xs.map .int)), none, none] ∧ 0 ≤ c ∧ xs.length = i ∧ ∀ x ∈ xs, 0 ≤ x ∧ x < 1009
    obtain ⟨ρ', h1, c, xs, e, _, h4, h5⟩ := sFor_inv (kl := [5, 6]) (g := gN 5) (it := iRange [(eVar 2)]) (b := zNumbersB) (ρ0 := [some (.scr ns), some (.int a), some (.int n), some (.int c0), some (.lst []), none, none]) (xs := (List.range n).map fun (k : Nat) => .int k) (by simp [f_range (n := n) (by omega)])
      P ⟨c0, [], by simp, h0, rfl, fun x hx => (List.not_mem_nil hx).elim⟩ (by
        rintro j x ρ hx ⟨c, xs, rfl, hc, hl, hb⟩
        obtain ⟨hj, rfl⟩ := range_at hx
        obtain ⟨c', x, m, h1, h2, h3, h4⟩ := numbers_body (.scr ns) a (.int n) c xs j hc hl (by omega) hb
        refine ⟨_, _, rfl, .inl (by simpa using h4), c', xs ++ [x], by simp, h1, by simp [hl], fun y hy => ?_⟩
        rcases List.mem_append.mp hy with hy | hy
        · exact hb y hy
        · have : y = x := by simpa using hy
          rw [this]; exact ⟨h2, h3⟩)
    subst e
    exact ⟨c, xs, h1, by simpa using h4, h5⟩
  have m1 : binD .Mult (.int 1000003) (.int (a + 1)) = .ok (.int (1000003 * (a + 1))) := b_mul (.inl (by decide))
  have m2 : ∀ z : Int, binD .Mult (.int 2) (.int z) = .ok (.int (2 * z)) := fun z => b_mul (.inl (by decide))
  have fin : ∀ cell : Int, ∃ c0, 0 ≤ c0 ∧ (if cell < 0 then 1 - 2 * cell else cell) = c0 := fun cell => ⟨_, by split <;> omega, rfl⟩
  by_cases h : a < ns.length
  · obtain ⟨c0, h0, e0⟩ := fin ns[a]
    obtain ⟨c, xs, h1, h2, h3⟩ := key c0 h0
    refine ⟨xs, ?_, h2, h3⟩
    have ix : ixD (.scr ns) (.int a) = .ok (.int ns[a]) := by
      have : L2.atI ns (a : Int) = some ns[a] := L2.atI_nat (List.getElem?_eq_getElem h)
      simp [ixD, this]
    by_cases hneg : ns[a] < 0
    · rw [if_pos hneg] at e0
      simp [zNumbers, m1, m2, h, ix, hneg, e0, h1]
    · rw [if_neg hneg] at e0
      subst e0
      simp [zNumbers, m1, m2, h, ix, hneg, h1]
  · obtain ⟨c, xs, h1, h2, h3⟩ := key (1000003 * (a + 1)) (by omega)
    refine ⟨xs, ?_, h2, h3⟩
    have hneg : ¬ (1000003 * ((a : Int) + 1) < 0) := by omega
    simp [zNumbers, m1, m2, h, hneg, h1]
end Z
/-! Z, part W: the names that many laws draw. -/
namespace Z
open PySem PySem.Spec PyProof.Rows
open En (en)

theorem ix_tx {l : List Nat} {i c : Nat} (h : l[i]? = some c) (hl : l.length ≤ 16777216) : ixD (.str (tx l)) (.int i) = .ok (.str (tx [c])) := by
  have h1 : L2.atI l (i : Int) = some c := L2.atI_nat h
  show chk (decide ((tx l).length ≤ sizeLine)) (match L2.atI l (i : Int) with | some c => R.ok (D.str ⟨#[c]⟩) | none => R.no) = _
  have h2 : decide ((tx l).length ≤ sizeLine) = true := decide_eq_true (by rw [tx_len]; exact Nat.le_trans hl sizeLine_big)
  rw [h2, h1]
  rfl
theorem ix_txl {l : List Nat} {c : Nat} (hl : (l ++ [c]).length ≤ 16777216) : ixD (.str (tx (l ++ [c]))) (.int (-1)) = .ok (.str (tx [c])) := by
  have h1 : L2.atI (l ++ [c]) (-1) = some c := L2.atI_last l c
  show chk (decide ((tx (l ++ [c])).length ≤ sizeLine)) (match L2.atI (l ++ [c]) (-1) with | some c => R.ok (D.str ⟨#[c]⟩) | none => R.no) = _
  have h2 : decide ((tx (l ++ [c])).length ≤ sizeLine) = true := decide_eq_true (by rw [tx_len]; exact Nat.le_trans hl sizeLine_big)
  rw [h2, h1]
  rfl
theorem ix_lst {xs : List D} {i : Nat} {d : D} (h : xs[i]? = some d) : ixD (.lst xs) (.int i) = .ok d := by
  have h1 : L2.atI xs (i : Int) = some d := L2.atI_nat h
  show (match L2.atI xs (i : Int) with | some d => R.ok d | none => R.no) = _
  rw [h1]
theorem ix_lstl {xs : List D} {d : D} : ixD (.lst (xs ++ [d])) (.int (-1)) = .ok d := by
  have h1 : L2.atI (xs ++ [d]) (-1) = some d := L2.atI_last xs d
  show (match L2.atI (xs ++ [d]) (-1) with | some d => R.ok d | none => R.no) = _
  rw [h1]
theorem cut_tx1 {l : List Nat} (hl : l.length ≤ 16777216) : cutD (.str (tx l)) (some 1) none = .ok (.str (tx (l.drop 1))) := by
  have h2 : decide ((tx l).length ≤ sizeLine) = true := decide_eq_true (by rw [tx_len]; exact Nat.le_trans hl sizeLine_big)
  show chk (decide ((tx l).length ≤ sizeLine)) (R.ok (D.str (L2.cutS (tx l) (some 1) none))) = _
  rw [h2]
  have e : L2.cutS (tx l) (some 1) none = tx (l.drop 1) := by
    unfold L2.cutS
    rw [tx_len]
    have e1 : HT.sIx l.length 0 (some 1) = min 1 l.length := HT.sIx_nat l.length 0 1
    rw [e1, HT.sIx_none]
    show tx ((l.drop (min 1 l.length)).take (l.length - min 1 l.length)) = tx (l.drop 1)
    cases l with
    | nil => rfl
    | cons c r =>
      have e2 : min 1 (c :: r).length = 1 := by simp
      rw [e2]
      simp
  rw [e]
  rfl
theorem len_tx {l : List Nat} (hl : l.length ≤ 16777216) : bltD .len [.str (tx l)] = .ok (.int l.length) := by
  have h2 : decide ((tx l).length ≤ sizeLine) = true := decide_eq_true (by rw [tx_len]; exact Nat.le_trans hl sizeLine_big)
  show chk (decide ((tx l).length ≤ sizeLine)) (R.ok (D.int (tx l).length)) = _
  rw [h2, tx_len]
  rfl
theorem add_tx {a b : List Nat} (h : a.length + b.length ≤ 16777216) : binD .Add (.str (tx a)) (.str (tx b)) = .ok (.str (tx (a ++ b))) := by
  rw [b_adds (by rw [tx_len, tx_len]; exact Nat.le_trans h sizeLine_big), tx_app]

def al : List Nat := (List.range 26).map (97 + ·)
def alnum : List Nat := al ++ (List.range 10).map (48 + ·)
theorem lit_al : (("abcdefghijklmnopqrstuvwxyz" : String) : Str) = tx al := by decide +kernel
theorem lit_num : (("0123456789" : String) : Str) = tx ((List.range 10).map (48 + ·)) := by decide +kernel
theorem al_at {i : Nat} (h : i < 26) : al[i]? = some (97 + i) := by unfold al; rw [List.getElem?_map, List.getElem?_range h]; rfl
theorem al_len : al.length = 26 := by decide
theorem alnum_len : alnum.length = 36 := by decide
/-- a sign of a name -/
def sgn (c : Nat) : Prop := (97 ≤ c ∧ c ≤ 122) ∨ (48 ≤ c ∧ c ≤ 57)
theorem alnum_at {i : Nat} (h : i < 36) : ∃ c, alnum[i]? = some c ∧ sgn c := by
  unfold alnum
  by_cases h2 : i < 26
  · exact ⟨97 + i, by rw [List.getElem?_append_left (by rw [al_len]; exact h2)]; exact al_at h2, .inl ⟨by omega, by omega⟩⟩
  · refine ⟨48 + (i - 26), ?_, .inr ⟨by omega, by omega⟩⟩
    rw [List.getElem?_append_right (by rw [al_len]; omega), al_len, List.getElem?_map, List.getElem?_range (by omega)]
    rfl
/-- a name: up to 12 signs, the first a letter -/
structure Nm (l : List Nat) : Prop where
  head : ∃ c r, l = c :: r ∧ 97 ≤ c ∧ c ≤ 122
  len : l.length ≤ 12
  all : ∀ c ∈ l, sgn c
def zNameB : ZS := (sSeq (sSet 2 (eBin .Mod (eBin .Add (eBin .Add (eBin .Add (eBin .Mult (eVar 2) (eLit (.int 8191))) (eVar 0)) (eBin .Mult (eVar 6) (eLit (.int 77)))) (eLit (.int 5))) (eLit (.int 1000003)))) (sSet 5 (eBin .Add (eVar 5) (eIx (eVar 4) (eBin .Mod (eVar 2) (eLit (.int 36)))))))
def zName : ZS := (sSeq (sSet 3 (eLit (.str "abcdefghijklmnopqrstuvwxyz"))) (sSeq (sSet 4 (eBin .Add (eVar 3) (eLit (.str "0123456789")))) (sSeq (sSet 5 (eIx (eVar 3) (eBin .Mod (eVar 0) (eLit (.int 26))))) (sSeq (sFor [6] (gN 6) (iRange [(eBin .Mod (eVar 1) (eLit (.int 12)))]) zNameB) (sRet (eVar 5))))))
theorem name_body (f s m k : Nat) (l : List Nat) (hl : l.length ≤ 100) : ∃ m' c : Nat, sgn c ∧ zNameB [some (.int f), some (.int s), some (.int m), some (.str (tx al)), some (.str (tx alnum)), some (.str (tx l)), some (.int k)] =
    .nx [some (.int f), some (.int s), some (.int m'), some (.str (tx al)), some (.str (tx alnum)), some (.str (tx (l ++ [c]))), some (.int k)] := by
  have e1 : ((m : Int) * 8191 + f + k * 77 + 5) % 1000003 = (((m * 8191 + f + k * 77 + 5) % 1000003 : Nat) : Int) := by omega
  generalize hm : (m * 8191 + f + k * 77 + 5) % 1000003 = m' at e1
  obtain ⟨q, e2, hq⟩ : ∃ q : Nat, (m' : Int) % 36 = (q : Int) ∧ q < 36 := ⟨m' % 36, by omega, by omega⟩
  obtain ⟨c, hc1, hc2⟩ := alnum_at hq
  refine ⟨m', c, hc2, ?_⟩
  have m1 : binD .Mult (.int m) (.int 8191) = .ok (.int (m * 8191)) := b_mul (.inr (by decide))
  have m2 : binD .Mult (.int k) (.int 77) = .ok (.int (k * 77)) := b_mul (.inr (by decide))
  have i1 := ix_tx hc1 (by rw [alnum_len]; omega)
  have a1 := add_tx (a := l) (b := [c]) (by simp; omega)
  simp [zNameB, m1, m2, b_mod, e1, e2, i1, a1]
theorem lit_app : tx al ++ tx ((List.range 10).map (48 + ·)) = tx alnum := by rw [tx_app]; rfl
theorem name_ok (f s m : Nat) : ∃ l, endD (zName [some (.int f), some (.int s), some (.int m), none, none, none, none]) = .ok (.str (tx l)) ∧ Nm l := by
  let P : Nat → Env → Prop := fun i ρ => ∃ (m : Nat) (l : List Nat), ρ = [some (.int f), some (.int s), some (.int m), some (.str (tx al)), some (.str (tx alnum)), some (.str (tx l)), none] ∧ l.length = i + 1 ∧ (∃ c r, l = c :: r ∧ 97 ≤ c ∧ c ≤ 122) ∧ ∀ c ∈ l, sgn c
  obtain ⟨sn, hn, hs⟩ : ∃ q : Nat, (s : Int) % 12 = (q : Int) ∧ q < 12 := ⟨s % 12, by omega, by omega⟩
  obtain ⟨fn, hf, hfl⟩ : ∃ q : Nat, (f : Int) % 26 = (q : Int) ∧ q < 26 := ⟨f % 26, by omega, by omega⟩
  have hc : al[fn]? = some (97 + fn) := al_at hfl
  obtain ⟨ρ', h1, m', l, e, h2, h3, h4⟩ := sFor_inv (kl := [6]) (g := gN 6) (it := iRange [(eBin .Mod (eVar 1) (eLit (.int 12)))]) (b := zNameB) (ρ0 := [some (.int f), some (.int s), some (.int m), some (.str (tx al)), some (.str (tx alnum)), some (.str (tx [97 + fn])), none]) (xs := (List.range sn).map fun (k : Nat) => .int k)
    (by simp [b_mod, hn, f_range (n := sn) (by omega)]) P ⟨m, [97 + fn], by simp, rfl, ⟨_, _, rfl, by omega, by omega⟩, fun c hc => by
      have : c = 97 + fn := by simpa using hc
      exact .inl ⟨by omega, by omega⟩⟩ (by
      rintro j x ρ hx ⟨m, l, rfl, h2, ⟨c0, r, h3, h5, h6⟩, h4⟩
      obtain ⟨hj, rfl⟩ := range_at hx
      obtain ⟨m', c, h7, h8⟩ := name_body f s m j l (by omega)
      refine ⟨_, _, rfl, .inl (by simpa using h8), m', l ++ [c], by simp, by simp [h2], ⟨c0, r ++ [c], by rw [h3]; rfl, h5, h6⟩, fun d hd => ?_⟩
      rcases List.mem_append.mp hd with hd | hd
      · exact h4 d hd
      · have : d = c := by simpa using hd
        rw [this]; exact h7)
  subst e
  have hl : l.length ≤ 12 := by
    rw [List.length_map, List.length_range] at h2
    omega
  refine ⟨l, ?_, ⟨h3, hl, h4⟩⟩
  have i1 := ix_tx hc (by rw [al_len]; omega)
  have a1 : binD .Add (.str (tx al)) (.str (tx ((List.range 10).map (48 + ·)))) = .ok (.str (tx alnum)) := by rw [b_adds (by rw [tx_len, tx_len]; exact Nat.le_trans (by decide) sizeLine_big), lit_app]
  simp [zName, lit_al, lit_num, a1, b_mod, hf, i1, h1]

/-! ### names, one not like another -/
theorem pigeon {α : Type} [DecidableEq α] : ∀ {xs ys : List α}, xs.Nodup → (∀ x ∈ xs, x ∈ ys) → xs.length ≤ ys.length
  | [], _, _, _ => Nat.zero_le _
  | x :: xs, ys, nd, h => by
    rw [List.nodup_cons] at nd
    have hx := h x List.mem_cons_self
    have ih := pigeon (xs := xs) (ys := ys.erase x) nd.2 fun y hy => by
      have ne : y ≠ x := fun e => nd.1 (by rw [← e]; exact hy)
      exact (List.mem_erase_of_ne ne).mpr (h y (List.mem_cons_of_mem _ hy))
    rw [List.length_erase_of_mem hx] at ih
    have : 0 < ys.length := List.length_pos_of_mem hx
    rw [List.length_cons]
    omega
/-- the first sign is changed while the name is there already -/
def nmIter (fs : List (List Nat)) (one : Nat) (l : List Nat) : Nat → List Nat
  | 0 => l
  | i + 1 => if nmIter fs one l i ∈ fs then (97 + (one + i) % 26) :: (nmIter fs one l i).drop 1 else nmIter fs one l i
theorem nmIter_nm {fs : List (List Nat)} {one : Nat} {l : List Nat} (h : Nm l) : ∀ i, Nm (nmIter fs one l i) ∧ (nmIter fs one l i).drop 1 = l.drop 1
  | 0 => ⟨h, rfl⟩
  | i + 1 => by
    obtain ⟨h1, h2⟩ := nmIter_nm h i
    unfold nmIter
    split
    · obtain ⟨c, r, e, _⟩ := h1.head
      refine ⟨⟨⟨_, _, rfl, by omega, by omega⟩, ?_, fun d hd => ?_⟩, by simpa using h2⟩
      · have := h1.len
        rw [e] at this ⊢
        simpa using this
      · rcases List.mem_cons.mp hd with hd | hd
        · exact .inl ⟨by omega, by omega⟩
        · exact h1.all d (List.mem_of_mem_drop hd)
    · exact ⟨h1, h2⟩
theorem nmIter_stay {fs : List (List Nat)} {one : Nat} {l : List Nat} {i : Nat} (h : nmIter fs one l i ∉ fs) : ∀ k, nmIter fs one l (i + k) = nmIter fs one l i
  | 0 => rfl
  | k + 1 => by
    have ih := nmIter_stay h k
    show (if nmIter fs one l (i + k) ∈ fs then _ else nmIter fs one l (i + k)) = _
    rw [ih, if_neg h]
theorem nmIter_new {fs : List (List Nat)} {one : Nat} {l : List Nat} (hf : fs.length < 26) : nmIter fs one l 26 ∉ fs := fun bad => by
  have all : ∀ i, i ≤ 26 → nmIter fs one l i ∈ fs := fun i hi => by
    by_cases h : nmIter fs one l i ∈ fs
    · exact h
    · have := nmIter_stay h (26 - i)
      rw [show i + (26 - i) = 26 by omega] at this
      rw [this] at bad
      exact absurd bad h
  have form : ∀ i, i < 26 → nmIter fs one l (i + 1) = (97 + (one + i) % 26) :: l.drop 1 := fun i => by
    induction i with
    | zero => intro hi; show (if nmIter fs one l 0 ∈ fs then _ else _) = _; rw [if_pos (all 0 (by omega))]; rfl
    | succ i ih =>
      intro hi
      show (if nmIter fs one l (i + 1) ∈ fs then _ else _) = _
      rw [if_pos (all (i + 1) (by omega)), ih (by omega)]
      rfl
  have := pigeon (xs := (List.range 26).map fun i => nmIter fs one l (i + 1)) (ys := fs) (by
    rw [List.nodup_iff_pairwise_ne, List.pairwise_map]
    refine List.Pairwise.imp_of_mem ?_ (List.nodup_range (n := 26))
    intro a b ha hb hne e
    rw [List.mem_range] at ha hb
    rw [form a ha, form b hb] at e
    have e := (List.cons.inj e).1
    omega) (fun x hx => by
    obtain ⟨i, hi, rfl⟩ := List.mem_map.mp hx
    rw [List.mem_range] at hi
    exact all (i + 1) (by omega))
  rw [List.length_map, List.length_range] at this
  omega
end Z
/-! Z, part X: lists of names. -/
namespace Z
open PySem PySem.Spec PyProof.Rows
open En (en)

def dtx (l : List Nat) : D := .str (tx l)
theorem in_tx (l : List Nat) (fs : List (List Nat)) : inD (.str (tx l)) (.lst (fs.map dtx)) = .ok (decide (l ∈ fs)) := by
  have h := inD_en (α := Str) (by show (0 : Nat) ≤ 99; omega) (tx l) (fs.map tx)
  rw [List.map_map] at h
  have e : (tx l ∈ fs.map tx) ↔ l ∈ fs := by
    constructor
    · intro h
      obtain ⟨m, h1, h2⟩ := List.mem_map.mp h
      rw [tx_inj] at h2
      rw [← h2]; exact h1
    · intro h; exact List.mem_map.mpr ⟨l, h, rfl⟩
  rw [decide_eq_decide.mpr e] at h
  exact h
def zNamesI : ZS := (sIf (eCmp .In (eVar 5) (eVar 3)) (sSet 5 (eBin .Add (eIx (eVar 2) (eBin .Mod (eBin .Add (eVar 7) (eVar 6)) (eLit (.int 26)))) (eCut (eVar 5) (some (eLit (.int 1))) none))) sNil)
def zNamesB (call : Call) : ZS := (sSeq (sPar [7, 8, 9] [(eIx (eVar 0) (eBin .Mult (eLit (.int 3)) (eVar 4))), (eIx (eVar 0) (eBin .Add (eBin .Mult (eLit (.int 3)) (eVar 4)) (eLit (.int 1)))), (eIx (eVar 0) (eBin .Add (eBin .Mult (eLit (.int 3)) (eVar 4)) (eLit (.int 2))))]) (sSeq (sSet 5 (eCall call "_law_name" [(eVar 7), (eVar 8), (eVar 9)])) (sSeq (sIf (eAnd (eCmp .Gt (eVar 4) (eLit (.int 0))) (eAnd (eCmp .Eq (eBin .Mod (eVar 9) (eLit (.int 3))) (eLit (.int 0))) (eCmp .Lt (eBlt .len [(eIx (eVar 3) (eNeg (eLit (.int 1))))]) (eLit (.int 12))))) (sSet 5 (eBin .Add (eIx (eVar 3) (eNeg (eLit (.int 1)))) (eIx (eVar 5) (eNeg (eLit (.int 1)))))) sNil) (sSeq (sFor [6] (gN 6) (iRange [(eLit (.int 26))]) zNamesI) (sApp 3 (eVar 5))))))
def zNames (call : Call) : ZS := (sSeq (sSet 2 (eLit (.str "abcdefghijklmnopqrstuvwxyz"))) (sSeq (sSet 3 (eLst [])) (sSeq (sFor [4, 5, 6, 7, 8, 9] (gN 4) (iRange [(eVar 1)]) (zNamesB call)) (sRet (eVar 3)))))
section
variable {nums cnt : D} {fs : List (List Nat)} {k one : Nat} {size mix : D} {l : List Nat}
theorem namesI_ok {st : Nat} (h : Nm l) : zNamesI [some nums, some cnt, some (.str (tx al)), some (.lst (fs.map dtx)), some (.int k), some (.str (tx l)), some (.int st), some (.int one), some size, some mix] =
    .nx [some nums, some cnt, some (.str (tx al)), some (.lst (fs.map dtx)), some (.int k), some (.str (tx (if l ∈ fs then (97 + (one + st) % 26) :: l.drop 1 else l))), some (.int st), some (.int one), some size, some mix] := by
  have hl := h.len
  have i0 := in_tx l fs
  by_cases hm : l ∈ fs
  · obtain ⟨q, e, hq, eq⟩ : ∃ q : Nat, ((one : Int) + st) % 26 = (q : Int) ∧ q < 26 ∧ (one + st) % 26 = q := ⟨(one + st) % 26, by omega, by omega, rfl⟩
    have i1 := ix_tx (al_at hq) (by rw [al_len]; omega)
    have c1 := cut_tx1 (l := l) (by omega)
    have a1 := add_tx (a := [97 + q]) (b := l.drop 1) (by simp; omega)
    simp [zNamesI, i0, hm, b_mod, e, i1, c1, a1, eq, -List.drop_one]
  · simp [zNamesI, i0, hm]
theorem namesI_loop (h : Nm l) : sFor [6] (gN 6) (iRange [(eLit (.int 26))]) zNamesI [some nums, some cnt, some (.str (tx al)), some (.lst (fs.map dtx)), some (.int k), some (.str (tx l)), none, some (.int one), some size, some mix] =
    .nx [some nums, some cnt, some (.str (tx al)), some (.lst (fs.map dtx)), some (.int k), some (.str (tx (nmIter fs one l 26))), none, some (.int one), some size, some mix] := by
  let E : Nat → Env := fun i => [some nums, some cnt, some (.str (tx al)), some (.lst (fs.map dtx)), some (.int k), some (.str (tx (nmIter fs one l i))), none, some (.int one), some size, some mix]
  obtain ⟨ρ', h1, h2⟩ := sFor_inv (kl := [6]) (g := gN 6) (it := iRange [(eLit (.int 26))]) (b := zNamesI) (ρ0 := E 0) (xs := (List.range 26).map fun (k : Nat) => .int k) (f_range (n := 26) (by omega)) (fun i ρ => ρ = E i) rfl (by
    rintro j x ρ hx rfl
    obtain ⟨hj, rfl⟩ := range_at hx
    exact ⟨_, _, rfl, .inl (namesI_ok (nmIter_nm h j).1), rfl⟩)
  rw [List.length_map, List.length_range] at h2
  rw [h2] at h1
  exact h1
end
/-- the numbers, as they are read -/
def dns (ns : List Nat) : D := .lst (ns.map fun (n : Nat) => .int n)
theorem ix_ns {ns : List Nat} {i : Int} {j : Nat} (hi : i = j) (h : j < ns.length) : ixD (dns ns) (.int i) = .ok (.int (ns[j] : Nat)) := by
  subst hi
  exact ix_lst (by rw [List.getElem?_map, List.getElem?_eq_getElem h]; rfl)
theorem snoc_of {α : Type} : ∀ {l : List α}, l ≠ [] → ∃ r z, l = r ++ [z]
  | [], h => absurd rfl h
  | [x], _ => ⟨[], x, rfl⟩
  | x :: y :: l, _ => by
    obtain ⟨r, z, e⟩ := snoc_of (l := y :: l) (by simp)
    exact ⟨x :: r, z, by rw [e]; rfl⟩
theorem names_body (call : Call) (hcall : ∀ f s m : Nat, ∃ l, call "_law_name" [.int f, .int s, .int m] = .ok (.str (tx l)) ∧ Nm l) {ns : List Nat} {cnt : D} {fs : List (List Nat)} {k : Nat} (hk : fs.length = k) (h26 : k < 26) (hn : 3 * k + 2 < ns.length) (hf : ∀ l ∈ fs, Nm l) :
    ∃ (l : List Nat) (a b c d e : Option D), Nm l ∧ l ∉ fs ∧ zNamesB call [some (dns ns), some cnt, some (.str (tx al)), some (.lst (fs.map dtx)), some (.int k), none, none, none, none, none] =
      .nx [some (dns ns), some cnt, some (.str (tx al)), some (.lst ((fs ++ [l]).map dtx)), some (.int k), a, b, c, d, e] := by
  have m1 : binD .Mult (.int 3) (.int k) = .ok (.int (3 * k)) := b_mul (.inl (by decide))
  have i0 := ix_ns (ns := ns) (i := 3 * (k : Int)) (j := 3 * k) (by omega) (by omega)
  have i1 := ix_ns (ns := ns) (i := 3 * (k : Int) + 1) (j := 3 * k + 1) (by omega) (by omega)
  have i2 := ix_ns (ns := ns) (i := 3 * (k : Int) + 2) (j := 3 * k + 2) (by omega) (by omega)
  generalize ns[3 * k] = n0 at i0
  generalize ns[3 * k + 1] = n1 at i1
  generalize ns[3 * k + 2] = n2 at i2
  obtain ⟨l0, c0, hl0⟩ := hcall n0 n1 n2
  have big := sizeLine_big
  have ap : ∀ d : D, appD (.lst (fs.map dtx)) d = .ok (.lst (fs.map dtx ++ [d])) := fun d => f_app (by rw [List.length_map]; omega)
  have fin : ∀ l1 : List Nat, Nm l1 → ∃ l, Nm l ∧ l ∉ fs ∧ sSeq (sFor [6] (gN 6) (iRange [(eLit (.int 26))]) zNamesI) (sApp 3 (eVar 5)) [some (dns ns), some cnt, some (.str (tx al)), some (.lst (fs.map dtx)), some (.int k), some (.str (tx l1)), none, some (.int n0), some (.int n1), some (.int n2)] =
      .nx [some (dns ns), some cnt, some (.str (tx al)), some (.lst ((fs ++ [l]).map dtx)), some (.int k), some (.str (tx l)), none, some (.int n0), some (.int n1), some (.int n2)] := fun l1 h1 => by
    refine ⟨nmIter fs n0 l1 26, (nmIter_nm h1 26).1, nmIter_new (by omega), ?_⟩
    have lp := namesI_loop (nums := dns ns) (cnt := cnt) (fs := fs) (k := k) (one := n0) (size := .int n1) (mix := .int n2) h1
    simp [lp, ap, dtx]
  have pre : ∀ (o : Out) (h : (sSeq (sIf (eAnd (eCmp .Gt (eVar 4) (eLit (.int 0))) (eAnd (eCmp .Eq (eBin .Mod (eVar 9) (eLit (.int 3))) (eLit (.int 0))) (eCmp .Lt (eBlt .len [(eIx (eVar 3) (eNeg (eLit (.int 1))))]) (eLit (.int 12))))) (sSet 5 (eBin .Add (eIx (eVar 3) (eNeg (eLit (.int 1)))) (eIx (eVar 5) (eNeg (eLit (.int 1)))))) sNil) (sSeq (sFor [6] (gN 6) (iRange [(eLit (.int 26))]) zNamesI) (sApp 3 (eVar 5)))) [some (dns ns), some cnt, some (.str (tx al)), some (.lst (fs.map dtx)), some (.int k), some (.str (tx l0)), none, some (.int n0), some (.int n1), some (.int n2)] = o),
      zNamesB call [some (dns ns), some cnt, some (.str (tx al)), some (.lst (fs.map dtx)), some (.int k), none, none, none, none, none] = o := fun o h => by
    rw [← h]
    simp [zNamesB, m1, i0, i1, i2, c0, -q_if]
  have go : ∀ l1, Nm l1 → (sIf (eAnd (eCmp .Gt (eVar 4) (eLit (.int 0))) (eAnd (eCmp .Eq (eBin .Mod (eVar 9) (eLit (.int 3))) (eLit (.int 0))) (eCmp .Lt (eBlt .len [(eIx (eVar 3) (eNeg (eLit (.int 1))))]) (eLit (.int 12))))) (sSet 5 (eBin .Add (eIx (eVar 3) (eNeg (eLit (.int 1)))) (eIx (eVar 5) (eNeg (eLit (.int 1)))))) sNil) [some (dns ns), some cnt, some (.str (tx al)), some (.lst (fs.map dtx)), some (.int k), some (.str (tx l0)), none, some (.int n0), some (.int n1), some (.int n2)]
      = .nx [some (dns ns), some cnt, some (.str (tx al)), some (.lst (fs.map dtx)), some (.int k), some (.str (tx l1)), none, some (.int n0), some (.int n1), some (.int n2)] →
      ∃ (l : List Nat) (a b c d e : Option D), Nm l ∧ l ∉ fs ∧ zNamesB call [some (dns ns), some cnt, some (.str (tx al)), some (.lst (fs.map dtx)), some (.int k), none, none, none, none, none] =
      .nx [some (dns ns), some cnt, some (.str (tx al)), some (.lst ((fs ++ [l]).map dtx)), some (.int k), a, b, c, d, e] := fun l1 h1 h2 => by
    obtain ⟨l, h3, h4, h5⟩ := fin l1 h1
    refine ⟨l, some (.str (tx l)), none, some (.int n0), some (.int n1), some (.int n2), h3, h4, pre _ ?_⟩
    rw [sSeq_nx h2]
    exact h5
  by_cases hk0 : k = 0
  · refine go l0 hl0 ?_
    simp [hk0]
  · obtain ⟨fs', lst, efs⟩ : ∃ fs' lst, fs = fs' ++ [lst] := snoc_of (by intro z; rw [z] at hk; exact hk0 hk.symm)
    have hl := hf lst (by rw [efs]; simp)
    have ix : ixD (.lst (fs.map dtx)) (.int (-1)) = .ok (.str (tx lst)) := by
      rw [efs, List.map_append]
      exact ix_lstl
    have ln := len_tx (l := lst) (by have := hl.len; omega)
    have kp : 0 < k := by omega
    have e00 : eqD (.int 0) (.int 0) = .ok true := eqD_en (α := Int) (by show (0 : Nat) ≤ 100; omega) 0 0
    have mm : binD .Mod (.int n2) (.int 3) = .ok (.int ((n2 : Int) % 3)) := b_mod (by omega)
    have ee : eqD (.int ((n2 : Int) % 3)) (.int 0) = .ok (decide ((n2 : Int) % 3 = 0)) := eqD_en (α := Int) (by show (0 : Nat) ≤ 100; omega) _ _
    by_cases h3 : (n2 : Int) % 3 = 0
    · by_cases h12 : (lst.length : Int) < 12
      · obtain ⟨c, r, e0, _⟩ := hl0.head
        obtain ⟨r', z, e1⟩ : ∃ r' z, l0 = r' ++ [z] := snoc_of (by rw [e0]; simp)
        have iz : ixD (.str (tx l0)) (.int (-1)) = .ok (.str (tx [z])) := by
          have := hl0.len
          rw [e1] at this ⊢
          exact ix_txl (by omega)
        have aa := add_tx (a := lst) (b := [z]) (by simp; omega)
        refine go (lst ++ [z]) ⟨?_, ?_, fun d hd => ?_⟩ ?_
        · obtain ⟨c, r, e, h⟩ := hl.head
          exact ⟨c, r ++ [z], by rw [e]; rfl, h⟩
        · rw [List.length_append]; simp; omega
        · rcases List.mem_append.mp hd with hd | hd
          · exact hl.all d hd
          · exact hl0.all d (by rw [e1]; exact List.mem_append_right _ hd)
        · simp [kp, mm, ee, e00, h3, negD, ix, ln, h12, iz, aa]
      · refine go l0 hl0 ?_
        simp [kp, mm, ee, e00, h3, negD, ix, ln, h12]
    · refine go l0 hl0 ?_
      simp [kp, mm, ee, h3]
theorem names_ok (call : Call) (hcall : ∀ f s m : Nat, ∃ l, call "_law_name" [.int f, .int s, .int m] = .ok (.str (tx l)) ∧ Nm l) {ns : List Nat} {n : Nat} (hn : n ≤ 25) (hl : 3 * n ≤ ns.length) :
    ∃ fs : List (List Nat), endD (zNames call [some (dns ns), some (.int n), none, none, none, none, none, none, none, none]) = .ok (.lst (fs.map dtx)) ∧ fs.length = n ∧ (∀ l ∈ fs, Nm l) ∧ fs.Nodup := by
  obtain ⟨ρ', h1, fs, e, h2, h3, h4⟩ := sFor_inv (kl := [4, 5, 6, 7, 8, 9]) (g := gN 4) (it := iRange [(eVar 1)]) (b := zNamesB call) (ρ0 := [some (dns ns), some (.int n), some (.str (tx al)), some (.lst []), none, none, none, none, none, none]) (xs := (List.range n).map fun (k : Nat) => .int k) (by simp [f_range (n := n) (by omega)])
    (fun i ρ => ∃ fs : List (List Nat), ρ = [some (dns ns), some (.int n), some (.str (tx al)), some (.lst (fs.map dtx)), none, none, none, none, none, none] ∧ fs.length = i ∧ (∀ l ∈ fs, Nm l) ∧ fs.Nodup) ⟨[], by simp, rfl, fun l h => (List.not_mem_nil h).elim, List.nodup_nil⟩ (by
      rintro j x ρ hx ⟨fs, rfl, h2, h3, h4⟩
      obtain ⟨hj, rfl⟩ := range_at hx
      obtain ⟨l, a, b, c, d, e, h5, h6, h7⟩ := names_body call hcall (ns := ns) (k := j) (cnt := .int n) h2 (by omega) (by omega) h3
      refine ⟨_, _, rfl, .inl (by simpa using h7), fs ++ [l], by simp, by simp [h2], fun m hm => ?_, ?_⟩
      · rcases List.mem_append.mp hm with hm | hm
        · exact h3 m hm
        · have : m = l := by simpa using hm
          rw [this]; exact h5
      · rw [List.nodup_append]
        refine ⟨h4, by simp, fun a ha b hb => ?_⟩
        have : b = l := by simpa using hb
        rw [this]
        exact fun z => h6 (by rw [← z]; exact ha))
  subst e
  refine ⟨fs, ?_, by simpa using h2, h3, h4⟩
  simp [zNames, lit_al, h1]
end Z
/-! Z, part Y: rows of verdicts, made; what laws say of them. -/
namespace Z
open PySem PySem.Spec PyProof.Rows
open En (en)

def dview (v : List (List Nat)) : D := .lst (v.map dtx)
def drows (rs : List (List (List Nat))) : D := .lst (rs.map dview)
theorem en_view (v : List (List Nat)) : en (v.map tx) = dview v := by
  show D.lst ((v.map tx).map D.str) = _
  rw [List.map_map]; rfl
theorem en_rows (rs : List (List (List Nat))) : en (rs.map fun v => v.map tx) = drows rs := by
  show D.lst ((rs.map fun v => v.map tx).map en) = _
  rw [List.map_map]
  unfold drows
  congr 1
  exact List.map_congr_left fun v _ => en_view v
theorem map_inj {α β : Type} {f : α → β} (h : ∀ a b, f a = f b → a = b) : ∀ {xs ys : List α}, xs.map f = ys.map f → xs = ys
  | [], [], _ => rfl
  | [], _ :: _, e => by simp at e
  | _ :: _, [], e => by simp at e
  | x :: xs, y :: ys, e => by
    rw [List.map_cons, List.map_cons, List.cons.injEq] at e
    rw [h _ _ e.1, map_inj h e.2]
theorem eq_tx (a b : List Nat) : eqD (.str (tx a)) (.str (tx b)) = .ok (decide (a = b)) := by
  have h := eqD_en (α := Str) (by show (0 : Nat) ≤ 100; omega) (tx a) (tx b)
  rw [decide_eq_decide.mpr (tx_inj (a := a) (b := b))] at h
  exact h
theorem eq_view (a b : List (List Nat)) : eqD (dview a) (dview b) = .ok (decide (a = b)) := by
  have h := eqD_en (α := List Str) (by show (0 : Nat) + 1 ≤ 100; omega) (a.map tx) (b.map tx)
  rw [en_view, en_view] at h
  rw [h]
  congr 1
  rw [decide_eq_decide]
  exact ⟨fun e => map_inj (fun _ _ => tx_inj.mp) e, fun e => by rw [e]⟩
theorem eq_rows (a b : List (List (List Nat))) : eqD (drows a) (drows b) = .ok (decide (a = b)) := by
  have h := eqD_en (α := List (List Str)) (by show (0 : Nat) + 1 + 1 ≤ 100; omega) (a.map fun v => v.map tx) (b.map fun v => v.map tx)
  rw [en_rows, en_rows] at h
  rw [h]
  congr 1
  rw [decide_eq_decide]
  exact ⟨fun e => map_inj (fun _ _ e => map_inj (fun _ _ => tx_inj.mp) e) e, fun e => by rw [e]⟩
theorem in_view (l : List Nat) (v : List (List Nat)) : inD (.str (tx l)) (dview v) = .ok (decide (l ∈ v)) := in_tx l v
/-- the opposite of a plain verdict -/
def bang (l : List Nat) : List Nat := 33 :: l
theorem lit_bang : (("!" : String) : Str) = tx [33] := by decide +kernel
def grow (found : List (List (List Nat))) (x : List Nat) : List (List (List Nat)) := found.flatMap fun r => [r ++ [x], r ++ [bang x]]
def rowsOf (is : List (List Nat)) : List (List (List Nat)) := is.foldl grow [[]]
theorem grow_len (found : List (List (List Nat))) (x : List Nat) : (grow found x).length = 2 * found.length := by
  unfold grow
  induction found with
  | nil => rfl
  | cons r rs ih => rw [List.flatMap_cons, List.length_append, ih]; simp; omega
theorem grow_each {found : List (List (List Nat))} {x : List Nat} {n : Nat} (h : ∀ r ∈ found, r.length = n) : ∀ r ∈ grow found x, r.length = n + 1 := fun r hr => by
  unfold grow at hr
  obtain ⟨r0, h0, h1⟩ := List.mem_flatMap.mp hr
  have := h r0 h0
  rcases List.mem_cons.mp h1 with h1 | h1
  · rw [h1]; simp [this]
  · have h1 : r = r0 ++ [bang x] := by simpa using h1
    rw [h1]; simp [this]
theorem add_bang {x : List Nat} (h : x.length ≤ 1000000) : binD .Add (.str (tx [33])) (.str (tx x)) = .ok (.str (tx (bang x))) := add_tx (a := [33]) (b := x) (by simp; omega)
theorem add_view {a b : List (List Nat)} (h : a.length + b.length ≤ 16777216) : binD .Add (dview a) (dview b) = .ok (dview (a ++ b)) := by
  unfold dview
  rw [b_addl (by rw [List.length_map, List.length_map]; exact Nat.le_trans h sizeLine_big), List.map_append]
theorem add_rows {a b : List (List (List Nat))} (h : a.length + b.length ≤ 16777216) : binD .Add (drows a) (drows b) = .ok (drows (a ++ b)) := by
  unfold drows
  rw [b_addl (by rw [List.length_map, List.length_map]; exact Nat.le_trans h sizeLine_big), List.map_append]
theorem view1 (l : List Nat) : D.lst [.str (tx l)] = dview [l] := rfl
theorem rows2 (a b : List (List Nat)) : D.lst [dview a, dview b] = drows [a, b] := rfl
/-- walks over lists of plain things -/
theorem sFor_typed {α : Type} {kl : List Nat} {g : ZG} {it : ZI} {b : ZS} {ρ0 : Env} {as : List α} {en : α → D} (hit : it ρ0 = .ok (as.map en)) (P : Nat → Env → Prop) (h0 : P 0 (killE kl ρ0)) (st : ∀ j a ρ, as[j]? = some a → P j ρ → ∃ ρ1 ρ', g (en a) ρ = .ok ρ1 ∧ (b ρ1 = .nx ρ' ∨ b ρ1 = .ct ρ') ∧ P (j + 1) (killE kl ρ')) :
    ∃ ρ', sFor kl g it b ρ0 = .nx ρ' ∧ P as.length ρ' := by
  obtain ⟨ρ', h1, h2⟩ := sFor_inv hit P h0 fun j x ρ hx hp => by
    rw [List.getElem?_map] at hx
    obtain ⟨a, ha, rfl⟩ := Option.map_eq_some_iff.mp hx
    exact st j a ρ ha hp
  rw [List.length_map] at h2
  exact ⟨ρ', h1, h2⟩
theorem take_snoc {α : Type} {l : List α} {j : Nat} {a : α} (h : l[j]? = some a) : l.take (j + 1) = l.take j ++ [a] := by rw [List.take_add_one, h]; rfl

def zRowsI : ZS := (sSet 3 (eBin .Add (eVar 3) (eLst [(eBin .Add (eVar 4) (eLst [(eVar 2)])), (eBin .Add (eVar 4) (eLst [(eBin .Add (eLit (.str "!")) (eVar 2))]))])))
def zRowsB : ZS := (sSeq (sSet 3 (eLst [])) (sSeq (sFor [4] (gN 4) (iSeq (eVar 1)) zRowsI) (sMove 1 3)))
def zRows : ZS := (sSeq (sSet 1 (eLst [(eLst [])])) (sSeq (sFor [2, 3, 4] (gN 2) (iSeq (eVar 0)) zRowsB) (sRet (eVar 1))))
theorem seq_view (v : List (List Nat)) : seqD (dview v) = .ok (v.map dtx) := rfl
theorem seq_rows (v : List (List (List Nat))) : seqD (drows v) = .ok (v.map dview) := rfl
theorem rows_inner {iss : D} {found : List (List (List Nat))} {x : List Nat} (hx : x.length ≤ 1000) (hf : found.length ≤ 1000000) (hr : ∀ r ∈ found, r.length ≤ 1000) :
    sFor [4] (gN 4) (iSeq (eVar 1)) zRowsI [some iss, some (drows found), some (.str (tx x)), some (.lst []), none] = .nx [some iss, some (drows found), some (.str (tx x)), some (drows (grow found x)), none] := by
  obtain ⟨ρ', h1, h2⟩ := sFor_typed (kl := [4]) (g := gN 4) (it := iSeq (eVar 1)) (b := zRowsI) (ρ0 := [some iss, some (drows found), some (.str (tx x)), some (.lst []), none]) (as := found) (en := dview) (by simp [seq_rows])
    (fun j ρ => ρ = [some iss, some (drows found), some (.str (tx x)), some (drows (grow (found.take j) x)), none]) (by simp [grow, drows]) (by
      rintro j r ρ hj rfl
      have hr' := hr r (List.mem_of_getElem? hj)
      have hj' : j < found.length := (List.getElem?_eq_some_iff.mp hj).1
      have g1 := grow_len (found.take j) x
      rw [List.length_take] at g1
      have a1 := add_view (a := r) (b := [x]) (by simp; omega)
      have a2 := add_bang (x := x) (by omega)
      have a3 := add_view (a := r) (b := [bang x]) (by simp; omega)
      have a4 := add_rows (a := grow (found.take j) x) (b := [r ++ [x], r ++ [bang x]]) (by simp; omega)
      have e : grow (found.take (j + 1)) x = grow (found.take j) x ++ [r ++ [x], r ++ [bang x]] := by
        rw [take_snoc hj]; unfold grow; rw [List.flatMap_append]; simp
      refine ⟨_, _, rfl, .inl (?_ : _ = Out.nx [some iss, some (drows found), some (.str (tx x)), some (drows (grow (found.take (j + 1)) x)), some (dview r)]), rfl⟩
      rw [e]
      simp [zRowsI, lit_bang, a2, view1, a1, a3, rows2, a4])
  subst h2
  rw [h1, List.take_length]
theorem rowsOf_snoc (is : List (List Nat)) (x : List Nat) : rowsOf (is ++ [x]) = grow (rowsOf is) x := by unfold rowsOf; rw [List.foldl_append]; rfl
theorem rows_take (is : List (List Nat)) : ∀ j, j ≤ is.length → (rowsOf (is.take j)).length = 2 ^ j ∧ ∀ r ∈ rowsOf (is.take j), r.length = j
  | 0, _ => ⟨rfl, fun r hr => by
      have : r = [] := by simpa [rowsOf] using hr
      rw [this]; rfl⟩
  | j + 1, h => by
    obtain ⟨h1, h2⟩ := rows_take is j (by omega)
    have e : is.take (j + 1) = is.take j ++ [is[j]] := take_snoc (List.getElem?_eq_getElem (by omega))
    rw [e, rowsOf_snoc]
    exact ⟨by rw [grow_len, h1, Nat.pow_succ]; omega, grow_each h2⟩
theorem rows_step {is : List (List Nat)} {j : Nat} {x : List Nat} (hn : is.length ≤ 16) (hi : ∀ l ∈ is, l.length ≤ 1000) (hj : is[j]? = some x) : zRowsB [some (dview is), some (drows (rowsOf (is.take j))), some (.str (tx x)), none, none] = .nx [some (dview is), some (drows (rowsOf (is.take (j + 1)))), some (.str (tx x)), none, none] := by
  have hj' : j < is.length := (List.getElem?_eq_some_iff.mp hj).1
  obtain ⟨h1, h2⟩ := rows_take is j (by omega)
  have hp : 2 ^ j ≤ 2 ^ 16 := Nat.pow_le_pow_right (by omega) (by omega)
  have lp := rows_inner (iss := dview is) (found := rowsOf (is.take j)) (hi x (List.mem_of_getElem? hj)) (by omega) (fun r hr => by rw [h2 r hr]; omega)
  rw [take_snoc hj, rowsOf_snoc]
  simp [zRowsB, lp]
theorem rows_ok {is : List (List Nat)} (hn : is.length ≤ 16) (hi : ∀ l ∈ is, l.length ≤ 1000) : endD (zRows [some (dview is), none, none, none, none]) = .ok (drows (rowsOf is)) := by
  obtain ⟨ρ', h1, h2⟩ := sFor_typed (kl := [2, 3, 4]) (g := gN 2) (it := iSeq (eVar 0)) (b := zRowsB) (ρ0 := [some (dview is), some (drows [[]]), none, none, none]) (as := is) (en := dtx) (by simp [seq_view])
    (fun j ρ => ρ = [some (dview is), some (drows (rowsOf (is.take j))), none, none, none]) rfl (by
      rintro j x ρ hj rfl
      exact ⟨_, _, rfl, .inl (rows_step hn hi hj), rfl⟩)
  subst h2
  rw [List.take_length] at h1
  have e : D.lst [D.lst []] = drows [[]] := rfl
  simp [zRows, e, h1]
/-! the same by new lists alone -/
def zRowsDI : ZS := (sSeq (sApp 3 (eFlat (eBin .Add (eVar 4) (eLst [(eVar 2)])))) (sApp 3 (eFlat (eBin .Add (eVar 4) (eLst [(eBin .Add (eLit (.str "!")) (eVar 2))])))))
def zRowsDB : ZS := (sSeq (sSet 3 (eLst [])) (sSeq (sFor [4] (gN 4) (iSeq (eVar 1)) zRowsDI) (sMove 1 3)))
def zRowsD : ZS := (sSeq (sSet 1 (eLst [(eLst [])])) (sSeq (sFor [2, 3, 4] (gN 2) (iSeq (eVar 0)) zRowsDB) (sRet (eVar 1))))
theorem flat_view (v : List (List Nat)) : flat (dview v) = true := by
  show (v.map dtx).all isAtom = true
  rw [List.all_map, List.all_eq_true]
  intro l _
  rfl
theorem app_rows {a : List (List (List Nat))} {r : List (List Nat)} (h : a.length < 16777216) : appD (drows a) (dview r) = .ok (drows (a ++ [r])) := by
  unfold drows
  rw [f_app (by rw [List.length_map]; exact Nat.lt_of_lt_of_le h sizeLine_big), List.map_append]
  rfl
theorem rowsD_inner {iss : D} {found : List (List (List Nat))} {x : List Nat} (hx : x.length ≤ 1000) (hf : found.length ≤ 1000000) (hr : ∀ r ∈ found, r.length ≤ 1000) :
    sFor [4] (gN 4) (iSeq (eVar 1)) zRowsDI [some iss, some (drows found), some (.str (tx x)), some (.lst []), none] = .nx [some iss, some (drows found), some (.str (tx x)), some (drows (grow found x)), none] := by
  obtain ⟨ρ', h1, h2⟩ := sFor_typed (kl := [4]) (g := gN 4) (it := iSeq (eVar 1)) (b := zRowsDI) (ρ0 := [some iss, some (drows found), some (.str (tx x)), some (.lst []), none]) (as := found) (en := dview) (by simp [seq_rows])
    (fun j ρ => ρ = [some iss, some (drows found), some (.str (tx x)), some (drows (grow (found.take j) x)), none]) (by simp [grow, drows]) (by
      rintro j r ρ hj rfl
      have hr' := hr r (List.mem_of_getElem? hj)
      have hj' : j < found.length := (List.getElem?_eq_some_iff.mp hj).1
      have g1 := grow_len (found.take j) x
      rw [List.length_take] at g1
      have a1 := add_view (a := r) (b := [x]) (by simp; omega)
      have a2 := add_bang (x := x) (by omega)
      have a3 := add_view (a := r) (b := [bang x]) (by simp; omega)
      have a4 := app_rows (a := grow (found.take j) x) (r := r ++ [x]) (by omega)
      have a5 := app_rows (a := grow (found.take j) x ++ [r ++ [x]]) (r := r ++ [bang x]) (by simp; omega)
      have e : grow (found.take (j + 1)) x = (grow (found.take j) x ++ [r ++ [x]]) ++ [r ++ [bang x]] := by
        rw [take_snoc hj]; unfold grow; rw [List.flatMap_append]; simp
      refine ⟨_, _, rfl, .inl (?_ : _ = Out.nx [some iss, some (drows found), some (.str (tx x)), some (drows (grow (found.take (j + 1)) x)), some (dview r)]), rfl⟩
      rw [e]
      simp [zRowsDI, lit_bang, a2, view1, a1, a3, flat_view, a4, a5, -List.append_assoc])
  subst h2
  rw [h1, List.take_length]
theorem rowsD_step {is : List (List Nat)} {j : Nat} {x : List Nat} (hn : is.length ≤ 16) (hi : ∀ l ∈ is, l.length ≤ 1000) (hj : is[j]? = some x) : zRowsDB [some (dview is), some (drows (rowsOf (is.take j))), some (.str (tx x)), none, none] = .nx [some (dview is), some (drows (rowsOf (is.take (j + 1)))), some (.str (tx x)), none, none] := by
  have hj' : j < is.length := (List.getElem?_eq_some_iff.mp hj).1
  obtain ⟨h1, h2⟩ := rows_take is j (by omega)
  have hp : 2 ^ j ≤ 2 ^ 16 := Nat.pow_le_pow_right (by omega) (by omega)
  have lp := rowsD_inner (iss := dview is) (found := rowsOf (is.take j)) (hi x (List.mem_of_getElem? hj)) (by omega) (fun r hr => by rw [h2 r hr]; omega)
  rw [take_snoc hj, rowsOf_snoc]
  simp [zRowsDB, lp]
theorem rowsD_ok {is : List (List Nat)} (hn : is.length ≤ 16) (hi : ∀ l ∈ is, l.length ≤ 1000) : endD (zRowsD [some (dview is), none, none, none, none]) = .ok (drows (rowsOf is)) := by
  obtain ⟨ρ', h1, h2⟩ := sFor_typed (kl := [2, 3, 4]) (g := gN 2) (it := iSeq (eVar 0)) (b := zRowsDB) (ρ0 := [some (dview is), some (drows [[]]), none, none, none]) (as := is) (en := dtx) (by simp [seq_view])
    (fun j ρ => ρ = [some (dview is), some (drows (rowsOf (is.take j))), none, none, none]) rfl (by
      rintro j x ρ hj rfl
      exact ⟨_, _, rfl, .inl (rowsD_step hn hi hj), rfl⟩)
  subst h2
  rw [List.take_length] at h1
  have e : D.lst [D.lst []] = drows [[]] := rfl
  simp [zRowsD, e, h1]
end Z
/-! Z, part YS: sorting, in plain words. -/
namespace Z
open PySem PySem.Spec PyProof.Rows

abbrev kle {β : Type} (k : β → PyData) : β → β → Bool := PySem.W.dataLe false k
theorem kle_def {β : Type} (k : β → PyData) (a b : β) : kle k a b = !PySem.W.dataLt (k b) (k a) := rfl
theorem kle_trans' {β : Type} (k : β → PyData) (a b c : β) (h1 : kle k a b = true) (h2 : kle k b c = true) : kle k a c = true := (PySem.W.sortLe_total (listOrd itemOrd) false fun b => PySem.W.keyToks (k b)).trans a b c h1 h2
theorem kle_total' {β : Type} (k : β → PyData) (a b : β) : (kle k a b || kle k b a) = true := by
  rw [Bool.or_eq_true]
  exact (PySem.W.sortLe_total (listOrd itemOrd) false fun b => PySem.W.keyToks (k b)).total a b
theorem kle_antisymm' {β : Type} (k : β → PyData) (a b : β) (h1 : kle k a b = true) (h2 : kle k b a = true) : PySem.W.keyToks (k a) = PySem.W.keyToks (k b) := by
  rw [kle_def, Bool.not_eq_true'] at h1 h2
  exact (listOrd itemOrd).total _ _ h2 h1
theorem kle_of_lt {β : Type} (k : β → PyData) {a b : β} (h : PySem.W.dataLt (k a) (k b) = true) : kle k a b = true := by
  rw [kle_def, Bool.not_eq_true']
  cases h2 : PySem.W.dataLt (k b) (k a) with
  | false => rfl
  | true =>
    have h3 := (listOrd itemOrd).trans _ _ _ h h2
    rw [(listOrd itemOrd).irrefl] at h3
    exact absurd h3 (by simp)
theorem lt_of_kle {β : Type} (k : β → PyData) {a b : β} (h : kle k a b = true) (ne : PySem.W.keyToks (k a) ≠ PySem.W.keyToks (k b)) : PySem.W.dataLt (k a) (k b) = true := by
  rw [kle_def, Bool.not_eq_true'] at h
  cases h2 : PySem.W.dataLt (k a) (k b) with
  | true => rfl
  | false => exact absurd ((listOrd itemOrd).total _ _ h2 h) ne
/-- what is sorted is known by its order -/
theorem sort_is {β : Type} (k : β → PyData) {l t : List β} (hp : l.Perm t) (ht : t.Pairwise fun a b => kle k a b = true) (hinj : ∀ a ∈ t, ∀ b ∈ t, PySem.W.keyToks (k a) = PySem.W.keyToks (k b) → a = b) : l.mergeSort (kle k) = t := by
  have p1 := List.mergeSort_perm l (kle k)
  have p2 := p1.trans hp
  refine List.Perm.eq_of_pairwise (le := fun a b => kle k a b = true) (fun a b ha hb h1 h2 => ?_) (List.pairwise_mergeSort (kle_trans' k) (kle_total' k) l) ht p2
  exact hinj a (p2.mem_iff.mp ha) b hb (kle_antisymm' k a b h1 h2)
/-! names -/
def kstr (l : List Nat) : PyData := .str (tx l)
theorem kstr_toks (l : List Nat) : PySem.W.keyToks (kstr l) = [.inr l] := by
  unfold kstr
  simp only [PySem.W.keyToks, tx_cps]
theorem kstr_inj {a b : List Nat} (h : PySem.W.keyToks (kstr a) = PySem.W.keyToks (kstr b)) : a = b := by
  rw [kstr_toks, kstr_toks] at h
  simpa using h
def sortN (fs : List (List Nat)) : List (List Nat) := fs.mergeSort (kle kstr)
theorem sortN_perm (fs : List (List Nat)) : (sortN fs).Perm fs := List.mergeSort_perm _ _
def nlt (a b : List Nat) : Prop := PySem.W.dataLt (kstr a) (kstr b) = true
theorem sortN_lt {fs : List (List Nat)} (h : fs.Nodup) : (sortN fs).Pairwise nlt := by
  have h1 : (sortN fs).Pairwise fun a b => kle kstr a b = true := List.pairwise_mergeSort (kle_trans' kstr) (kle_total' kstr) fs
  have h2 : (sortN fs).Nodup := (sortN_perm fs).nodup_iff.mpr h
  rw [List.nodup_iff_pairwise_ne] at h2
  exact (h1.and h2).imp fun ⟨p, q⟩ => lt_of_kle kstr p fun e => q (kstr_inj e)
theorem sorts_str (a b : List Nat) : sorts (dtx a) (dtx b) = true := by
  unfold sorts fine dtx
  simp [toPy, PySem.W.alike, PyData.plain, PyData.depth]
theorem sorted_names (fs : List (List Nat)) : bltD .sorted [dview fs] = .ok (dview (sortN fs)) := by
  show chk (sortable (fs.map dtx)) (R.ok (D.lst (sortL (fs.map dtx)))) = _
  have h1 : sortable (fs.map dtx) = true := by
    unfold sortable allAlike
    rw [Bool.and_eq_true, Bool.or_eq_true]
    refine ⟨?_, .inl ?_⟩
    · rw [List.all_map, List.all_eq_true]
      intro a _
      rw [Function.comp, List.all_map, List.all_eq_true]
      intro b _
      exact sorts_str a b
    · rw [List.all_map, List.all_eq_true]
      intro a _
      rfl
  rw [h1, chk_true]
  unfold sortL dview sortN
  rw [← List.map_mergeSort (r := kle kstr) (f := dtx) fun a _ b _ => rfl]
end Z
namespace K05
open PySem PySem.Spec PyProof.Rows L2 Z
def top (i : Nat) : Stmt := PySem.Challenge.pw_panelsagree_k05_verdicts_and_views.main.body.getD i (.Pass ⟨0, 0, 0, 0⟩)
def cs : List (Str × D) := [("NO", (.str "!"))]
def b_is_yes (call : Call) : ZS := (sRet (eCmp .NotEq (eIx (eVar 0) (eLit (.int 0))) (eLit (.str "!"))))
def z_is_yes : DZ := ⟨⟨("is_yes", none), "is_yes", "is_yes", defArgs (top 2), defBody (top 2), defScope (top 2), [], []⟩, ["verdict"], ["verdict"], .own, [], [], ⟨1, 1, b_is_yes⟩⟩
def b_issue_of (call : Call) : ZS := (sSeq (sIf (eCall call "is_yes" [(eVar 0)]) (sRet (eVar 0)) sNil) (sRet (eCut (eVar 0) (some (eLit (.int 1))) none)))
def z_issue_of : DZ := ⟨⟨("issue_of", none), "issue_of", "issue_of", defArgs (top 3), defBody (top 3), defScope (top 3), [], []⟩, ["verdict"], ["verdict"], .sh, [], [], ⟨1, 1, b_issue_of⟩⟩
def b_opposite (call : Call) : ZS := (sSeq (sIf (eCall call "is_yes" [(eVar 0)]) (sRet (eBin .Add (eLit (.str "!")) (eVar 0))) sNil) (sRet (eCut (eVar 0) (some (eLit (.int 1))) none)))
def z_opposite : DZ := ⟨⟨("opposite", none), "opposite", "opposite", defArgs (top 4), defBody (top 4), defScope (top 4), [], []⟩, ["verdict"], ["verdict"], .own, [], [], ⟨1, 1, b_opposite⟩⟩
def b_place_of (call : Call) : ZS := (sRet (eTup [(eCall call "issue_of" [(eVar 0)]), (eNot (eCall call "is_yes" [(eVar 0)]))]))
def z_place_of : DZ := ⟨⟨("place_of", none), "place_of", "place_of", defArgs (top 5), defBody (top 5), defScope (top 5), [], []⟩, ["verdict"], ["verdict"], .own, [], [], ⟨1, 1, b_place_of⟩⟩
def b_sorted_view (call : Call) : ZS := (sRet (eSortK call "place_of" (eVar 0)))
def z_sorted_view : DZ := ⟨⟨("sorted_view", none), "sorted_view", "sorted_view", defArgs (top 6), defBody (top 6), defScope (top 6), [], []⟩, ["verdicts"], ["verdicts"], .own, [], [], ⟨1, 1, b_sorted_view⟩⟩
def b_holds (call : Call) : ZS := (sRet (eBlt .all [(eComp [2] (gN 2) (iSeq (eVar 1)) [] (eCmp .In (eVar 2) (eVar 0)))]))
def z_holds : DZ := ⟨⟨("holds", none), "holds", "holds", defArgs (top 7), defBody (top 7), defScope (top 7), [], []⟩, ["view", "other", "verdict"], ["view", "other"], .own, [], [], ⟨2, 3, b_holds⟩⟩
def f_verdict_on_1 (call : Call) : ZS := (sIf (eCmp .Eq (eCall call "issue_of" [(eVar 2)]) (eVar 1)) (sRet (eVar 2)) sNil)
def b_verdict_on (call : Call) : ZS := (sSeq (sFor [2] (gN 2) (iSeq (eVar 0)) (f_verdict_on_1 call)) (sRet (eLit .non)))
def z_verdict_on : DZ := ⟨⟨("verdict_on", none), "verdict_on", "verdict_on", defArgs (top 8), defBody (top 8), defScope (top 8), [], []⟩, ["view", "issue", "verdict"], ["view", "issue"], .sh, [(⟨20, 4, 0, 0⟩, [2])], [], ⟨2, 3, b_verdict_on⟩⟩
def f_all_rows_2 (call : Call) : ZS := (sSeq (sApp 3 (eFlat (eBin .Add (eVar 4) (eLst [(eVar 2)])))) (sApp 3 (eFlat (eBin .Add (eVar 4) (eLst [(eBin .Add (eLit (.str "!")) (eVar 2))])))))
def f_all_rows_1 (call : Call) : ZS := (sSeq (sSet 3 (eLst [])) (sSeq (sFor [4] (gN 4) (iSeq (eVar 1)) (f_all_rows_2 call)) (sMove 1 3)))
def b_all_rows (call : Call) : ZS := (sSeq (sSet 1 (eLst [(eLst [])])) (sSeq (sFor [2, 3, 4] (gN 2) (iSeq (eVar 0)) (f_all_rows_1 call)) (sRet (eVar 1))))
def z_all_rows : DZ := ⟨⟨("all_rows", none), "all_rows", "all_rows", defArgs (top 9), defBody (top 9), defScope (top 9), [], []⟩, ["issues", "found", "issue", "longer", "row"], ["issues"], .deep, [(⟨31, 8, 0, 0⟩, [3]), (⟨28, 8, 0, 0⟩, [4]), (⟨26, 4, 0, 0⟩, [2, 3, 4])], [(25, 4), (27, 8)], ⟨1, 5, b_all_rows⟩⟩
def f__law_numbers_1 (call : Call) : ZS := (sIf (eCmp .GtE (eVar 3) (eBin .Pow (eLit (.int 10)) (eLit (.int 18)))) (sSeq (sApp 4 (eBin .Mod (eVar 3) (eLit (.int 1009)))) (sSet 3 (eBin .FloorDiv (eVar 3) (eLit (.int 1009))))) (sSeq (sSet 6 (eBin .Mod (eBin .Add (eBin .Add (eBin .Mult (eVar 3) (eLit (.int 48271))) (eBin .Mult (eBin .Add (eVar 5) (eLit (.int 1))) (eLit (.int 69621)))) (eBin .Mult (eVar 1) (eLit (.int 4001)))) (eLit (.int 2147483647)))) (sSeq (sSet 6 (eBin .Mod (eBin .Add (eBin .Mult (eVar 6) (eVar 6)) (eBin .Mult (eLit (.int 16807)) (eBin .Add (eVar 5) (eLit (.int 3))))) (eLit (.int 2147483629)))) (sApp 4 (eBin .Mod (eBin .FloorDiv (eVar 6) (eLit (.int 7))) (eLit (.int 1009)))))))
def b__law_numbers (call : Call) : ZS := (sSeq (sSet 3 (eBin .Mult (eLit (.int 1000003)) (eBin .Add (eVar 1) (eLit (.int 1))))) (sSeq (sIf (eCmp .Lt (eVar 1) (eBlt .len [(eVar 0)])) (sSet 3 (eBlt .int [(eIx (eVar 0) (eVar 1))])) sNil) (sSeq (sIf (eCmp .Lt (eVar 3) (eLit (.int 0))) (sSet 3 (eBin .Sub (eLit (.int 1)) (eBin .Mult (eLit (.int 2)) (eVar 3)))) sNil) (sSeq (sSet 4 (eLst [])) (sSeq (sFor [5, 6] (gN 5) (iRange [(eVar 2)]) (f__law_numbers_1 call)) (sRet (eVar 4)))))))
def z__law_numbers : DZ := ⟨⟨("_law_numbers", none), "_law_numbers", "_law_numbers", defArgs (top 11), defBody (top 11), defScope (top 11), [], []⟩, ["script", "at", "count", "cell", "numbers", "k", "mixed"], ["script", "at", "count"], .own, [(⟨41, 4, 0, 0⟩, [5, 6])], [], ⟨3, 7, b__law_numbers⟩⟩
def f__law_name_1 (call : Call) : ZS := (sSeq (sSet 2 (eBin .Mod (eBin .Add (eBin .Add (eBin .Add (eBin .Mult (eVar 2) (eLit (.int 8191))) (eVar 0)) (eBin .Mult (eVar 6) (eLit (.int 77)))) (eLit (.int 5))) (eLit (.int 1000003)))) (sSet 5 (eBin .Add (eVar 5) (eIx (eVar 4) (eBin .Mod (eVar 2) (eLit (.int 36)))))))
def b__law_name (call : Call) : ZS := (sSeq (sSet 3 (eLit (.str "abcdefghijklmnopqrstuvwxyz"))) (sSeq (sSet 4 (eBin .Add (eVar 3) (eLit (.str "0123456789")))) (sSeq (sSet 5 (eIx (eVar 3) (eBin .Mod (eVar 0) (eLit (.int 26))))) (sSeq (sFor [6] (gN 6) (iRange [(eBin .Mod (eVar 1) (eLit (.int 12)))]) (f__law_name_1 call)) (sRet (eVar 5))))))
def z__law_name : DZ := ⟨⟨("_law_name", none), "_law_name", "_law_name", defArgs (top 12), defBody (top 12), defScope (top 12), [], []⟩, ["first", "size", "mix", "letters", "signs", "name", "k"], ["first", "size", "mix"], .sh, [(⟨54, 4, 0, 0⟩, [6])], [], ⟨3, 7, b__law_name⟩⟩
def f__law_names_2 (call : Call) : ZS := (sIf (eCmp .In (eVar 5) (eVar 3)) (sSet 5 (eBin .Add (eIx (eVar 2) (eBin .Mod (eBin .Add (eVar 7) (eVar 6)) (eLit (.int 26)))) (eCut (eVar 5) (some (eLit (.int 1))) none))) sNil)
def f__law_names_1 (call : Call) : ZS := (sSeq (sPar [7, 8, 9] [(eIx (eVar 0) (eBin .Mult (eLit (.int 3)) (eVar 4))), (eIx (eVar 0) (eBin .Add (eBin .Mult (eLit (.int 3)) (eVar 4)) (eLit (.int 1)))), (eIx (eVar 0) (eBin .Add (eBin .Mult (eLit (.int 3)) (eVar 4)) (eLit (.int 2))))]) (sSeq (sSet 5 (eCall call "_law_name" [(eVar 7), (eVar 8), (eVar 9)])) (sSeq (sIf (eAnd (eCmp .Gt (eVar 4) (eLit (.int 0))) (eAnd (eCmp .Eq (eBin .Mod (eVar 9) (eLit (.int 3))) (eLit (.int 0))) (eCmp .Lt (eBlt .len [(eIx (eVar 3) (eNeg (eLit (.int 1))))]) (eLit (.int 12))))) (sSet 5 (eBin .Add (eIx (eVar 3) (eNeg (eLit (.int 1)))) (eIx (eVar 5) (eNeg (eLit (.int 1)))))) sNil) (sSeq (sFor [6] (gN 6) (iRange [(eLit (.int 26))]) (f__law_names_2 call)) (sApp 3 (eVar 5))))))
def b__law_names (call : Call) : ZS := (sSeq (sSet 2 (eLit (.str "abcdefghijklmnopqrstuvwxyz"))) (sSeq (sSet 3 (eLst [])) (sSeq (sFor [4, 5, 6, 7, 8, 9] (gN 4) (iRange [(eVar 1)]) (f__law_names_1 call)) (sRet (eVar 3)))))
def z__law_names : DZ := ⟨⟨("_law_names", none), "_law_names", "_law_names", defArgs (top 13), defBody (top 13), defScope (top 13), [], []⟩, ["numbers", "count", "letters", "found", "k", "name", "step", "one", "size", "mix"], ["numbers", "count"], .own, [(⟨66, 8, 0, 0⟩, [6]), (⟨61, 4, 0, 0⟩, [4, 5, 6, 7, 8, 9])], [], ⟨2, 10, b__law_names⟩⟩
def b__law_says (call : Call) : ZS := (sRet (eAnd (eIsi (eVar 0) "bool") (eCmp .Eq (eVar 0) (eVar 1))))
def z__law_says : DZ := ⟨⟨("_law_says", none), "_law_says", "_law_says", defArgs (top 14), defBody (top 14), defScope (top 14), [], []⟩, ["said", "due"], ["said", "due"], .sh, [], [], ⟨2, 2, b__law_says⟩⟩
def b__law_issue (call : Call) : ZS := (sSeq (sIf (eCmp .Eq (eIx (eVar 0) (eLit (.int 0))) (eLit (.str "!"))) (sRet (eCut (eVar 0) (some (eLit (.int 1))) none)) sNil) (sRet (eVar 0)))
def z__law_issue : DZ := ⟨⟨("_law_issue", none), "_law_issue", "_law_issue", defArgs (top 15), defBody (top 15), defScope (top 15), [], []⟩, ["verdict"], ["verdict"], .sh, [], [], ⟨1, 1, b__law_issue⟩⟩
def b__law_order (call : Call) : ZS := (sRet (eComp [1] (gN 1) (iSeq (eVar 0)) [] (eTup [(eCall call "_law_issue" [(eVar 1)]), (eBlt .int [(eCmp .Eq (eIx (eVar 1) (eLit (.int 0))) (eLit (.str "!")))])])))
def z__law_order : DZ := ⟨⟨("_law_order", none), "_law_order", "_law_order", defArgs (top 16), defBody (top 16), defScope (top 16), [], []⟩, ["view", "verdict"], ["view"], .own, [], [], ⟨1, 2, b__law_order⟩⟩
def b__law_sort (call : Call) : ZS := (sRet (eComp [1] (gN 1) (iSeq (eBlt .sorted [(eComp [2] (gN 2) (iSeq (eVar 0)) [] (eTup [(eCall call "_law_order" [(eVar 2)]), (eVar 2)]))])) [] (eIx (eVar 1) (eLit (.int 1)))))
def z__law_sort : DZ := ⟨⟨("_law_sort", none), "_law_sort", "_law_sort", defArgs (top 17), defBody (top 17), defScope (top 17), [], []⟩, ["views", "pair", "view"], ["views"], .own, [], [], ⟨1, 3, b__law_sort⟩⟩
def f__law_rows_2 (call : Call) : ZS := (sSet 3 (eBin .Add (eVar 3) (eLst [(eBin .Add (eVar 4) (eLst [(eVar 2)])), (eBin .Add (eVar 4) (eLst [(eBin .Add (eLit (.str "!")) (eVar 2))]))])))
def f__law_rows_1 (call : Call) : ZS := (sSeq (sSet 3 (eLst [])) (sSeq (sFor [4] (gN 4) (iSeq (eVar 1)) (f__law_rows_2 call)) (sMove 1 3)))
def b__law_rows (call : Call) : ZS := (sSeq (sSet 1 (eLst [(eLst [])])) (sSeq (sFor [2, 3, 4] (gN 2) (iSeq (eVar 0)) (f__law_rows_1 call)) (sRet (eVar 1))))
def z__law_rows : DZ := ⟨⟨("_law_rows", none), "_law_rows", "_law_rows", defArgs (top 18), defBody (top 18), defScope (top 18), [], []⟩, ["issues", "found", "issue", "longer", "row"], ["issues"], .own, [(⟨87, 8, 0, 0⟩, [3]), (⟨85, 8, 0, 0⟩, [4]), (⟨83, 4, 0, 0⟩, [2, 3, 4])], [], ⟨1, 5, b__law_rows⟩⟩
def b__law_has (call : Call) : ZS := (sRet (eCmp .Eq (eComp [2] (gN 2) (iSeq (eVar 1)) [(eCmp .NotIn (eVar 2) (eVar 0))] (eVar 2)) (eLst [])))
def z__law_has : DZ := ⟨⟨("_law_has", none), "_law_has", "_law_has", defArgs (top 19), defBody (top 19), defScope (top 19), [], []⟩, ["view", "other", "verdict"], ["view", "other"], .own, [], [], ⟨2, 3, b__law_has⟩⟩
def f__law_stranger_1 (call : Call) : ZS := (sSeq (sSet 3 (eBin .Add (eLit (.str "z")) (eBlt .str [(eBin .Mod (eBin .Add (eVar 1) (eVar 2)) (eLit (.int 1009)))]))) (sIf (eCmp .NotIn (eVar 3) (eVar 0)) (sRet (eVar 3)) sNil))
def b__law_stranger (call : Call) : ZS := (sSeq (sFor [2, 3] (gN 2) (iRange [(eLit (.int 41))]) (f__law_stranger_1 call)) (sRet (eLit (.str "z"))))
def z__law_stranger : DZ := ⟨⟨("_law_stranger", none), "_law_stranger", "_law_stranger", defArgs (top 20), defBody (top 20), defScope (top 20), [], []⟩, ["names", "number", "k", "name"], ["names", "number"], .own, [(⟨92, 4, 0, 0⟩, [2, 3])], [], ⟨2, 4, b__law_stranger⟩⟩
def f__law_drawn_1 (call : Call) : ZS := (sIf (eCmp .Gt (eBin .Mod (eIx (eVar 1) (eVar 3)) (eLit (.int 4))) (eLit (.int 0))) (sApp 2 (eIx (eLst [(eIx (eVar 0) (eVar 3)), (eBin .Add (eLit (.str "!")) (eIx (eVar 0) (eVar 3)))]) (eBin .Mod (eBin .FloorDiv (eIx (eVar 1) (eVar 3)) (eLit (.int 4))) (eLit (.int 2))))) sNil)
def b__law_drawn (call : Call) : ZS := (sSeq (sSet 2 (eLst [])) (sSeq (sFor [3] (gN 3) (iRange [(eBlt .len [(eVar 0)])]) (f__law_drawn_1 call)) (sRet (eVar 2))))
def z__law_drawn : DZ := ⟨⟨("_law_drawn", none), "_law_drawn", "_law_drawn", defArgs (top 21), defBody (top 21), defScope (top 21), [], []⟩, ["issues", "n", "found", "k"], ["issues", "n"], .own, [(⟨99, 4, 0, 0⟩, [3])], [], ⟨2, 4, b__law_drawn⟩⟩
def f__law_mixed_1 (call : Call) : ZS := (sAppPop 3 2 (eBin .Mod (eIx (eVar 1) (eVar 4)) (eBlt .len [(eVar 2)])))
def b__law_mixed (call : Call) : ZS := (sSeq (sSet 2 (eBlt .list [(eVar 0)])) (sSeq (sSet 3 (eLst [])) (sSeq (sFor [4] (gN 4) (iRange [(eBlt .len [(eVar 0)])]) (f__law_mixed_1 call)) (sRet (eVar 3)))))
def z__law_mixed : DZ := ⟨⟨("_law_mixed", none), "_law_mixed", "_law_mixed", defArgs (top 22), defBody (top 22), defScope (top 22), [], []⟩, ["view", "n", "left", "found", "k"], ["view", "n"], .own, [(⟨106, 4, 0, 0⟩, [4])], [], ⟨2, 5, b__law_mixed⟩⟩
def f_law_5 (call : Call) : ZS := (sIf (eNot (eCall call "_law_says" [(eCall call "holds" [(eBlt .list [(eVar 9)]), (eBlt .list [(eVar 14)])]), (eCall call "_law_has" [(eVar 9), (eVar 14)])])) (sRet (eLit (.bl false))) sNil)
def f_law_4 (call : Call) : ZS := (sSeq (sSet 15 (eBin .Add (eComp [16] (gN 16) (iSeq (eVar 9)) [(eCmp .In (eVar 16) (eLst [(eVar 3), (eBin .Add (eLit (.str "!")) (eVar 3))]))] (eVar 16)) (eLst [(eLit .non)]))) (sSeq (sSet 10 (eCall call "verdict_on" [(eBlt .list [(eVar 9)]), (eVar 3)])) (sIf (eOr (eCmp .NotEq (eVar 10) (eIx (eVar 15) (eLit (.int 0)))) (eAnd (eCmp .IsNot (eIx (eVar 15) (eLit (.int 0))) (eLit .non)) (eNot (eIsi (eVar 10) "str")))) (sRet (eLit (.bl false))) sNil)))
def f_law_3 (call : Call) : ZS := (sSeq (sSet 11 (eCall call "_law_mixed" [(eVar 9), (eCut (eVar 1) (some (eLit (.int 33))) (some (eLit (.int 39))))])) (sSeq (sSet 12 (eBlt .list [(eVar 11)])) (sSeq (sSet 13 (eCall call "sorted_view" [(eVar 12)])) (sSeq (sIf (eOr (eNot (eIsi (eVar 13) "list")) (eOr (eCmp .NotEq (eVar 13) (eVar 9)) (eCmp .NotEq (eVar 12) (eVar 11)))) (sRet (eLit (.bl false))) sNil) (sSeq (sFor [3, 10, 15, 16] (gN 3) (iSeq (eBin .Add (eVar 2) (eLst [(eVar 6)]))) (f_law_4 call)) (sFor [14] (gN 14) (iSeq (eVar 7)) (f_law_5 call)))))))
def f_law_2 (call : Call) : ZS := (sApp 7 (eCall call "_law_drawn" [(eVar 2), (eCut (eVar 1) (some (eBin .Add (eLit (.int 3)) (eBin .Mod (eBin .Mult (eLit (.int 6)) (eVar 8)) (eLit (.int 30))))) (some (eBin .Add (eLit (.int 9)) (eBin .Mod (eBin .Mult (eLit (.int 6)) (eVar 8)) (eLit (.int 30))))))]))
def f_law_1 (call : Call) : ZS := (sSeq (sSet 10 (eLst [(eCall call "opposite" [(eVar 3)]), (eCall call "opposite" [(eBin .Add (eLit (.str "!")) (eVar 3))]), (eCall call "issue_of" [(eVar 3)]), (eCall call "issue_of" [(eBin .Add (eLit (.str "!")) (eVar 3))])])) (sIf (eOr (eCmp .NotEq (eVar 10) (eLst [(eBin .Add (eLit (.str "!")) (eVar 3)), (eVar 3), (eVar 3), (eVar 3)])) (eOr (eNot (eCall call "_law_says" [(eCall call "is_yes" [(eVar 3)]), (eLit (.bl true))])) (eNot (eCall call "_law_says" [(eCall call "is_yes" [(eBin .Add (eLit (.str "!")) (eVar 3))]), (eLit (.bl false))])))) (sRet (eLit (.bl false))) sNil))
def b_law (call : Call) : ZS := (sSeq (sSet 1 (eCall call "_law_numbers" [(eVar 0), (eLit (.int 0)), (eLit (.int 40))])) (sSeq (sSet 2 (eBlt .sorted [(eCall call "_law_names" [(eCall call "_law_numbers" [(eVar 0), (eLit (.int 1)), (eLit (.int 18))]), (eBin .Add (eLit (.int 1)) (eBin .Mod (eIx (eVar 1) (eLit (.int 0))) (eLit (.int 6))))])])) (sSeq (sFor [3, 10] (gN 3) (iSeq (eVar 2)) (f_law_1 call)) (sSeq (sSet 4 (eBlt .list [(eVar 2)])) (sSeq (sSet 5 (eCall call "all_rows" [(eVar 4)])) (sSeq (sIf (eOr (eNot (eIsi (eVar 5) "list")) (eOr (eCmp .NotEq (eVar 5) (eCall call "_law_rows" [(eVar 2)])) (eOr (eCmp .NotEq (eVar 4) (eVar 2)) (eCmp .NotEq (eVar 5) (eCall call "_law_sort" [(eVar 5)]))))) (sRet (eLit (.bl false))) sNil) (sSeq (sSpoil 5 (eIx (eVar 5) (eLit (.int 0))) (eLit (.str "spoilt"))) (sSeq (sIf (eCmp .NotEq (eCall call "all_rows" [(eVar 4)]) (eCall call "_law_rows" [(eVar 2)])) (sRet (eLit (.bl false))) sNil) (sSeq (sSet 6 (eCall call "_law_stranger" [(eVar 2), (eIx (eVar 1) (eLit (.int 1)))])) (sSeq (sSet 7 (eLst [(eLst []), (eIx (eCall call "_law_rows" [(eVar 2)]) (eBin .Mod (eIx (eVar 1) (eLit (.int 2))) (eBlt .len [(eCall call "_law_rows" [(eVar 2)])])))])) (sSeq (sFor [8] (gN 8) (iRange [(eLit (.int 6))]) (f_law_2 call)) (sSeq (sFor [3, 9, 10, 11, 12, 13, 14, 15, 16] (gN 9) (iSeq (eVar 7)) (f_law_3 call)) (sRet (eLit (.bl true)))))))))))))))
def z_law : DZ := ⟨⟨("law", none), "law", "law", defArgs (top 23), defBody (top 23), defScope (top 23), [], []⟩, ["script", "n", "issues", "issue", "given", "rows", "stranger", "views", "k", "view", "told", "mixed", "passed", "found", "other", "due", "verdict"], ["script"], .own, [(⟨138, 8, 0, 0⟩, [14]), (⟨133, 8, 0, 0⟩, [3, 10, 15, 16]), (⟨127, 4, 0, 0⟩, [3, 9, 10, 11, 12, 13, 14, 15, 16]), (⟨125, 4, 0, 0⟩, [8]), (⟨112, 4, 0, 0⟩, [3, 10])], [(117, 4)], ⟨1, 17, b_law⟩⟩
def defs : List DZ := [z_is_yes, z_issue_of, z_opposite, z_place_of, z_sorted_view, z_holds, z_verdict_on, z_all_rows, z__law_numbers, z__law_name, z__law_names, z__law_says, z__law_issue, z__law_order, z__law_sort, z__law_rows, z__law_has, z__law_stranger, z__law_drawn, z__law_mixed, z_law]
theorem comp_is_yes : Comp defs (conOf cs) z_is_yes := fun call => by kernel_rfl
theorem comp_issue_of : Comp defs (conOf cs) z_issue_of := fun call => by kernel_rfl
theorem comp_opposite : Comp defs (conOf cs) z_opposite := fun call => by kernel_rfl
theorem comp_place_of : Comp defs (conOf cs) z_place_of := fun call => by kernel_rfl
theorem comp_sorted_view : Comp defs (conOf cs) z_sorted_view := fun call => by kernel_rfl
theorem comp_holds : Comp defs (conOf cs) z_holds := fun call => by kernel_rfl
theorem comp_verdict_on : Comp defs (conOf cs) z_verdict_on := fun call => by kernel_rfl
theorem comp_all_rows : Comp defs (conOf cs) z_all_rows := fun call => by kernel_rfl
theorem comp__law_numbers : Comp defs (conOf cs) z__law_numbers := fun call => by kernel_rfl
theorem comp__law_name : Comp defs (conOf cs) z__law_name := fun call => by kernel_rfl
theorem comp__law_names : Comp defs (conOf cs) z__law_names := fun call => by kernel_rfl
theorem comp__law_says : Comp defs (conOf cs) z__law_says := fun call => by kernel_rfl
theorem comp__law_issue : Comp defs (conOf cs) z__law_issue := fun call => by kernel_rfl
theorem comp__law_order : Comp defs (conOf cs) z__law_order := fun call => by kernel_rfl
theorem comp__law_sort : Comp defs (conOf cs) z__law_sort := fun call => by kernel_rfl
theorem comp__law_rows : Comp defs (conOf cs) z__law_rows := fun call => by kernel_rfl
theorem comp__law_has : Comp defs (conOf cs) z__law_has := fun call => by kernel_rfl
theorem comp__law_stranger : Comp defs (conOf cs) z__law_stranger := fun call => by kernel_rfl
theorem comp__law_drawn : Comp defs (conOf cs) z__law_drawn := fun call => by kernel_rfl
theorem comp__law_mixed : Comp defs (conOf cs) z__law_mixed := fun call => by kernel_rfl
theorem comp_law : Comp defs (conOf cs) z_law := fun call => by kernel_rfl
theorem one_is_yes : OneOk defs cs z_is_yes := ⟨comp_is_yes, ⟨rfl, rfl, by decide, ⟨rfl, rfl, rfl, by decide +kernel, rfl, by decide +kernel, by decide +kernel⟩⟩, fun _ _ _ _ _ _ us hl => match us, hl with | [_], _ => rfl, ⟨rfl, rfl⟩, rfl⟩
theorem one_issue_of : OneOk defs cs z_issue_of := ⟨comp_issue_of, ⟨rfl, rfl, by decide, ⟨rfl, rfl, rfl, by decide +kernel, rfl, by decide +kernel, by decide +kernel⟩⟩, fun _ _ _ _ _ _ us hl => match us, hl with | [_], _ => rfl, ⟨rfl, rfl⟩, rfl⟩
theorem one_opposite : OneOk defs cs z_opposite := ⟨comp_opposite, ⟨rfl, rfl, by decide, ⟨rfl, rfl, rfl, by decide +kernel, rfl, by decide +kernel, by decide +kernel⟩⟩, fun _ _ _ _ _ _ us hl => match us, hl with | [_], _ => rfl, ⟨rfl, rfl⟩, rfl⟩
theorem one_place_of : OneOk defs cs z_place_of := ⟨comp_place_of, ⟨rfl, rfl, by decide, ⟨rfl, rfl, rfl, by decide +kernel, rfl, by decide +kernel, by decide +kernel⟩⟩, fun _ _ _ _ _ _ us hl => match us, hl with | [_], _ => rfl, ⟨rfl, rfl⟩, rfl⟩
theorem one_sorted_view : OneOk defs cs z_sorted_view := ⟨comp_sorted_view, ⟨rfl, rfl, by decide, ⟨rfl, rfl, rfl, by decide +kernel, rfl, by decide +kernel, by decide +kernel⟩⟩, fun _ _ _ _ _ _ us hl => match us, hl with | [_], _ => rfl, ⟨rfl, rfl⟩, rfl⟩
theorem one_holds : OneOk defs cs z_holds := ⟨comp_holds, ⟨rfl, rfl, by decide, ⟨rfl, rfl, rfl, by decide +kernel, rfl, by decide +kernel, by decide +kernel⟩⟩, fun _ _ _ _ _ _ us hl => match us, hl with | [_, _], _ => rfl, ⟨rfl, rfl⟩, rfl⟩
theorem one_verdict_on : OneOk defs cs z_verdict_on := ⟨comp_verdict_on, ⟨rfl, rfl, by decide, ⟨rfl, rfl, rfl, by decide +kernel, rfl, by decide +kernel, by decide +kernel⟩⟩, fun _ _ _ _ _ _ us hl => match us, hl with | [_, _], _ => rfl, ⟨rfl, rfl⟩, rfl⟩
theorem one_all_rows : OneOk defs cs z_all_rows := ⟨comp_all_rows, ⟨rfl, rfl, by decide, ⟨rfl, rfl, rfl, by decide +kernel, rfl, by decide +kernel, by decide +kernel⟩⟩, fun _ _ _ _ _ _ us hl => match us, hl with | [_], _ => rfl, ⟨rfl, rfl⟩, rfl⟩
theorem one__law_numbers : OneOk defs cs z__law_numbers := ⟨comp__law_numbers, ⟨rfl, rfl, by decide, ⟨rfl, rfl, rfl, by decide +kernel, rfl, by decide +kernel, by decide +kernel⟩⟩, fun _ _ _ _ _ _ us hl => match us, hl with | [_, _, _], _ => rfl, ⟨rfl, rfl⟩, rfl⟩
theorem one__law_name : OneOk defs cs z__law_name := ⟨comp__law_name, ⟨rfl, rfl, by decide, ⟨rfl, rfl, rfl, by decide +kernel, rfl, by decide +kernel, by decide +kernel⟩⟩, fun _ _ _ _ _ _ us hl => match us, hl with | [_, _, _], _ => rfl, ⟨rfl, rfl⟩, rfl⟩
theorem one__law_names : OneOk defs cs z__law_names := ⟨comp__law_names, ⟨rfl, rfl, by decide, ⟨rfl, rfl, rfl, by decide +kernel, rfl, by decide +kernel, by decide +kernel⟩⟩, fun _ _ _ _ _ _ us hl => match us, hl with | [_, _], _ => rfl, ⟨rfl, rfl⟩, rfl⟩
theorem one__law_says : OneOk defs cs z__law_says := ⟨comp__law_says, ⟨rfl, rfl, by decide, ⟨rfl, rfl, rfl, by decide +kernel, rfl, by decide +kernel, by decide +kernel⟩⟩, fun _ _ _ _ _ _ us hl => match us, hl with | [_, _], _ => rfl, ⟨rfl, rfl⟩, rfl⟩
theorem one__law_issue : OneOk defs cs z__law_issue := ⟨comp__law_issue, ⟨rfl, rfl, by decide, ⟨rfl, rfl, rfl, by decide +kernel, rfl, by decide +kernel, by decide +kernel⟩⟩, fun _ _ _ _ _ _ us hl => match us, hl with | [_], _ => rfl, ⟨rfl, rfl⟩, rfl⟩
theorem one__law_order : OneOk defs cs z__law_order := ⟨comp__law_order, ⟨rfl, rfl, by decide, ⟨rfl, rfl, rfl, by decide +kernel, rfl, by decide +kernel, by decide +kernel⟩⟩, fun _ _ _ _ _ _ us hl => match us, hl with | [_], _ => rfl, ⟨rfl, rfl⟩, rfl⟩
theorem one__law_sort : OneOk defs cs z__law_sort := ⟨comp__law_sort, ⟨rfl, rfl, by decide, ⟨rfl, rfl, rfl, by decide +kernel, rfl, by decide +kernel, by decide +kernel⟩⟩, fun _ _ _ _ _ _ us hl => match us, hl with | [_], _ => rfl, ⟨rfl, rfl⟩, rfl⟩
theorem one__law_rows : OneOk defs cs z__law_rows := ⟨comp__law_rows, ⟨rfl, rfl, by decide, ⟨rfl, rfl, rfl, by decide +kernel, rfl, by decide +kernel, by decide +kernel⟩⟩, fun _ _ _ _ _ _ us hl => match us, hl with | [_], _ => rfl, ⟨rfl, rfl⟩, rfl⟩
theorem one__law_has : OneOk defs cs z__law_has := ⟨comp__law_has, ⟨rfl, rfl, by decide, ⟨rfl, rfl, rfl, by decide +kernel, rfl, by decide +kernel, by decide +kernel⟩⟩, fun _ _ _ _ _ _ us hl => match us, hl with | [_, _], _ => rfl, ⟨rfl, rfl⟩, rfl⟩
theorem one__law_stranger : OneOk defs cs z__law_stranger := ⟨comp__law_stranger, ⟨rfl, rfl, by decide, ⟨rfl, rfl, rfl, by decide +kernel, rfl, by decide +kernel, by decide +kernel⟩⟩, fun _ _ _ _ _ _ us hl => match us, hl with | [_, _], _ => rfl, ⟨rfl, rfl⟩, rfl⟩
theorem one__law_drawn : OneOk defs cs z__law_drawn := ⟨comp__law_drawn, ⟨rfl, rfl, by decide, ⟨rfl, rfl, rfl, by decide +kernel, rfl, by decide +kernel, by decide +kernel⟩⟩, fun _ _ _ _ _ _ us hl => match us, hl with | [_, _], _ => rfl, ⟨rfl, rfl⟩, rfl⟩
theorem one__law_mixed : OneOk defs cs z__law_mixed := ⟨comp__law_mixed, ⟨rfl, rfl, by decide, ⟨rfl, rfl, rfl, by decide +kernel, rfl, by decide +kernel, by decide +kernel⟩⟩, fun _ _ _ _ _ _ us hl => match us, hl with | [_, _], _ => rfl, ⟨rfl, rfl⟩, rfl⟩
theorem one_law : OneOk defs cs z_law := ⟨comp_law, ⟨rfl, rfl, by decide, ⟨rfl, rfl, rfl, by decide +kernel, rfl, by decide +kernel, by decide +kernel⟩⟩, fun _ _ _ _ _ _ us hl => match us, hl with | [_], _ => rfl, ⟨rfl, rfl⟩, rfl⟩
theorem r_is_yes (n : Nat) (x0 : D) : run (tabOf defs) (n + 1) "is_yes" [x0] = endD (b_is_yes (run (tabOf defs) n) [some x0]) := (run_at (fd := z_is_yes.fd) (by kernel_rfl)).trans rfl
theorem r_issue_of (n : Nat) (x0 : D) : run (tabOf defs) (n + 1) "issue_of" [x0] = endD (b_issue_of (run (tabOf defs) n) [some x0]) := (run_at (fd := z_issue_of.fd) (by kernel_rfl)).trans rfl
theorem r_opposite (n : Nat) (x0 : D) : run (tabOf defs) (n + 1) "opposite" [x0] = endD (b_opposite (run (tabOf defs) n) [some x0]) := (run_at (fd := z_opposite.fd) (by kernel_rfl)).trans rfl
theorem r_place_of (n : Nat) (x0 : D) : run (tabOf defs) (n + 1) "place_of" [x0] = endD (b_place_of (run (tabOf defs) n) [some x0]) := (run_at (fd := z_place_of.fd) (by kernel_rfl)).trans rfl
theorem r_sorted_view (n : Nat) (x0 : D) : run (tabOf defs) (n + 1) "sorted_view" [x0] = endD (b_sorted_view (run (tabOf defs) n) [some x0]) := (run_at (fd := z_sorted_view.fd) (by kernel_rfl)).trans rfl
theorem r_holds (n : Nat) (x0 x1 : D) : run (tabOf defs) (n + 1) "holds" [x0, x1] = endD (b_holds (run (tabOf defs) n) [some x0, some x1, none]) := (run_at (fd := z_holds.fd) (by kernel_rfl)).trans rfl
theorem r_verdict_on (n : Nat) (x0 x1 : D) : run (tabOf defs) (n + 1) "verdict_on" [x0, x1] = endD (b_verdict_on (run (tabOf defs) n) [some x0, some x1, none]) := (run_at (fd := z_verdict_on.fd) (by kernel_rfl)).trans rfl
theorem r_all_rows (n : Nat) (x0 : D) : run (tabOf defs) (n + 1) "all_rows" [x0] = endD (b_all_rows (run (tabOf defs) n) [some x0, none, none, none, none]) := (run_at (fd := z_all_rows.fd) (by kernel_rfl)).trans rfl
theorem r__law_numbers (n : Nat) (x0 x1 x2 : D) : run (tabOf defs) (n + 1) "_law_numbers" [x0, x1, x2] = endD (b__law_numbers (run (tabOf defs) n) [some x0, some x1, some x2, none, none, none, none]) := (run_at (fd := z__law_numbers.fd) (by kernel_rfl)).trans rfl
theorem r__law_name (n : Nat) (x0 x1 x2 : D) : run (tabOf defs) (n + 1) "_law_name" [x0, x1, x2] = endD (b__law_name (run (tabOf defs) n) [some x0, some x1, some x2, none, none, none, none]) := (run_at (fd := z__law_name.fd) (by kernel_rfl)).trans rfl
theorem r__law_names (n : Nat) (x0 x1 : D) : run (tabOf defs) (n + 1) "_law_names" [x0, x1] = endD (b__law_names (run (tabOf defs) n) [some x0, some x1, none, none, none, none, none, none, none, none]) := (run_at (fd := z__law_names.fd) (by kernel_rfl)).trans rfl
theorem r__law_says (n : Nat) (x0 x1 : D) : run (tabOf defs) (n + 1) "_law_says" [x0, x1] = endD (b__law_says (run (tabOf defs) n) [some x0, some x1]) := (run_at (fd := z__law_says.fd) (by kernel_rfl)).trans rfl
theorem r__law_issue (n : Nat) (x0 : D) : run (tabOf defs) (n + 1) "_law_issue" [x0] = endD (b__law_issue (run (tabOf defs) n) [some x0]) := (run_at (fd := z__law_issue.fd) (by kernel_rfl)).trans rfl
theorem r__law_order (n : Nat) (x0 : D) : run (tabOf defs) (n + 1) "_law_order" [x0] = endD (b__law_order (run (tabOf defs) n) [some x0, none]) := (run_at (fd := z__law_order.fd) (by kernel_rfl)).trans rfl
theorem r__law_sort (n : Nat) (x0 : D) : run (tabOf defs) (n + 1) "_law_sort" [x0] = endD (b__law_sort (run (tabOf defs) n) [some x0, none, none]) := (run_at (fd := z__law_sort.fd) (by kernel_rfl)).trans rfl
theorem r__law_rows (n : Nat) (x0 : D) : run (tabOf defs) (n + 1) "_law_rows" [x0] = endD (b__law_rows (run (tabOf defs) n) [some x0, none, none, none, none]) := (run_at (fd := z__law_rows.fd) (by kernel_rfl)).trans rfl
theorem r__law_has (n : Nat) (x0 x1 : D) : run (tabOf defs) (n + 1) "_law_has" [x0, x1] = endD (b__law_has (run (tabOf defs) n) [some x0, some x1, none]) := (run_at (fd := z__law_has.fd) (by kernel_rfl)).trans rfl
theorem r__law_stranger (n : Nat) (x0 x1 : D) : run (tabOf defs) (n + 1) "_law_stranger" [x0, x1] = endD (b__law_stranger (run (tabOf defs) n) [some x0, some x1, none, none]) := (run_at (fd := z__law_stranger.fd) (by kernel_rfl)).trans rfl
theorem r__law_drawn (n : Nat) (x0 x1 : D) : run (tabOf defs) (n + 1) "_law_drawn" [x0, x1] = endD (b__law_drawn (run (tabOf defs) n) [some x0, some x1, none, none]) := (run_at (fd := z__law_drawn.fd) (by kernel_rfl)).trans rfl
theorem r__law_mixed (n : Nat) (x0 x1 : D) : run (tabOf defs) (n + 1) "_law_mixed" [x0, x1] = endD (b__law_mixed (run (tabOf defs) n) [some x0, some x1, none, none, none]) := (run_at (fd := z__law_mixed.fd) (by kernel_rfl)).trans rfl
theorem r_law (n : Nat) (x0 : D) : run (tabOf defs) (n + 1) "law" [x0] = endD (b_law (run (tabOf defs) n) [some x0, none, none, none, none, none, none, none, none, none, none, none, none, none, none, none, none]) := (run_at (fd := z_law.fd) (by kernel_rfl)).trans rfl
theorem textL : TextL defs cs := ⟨by decide +kernel, allC one_is_yes (allC one_issue_of (allC one_opposite (allC one_place_of (allC one_sorted_view (allC one_holds (allC one_verdict_on (allC one_all_rows (allC one__law_numbers (allC one__law_name (allC one__law_names (allC one__law_says (allC one__law_issue (allC one__law_order (allC one__law_sort (allC one__law_rows (allC one__law_has (allC one__law_stranger (allC one__law_drawn (allC one__law_mixed (allC one_law (allN))))))))))))))))))))), by decide +kernel⟩
def loose0 : List Str := ["NO", "is_yes", "issue_of", "opposite", "place_of", "sorted_view", "holds", "verdict_on", "all_rows", "_law_numbers", "_law_name", "_law_names", "_law_says", "_law_issue", "_law_order", "_law_sort", "_law_rows", "_law_has", "_law_stranger", "_law_drawn", "_law_mixed"]
abbrev RR : PySem.W.OpenRow := PySem.W.OpenLaw.row PySem.Challenge.rw_panelsagree_k05_verdicts_and_views
def fa : List He.Fa := factsOf defs cs
def fn : List He.DefD := defs.map (·.d)
abbrev hk : PySem.W.Hook := He.hookD 4 fa fn
def ob (s : PySem.W.SharedT) : He.AlD := He.obsDG 4 fa fn (HandSHeadRun.getT s)
theorem ob_eq (s : PySem.W.SharedT) : ob s = hk.obs s.abs := He.obsDG_eq (HandSHeadRun.getT_eq s)
theorem runs (w : World) : HandSHeadRun.RunEq RR (PySem.W.view RR.prog [23]) hk ob 6000 (loose0) w := by
  intro os
  kernel_rfl
/-- all but the plain law -/
theorem head (n : Nat) (hr : Room (3 * n) callerA) (hlaw : ∀ ns : List Int, ns.length ≤ 63 → run (tabOf defs) n "law" [.scr ns] = .ok (.bl true)) : PySem.Challenge.rw_panelsagree_k05_verdicts_and_views.Holds := by
  w_on; o_law
  refine HandSHeadRun.head_any (r := PySem.W.OpenLaw.row PySem.Challenge.rw_panelsagree_k05_verdicts_and_views) (q := PySem.W.view (PySem.W.OpenLaw.row PySem.Challenge.rw_panelsagree_k05_verdicts_and_views).prog [23]) (H := hk) (ob := ob) (M := 6000) (loose := loose0) (d := HandSHeadRun.topDef (PySem.W.OpenLaw.row PySem.Challenge.rw_panelsagree_k05_verdicts_and_views).prog 23) (kwd := []) ob_eq
    (by kernel_rfl) (fun s => by kernel_rfl) runs (by kernel_rfl) (by kernel_rfl) (by kernel_rfl) (by rfl) (by first | assumption | decide +kernel) (by decide +kernel) ⟨rfl, rfl, rfl, rfl, rfl, by decide +kernel⟩ ?hw ?hc
  case hw => w_witness2
  case hc =>
    refine L2.walk_ofE (l := PySem.Challenge.rw_panelsagree_k05_verdicts_and_views) (n := 63) (k := 3 * n) (x := "script") (CX := L2.CX0) rfl (by decide) (by kernel_rfl) hr ?F (fun _ _ _ _ z => z)
    intro w mg fa0 h Y G hmg0
    obtain ⟨K, KX, c⟩ := Y
    have hmg : mg ("law" : PySem.Str) = some (.ref fa0) := by
      have e : (HandSHeadRun.topDef (PySem.W.OpenLaw.row PySem.Challenge.rw_panelsagree_k05_verdicts_and_views).prog 23).name = ("law" : PySem.Str) := by kernel_rfl
      rw [← e]
      exact hmg0
    have hmem : z_law ∈ defs := by unfold defs; simp
    obtain ⟨fd, hb, hF⟩ := law_facts (P := (PySem.Challenge.rw_panelsagree_k05_verdicts_and_views).prog) (w := w) (n := n) textL hmem rfl rfl KX G hmg c
    exact ⟨K, fd, _, KX, hb, fun H a ns hl _ hS => law_sp hS (hlaw ns hl), hF⟩
end K05
/-! k05: what the text's defs give, in plain words. -/
namespace K05
open PySem PySem.Spec PyProof.Rows Z

abbrev T := tabOf defs
def isYes (v : List Nat) : Bool := v.head? != some 33
def issueOf (v : List Nat) : List Nat := if isYes v = true then v else v.drop 1
def opp (v : List Nat) : List Nat := if isYes v = true then bang v else v.drop 1
/-- a text with a sign -/
structure Vt (v : List Nat) : Prop where
  ne : v ≠ []
  len : v.length ≤ 1000
theorem Vt.cons {v : List Nat} (h : Vt v) : ∃ c r, v = c :: r := by
  cases v with
  | nil => exact absurd rfl h.ne
  | cons c r => exact ⟨c, r, rfl⟩
theorem bool_isi (b : Bool) : isiD (.bl b) "bool" = .ok (.bl true) := rfl
theorem eq_bl (a b : Bool) : eqD (.bl a) (.bl b) = .ok (decide (a = b)) := eqD_en (α := Bool) (by show (0 : Nat) ≤ 100; omega) a b
theorem is_yes_eq (n : Nat) {v : List Nat} (h : Vt v) : run T (n + 1) "is_yes" [.str (tx v)] = .ok (.bl (isYes v)) := by
  rw [r_is_yes]
  obtain ⟨c, r, rfl⟩ := h.cons
  have i1 : ixD (.str (tx (c :: r))) (.int 0) = .ok (.str (tx [c])) := ix_tx (l := c :: r) (i := 0) (c := c) rfl (by have := h.len; omega)
  have e1 := eq_tx [c] [33]
  have e2 : (!decide ([c] = [33])) = isYes (c :: r) := by
    by_cases hc : c = 33 <;> simp [isYes, hc]
  rw [← e2]
  simp [b_is_yes, i1, lit_bang, e1]
theorem issue_of_eq (n : Nat) {v : List Nat} (h : Vt v) : run T (n + 2) "issue_of" [.str (tx v)] = .ok (.str (tx (issueOf v))) := by
  rw [r_issue_of]
  have i1 := is_yes_eq n h
  have c1 := cut_tx1 (l := v) (by have := h.len; omega)
  unfold issueOf
  cases hy : isYes v <;> simp [b_issue_of, i1, hy, c1, -List.drop_one]
theorem opposite_eq (n : Nat) {v : List Nat} (h : Vt v) : run T (n + 2) "opposite" [.str (tx v)] = .ok (.str (tx (opp v))) := by
  rw [r_opposite]
  have i1 := is_yes_eq n h
  have c1 := cut_tx1 (l := v) (by have := h.len; omega)
  have a1 := add_bang (x := v) (by have := h.len; omega)
  unfold opp
  cases hy : isYes v <;> simp [b_opposite, i1, hy, c1, lit_bang, a1, -List.drop_one]
def dplace (v : List Nat) : D := .tup [.str (tx (issueOf v)), .bl (!isYes v)]
theorem place_of_eq (n : Nat) {v : List Nat} (h : Vt v) : run T (n + 3) "place_of" [.str (tx v)] = .ok (dplace v) := by
  rw [r_place_of]
  have i1 := is_yes_eq (n + 1) h
  have i2 := issue_of_eq n h
  simp [b_place_of, i1, i2, dplace]
theorem law_says_eq (n : Nat) (a b : Bool) : run T (n + 1) "_law_says" [.bl a, .bl b] = .ok (.bl (decide (a = b))) := by
  rw [r__law_says]
  simp [b__law_says, bool_isi, eq_bl]
theorem law_issue_eq (n : Nat) {v : List Nat} (h : Vt v) : run T (n + 1) "_law_issue" [.str (tx v)] = .ok (.str (tx (issueOf v))) := by
  rw [r__law_issue]
  obtain ⟨c, r, rfl⟩ := h.cons
  have i1 : ixD (.str (tx (c :: r))) (.int 0) = .ok (.str (tx [c])) := ix_tx (l := c :: r) (i := 0) (c := c) rfl (by have := h.len; omega)
  have e1 := eq_tx [c] [33]
  have c1 := cut_tx1 (l := c :: r) (by have := h.len; omega)
  unfold issueOf
  by_cases hc : c = 33
  · subst hc
    simp [b__law_issue, i1, lit_bang, e1, c1, isYes]
  · have : isYes (c :: r) = true := by simp [isYes, hc]
    simp [b__law_issue, i1, lit_bang, e1, hc, this]
def dorder (v : List Nat) : D := .tup [.str (tx (issueOf v)), .int (if isYes v then 0 else 1)]
def dorders (w : List (List Nat)) : D := .lst (w.map dorder)
theorem comp_map {α : Type} {own : List Nat} {g : ZG} {it : ZI} {cs : List ZE} {e : ZE} {ρ : Z.Env} {as : List α} {f : α → D} (h : it ρ = .ok (as.map f)) (G : α → Option D) (hx : ∀ a ∈ as, compF own g cs e ρ (f a) = .ok (G a)) : eComp own g it cs e ρ = .ok (.lst (as.filterMap G)) := by
  rw [q_comp, h]
  have : compL (compF own g cs e ρ) (as.map f) = .ok (as.filterMap G) := by
    have := compL_map (f := fun a => compF own g cs e ρ (f a)) as hx
    rw [← this]
    clear this hx h
    induction as with
    | nil => rfl
    | cons a as ih =>
      show ((compF own g cs e ρ (f a)).bind fun o => (compL _ (as.map f)).bind fun ys => _) = _
      rw [ih]
      rfl
  show (compL (compF own g cs e ρ) (as.map f)).bind _ = _
  rw [this]
  rfl
theorem fm_some {α β : Type} (f : α → β) (l : List α) : l.filterMap (fun x => some (f x)) = l.map f := by
  induction l with
  | nil => rfl
  | cons a l ih => simp [ih]
theorem law_order_eq (n : Nat) {w : List (List Nat)} (h : ∀ v ∈ w, Vt v) : run T (n + 2) "_law_order" [dview w] = .ok (dorders w) := by
  rw [r__law_order]
  have c1 : eComp [1] (gN 1) (iSeq (eVar 0)) [] (eTup [(eCall (run T (n + 1)) "_law_issue" [(eVar 1)]), (eBlt .int [(eCmp .Eq (eIx (eVar 1) (eLit (.int 0))) (eLit (.str "!")))])]) [some (dview w), none] = .ok (dorders w) := by
    rw [comp_map (as := w) (f := dtx) (by simp [seq_view]) (fun v => some (dorder v)) fun v hv => ?_]
    · rw [fm_some]; rfl
    · have hv := h v hv
      have i2 := law_issue_eq n hv
      obtain ⟨c, r, rfl⟩ := hv.cons
      have i1 : ixD (.str (tx (c :: r))) (.int 0) = .ok (.str (tx [c])) := ix_tx (l := c :: r) (i := 0) (c := c) rfl (by have := hv.len; omega)
      have e1 := eq_tx [c] [33]
      by_cases hc : c = 33
      · subst hc
        simp [dtx, i1, i2, lit_bang, e1, dorder, isYes]
      · simp [dtx, i1, i2, lit_bang, e1, dorder, isYes, hc]
  simp [b__law_order, c1]
theorem holds_eq (n : Nat) (view other : List (List Nat)) : run T (n + 1) "holds" [dview view, dview other] = .ok (.bl (other.all fun v => decide (v ∈ view))) := by
  rw [r_holds]
  have c1 : eComp [2] (gN 2) (iSeq (eVar 1)) [] (eCmp .In (eVar 2) (eVar 0)) [some (dview view), some (dview other), none] = .ok (.lst ((other.map fun v => decide (v ∈ view)).map .bl)) := by
    rw [comp_map (as := other) (f := dtx) (by simp [seq_view]) (fun v => some (.bl (decide (v ∈ view)))) fun v hv => ?_]
    · rw [fm_some, List.map_map]; rfl
    · have i1 := in_view v view
      simp [dtx, i1]
  simp [b_holds, c1, -List.map_map]
theorem law_has_eq (n : Nat) (view other : List (List Nat)) : run T (n + 1) "_law_has" [dview view, dview other] = .ok (.bl (other.all fun v => decide (v ∈ view))) := by
  rw [r__law_has]
  have c1 : eComp [2] (gN 2) (iSeq (eVar 1)) [(eCmp .NotIn (eVar 2) (eVar 0))] (eVar 2) [some (dview view), some (dview other), none] = .ok (dview (other.filter fun v => !decide (v ∈ view))) := by
    rw [comp_map (as := other) (f := dtx) (by simp [seq_view]) (fun v => if v ∈ view then none else some (dtx v)) fun v hv => ?_]
    · unfold dview
      congr 2
      induction other with
      | nil => rfl
      | cons v r ih => by_cases h : v ∈ view <;> simp [h, ih]
    · have i1 := in_view v view
      by_cases h : v ∈ view <;> simp [dtx, i1, h]
  have e1 := eq_view (other.filter fun v => !decide (v ∈ view)) []
  have e2 : D.lst [] = dview [] := rfl
  have e3 : decide ((other.filter fun v => !decide (v ∈ view)) = []) = other.all fun v => decide (v ∈ view) := by
    rw [Bool.eq_iff_iff, decide_eq_true_eq, List.filter_eq_nil_iff, List.all_eq_true]
    simp
  rw [e3] at e1
  simp [b__law_has, c1, e2, e1, -List.all_eq_true]
theorem numbers_eq (n : Nat) (ns : List Int) (a k : Nat) (hk : k ≤ 1000000) : ∃ xs : List Nat, run T (n + 1) "_law_numbers" [.scr ns, .int a, .int k] = .ok (dns xs) ∧ xs.length = k ∧ ∀ x ∈ xs, x < 1009 := by
  rw [r__law_numbers]
  obtain ⟨xs, h1, h2, h3⟩ := numbers_ok ns a k hk
  refine ⟨xs.map Int.toNat, ?_, by rw [List.length_map, h2], fun x hx => ?_⟩
  · have e : dns (xs.map Int.toNat) = .lst (xs.map .int) := by
      unfold dns
      rw [List.map_map]
      congr 1
      refine List.map_congr_left fun x hx => ?_
      have := h3 x hx
      simp only [Function.comp]
      rw [Int.toNat_of_nonneg this.1]
    rw [e]
    exact h1
  · obtain ⟨y, hy, rfl⟩ := List.mem_map.mp hx
    have := h3 y hy
    omega
theorem law_name_eq (n : Nat) : ∀ f s m : Nat, ∃ l, run T (n + 1) "_law_name" [.int f, .int s, .int m] = .ok (.str (tx l)) ∧ Nm l := fun f s m => by
  rw [r__law_name]
  exact name_ok f s m
theorem law_names_eq (n : Nat) {ns : List Nat} {k : Nat} (hk : k ≤ 25) (hl : 3 * k ≤ ns.length) : ∃ fs : List (List Nat), run T (n + 2) "_law_names" [dns ns, .int k] = .ok (dview fs) ∧ fs.length = k ∧ (∀ l ∈ fs, Nm l) ∧ fs.Nodup := by
  rw [r__law_names]
  exact names_ok _ (law_name_eq n) hk hl
theorem law_rows_eq (n : Nat) {is : List (List Nat)} (hn : is.length ≤ 16) (hi : ∀ l ∈ is, l.length ≤ 1000) : run T (n + 1) "_law_rows" [dview is] = .ok (drows (rowsOf is)) := by
  rw [r__law_rows]
  exact rows_ok hn hi
theorem all_rows_eq (n : Nat) {is : List (List Nat)} (hn : is.length ≤ 16) (hi : ∀ l ∈ is, l.length ≤ 1000) : run T (n + 1) "all_rows" [dview is] = .ok (drows (rowsOf is)) := by
  rw [r_all_rows]
  exact rowsD_ok hn hi
theorem verdict_on_eq (n : Nat) {view : List (List Nat)} {issue : List Nat} (h : ∀ v ∈ view, Vt v) : run T (n + 3) "verdict_on" [dview view, .str (tx issue)] = .ok (match view.find? (fun v => decide (issueOf v = issue)) with | some v => .str (tx v) | none => .non) := by
  rw [r_verdict_on]
  have lp : sFor [2] (gN 2) (iSeq (eVar 0)) (f_verdict_on_1 (run T (n + 2))) [some (dview view), some (.str (tx issue)), none] =
      match view.find? (fun v => decide (issueOf v = issue)) with | some v => .rt (.str (tx v)) | none => .nx [some (dview view), some (.str (tx issue)), none] := by
    rw [q_for]
    have e : (iSeq (eVar 0)) [some (dview view), some (.str (tx issue)), none] = .ok (view.map dtx) := by simp [seq_view]
    rw [e]
    show forL [2] (fun x ρ' => ofR (gN 2 x ρ') (f_verdict_on_1 (run T (n + 2)))) (view.map dtx) [some (dview view), some (.str (tx issue)), none] = _
    rw [forL_find (fun x => match x with | .str z => if issueOf z.cps.toList = issue then some (D.str z) else none | _ => none) (view.map dtx) fun x hx => ?_]
    · have key : (view.map dtx).findSome? (fun x => match x with | .str z => if issueOf z.cps.toList = issue then some (D.str z) else none | _ => none) = (view.find? (fun v => decide (issueOf v = issue))).map fun v => D.str (tx v) := by
        clear e h
        induction view with
        | nil => rfl
        | cons v r ih =>
          rw [List.map_cons, List.findSome?_cons, List.find?_cons, ih]
          by_cases hv : issueOf v = issue
          · simp [dtx, tx_cps, hv]
          · simp [dtx, tx_cps, hv]
      rw [key]
      cases view.find? (fun v => decide (issueOf v = issue)) <;> rfl
    · obtain ⟨v, hv, rfl⟩ := List.mem_map.mp hx
      have i1 := issue_of_eq n (h v hv)
      have e1 := eq_tx (issueOf v) issue
      show match (if issueOf (tx v).cps.toList = issue then some (D.str (tx v)) else none) with | some d => _ | none => _
      rw [tx_cps]
      by_cases hi : issueOf v = issue
      · simp [hi, f_verdict_on_1, dtx, i1, eq_tx]
      · simp [hi, f_verdict_on_1, dtx, i1, e1]
  cases hf : view.find? (fun v => decide (issueOf v = issue)) with
  | none => rw [hf] at lp; simp [b_verdict_on, lp]
  | some v => rw [hf] at lp; simp [b_verdict_on, lp]
/-! ### mixing -/
theorem pop_at {xs : List D} {q : Nat} {d : D} (hq : xs.length ≤ 16777216) (h : xs[q]? = some d) : popD (.lst xs) (.int q) = .ok (d, .lst (xs.eraseIdx q)) := by
  show chk (decide (0 ≤ (q : Int) ∧ xs.length ≤ sizeLine)) _ = _
  rw [decide_eq_true ⟨Int.natCast_nonneg q, Nat.le_trans hq sizeLine_big⟩, Int.toNat_natCast, h]
  rfl
theorem erase_map {α β : Type} (f : α → β) : ∀ (l : List α) (i : Nat), (l.map f).eraseIdx i = (l.eraseIdx i).map f
  | [], _ => rfl
  | _ :: _, 0 => rfl
  | a :: l, i + 1 => by simp [erase_map f l i]
theorem erase_perm {α : Type} : ∀ {l : List α} {i : Nat} {a : α}, l[i]? = some a → (l.eraseIdx i ++ [a]).Perm l
  | [], _, _, h => by simp at h
  | x :: l, 0, a, h => by
    simp at h
    subst h
    simpa using (List.perm_append_comm (l₁ := l) (l₂ := [x]))
  | x :: l, i + 1, a, h => by
    simp at h
    simpa using (erase_perm h).cons x
theorem mixed_body (c : Call) {vw : D} {ns : List Nat} {left acc : List (List Nat)} {j : Nat} (hj : j < ns.length) (hp : 0 < left.length) (hl : left.length ≤ 1000) (ha : acc.length ≤ 1000) : ∃ q v, left[q]? = some v ∧
    f__law_mixed_1 c [some vw, some (dns ns), some (dview left), some (dview acc), some (.int j)] = .nx [some vw, some (dns ns), some (dview (left.eraseIdx q)), some (dview (acc ++ [v])), some (.int j)] := by
  have i1 := ix_ns (ns := ns) (i := (j : Int)) (j := j) rfl hj
  generalize ns[j] = z at i1
  obtain ⟨q, hq, hq2⟩ : ∃ q : Nat, (z : Int) % (left.length : Int) = (q : Int) ∧ q < left.length := ⟨z % left.length, (Int.natCast_emod z left.length).symm, Nat.mod_lt _ hp⟩
  have m1 : binD .Mod (.int z) (.int left.length) = .ok (.int q) := by rw [b_mod (by omega), hq]
  have l1 : bltD .len [dview left] = .ok (.int left.length) := by simp [dview]
  have big := sizeLine_big
  have p1 : popD (dview left) (.int q) = .ok (dtx left[q], dview (left.eraseIdx q)) := by
    unfold dview
    rw [pop_at (d := dtx left[q]) (by rw [List.length_map]; omega) (by rw [List.getElem?_map, List.getElem?_eq_getElem hq2]; rfl), erase_map]
  have a1 : appD (dview acc) (dtx left[q]) = .ok (dview (acc ++ [left[q]])) := by
    unfold dview
    rw [f_app (by rw [List.length_map]; omega), List.map_append]
    rfl
  refine ⟨q, left[q], List.getElem?_eq_getElem hq2, ?_⟩
  simp [f__law_mixed_1, i1, l1, m1, p1, a1]
theorem mixed_loop (c : Call) {view : List (List Nat)} {ns : List Nat} (hl : view.length ≤ ns.length) (hs : ns.length ≤ 1000) : ∃ m, sFor [4] (gN 4) (iRange [(eBlt .len [(eVar 0)])]) (f__law_mixed_1 c) [some (dview view), some (dns ns), some (dview view), some (dview []), none] = .nx [some (dview view), some (dns ns), some (dview []), some (dview m), none] ∧ m.Perm view := by
  have hit : (iRange [(eBlt .len [(eVar 0)])]) [some (dview view), some (dns ns), some (dview view), some (dview []), none] = .ok ((List.range view.length).map fun (k : Nat) => .int k) := by
    have := f_range (n := view.length) (by omega)
    have l1 : bltD .len [dview view] = .ok (.int view.length) := by simp [dview]
    simp [l1, this]
  obtain ⟨ρ', h1, left, acc, h2, h3, h4⟩ := sFor_inv (kl := [4]) (g := gN 4) (b := f__law_mixed_1 c) hit
    (fun i ρ => ∃ left acc : List (List Nat), ρ = [some (dview view), some (dns ns), some (dview left), some (dview acc), none] ∧ left.length + i = view.length ∧ (left ++ acc).Perm view) ⟨view, [], rfl, rfl, by simp⟩ (by
      rintro j x ρ hx ⟨left, acc, rfl, h2, h3⟩
      obtain ⟨hj, rfl⟩ := range_at hx
      have h5 := h3.length_eq
      rw [List.length_append] at h5
      obtain ⟨q, v, hq, hb⟩ := mixed_body c (vw := dview view) (ns := ns) (left := left) (acc := acc) (j := j) (by omega) (by omega) (by omega) (by omega)
      refine ⟨_, _, rfl, .inl hb, left.eraseIdx q, acc ++ [v], rfl, ?_, ?_⟩
      · have hq2 : q < left.length := (List.getElem?_eq_some_iff.mp hq).1
        rw [List.length_eraseIdx, if_pos hq2]; omega
      · have h5 := erase_perm hq
        have h6 : (left.eraseIdx q ++ (acc ++ [v])).Perm (left.eraseIdx q ++ [v] ++ acc) := by
          rw [List.append_assoc]
          exact List.Perm.append_left _ List.perm_append_comm
        exact h6.trans ((List.Perm.append_right acc h5).trans h3))
  subst h2
  rw [List.length_map, List.length_range] at h3
  have : left = [] := List.length_eq_zero_iff.mp (by omega)
  subst this
  exact ⟨acc, h1, by simpa using h4⟩
theorem law_mixed_eq (n : Nat) {view : List (List Nat)} {ns : List Nat} (hl : view.length ≤ ns.length) (hs : ns.length ≤ 1000) : ∃ m : List (List Nat), run T (n + 1) "_law_mixed" [dview view, dns ns] = .ok (dview m) ∧ m.Perm view := by
  rw [r__law_mixed]
  obtain ⟨m, h1, h2⟩ := mixed_loop (run T n) hl hs
  have l0 : bltD .list [dview view] = .ok (dview view) := rfl
  have e0 : D.lst [] = dview [] := rfl
  exact ⟨m, by simp [b__law_mixed, l0, e0, h1], h2⟩
end K05
/-! k05: what is sorted. -/
namespace K05
open PySem PySem.Spec PyProof.Rows Z

theorem mapR_map {α β γ : Type} (f : β → R γ) (h : α → β) : ∀ as : List α, mapR f (as.map h) = mapR (fun a => f (h a)) as
  | [] => rfl
  | a :: as => by
    show ((f (h a)).bind fun y => (mapR f (as.map h)).bind fun ys => _) = _
    rw [mapR_map f h as]
    rfl
def kplace (v : List Nat) : PyData := toPy (dplace v)
theorem kplace_eq (v : List Nat) : kplace v = .tuple [.str (tx (issueOf v)), .bool (!isYes v)] := rfl
theorem kplace_alike (a b : List Nat) : PySem.W.alike (kplace a) (kplace b) = true := by
  rw [kplace_eq, kplace_eq]; simp [PySem.W.alike, PySem.W.alikeAll]
theorem eqv_str (a b : List Nat) : PyData.eqv (.str (tx a)) (.str (tx b)) = decide (a = b) := by
  have h := eqv_en (tx a) (tx b)
  have e : eqv (En.en (tx a)) (En.en (tx b)) = PyData.eqv (.str (tx a)) (.str (tx b)) := rfl
  rw [e] at h
  rw [h, decide_eq_decide]
  exact tx_inj
theorem nlt_irrefl {a : List Nat} (h : nlt a a) : False := by
  unfold nlt at h
  have := (PySem.W.sortLe_total (listOrd itemOrd) false fun b => PySem.W.keyToks (kstr b))
  have e : PySem.W.dataLt (kstr a) (kstr a) = false := (listOrd itemOrd).irrefl (PySem.W.keyToks (kstr a))
  rw [e] at h
  exact absurd h (by simp)
theorem place_lt {a b : List Nat} (h : nlt (issueOf a) (issueOf b)) : PySem.W.dataLt (kplace a) (kplace b) = true := by
  have ne : issueOf a ≠ issueOf b := fun e => nlt_irrefl (by rw [e] at h; exact h)
  rw [kplace_eq, kplace_eq, PySem.W.dataLt_pair (by simp [PySem.W.alike]) (by simp [PySem.W.alike]), eqv_str]
  rw [decide_eq_false ne, if_neg (by simp)]
  exact h
theorem sorts_place (a b : List Nat) : sorts (dplace a) (dplace b) = true := by
  have h1 := kplace_alike a b
  unfold sorts fine
  have e : ∀ v, (toPy (dplace v)).plain = true ∧ (toPy (dplace v)).depth ≤ 100 := fun v => by
    show (kplace v).plain = true ∧ (kplace v).depth ≤ 100
    rw [kplace_eq]
    simp [PyData.plain, PyData.plainAll, PyData.depth, PyData.depthAll]
  have h2 : PySem.W.alike (toPy (dplace a)) (toPy (dplace b)) = true := h1
  rw [h2, (e a).1, (e b).1, decide_eq_true (e a).2, decide_eq_true (e b).2]
  rfl
theorem sorted_view_eq (n : Nat) {m view : List (List Nat)} (hv : ∀ v ∈ view, Vt v) (hp : m.Perm view) (hs : view.Pairwise fun a b => nlt (issueOf a) (issueOf b)) : run T (n + 4) "sorted_view" [dview m] = .ok (dview view) := by
  rw [r_sorted_view]
  have h1 : mapR (fun d => run T (n + 3) "place_of" [d]) (m.map dtx) = .ok (m.map dplace) := by
    rw [mapR_map]
    exact mapR_ok m fun v hm => place_of_eq n (hv v (hp.mem_iff.mp hm))
  have h2 : sortable (m.map dplace) = true := by
    unfold sortable allAlike
    rw [Bool.and_eq_true, Bool.or_eq_true]
    refine ⟨?_, .inr ?_⟩
    · rw [List.all_map, List.all_eq_true]
      intro a _
      rw [Function.comp, List.all_map, List.all_eq_true]
      intro b _
      exact sorts_place a b
    · rw [List.all_map, List.all_eq_true]
      intro a _
      rfl
  have h3 : sortByL (m.map dtx) (m.map dplace) = view.map dtx := by
    unfold sortByL
    have e : (m.map dtx).zip (m.map dplace) = m.map fun v => (dtx v, dplace v) := by
      rw [List.zip_map']
    rw [e, ← List.map_mergeSort (r := kle kplace) (f := fun v => (dtx v, dplace v)) fun a _ b _ => rfl, List.map_map]
    have := sort_is kplace hp (hs.imp fun h => kle_of_lt kplace (place_lt h)) (fun a ha b hb e => by
      by_cases hab : a = b
      · exact hab
      · have key : ∀ {l : List (List Nat)}, l.Pairwise (fun a b => nlt (issueOf a) (issueOf b)) → a ∈ l → b ∈ l → nlt (issueOf a) (issueOf b) ∨ nlt (issueOf b) (issueOf a) := fun {l} hl => by
          induction hl with
          | nil => intro h; exact (List.not_mem_nil h).elim
          | cons h1 h2 ih =>
            intro ha hb
            rcases List.mem_cons.mp ha with ha | ha
            · rcases List.mem_cons.mp hb with hb | hb
              · exact absurd (ha.trans hb.symm) hab
              · rw [ha]; exact .inl (h1 b hb)
            · rcases List.mem_cons.mp hb with hb | hb
              · rw [hb]; exact .inr (h1 a ha)
              · exact ih ha hb
        have no : ∀ {a b : List Nat}, PySem.W.keyToks (kplace a) = PySem.W.keyToks (kplace b) → nlt (issueOf a) (issueOf b) → False := fun {a b} e h => by
          have := place_lt h
          unfold PySem.W.dataLt at this
          rw [e] at this
          have irr : PyProof.Rows.lexLt itemOrd (PySem.W.keyToks (kplace b)) (PySem.W.keyToks (kplace b)) = false := (listOrd itemOrd).irrefl (PySem.W.keyToks (kplace b))
          rw [irr] at this
          exact absurd this (by simp)
        rcases key hs ha hb with h | h
        · exact (no e h).elim
        · exact (no e.symm h).elim)
    rw [this]
    rfl
  have h4 : sortKD (run T (n + 3)) "place_of" (dview m) = .ok (dview view) := by
    show (mapR (fun d => run T (n + 3) "place_of" [d]) (m.map dtx)).bind (fun ks => chk (sortable ks) (R.ok (D.lst (sortByL (m.map dtx) ks)))) = _
    rw [h1, R.bind_ok, h2, h3]
    rfl
  simp [b_sorted_view, h4]
/-! ### rows in their order -/
def kord (v : List (List Nat)) : PyData := toPy (dorders v)
theorem dorder_en (v : List Nat) : dorder v = En.en ((tx (issueOf v), (if isYes v then 0 else 1 : Int)) : Str × Int) := rfl
def ltL (xs ys : List PyData) : Bool := PyProof.Rows.lexLt itemOrd (PySem.W.keyToksAll xs) (PySem.W.keyToksAll ys)
def pord (v : List (List Nat)) : List PyData := v.map fun x => toPy (dorder x)
theorem kord_eq (v : List (List Nat)) : kord v = .list (pord v) := by
  unfold kord dorders pord
  simp only [toPy, toPys_map, List.map_map]
  rfl
theorem ord_alike (a b : List Nat) : PySem.W.alike (toPy (dorder a)) (toPy (dorder b)) = true := by
  simp [dorder, toPy, toPys, PySem.W.alike, PySem.W.alikeAll]
theorem ltL_cons (a b : List Nat) (v w : List (List Nat)) : ltL (pord (a :: v)) (pord (b :: w)) = if PyData.eqv (toPy (dorder a)) (toPy (dorder b)) = true then ltL (pord v) (pord w) else PySem.W.dataLt (toPy (dorder a)) (toPy (dorder b)) := PySem.W.dataLt_cons (ord_alike a b) _ _
theorem ltL_app : ∀ {v w : List (List Nat)} (x y : List (List Nat)), v.length = w.length → ltL (pord v) (pord w) = true → ltL (pord (v ++ x)) (pord (w ++ y)) = true
  | [], [], x, y, _, h => by
    have e : ltL (pord []) (pord []) = false := (listOrd itemOrd).irrefl (PySem.W.keyToksAll [])
    rw [e] at h
    exact absurd h (by simp)
  | a :: v, b :: w, x, y, hl, h => by
    rw [List.cons_append, List.cons_append, ltL_cons]
    rw [ltL_cons] at h
    by_cases he : PyData.eqv (toPy (dorder a)) (toPy (dorder b)) = true
    · rw [if_pos he] at h ⊢
      exact ltL_app x y (by simpa using hl) h
    · rw [if_neg he] at h ⊢
      exact h
theorem ltL_last (v : List (List Nat)) {x : List Nat} (hx : isYes x = true) : ltL (pord (v ++ [x])) (pord (v ++ [bang x])) = true := by
  induction v with
  | nil =>
    show ltL (pord (x :: [])) (pord (bang x :: [])) = true
    have e1 : issueOf x = x := by unfold issueOf; rw [if_pos hx]
    have e2 : isYes (bang x) = false := rfl
    have e3 : issueOf (bang x) = x := by unfold issueOf; rw [e2]; rfl
    have d1 : toPy (dorder x) = .tuple [.str (tx x), .int 0] := by unfold dorder; rw [e1, hx]; rfl
    have d2 : toPy (dorder (bang x)) = .tuple [.str (tx x), .int 1] := by unfold dorder; rw [e2, e3]; rfl
    rw [ltL_cons, d1, d2]
    have n1 : PyData.eqv (.tuple [.str (tx x), .int 0]) (.tuple [.str (tx x), .int 1]) = false := by simp [PyData.eqv, PyData.eqvAll]
    rw [n1, if_neg (by simp), PySem.W.dataLt_pair (by simp [PySem.W.alike]) (by simp [PySem.W.alike]), PySem.W.dataLt_int]
    simp [PyData.eqv]
  | cons a v ih =>
    rw [List.cons_append, List.cons_append, ltL_cons]
    have e : PyData.eqv (toPy (dorder a)) (toPy (dorder a)) = true := by
      have := eqv_en (α := Str × Int) ((tx (issueOf a), (if isYes a then 0 else 1 : Int))) ((tx (issueOf a), (if isYes a then 0 else 1 : Int)))
      rw [← dorder_en] at this
      unfold eqv at this
      rw [this]
      simp
    rw [if_pos e]
    exact ih
theorem rows_sorted {is : List (List Nat)} (h : ∀ x ∈ is, isYes x = true) : ∀ j, j ≤ is.length → (rowsOf (is.take j)).Pairwise fun a b => ltL (pord a) (pord b) = true
  | 0, _ => List.pairwise_singleton _ _
  | j + 1, hj => by
    have ih := rows_sorted h j (by omega)
    obtain ⟨_, hr⟩ := rows_take is j (by omega)
    have hx := h is[j] (List.getElem_mem _)
    rw [take_snoc (List.getElem?_eq_getElem (by omega)), rowsOf_snoc]
    unfold grow
    rw [List.pairwise_flatMap]
    refine ⟨fun r _ => ?_, ?_⟩
    · rw [List.pairwise_cons]
      refine ⟨fun y hy => ?_, List.pairwise_singleton _ _⟩
      have hy : y = r ++ [bang is[j]] := by simpa using hy
      rw [hy]
      exact ltL_last r hx
    · refine List.Pairwise.imp_of_mem ?_ ih
      intro a b ha hb hab x hx y hy
      have hl : a.length = b.length := by rw [hr a ha, hr b hb]
      have ex : ∃ p, x = a ++ p := by
        rcases List.mem_cons.mp hx with e | e
        · exact ⟨_, e⟩
        · exact ⟨_, by simpa using e⟩
      have ey : ∃ p, y = b ++ p := by
        rcases List.mem_cons.mp hy with e | e
        · exact ⟨_, e⟩
        · exact ⟨_, by simpa using e⟩
      obtain ⟨p, rfl⟩ := ex
      obtain ⟨q, rfl⟩ := ey
      exact ltL_app p q hl hab
def dpair (v : List (List Nat)) : D := .tup [dorders v, dview v]
def kpair (v : List (List Nat)) : PyData := toPy (dpair v)
def pview (v : List (List Nat)) : List PyData := v.map fun x => .str (tx x)
theorem kpair_eq (v : List (List Nat)) : kpair v = .tuple [.list (pord v), .list (pview v)] := by
  unfold kpair dpair
  have e : toPy (dview v) = .list (pview v) := by
    unfold dview pview
    simp only [toPy, toPys_map, List.map_map]
    rfl
  have e2 : toPy (dorders v) = .list (pord v) := kord_eq v
  simp only [toPy, toPys, e, e2]
theorem alike_map {α : Type} {f : α → PyData} (h : ∀ a b, PySem.W.alike (f a) (f b) = true) : ∀ v w : List α, PySem.W.alikeAll (v.map f) (w.map f) = true
  | [], [] => by simp [PySem.W.alikeAll]
  | [], _ :: _ => by simp [PySem.W.alikeAll]
  | _ :: _, [] => by simp [PySem.W.alikeAll]
  | a :: v, b :: w => by simp [PySem.W.alikeAll, h a b, alike_map h v w]
theorem pord_alike (v w : List (List Nat)) : PySem.W.alike (.list (pord v)) (.list (pord w)) = true := by
  simp only [PySem.W.alike]
  exact alike_map (fun a b => ord_alike a b) v w
theorem pview_alike (v w : List (List Nat)) : PySem.W.alike (.list (pview v)) (.list (pview w)) = true := by
  simp only [PySem.W.alike]
  exact alike_map (f := fun x => PyData.str (tx x)) (fun a b => by simp [PySem.W.alike]) v w
theorem dorders_en (v : List (List Nat)) : dorders v = En.en (v.map fun x => ((tx (issueOf x), (if isYes x then 0 else 1 : Int)) : Str × Int)) := by
  show _ = D.lst ((v.map _).map En.en)
  rw [List.map_map]
  rfl
theorem dpair_en (v : List (List Nat)) : dpair v = En.en ((v.map fun x => ((tx (issueOf x), (if isYes x then 0 else 1 : Int)) : Str × Int), v.map tx) : List (Str × Int) × List Str) := by
  show _ = D.tup [En.en _, En.en _]
  rw [← dorders_en, en_view]
  rfl
theorem fine_pair (v : List (List Nat)) : fine (dpair v) = true := by
  rw [dpair_en]
  exact fine_en (by show max (max 0 0 + 1 + 1) (0 + 1) + 1 ≤ 100; omega) _
theorem sorts_pair (v w : List (List Nat)) : sorts (dpair v) (dpair w) = true := by
  unfold sorts
  have h : PySem.W.alike (toPy (dpair v)) (toPy (dpair w)) = true := by
    show PySem.W.alike (kpair v) (kpair w) = true
    rw [kpair_eq, kpair_eq]
    simp only [PySem.W.alike, PySem.W.alikeAll]
    have h1 := pord_alike v w
    have h2 := pview_alike v w
    simp only [PySem.W.alike] at h1 h2
    rw [h1, h2]
    rfl
  rw [h, fine_pair, fine_pair]
  rfl
theorem pair_lt {a b : List (List Nat)} (h : ltL (pord a) (pord b) = true) : PySem.W.dataLt (kpair a) (kpair b) = true := by
  rw [kpair_eq, kpair_eq, PySem.W.dataLt_pair (pord_alike a b) (pview_alike a b)]
  have ne : ¬ PyData.eqv (.list (pord a)) (.list (pord b)) = true := fun e => by
    have e1 := eqv_en (α := List (Str × Int)) (a.map fun x => ((tx (issueOf x), (if isYes x then 0 else 1 : Int)) : Str × Int)) (b.map fun x => ((tx (issueOf x), (if isYes x then 0 else 1 : Int)) : Str × Int))
    rw [← dorders_en, ← dorders_en] at e1
    unfold eqv at e1
    have k1 : toPy (dorders a) = .list (pord a) := kord_eq a
    have k2 : toPy (dorders b) = .list (pord b) := kord_eq b
    rw [k1, k2, e] at e1
    have e2 : (a.map fun x => ((tx (issueOf x), (if isYes x then 0 else 1 : Int)) : Str × Int)) = (b.map fun x => ((tx (issueOf x), (if isYes x then 0 else 1 : Int)) : Str × Int)) := by simpa using e1.symm
    have e3 : pord a = pord b := by
      have q : ∀ v : List (List Nat), pord v = (v.map fun x => ((tx (issueOf x), (if isYes x then 0 else 1 : Int)) : Str × Int)).map fun p => toPy (En.en p) := fun v => by
        rw [List.map_map]; rfl
      rw [q, q, e2]
    rw [e3] at h
    have irr : ltL (pord b) (pord b) = false := (listOrd itemOrd).irrefl (PySem.W.keyToksAll (pord b))
    rw [irr] at h
    exact absurd h (by simp)
  rw [if_neg ne, PySem.W.dataLt_list]
  exact h
theorem law_sort_eq (n : Nat) {rs : List (List (List Nat))} (hv : ∀ r ∈ rs, ∀ v ∈ r, Vt v) (hs : rs.Pairwise fun a b => ltL (pord a) (pord b) = true) : run T (n + 3) "_law_sort" [drows rs] = .ok (drows rs) := by
  rw [r__law_sort]
  have c1 : eComp [2] (gN 2) (iSeq (eVar 0)) [] (eTup [(eCall (run T (n + 2)) "_law_order" [(eVar 2)]), (eVar 2)]) [some (drows rs), none, none] = .ok (.lst (rs.map dpair)) := by
    rw [comp_map (as := rs) (f := dview) (by simp [seq_rows]) (fun v => some (dpair v)) fun v hr => ?_]
    · rw [fm_some]
    · have i1 := law_order_eq n (hv v hr)
      simp [i1, dpair]
  have s1 : bltD .sorted [.lst (rs.map dpair)] = .ok (.lst (rs.map dpair)) := by
    show chk (sortable (rs.map dpair)) (R.ok (D.lst (sortL (rs.map dpair)))) = _
    have h1 : sortable (rs.map dpair) = true := by
      unfold sortable allAlike
      rw [Bool.and_eq_true, Bool.or_eq_true]
      refine ⟨?_, .inr ?_⟩
      · rw [List.all_map, List.all_eq_true]
        intro a _
        rw [Function.comp, List.all_map, List.all_eq_true]
        intro b _
        exact sorts_pair a b
      · rw [List.all_map, List.all_eq_true]
        intro a _
        rfl
    have h2 : sortL (rs.map dpair) = rs.map dpair := by
      unfold sortL
      rw [← List.map_mergeSort (r := kle kpair) (f := dpair) fun a _ b _ => rfl, List.mergeSort_of_pairwise (hs.imp fun h => kle_of_lt kpair (pair_lt h))]
    rw [h1, h2]
    rfl
  have c2 : eComp [1] (gN 1) (iSeq (eBlt .sorted [(eComp [2] (gN 2) (iSeq (eVar 0)) [] (eTup [(eCall (run T (n + 2)) "_law_order" [(eVar 2)]), (eVar 2)]))])) [] (eIx (eVar 1) (eLit (.int 1))) [some (drows rs), none, none] = .ok (drows rs) := by
    rw [comp_map (as := rs) (f := dpair) (by simp [c1, s1, seqD]) (fun v => some (dview v)) fun v hr => ?_]
    · rw [fm_some]; rfl
    · have i1 : ixD (dpair v) (.int 1) = .ok (dview v) := by
        have h : L2.atI [dorders v, dview v] ((1 : Nat) : Int) = some (dview v) := L2.atI_nat rfl
        show (match L2.atI [dorders v, dview v] 1 with | some d => R.ok d | none => R.no) = _
        have h : L2.atI [dorders v, dview v] (1 : Int) = some (dview v) := h
        rw [h]
      simp [i1]
  simp [b__law_sort, c2]
end K05
/-! k05: what is drawn. -/
namespace K05
open PySem PySem.Spec PyProof.Rows Z

theorem forL_good {α : Type} {kill : List Nat} {f : α → Z.Env → Out} {ρ : Z.Env} (G : D → Prop) : ∀ (xs : List α), (∀ x, x ∈ xs → (∃ d, f x ρ = .rt d ∧ G d) ∨ ∃ ρ', f x ρ = .nx ρ' ∧ killE kill ρ' = ρ) → (∃ d, forL kill f xs ρ = .rt d ∧ G d) ∨ forL kill f xs ρ = .nx ρ
  | [], _ => .inr rfl
  | x :: xs, h => by
    have ih := forL_good G xs fun y hy => h y (List.mem_cons_of_mem _ hy)
    have e : forL kill f (x :: xs) ρ = match f x ρ with | .nx ρ' => forL kill f xs (killE kill ρ') | .ct ρ' => forL kill f xs (killE kill ρ') | o => o := rfl
    rcases h x List.mem_cons_self with ⟨d, h1, h2⟩ | ⟨ρ', h1, h2⟩
    · exact .inl ⟨d, by rw [e, h1], h2⟩
    · rw [e, h1]
      dsimp only
      rw [h2]
      exact ih
/-- a plain text that may be an issue -/
structure It (l : List Nat) : Prop where
  yes : isYes l = true
  ne : l ≠ []
  len : l.length ≤ 500
theorem It.of {l : List Nat} (h : Nm l) : It l := by
  obtain ⟨c, r, e, h1, h2⟩ := h.head
  refine ⟨?_, by rw [e]; simp, by have := h.len; omega⟩
  rw [e]
  simp [isYes]
  omega
theorem It.vt {l : List Nat} (h : It l) : Vt l := ⟨h.ne, by have := h.len; omega⟩
theorem It.bang {l : List Nat} (h : It l) : Vt (bang l) := ⟨by simp [Z.bang], by have := h.len; simp [Z.bang]; omega⟩
theorem It.issue {l : List Nat} (h : It l) : issueOf l = l := by unfold issueOf; rw [if_pos h.yes]
theorem issue_bang (l : List Nat) : issueOf (bang l) = l := rfl
theorem yes_bang (l : List Nat) : isYes (bang l) = false := rfl
theorem opp_bang (l : List Nat) : opp (bang l) = l := rfl
theorem It.opp {l : List Nat} (h : It l) : opp l = Z.bang l := by unfold K05.opp; rw [if_pos h.yes]
theorem str_small : ((List.range 1009).all fun i => decide ((toString (i : Int) : Str).cps.toList.length ≤ 10)) = true := by decide +kernel
theorem stranger_eq (n : Nat) {names : List (List Nat)} {k : Nat} : ∃ l, run T (n + 1) "_law_stranger" [dview names, .int k] = .ok (.str (tx l)) ∧ It l := by
  rw [r__law_stranger]
  have lz : (("z" : String) : Str) = tx [122] := by decide +kernel
  have loop := forL_good (kill := [2, 3]) (f := fun x ρ' => ofR (gN 2 x ρ') (f__law_stranger_1 (run T n))) (ρ := [some (dview names), some (.int k), none, none]) (fun d => ∃ l, d = .str (tx l) ∧ It l) ((List.range 41).map fun (k : Nat) => .int k) (fun x hx => by
    obtain ⟨j, hj, rfl⟩ := List.mem_map.mp hx
    obtain ⟨q, e1, hq⟩ : ∃ q : Nat, ((k : Int) + j) % 1009 = (q : Int) ∧ q < 1009 := ⟨(k + j) % 1009, by omega, by omega⟩
    have hs : (toString (q : Int) : Str).cps.toList.length ≤ 10 := of_decide_eq_true (List.all_eq_true.mp str_small q (by simpa using hq))
    have s1 : bltD .str [.int q] = .ok (.str (tx (toString (q : Int) : Str).cps.toList)) := by
      show chk (decide ((q : Int).natAbs < 2 ^ 1000)) (R.ok (D.str (toString (q : Int)))) = _
      rw [decide_eq_true (Nat.lt_of_lt_of_le (by omega : (q : Int).natAbs < 2 ^ 10) (Nat.pow_le_pow_right (by omega) (by omega))), tx_of]
      rfl
    generalize (toString (q : Int) : Str).cps.toList = w at hs s1
    have a1 : binD .Add (.str (tx [122])) (.str (tx w)) = .ok (.str (tx (122 :: w))) := add_tx (a := [122]) (b := w) (by simp; omega)
    have i1 := in_view (122 :: w) names
    have m1 : binD .Mod (.int ((k : Int) + j)) (.int 1009) = .ok (.int q) := by rw [b_mod (by omega), e1]
    have hit : It (122 :: w) := ⟨by simp [isYes], by simp, by simp; omega⟩
    by_cases hm : 122 :: w ∈ names
    · refine .inr ⟨[some (dview names), some (.int k), some (.int j), some (.str (tx (122 :: w)))], ?_, rfl⟩
      simp [f__law_stranger_1, lz, m1, s1, a1, i1, hm]
    · refine .inl ⟨_, ?_, _, rfl, hit⟩
      simp [f__law_stranger_1, lz, m1, s1, a1, i1, hm])
  have e : sFor [2, 3] (gN 2) (iRange [(eLit (.int 41))]) (f__law_stranger_1 (run T n)) [some (dview names), some (.int k), none, none] = forL [2, 3] (fun x ρ' => ofR (gN 2 x ρ') (f__law_stranger_1 (run T n))) ((List.range 41).map fun (k : Nat) => .int k) [some (dview names), some (.int k), none, none] := by
    rw [q_for]
    have := f_range (n := 41) (by omega)
    have h2 : (iRange [(eLit (.int 41))]) [some (dview names), some (.int k), none, none] = .ok ((List.range 41).map fun (k : Nat) => .int k) := this
    rw [h2]
    rfl
  rcases loop with ⟨d, h1, l, rfl, h2⟩ | h1
  · refine ⟨l, ?_, h2⟩
    rw [← e] at h1
    simp [b__law_stranger, h1]
  · refine ⟨[122], ?_, ⟨rfl, by simp, by simp⟩⟩
    rw [← e] at h1
    simp [b__law_stranger, h1, lz]
/-- verdicts on issues of is, in their order -/
structure Vw (is v : List (List Nat)) : Prop where
  sub : (v.map issueOf).Sublist is
  each : ∀ y ∈ v, ∃ x ∈ is, y = x ∨ y = bang x
theorem Vw.vt {is v : List (List Nat)} (h : Vw is v) (hi : ∀ x ∈ is, It x) : ∀ y ∈ v, Vt y := fun y hy => by
  obtain ⟨x, hx, e | e⟩ := h.each y hy
  · rw [e]; exact (hi x hx).vt
  · rw [e]; exact (hi x hx).bang
theorem Vw.len {is v : List (List Nat)} (h : Vw is v) : v.length ≤ is.length := by
  have := h.sub.length_le
  rwa [List.length_map] at this
theorem drawn_eq (n : Nat) {is : List (List Nat)} {ns : List Nat} (hi : ∀ x ∈ is, It x) (hl : is.length ≤ ns.length) (h16 : is.length ≤ 16) : ∃ v, run T (n + 1) "_law_drawn" [dview is, dns ns] = .ok (dview v) ∧ Vw is v := by
  rw [r__law_drawn]
  have big := sizeLine_big
  have lp : ∃ v, sFor [3] (gN 3) (iRange [(eBlt .len [(eVar 0)])]) (f__law_drawn_1 (run T n)) [some (dview is), some (dns ns), some (dview []), none] = .nx [some (dview is), some (dns ns), some (dview v), none] ∧ Vw is v := by
    have hit : (iRange [(eBlt .len [(eVar 0)])]) [some (dview is), some (dns ns), some (dview []), none] = .ok ((List.range is.length).map fun (k : Nat) => .int k) := by
      have := f_range (n := is.length) (by omega)
      have l1 : bltD .len [dview is] = .ok (.int is.length) := by simp [dview]
      simp [l1, this]
    obtain ⟨ρ', h1, v, h2, h3⟩ := sFor_inv (kl := [3]) (g := gN 3) (b := f__law_drawn_1 (run T n)) hit
      (fun i ρ => ∃ v : List (List Nat), ρ = [some (dview is), some (dns ns), some (dview v), none] ∧ Vw (is.take i) v) ⟨[], rfl, ⟨by simp, fun y hy => (List.not_mem_nil hy).elim⟩⟩ (by
        rintro j x ρ hx ⟨v, rfl, h3⟩
        obtain ⟨hj, rfl⟩ := range_at hx
        have i1 := ix_ns (ns := ns) (i := (j : Int)) (j := j) rfl (by omega)
        generalize ns[j] = z at i1
        have ij : ixD (dview is) (.int j) = .ok (dtx is[j]) := ix_lst (by rw [List.getElem?_map, List.getElem?_eq_getElem hj]; rfl)
        have hx := hi is[j] (List.getElem_mem _)
        have hv := h3.len
        rw [List.length_take] at hv
        have tk : is.take (j + 1) = is.take j ++ [is[j]] := take_snoc (List.getElem?_eq_getElem hj)
        have ap : ∀ y : List Nat, appD (dview v) (.str (tx y)) = .ok (dview (v ++ [y])) := fun y => by
          unfold dview
          rw [f_app (by rw [List.length_map]; omega), List.map_append]
          rfl
        have ab := add_bang (x := is[j]) (by have := hx.len; omega)
        have m1 : binD .Mod (.int z) (.int 4) = .ok (.int ((z : Int) % 4)) := b_mod (by omega)
        have d1 : binD .FloorDiv (.int z) (.int 4) = .ok (.int ((z : Int) / 4)) := b_div (by omega)
        have m2 : binD .Mod (.int ((z : Int) / 4)) (.int 2) = .ok (.int ((z : Int) / 4 % 2)) := b_mod (by omega)
        by_cases h4 : 0 < (z : Int) % 4
        · rcases (by omega : (z : Int) / 4 % 2 = 0 ∨ (z : Int) / 4 % 2 = 1) with e | e
          · have ip : ixD (.lst [.str (tx is[j]), .str (tx (bang is[j]))]) (.int 0) = .ok (.str (tx is[j])) := ix_lst (i := 0) rfl
            rw [e] at m2
            refine ⟨_, _, rfl, .inl (?_ : _ = Out.nx [some (dview is), some (dns ns), some (dview (v ++ [is[j]])), some (.int j)]), v ++ [is[j]], rfl, ?_, fun y hy => ?_⟩
            · simp [f__law_drawn_1, i1, ij, m1, h4, d1, m2, dtx, lit_bang, ab, ip, ap]
            · rw [List.map_append, tk]
              exact h3.sub.append (by simp [hx.issue])
            · rw [tk]
              rcases List.mem_append.mp hy with hy | hy
              · obtain ⟨x, h5, h6⟩ := h3.each y hy
                exact ⟨x, List.mem_append_left _ h5, h6⟩
              · exact ⟨is[j], List.mem_append_right _ (List.mem_singleton.mpr rfl), .inl (by simpa using hy)⟩
          · have ip : ixD (.lst [.str (tx is[j]), .str (tx (bang is[j]))]) (.int 1) = .ok (.str (tx (bang is[j]))) := ix_lst (i := 1) rfl
            rw [e] at m2
            refine ⟨_, _, rfl, .inl (?_ : _ = Out.nx [some (dview is), some (dns ns), some (dview (v ++ [bang is[j]])), some (.int j)]), v ++ [bang is[j]], rfl, ?_, fun y hy => ?_⟩
            · simp [f__law_drawn_1, i1, ij, m1, h4, d1, m2, dtx, lit_bang, ab, ip, ap]
            · rw [List.map_append, tk]
              exact h3.sub.append (by simp [issue_bang])
            · rw [tk]
              rcases List.mem_append.mp hy with hy | hy
              · obtain ⟨x, h5, h6⟩ := h3.each y hy
                exact ⟨x, List.mem_append_left _ h5, h6⟩
              · exact ⟨is[j], List.mem_append_right _ (List.mem_singleton.mpr rfl), .inr (by simpa using hy)⟩
        · refine ⟨_, _, rfl, .inl (?_ : _ = Out.nx [some (dview is), some (dns ns), some (dview v), some (.int j)]), v, rfl, ?_, fun y hy => ?_⟩
          · simp [f__law_drawn_1, i1, m1, h4]
          · rw [tk]; exact h3.sub.trans (List.sublist_append_left _ _)
          · obtain ⟨x, h5, h6⟩ := h3.each y hy
            exact ⟨x, by rw [tk]; exact List.mem_append_left _ h5, h6⟩)
    subst h2
    rw [List.length_map, List.length_range, List.take_length] at h3
    exact ⟨v, h1, h3⟩
  obtain ⟨v, h1, h2⟩ := lp
  have e0 : D.lst [] = dview [] := rfl
  exact ⟨v, by simp [b__law_drawn, e0, h1], h2⟩
end K05
/-! k05: the law's own parts. -/
namespace K05
open PySem PySem.Spec PyProof.Rows Z

abbrev C4 : Call := run T 4
theorem law1_ok {a0 a1 a2 : Option D} {x : List Nat} (hx : It x) : f_law_1 C4 [a0, a1, a2, some (.str (tx x)), none, none, none, none, none, none, none, none, none, none, none, none, none] =
    .nx [a0, a1, a2, some (.str (tx x)), none, none, none, none, none, none, some (dview [bang x, x, x, x]), none, none, none, none, none, none] := by
  have o1 := opposite_eq 2 hx.vt
  have o2 := opposite_eq 2 hx.bang
  have o3 := issue_of_eq 2 hx.vt
  have o4 := issue_of_eq 2 hx.bang
  have y1 := is_yes_eq 3 hx.vt
  have y2 := is_yes_eq 3 hx.bang
  rw [hx.opp] at o1
  rw [opp_bang] at o2
  rw [hx.issue] at o3
  rw [issue_bang] at o4
  rw [hx.yes] at y1
  rw [yes_bang] at y2
  have ab := add_bang (x := x) (by have := hx.len; omega)
  have l1 := law_says_eq 3 true true
  have l2 := law_says_eq 3 false false
  have e1 : D.lst [.str (tx (bang x)), .str (tx x), .str (tx x), .str (tx x)] = dview [bang x, x, x, x] := rfl
  have e2 := eq_view [bang x, x, x, x] [bang x, x, x, x]
  simp [f_law_1, o1, o2, o3, o4, y1, y2, ab, l1, l2, lit_bang, e1, e2]
theorem eq_non : eqD .non .non = .ok true := rfl
theorem str_isi (z : Str) : isiD (.str z) "str" = .ok (.bl true) := rfl
theorem lst_isi (xs : List D) : isiD (.lst xs) "list" = .ok (.bl true) := rfl
theorem issue_iff {v i : List Nat} (hv : Vt v) (hi : It i) : issueOf v = i ↔ v ∈ [i, bang i] := by
  obtain ⟨c, r, rfl⟩ := hv.cons
  have hne := hi.yes
  unfold issueOf
  by_cases hc : c = 33
  · subst hc
    have : isYes (33 :: r) = false := rfl
    rw [this, if_neg (by simp)]
    constructor
    · intro h
      have h : r = i := h
      rw [h]
      exact List.mem_cons_of_mem _ (List.mem_singleton.mpr rfl)
    · intro h
      rcases List.mem_cons.mp h with h | h
      · rw [← h] at hne; exact absurd hne (by simp [isYes])
      · have h : 33 :: r = bang i := by simpa using h
        exact (List.cons.inj h).2
  · have : isYes (c :: r) = true := by simp [isYes, hc]
    rw [if_pos this]
    constructor
    · intro h; rw [h]; exact List.mem_cons_self
    · intro h
      rcases List.mem_cons.mp h with h | h
      · exact h
      · have h : c :: r = 33 :: i := by simpa [bang] using h
        exact absurd (List.cons.inj h).1 hc
theorem law4_ok {a0 a1 a2 a4 a6 a7 a11 a12 a13 : Option D} {view : List (List Nat)} {i : List Nat} (hv : ∀ v ∈ view, Vt v) (hl : view.length ≤ 1000) (hi : It i) : ∃ p q,
    f_law_4 C4 [a0, a1, a2, some (.str (tx i)), a4, none, a6, a7, none, some (dview view), none, a11, a12, a13, none, none, none] =
    .nx [a0, a1, a2, some (.str (tx i)), a4, none, a6, a7, none, some (dview view), p, a11, a12, a13, none, q, none] := by
  have v1 := verdict_on_eq 1 (issue := i) hv
  have ab := add_bang (x := i) (by have := hi.len; omega)
  have c1 : eComp [16] (gN 16) (iSeq (eVar 9)) [(eCmp .In (eVar 16) (eLst [(eVar 3), (eBin .Add (eLit (.str "!")) (eVar 3))]))] (eVar 16) [a0, a1, a2, some (.str (tx i)), a4, none, a6, a7, none, some (dview view), none, a11, a12, a13, none, none, none] =
      .ok (.lst ((view.filter fun v => decide (issueOf v = i)).map dtx)) := by
    rw [comp_map (as := view) (f := dtx) (by simp [seq_view]) (fun v => if decide (issueOf v = i) = true then some (dtx v) else none) fun v hm => ?_]
    · congr 2
      clear v1 hl
      induction view with
      | nil => rfl
      | cons v r ih =>
        have ih := ih fun w hw => hv w (List.mem_cons_of_mem _ hw)
        by_cases h : issueOf v = i <;> (simp [h]; simpa using ih)
    · have e1 : D.lst [.str (tx i), .str (tx (bang i))] = dview [i, bang i] := rfl
      have i1 := in_view v [i, bang i]
      have iff := issue_iff (hv v hm) hi
      by_cases h : issueOf v = i
      · have h2 := iff.mp h
        have i1 : inD (.str (tx v)) (dview [i, bang i]) = .ok true := by rw [i1, decide_eq_true h2]
        simp [dtx, ab, lit_bang, e1, i1, h]
      · have h2 : v ∉ [i, bang i] := fun z => h (iff.mpr z)
        have i1 : inD (.str (tx v)) (dview [i, bang i]) = .ok false := by rw [i1, decide_eq_false h2]
        simp [dtx, ab, lit_bang, e1, i1, h]
  have hf : view.find? (fun v => decide (issueOf v = i)) = (view.filter fun v => decide (issueOf v = i)).head? := by rw [List.head?_filter]
  have fl : (view.filter fun v => decide (issueOf v = i)).length ≤ 1000 := Nat.le_trans (List.length_filter_le _ _) hl
  rw [hf] at v1
  have big := sizeLine_big
  generalize view.filter (fun v => decide (issueOf v = i)) = fs at c1 v1 fl
  have a1' : binD .Add (.lst (fs.map dtx)) (.lst [.non]) = .ok (.lst (fs.map dtx ++ [.non])) := b_addl (by rw [List.length_map]; simp; omega)
  have lv : bltD .list [dview view] = .ok (dview view) := rfl
  cases fs with
  | nil =>
    have i0 : ixD (.lst [.non]) (.int 0) = .ok .non := ix_lst (i := 0) rfl
    have a1' : binD .Add (.lst []) (.lst [.non]) = .ok (.lst [.non]) := a1'
    exact ⟨some .non, some (.lst [.non]), by simp [f_law_4, c1, a1', lv, v1, i0, eq_non, isNone]⟩
  | cons f r =>
    have i0 : ixD (.lst (dtx f :: (r.map dtx ++ [.non]))) (.int 0) = .ok (dtx f) := ix_lst (i := 0) rfl
    have a2' : binD .Add (.lst (dtx f :: r.map dtx)) (.lst [.non]) = .ok (.lst (dtx f :: (r.map dtx ++ [.non]))) := a1'
    have e1 : eqD (dtx f) (dtx f) = .ok (decide (f = f)) := eq_tx f f
    have e2 : isNone (dtx f) = false := rfl
    have e3 : isiD (dtx f) "str" = .ok (.bl true) := rfl
    have v1 : run T 4 "verdict_on" [dview view, .str (tx i)] = .ok (dtx f) := v1
    exact ⟨some (dtx f), some (.lst (dtx f :: (r.map dtx ++ [.non]))), by simp [f_law_4, c1, a2', lv, v1, i0, e1, e2, e3]⟩
theorem law5_ok {a0 a1 a2 a3 a4 a6 a7 a10 a11 a12 a13 a15 : Option D} {view other : List (List Nat)} :
    f_law_5 C4 [a0, a1, a2, a3, a4, none, a6, a7, none, some (dview view), a10, a11, a12, a13, some (dview other), a15, none] = .nx [a0, a1, a2, a3, a4, none, a6, a7, none, some (dview view), a10, a11, a12, a13, some (dview other), a15, none] := by
  have h1 := holds_eq 3 view other
  have h2 := law_has_eq 3 view other
  have lv : bltD .list [dview view] = .ok (dview view) := rfl
  have lo : bltD .list [dview other] = .ok (dview other) := rfl
  generalize (other.all fun v => decide (v ∈ view)) = b at h1 h2
  have l1 := law_says_eq 3 b b
  simp [f_law_5, h1, h2, lv, lo, l1]
theorem sFor_same {α : Type} {kl : List Nat} {g : ZG} {it : ZI} {b : ZS} {ρ0 : Z.Env} {as : List α} {f : α → D} (hit : it ρ0 = .ok (as.map f)) (hk : killE kl ρ0 = ρ0) (st : ∀ a ∈ as, ∃ ρ1 ρ', g (f a) ρ0 = .ok ρ1 ∧ b ρ1 = .nx ρ' ∧ killE kl ρ' = ρ0) : sFor kl g it b ρ0 = .nx ρ0 := by
  obtain ⟨ρ', h1, h2⟩ := sFor_typed (kl := kl) (g := g) (b := b) hit (fun _ ρ => ρ = ρ0) hk (by
    rintro j a ρ hj rfl
    obtain ⟨ρ1, ρ', h1, h2, h3⟩ := st a (List.mem_of_getElem? hj)
    exact ⟨ρ1, ρ', h1, .inl h2, h3⟩)
  rw [h2] at h1
  exact h1
theorem cut_ns {ns : List Nat} {lo hi : Nat} (h1 : lo ≤ hi) (h2 : hi ≤ ns.length) : cutD (dns ns) (some lo) (some hi) = .ok (dns ((ns.drop lo).take (hi - lo))) := by
  show R.ok (D.lst (cutL (ns.map fun (n : Nat) => D.int n) (some lo) (some hi))) = _
  unfold cutL
  rw [List.length_map, HT.sIx_nat, HT.sIx_nat, Nat.min_eq_left h2, Nat.min_eq_left (Nat.le_trans h1 h2), ← List.map_drop, ← List.map_take]
  rfl
theorem law3_ok {a0 a4 : Option D} {views : List (List (List Nat))} {ns : List Nat} {iss : List (List Nat)} {view : List (List Nat)} {st : List Nat} (hn : ns.length = 40) (hi : ∀ x ∈ iss, It x) (h6 : iss.length ≤ 6) (hs : iss.Pairwise nlt) (hst : It st) (hv : Vw iss view) :
    ∃ a3 a9 a10 a11 a12 a13 a14 a15 a16, f_law_3 C4 [a0, some (dns ns), some (dview iss), none, a4, none, some (.str (tx st)), some (drows views), none, some (dview view), none, none, none, none, none, none, none] =
    .nx [a0, some (dns ns), some (dview iss), a3, a4, none, some (.str (tx st)), some (drows views), none, a9, a10, a11, a12, a13, a14, a15, a16] := by
  have hvt := hv.vt hi
  have hlen := hv.len
  have c1 : cutD (dns ns) (some 33) (some 39) = .ok (dns ((ns.drop 33).take (39 - 33))) := cut_ns (ns := ns) (lo := 33) (hi := 39) (by omega) (by omega)
  obtain ⟨m, m1, m2⟩ := law_mixed_eq 3 (view := view) (ns := (ns.drop 33).take (39 - 33)) (by simp; omega) (by simp; omega)
  have hsv : view.Pairwise fun a b => nlt (issueOf a) (issueOf b) := by
    have := hs.sublist hv.sub
    rwa [List.pairwise_map] at this
  have s1 := sorted_view_eq 0 hvt m2 hsv
  have lm : bltD .list [dview m] = .ok (dview m) := rfl
  have e1 := eq_view view view
  have e2 := eq_view m m
  have i1 : isiD (dview view) "list" = .ok (.bl true) := rfl
  have ad : binD .Add (dview iss) (.lst [.str (tx st)]) = .ok (dview (iss ++ [st])) := add_view (a := iss) (b := [st]) (by simp; omega)
  have f1 : sFor [3, 10, 15, 16] (gN 3) (iSeq (eBin .Add (eVar 2) (eLst [(eVar 6)]))) (f_law_4 C4) [a0, some (dns ns), some (dview iss), none, a4, none, some (.str (tx st)), some (drows views), none, some (dview view), none, some (dview m), some (dview m), some (dview view), none, none, none] =
      .nx [a0, some (dns ns), some (dview iss), none, a4, none, some (.str (tx st)), some (drows views), none, some (dview view), none, some (dview m), some (dview m), some (dview view), none, none, none] :=
    sFor_same (as := iss ++ [st]) (f := dtx) (by simp [ad, seq_view]) rfl fun x hx => by
      have hx : It x := by
        rcases List.mem_append.mp hx with h | h
        · exact hi x h
        · have : x = st := by simpa using h
          rw [this]; exact hst
      obtain ⟨p, q, h⟩ := law4_ok (a0 := a0) (a1 := some (dns ns)) (a2 := some (dview iss)) (a4 := a4) (a6 := some (.str (tx st))) (a7 := some (drows views)) (a11 := some (dview m)) (a12 := some (dview m)) (a13 := some (dview view)) hvt (by omega) hx
      exact ⟨_, _, rfl, h, rfl⟩
  have f2 : sFor [14] (gN 14) (iSeq (eVar 7)) (f_law_5 C4) [a0, some (dns ns), some (dview iss), none, a4, none, some (.str (tx st)), some (drows views), none, some (dview view), none, some (dview m), some (dview m), some (dview view), none, none, none] =
      .nx [a0, some (dns ns), some (dview iss), none, a4, none, some (.str (tx st)), some (drows views), none, some (dview view), none, some (dview m), some (dview m), some (dview view), none, none, none] :=
    sFor_same (as := views) (f := dview) (by simp [seq_rows]) rfl fun x hx => ⟨_, _, rfl, law5_ok, rfl⟩
  exact ⟨none, some (dview view), none, some (dview m), some (dview m), some (dview view), none, none, none, by simp [f_law_3, c1, m1, lm, s1, i1, e1, e2, f1, f2]⟩
end K05
/-! k05: the law. -/
namespace K05
open PySem PySem.Spec PyProof.Rows Z

theorem rows_vw {is : List (List Nat)} (hi : ∀ x ∈ is, It x) : ∀ j, j ≤ is.length → ∀ r ∈ rowsOf (is.take j), r.map issueOf = is.take j ∧ ∀ y ∈ r, ∃ x ∈ is.take j, y = x ∨ y = bang x
  | 0, _, r, hr => by
    have : r = [] := by simpa [rowsOf] using hr
    subst this
    exact ⟨rfl, fun y hy => (List.not_mem_nil hy).elim⟩
  | j + 1, hj, r, hr => by
    have tk : is.take (j + 1) = is.take j ++ [is[j]] := take_snoc (List.getElem?_eq_getElem (by omega))
    have hx := hi is[j] (List.getElem_mem _)
    rw [tk] at hr ⊢
    rw [rowsOf_snoc] at hr
    unfold grow at hr
    obtain ⟨r0, h0, h1⟩ := List.mem_flatMap.mp hr
    obtain ⟨h2, h3⟩ := rows_vw hi j (by omega) r0 h0
    have up : ∀ y ∈ r0, ∃ x ∈ is.take j ++ [is[j]], y = x ∨ y = bang x := fun y hy => by
      obtain ⟨x, h5, h6⟩ := h3 y hy
      exact ⟨x, List.mem_append_left _ h5, h6⟩
    rcases List.mem_cons.mp h1 with e | e
    · subst e
      refine ⟨by rw [List.map_append, h2]; simp [hx.issue], fun y hy => ?_⟩
      rcases List.mem_append.mp hy with hy | hy
      · exact up y hy
      · exact ⟨is[j], List.mem_append_right _ (List.mem_singleton.mpr rfl), .inl (by simpa using hy)⟩
    · have e : r = r0 ++ [bang is[j]] := by simpa using e
      subst e
      refine ⟨by rw [List.map_append, h2]; simp [issue_bang], fun y hy => ?_⟩
      rcases List.mem_append.mp hy with hy | hy
      · exact up y hy
      · exact ⟨is[j], List.mem_append_right _ (List.mem_singleton.mpr rfl), .inr (by simpa using hy)⟩
theorem law2_ok {a0 a4 a6 : Option D} {iss : List (List Nat)} {ns : List Nat} {views : List (List (List Nat))} {k : Nat} (hn : ns.length = 40) (hi : ∀ x ∈ iss, It x) (h6 : iss.length ≤ 6) (hl : views.length ≤ 1000) : ∃ v, Vw iss v ∧
    f_law_2 C4 [a0, some (dns ns), some (dview iss), none, a4, none, a6, some (drows views), some (.int k), none, none, none, none, none, none, none, none] =
    .nx [a0, some (dns ns), some (dview iss), none, a4, none, a6, some (drows (views ++ [v])), some (.int k), none, none, none, none, none, none, none, none] := by
  obtain ⟨q, e, hq⟩ : ∃ q : Nat, (6 * (k : Int)) % 30 = (q : Int) ∧ q ≤ 24 := ⟨6 * k % 30, by omega, by omega⟩
  have m1 : binD .Mult (.int 6) (.int k) = .ok (.int (6 * k)) := b_mul (.inl (by decide))
  have m2 : binD .Mod (.int (6 * (k : Int))) (.int 30) = .ok (.int q) := by rw [b_mod (by omega), e]
  have c1 : cutD (dns ns) (some (3 + (q : Int))) (some (9 + (q : Int))) = .ok (dns ((ns.drop (3 + q)).take (9 + q - (3 + q)))) := cut_ns (ns := ns) (lo := 3 + q) (hi := 9 + q) (by omega) (by omega)
  obtain ⟨v, h1, h2⟩ := drawn_eq 3 (is := iss) (ns := (ns.drop (3 + q)).take (9 + q - (3 + q))) hi (by simp; omega) (by omega)
  have ap := app_rows (a := views) (r := v) (by omega)
  exact ⟨v, h2, by simp [f_law_2, m1, m2, c1, h1, ap]⟩
theorem law_true (ns : List Int) : run T 5 "law" [.scr ns] = .ok (.bl true) := by
  rw [r_law]
  obtain ⟨xs, n1, n2, _⟩ := numbers_eq 3 ns 0 40 (by omega)
  obtain ⟨ys, n3, n4, _⟩ := numbers_eq 3 ns 1 18 (by omega)
  have n1 : C4 "_law_numbers" [.scr ns, .int 0, .int 40] = .ok (dns xs) := n1
  have n3 : C4 "_law_numbers" [.scr ns, .int 1, .int 18] = .ok (dns ys) := n3
  have i0 := ix_ns (ns := xs) (i := 0) (j := 0) rfl (by omega)
  have i1 := ix_ns (ns := xs) (i := 1) (j := 1) rfl (by omega)
  have i2 := ix_ns (ns := xs) (i := 2) (j := 2) rfl (by omega)
  generalize xs[0] = z0 at i0
  generalize xs[1] = z1 at i1
  generalize xs[2] = z2 at i2
  obtain ⟨c, ec, hc⟩ : ∃ c : Nat, 1 + (z0 : Int) % 6 = (c : Int) ∧ c ≤ 6 := ⟨1 + z0 % 6, by omega, by omega⟩
  have m1 : binD .Mod (.int z0) (.int 6) = .ok (.int ((z0 : Int) % 6)) := b_mod (by omega)
  obtain ⟨fs, f1, f2, f3, f4⟩ := law_names_eq 2 (ns := ys) (k := c) (by omega) (by omega)
  have f1 : C4 "_law_names" [dns ys, .int c] = .ok (dview fs) := f1
  have sn := sorted_names fs
  have hlt := sortN_lt f4
  have hnm : ∀ x ∈ sortN fs, It x := fun x hx => It.of (f3 x ((sortN_perm fs).mem_iff.mp hx))
  have hlen : (sortN fs).length ≤ 6 := by rw [(sortN_perm fs).length_eq, f2]; exact hc
  generalize sortN fs = iss at sn hlt hnm hlen
  have lp1 : sFor [3, 10] (gN 3) (iSeq (eVar 2)) (f_law_1 C4) [some (.scr ns), some (dns xs), some (dview iss), none, none, none, none, none, none, none, none, none, none, none, none, none, none] =
      .nx [some (.scr ns), some (dns xs), some (dview iss), none, none, none, none, none, none, none, none, none, none, none, none, none, none] :=
    sFor_same (as := iss) (f := dtx) (by simp [seq_view]) rfl fun x hx => ⟨_, _, rfl, law1_ok (hnm x hx), rfl⟩
  have lg : bltD .list [dview iss] = .ok (dview iss) := rfl
  have hl5 : ∀ l ∈ iss, l.length ≤ 1000 := fun l hl => by have := (hnm l hl).len; omega
  have ar : C4 "all_rows" [dview iss] = .ok (drows (rowsOf iss)) := all_rows_eq 3 (by omega) hl5
  have lr : C4 "_law_rows" [dview iss] = .ok (drows (rowsOf iss)) := law_rows_eq 3 (by omega) hl5
  have rv := rows_vw hnm iss.length (Nat.le_refl _)
  have rl := (rows_take iss iss.length (Nat.le_refl _)).1
  have rs := rows_sorted (fun x hx => (hnm x hx).yes) iss.length (Nat.le_refl _)
  rw [List.take_length] at rv rl rs
  have rvw : ∀ r ∈ rowsOf iss, Vw iss r := fun r hr => ⟨by rw [(rv r hr).1]; exact List.Sublist.refl _, (rv r hr).2⟩
  have ls : C4 "_law_sort" [drows (rowsOf iss)] = .ok (drows (rowsOf iss)) := law_sort_eq 1 (fun r hr v hv => (rvw r hr).vt hnm v hv) rs
  have e1 := eq_rows (rowsOf iss) (rowsOf iss)
  have e2 := eq_view iss iss
  have is1 : isiD (drows (rowsOf iss)) "list" = .ok (.bl true) := rfl
  have rpos : 0 < (rowsOf iss).length := by rw [rl]; exact Nat.pow_pos (by omega)
  have rle : (rowsOf iss).length ≤ 64 := by rw [rl]; exact Nat.pow_le_pow_right (n := 2) (by omega) hlen
  obtain ⟨st, s1, s2⟩ := stranger_eq 3 (names := iss) (k := z1)
  have s1 : C4 "_law_stranger" [dview iss, .int z1] = .ok (.str (tx st)) := s1
  -- the rows' items
  have r0 : ixD (drows (rowsOf iss)) (.int 0) = .ok (dview (rowsOf iss)[0]) := ix_lst (i := 0) (by rw [List.getElem?_map, List.getElem?_eq_getElem rpos]; rfl)
  have ap0 : ∃ z, appD (dview (rowsOf iss)[0]) (.str "spoilt") = .ok z := by
    have hl := (rvw _ (List.getElem_mem rpos)).len
    have big := sizeLine_big
    exact ⟨_, f_app (by rw [List.length_map]; omega)⟩
  obtain ⟨z, ap0⟩ := ap0
  obtain ⟨q, hq, hq2⟩ : ∃ q : Nat, (z2 : Int) % ((rowsOf iss).length : Int) = (q : Int) ∧ q < (rowsOf iss).length := ⟨z2 % (rowsOf iss).length, (Int.natCast_emod z2 (rowsOf iss).length).symm, Nat.mod_lt _ rpos⟩
  have mq : binD .Mod (.int z2) (.int (rowsOf iss).length) = .ok (.int q) := by rw [b_mod (by omega), hq]
  have lq : bltD .len [drows (rowsOf iss)] = .ok (.int (rowsOf iss).length) := by simp [drows]
  have rq : ixD (drows (rowsOf iss)) (.int q) = .ok (dview (rowsOf iss)[q]) := ix_lst (by rw [List.getElem?_map, List.getElem?_eq_getElem hq2]; rfl)
  have hvq := rvw _ (List.getElem_mem hq2)
  generalize (rowsOf iss)[q] = vq at rq hvq
  have hv0 : Vw iss [] := ⟨by simp, fun y hy => (List.not_mem_nil hy).elim⟩
  have ev : D.lst [D.lst [], dview vq] = drows [[], vq] := rfl
  -- the views
  have lp2 : ∃ views : List (List (List Nat)), sFor [8] (gN 8) (iRange [(eLit (.int 6))]) (f_law_2 C4) [some (.scr ns), some (dns xs), some (dview iss), none, some (dview iss), none, some (.str (tx st)), some (drows [[], vq]), none, none, none, none, none, none, none, none, none] =
      .nx [some (.scr ns), some (dns xs), some (dview iss), none, some (dview iss), none, some (.str (tx st)), some (drows views), none, none, none, none, none, none, none, none, none] ∧ ∀ v ∈ views, Vw iss v := by
    have hit : (iRange [(eLit (.int 6))]) [some (.scr ns), some (dns xs), some (dview iss), none, some (dview iss), none, some (.str (tx st)), some (drows [[], vq]), none, none, none, none, none, none, none, none, none] = .ok ((List.range 6).map fun (k : Nat) => .int k) := f_range (n := 6) (by omega)
    obtain ⟨ρ', h1, views, h2, h3, h4⟩ := sFor_inv (kl := [8]) (g := gN 8) (b := f_law_2 C4) hit
      (fun i ρ => ∃ views : List (List (List Nat)), ρ = [some (.scr ns), some (dns xs), some (dview iss), none, some (dview iss), none, some (.str (tx st)), some (drows views), none, none, none, none, none, none, none, none, none] ∧ views.length = i + 2 ∧ ∀ v ∈ views, Vw iss v) ⟨[[], vq], rfl, rfl, fun v hv => by
        rcases List.mem_cons.mp hv with e | e
        · rw [e]; exact hv0
        · have e : v = vq := by simpa using e
          rw [e]; exact hvq⟩ (by
        rintro j x ρ hx ⟨views, rfl, h3, h4⟩
        obtain ⟨hj, rfl⟩ := range_at hx
        obtain ⟨v, h5, h6⟩ := law2_ok (a0 := some (.scr ns)) (a4 := some (dview iss)) (a6 := some (.str (tx st))) (views := views) (k := j) n2 hnm hlen (by omega)
        refine ⟨_, _, rfl, .inl h6, views ++ [v], rfl, by rw [List.length_append, h3]; simp, fun w hw => ?_⟩
        rcases List.mem_append.mp hw with hw | hw
        · exact h4 w hw
        · have e : w = v := by simpa using hw
          rw [e]; exact h5)
    subst h2
    exact ⟨views, h1, h4⟩
  obtain ⟨views, lp2, hviews⟩ := lp2
  have lp3 : sFor [3, 9, 10, 11, 12, 13, 14, 15, 16] (gN 9) (iSeq (eVar 7)) (f_law_3 C4) [some (.scr ns), some (dns xs), some (dview iss), none, some (dview iss), none, some (.str (tx st)), some (drows views), none, none, none, none, none, none, none, none, none] =
      .nx [some (.scr ns), some (dns xs), some (dview iss), none, some (dview iss), none, some (.str (tx st)), some (drows views), none, none, none, none, none, none, none, none, none] :=
    sFor_same (as := views) (f := dview) (by simp [seq_rows]) rfl fun v hv => by
      obtain ⟨a3, a9, a10, a11, a12, a13, a14, a15, a16, h⟩ := law3_ok (a0 := some (.scr ns)) (a4 := some (dview iss)) (views := views) n2 hnm hlen hlt s2 (hviews v hv)
      exact ⟨_, _, rfl, h, rfl⟩
  simp [b_law, n1, n3, i0, i1, i2, m1, ec, f1, sn, lp1, lg, ar, lr, is1, e1, e2, ls, r0, ap0, s1, mq, lq, rq, ev, lp2, lp3]
theorem room5 : L2.Room (3 * 5) callerA := ⟨rfl, by decide, by decide⟩
end K05
open PySem PySem.W PySem.Calls PyProof.Rows
theorem PySem.Challenge.cw_panelsagree_k05_verdicts_and_views_holds : PySem.Challenge.rw_panelsagree_k05_verdicts_and_views.Holds :=
  K05.head 5 K05.room5 fun ns _ => K05.law_true ns
