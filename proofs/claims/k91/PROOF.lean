import PyProof.Rows.All
import Wide.All
import OpenK.AllK
import Wide.FinOn
import HandS.ForMost
import HandS.ForExc
import HandS.IsInst
import HandS.TupLen
import HandS.More
import HandS.DictComp
import HandS.Deep
import HandS.Conv
import HandS.Text
import HandS.Style
import KE.SortKeyHeap
import HandS.TupAny
import KE.DataEq
import KE.LtData
import KE.DataCmp
import HandS.Flow
import HandS.SortKw
import HandS.Exc
import HandS.Ends
import HandS.Words
import HandS.Defaults
import HandS.Head0
import HandS.Head1
import HandS.Head2
import HandS.HeadEnd
import HandS.HeadHook1
import HandS.HeadHook2
import PySem.Challenge.RW_panelsagree_k91_ballots_in_line
set_option Elab.async false
set_option linter.all false
set_option maxRecDepth 100000
set_option maxHeartbeats 4000000
/-! Z, part A: values without a heap, how a heap bears them, what a def's frame owns. -/
namespace Z
open PySem PySem.Spec PyProof.Rows L2

inductive D where
  | non | bl (b : Bool) | int (i : Int) | str (x : Str)
  | tup (xs : List D) | lst (xs : List D) | dic (t : Bool) (ks : List (List Key)) (ds : List D) | obj (c : Str) (fs : List Str) (ds : List D)
  | scr (ns : List Int)

/-- the written part and where the text's classes stand -/
structure Mx where
  K : PySem.W.Frag
  cn : Str → Option Addr
  me : V := .non

/-- a dict at a (t: its keys are tuples), its keys, its values -/
def DicAt (H : Hp) (a : Addr) : Bool → List (List Key) → List V → Prop
  | false, ks, us => ∃ kvs : List (Key × V), H a = some (.dK kvs) ∧ ks = kvs.map (fun p => [p.1]) ∧ us = kvs.map (·.2)
  | true, ks, us => ∃ kvs : List (List Key × V), H a = some (.dT kvs) ∧ ks = kvs.map (·.1) ∧ us = kvs.map (·.2)

mutual
def Rep (M : Mx) (H : Hp) : D → V → Prop
  | .non, v => v = .non
  | .bl b, v => v = .bl b
  | .int i, v => v = .int i
  | .str x, v => v = .str x
  | .tup xs, v => ∃ a vs, v = .ref a ∧ H a = some (.tup vs) ∧ Reps M H xs vs
  | .lst xs, v => ∃ a vs, v = .ref a ∧ H a = some (.lst vs) ∧ Reps M H xs vs
  | .dic t ks ds, v => ∃ a us, v = .ref a ∧ DicAt H a t ks us ∧ Reps M H ds us
  | .obj c fs ds, v => ∃ a C dx us, v = .ref a ∧ H a = some (.ins C dx (fs.zip us)) ∧ fs.length = us.length ∧ M.cn c = some C ∧ Reps M H ds us
  | .scr ns, v => ∃ a, v = .ref a ∧ SqL M.K H a (ns.map V.int)
def Reps (M : Mx) (H : Hp) : List D → List V → Prop
  | [], vs => vs = []
  | d :: ds, vs => ∃ v r, vs = v :: r ∧ Rep M H d v ∧ Reps M H ds r
end

section
variable {M : Mx} {H H' F F' : Hp}
theorem SqT.same {K : PySem.W.Frag} {a : Addr} {xs : List V} (e : Same H H') (h : SqT K H a xs) : SqT K H' a xs := by
  rcases h with (h | ⟨o, h⟩) | h
  · exact .inl (.inl (e _ _ h))
  · exact .inl (.inr ⟨o, e _ _ h⟩)
  · exact .inr h
theorem Rd.same {a : Addr} {u : HO} (e : Same H H') (h : Rd H a u) : Rd H' a u := by
  rcases h with h | ⟨o, h⟩
  · exact .inl (e _ _ h)
  · exact .inr ⟨o, e _ _ h⟩
theorem DicAt.same {a : Addr} {t : Bool} {ks : List (List Key)} {us : List V} (e : Same H H') (h : DicAt H a t ks us) : DicAt H' a t ks us := by
  cases t with
  | false => obtain ⟨kvs, h, q⟩ := h; exact ⟨kvs, e _ _ h, q⟩
  | true => obtain ⟨kvs, h, q⟩ := h; exact ⟨kvs, e _ _ h, q⟩
theorem DicAt.rd {a : Addr} {t : Bool} {ks : List (List Key)} {us : List V} (h : DicAt H a t ks us) : ∃ o, H a = some o := by
  cases t with
  | false => obtain ⟨kvs, h, q⟩ := h; exact ⟨_, h⟩
  | true => obtain ⟨kvs, h, q⟩ := h; exact ⟨_, h⟩
theorem DicAt.at_ {a : Addr} {t : Bool} {ks : List (List Key)} {us : List V} (z : H a = H' a) (h : DicAt H a t ks us) : DicAt H' a t ks us := by
  cases t with
  | false => obtain ⟨kvs, h, q⟩ := h; exact ⟨kvs, by rw [← z]; exact h, q⟩
  | true => obtain ⟨kvs, h, q⟩ := h; exact ⟨kvs, by rw [← z]; exact h, q⟩
mutual
theorem Rep.same (e : Same H H') : ∀ (d : D) (v : V), Rep M H d v → Rep M H' d v
  | .non, _, h => by simpa only [Rep] using h
  | .bl _, _, h => by simpa only [Rep] using h
  | .int _, _, h => by simpa only [Rep] using h
  | .str _, _, h => by simpa only [Rep] using h
  | .tup xs, v, h => by
    simp only [Rep] at h ⊢
    obtain ⟨a, vs, r, q, z⟩ := h
    exact ⟨a, vs, r, e _ _ q, Reps.same e xs vs z⟩
  | .lst xs, v, h => by
    simp only [Rep] at h ⊢
    obtain ⟨a, vs, r, q, z⟩ := h
    exact ⟨a, vs, r, e _ _ q, Reps.same e xs vs z⟩
  | .dic t ks ds, v, h => by
    simp only [Rep] at h ⊢
    obtain ⟨a, us, r, q, z⟩ := h
    exact ⟨a, us, r, DicAt.same e q, Reps.same e ds us z⟩
  | .obj c fs ds, v, h => by
    simp only [Rep] at h ⊢
    obtain ⟨a, C, dx, us, r, q, l, c, z⟩ := h
    exact ⟨a, C, dx, us, r, e _ _ q, l, c, Reps.same e ds us z⟩
  | .scr ns, v, h => by
    simp only [Rep] at h ⊢
    obtain ⟨a, r, q⟩ := h
    exact ⟨a, r, e.seq q⟩
theorem Reps.same (e : Same H H') : ∀ (ds : List D) (vs : List V), Reps M H ds vs → Reps M H' ds vs
  | [], _, h => by simpa only [Reps] using h
  | d :: ds, vs, h => by
    simp only [Reps] at h ⊢
    obtain ⟨v, r, q, h1, h2⟩ := h
    exact ⟨v, r, q, Rep.same e d v h1, Reps.same e ds r h2⟩
end

theorem Reps.nil_iff {vs : List V} : Reps M H [] vs ↔ vs = [] := by simp only [Reps]
theorem Reps.cons {d : D} {ds : List D} {v : V} {vs : List V} (h : Rep M H d v) (t : Reps M H ds vs) : Reps M H (d :: ds) (v :: vs) := by
  simp only [Reps]
  exact ⟨v, vs, rfl, h, t⟩
theorem Reps.len : ∀ {ds : List D} {vs : List V}, Reps M H ds vs → ds.length = vs.length
  | [], _, h => by simp only [Reps] at h; rw [h]; rfl
  | d :: ds, vs, h => by
    simp only [Reps] at h
    obtain ⟨v, r, rfl, _, t⟩ := h
    rw [List.length_cons, List.length_cons, Reps.len t]
theorem Reps.append : ∀ {ds es : List D} {vs us : List V}, Reps M H ds vs → Reps M H es us → Reps M H (ds ++ es) (vs ++ us)
  | [], _, _, _, h, t => by simp only [Reps] at h; subst h; exact t
  | d :: ds, es, vs, us, h, t => by
    simp only [Reps] at h
    obtain ⟨v, r, rfl, q, z⟩ := h
    exact Reps.cons q (Reps.append z t)
theorem Reps.get : ∀ {ds : List D} {vs : List V} {i : Nat} {d : D}, Reps M H ds vs → ds[i]? = some d → ∃ v, vs[i]? = some v ∧ Rep M H d v
  | [], _, _, _, _, e => by simp at e
  | d :: ds, vs, 0, x, h, e => by
    simp only [Reps] at h
    obtain ⟨v, r, rfl, q, z⟩ := h
    simp at e
    subst e
    exact ⟨v, rfl, q⟩
  | d :: ds, vs, i + 1, x, h, e => by
    simp only [Reps] at h
    obtain ⟨v, r, rfl, q, z⟩ := h
    simp at e
    obtain ⟨w, h1, h2⟩ := Reps.get z e
    exact ⟨w, by simpa using h1, h2⟩
theorem Reps.got : ∀ {ds : List D} {vs : List V} {i : Nat} {v : V}, Reps M H ds vs → vs[i]? = some v → ∃ d, ds[i]? = some d ∧ Rep M H d v
  | [], _, _, _, h, e => by simp only [Reps] at h; subst h; simp at e
  | d :: ds, vs, 0, x, h, e => by
    simp only [Reps] at h
    obtain ⟨v, r, rfl, q, z⟩ := h
    simp at e
    subst e
    exact ⟨d, rfl, q⟩
  | d :: ds, vs, i + 1, x, h, e => by
    simp only [Reps] at h
    obtain ⟨v, r, rfl, q, z⟩ := h
    simp at e
    obtain ⟨w, h1, h2⟩ := Reps.got z e
    exact ⟨w, by simpa using h1, h2⟩
theorem Reps.take : ∀ {ds : List D} {vs : List V} (n : Nat), Reps M H ds vs → Reps M H (ds.take n) (vs.take n)
  | _, _, 0, _ => by simp [Reps]
  | [], _, n + 1, h => by simp only [Reps] at h; subst h; simp [Reps]
  | d :: ds, vs, n + 1, h => by
    simp only [Reps] at h
    obtain ⟨v, r, rfl, q, z⟩ := h
    exact Reps.cons q (Reps.take n z)
theorem Reps.drop : ∀ {ds : List D} {vs : List V} (n : Nat), Reps M H ds vs → Reps M H (ds.drop n) (vs.drop n)
  | _, _, 0, h => h
  | [], _, n + 1, h => by simp only [Reps] at h; subst h; simp [Reps]
  | d :: ds, vs, n + 1, h => by
    simp only [Reps] at h
    obtain ⟨v, r, rfl, q, z⟩ := h
    exact Reps.drop n z
theorem Reps.set : ∀ {ds : List D} {vs : List V} (i : Nat) {d : D} {v : V}, Reps M H ds vs → Rep M H d v → Reps M H (ds.set i d) (vs.set i v)
  | [], _, i, _, _, h, _ => by simp only [Reps] at h; subst h; simp [Reps]
  | d :: ds, vs, 0, _, _, h, t => by
    simp only [Reps] at h
    obtain ⟨v, r, rfl, q, z⟩ := h
    exact Reps.cons t z
  | d :: ds, vs, i + 1, _, _, h, t => by
    simp only [Reps] at h
    obtain ⟨v, r, rfl, q, z⟩ := h
    exact Reps.cons q (Reps.set i z t)
theorem Reps.rev : ∀ {ds : List D} {vs : List V}, Reps M H ds vs → Reps M H ds.reverse vs.reverse
  | [], _, h => by simp only [Reps] at h; subst h; simp [Reps]
  | d :: ds, vs, h => by
    simp only [Reps] at h
    obtain ⟨v, r, rfl, q, z⟩ := h
    rw [List.reverse_cons, List.reverse_cons]
    exact Reps.append (Reps.rev z) (Reps.cons q (by simp [Reps]))
theorem Reps.mem {ds : List D} {vs : List V} (h : Reps M H ds vs) {v : V} (hv : v ∈ vs) : ∃ d, d ∈ ds ∧ Rep M H d v := by
  obtain ⟨i, hi⟩ := List.mem_iff_getElem?.mp hv
  obtain ⟨d, h1, h2⟩ := h.got hi
  exact ⟨d, List.mem_of_getElem? h1, h2⟩
end

/-! ### what a frame owns -/
inductive Fl where
  | sh | own | deep | me
  deriving DecidableEq

/-- F and the objects at fp as H has them -/
def ext (F H : Hp) (fp : List Addr) : Hp := fun b => if b ∈ fp then H b else F b
/-- the other addresses -/
def but (fp : List Addr) (a : Addr) : List Addr := fp.filter fun b => decide (b ≠ a)
theorem mem_but {fp : List Addr} {a b : Addr} : b ∈ but fp a ↔ b ∈ fp ∧ b ≠ a := by
  unfold but
  rw [List.mem_filter, decide_eq_true_eq]
mutual
/-- a value all of whose objects stand at fp, those within elsewhere than it -/
def RepD (M : Mx) (H : Hp) (fp : List Addr) : D → V → Prop
  | .non, v => v = .non
  | .bl b, v => v = .bl b
  | .int i, v => v = .int i
  | .str x, v => v = .str x
  | .tup xs, v => ∃ a vs, v = .ref a ∧ a ∈ fp ∧ H a = some (.tup vs) ∧ RepDs M H (but fp a) xs vs
  | .lst xs, v => ∃ a vs, v = .ref a ∧ a ∈ fp ∧ H a = some (.lst vs) ∧ RepDs M H (but fp a) xs vs
  | .dic _ _ _, _ => False
  | .obj _ _ _, _ => False
  | .scr _, _ => False
def RepDs (M : Mx) (H : Hp) (fp : List Addr) : List D → List V → Prop
  | [], vs => vs = []
  | d :: ds, vs => ∃ v r, vs = v :: r ∧ RepD M H fp d v ∧ RepDs M H fp ds r
end
section
variable {M : Mx} {H H' F F' : Hp} {fp fp' : List Addr}
mutual
theorem RepD.mono {fp fp' : List Addr} (e : ∀ b ∈ fp, ∀ o, H b = some o → H' b = some o) (hs : ∀ b ∈ fp, b ∈ fp') : ∀ (d : D) (v : V), RepD M H fp d v → RepD M H' fp' d v
  | .non, _, h => by simpa only [RepD] using h
  | .bl _, _, h => by simpa only [RepD] using h
  | .int _, _, h => by simpa only [RepD] using h
  | .str _, _, h => by simpa only [RepD] using h
  | .tup xs, v, h => by
    simp only [RepD] at h ⊢
    obtain ⟨a, vs, r, m, q, z⟩ := h
    exact ⟨a, vs, r, hs a m, e a m _ q, RepDs.mono (fun b hb => e b (mem_but.mp hb).1) (fun b hb => mem_but.mpr ⟨hs b (mem_but.mp hb).1, (mem_but.mp hb).2⟩) xs vs z⟩
  | .lst xs, v, h => by
    simp only [RepD] at h ⊢
    obtain ⟨a, vs, r, m, q, z⟩ := h
    exact ⟨a, vs, r, hs a m, e a m _ q, RepDs.mono (fun b hb => e b (mem_but.mp hb).1) (fun b hb => mem_but.mpr ⟨hs b (mem_but.mp hb).1, (mem_but.mp hb).2⟩) xs vs z⟩
  | .dic _ _ _, _, h => by simp only [RepD] at h
  | .obj _ _ _, _, h => by simp only [RepD] at h
  | .scr _, _, h => by simp only [RepD] at h
theorem RepDs.mono {fp fp' : List Addr} (e : ∀ b ∈ fp, ∀ o, H b = some o → H' b = some o) (hs : ∀ b ∈ fp, b ∈ fp') : ∀ (ds : List D) (vs : List V), RepDs M H fp ds vs → RepDs M H' fp' ds vs
  | [], _, h => by simpa only [RepDs] using h
  | d :: ds, vs, h => by
    simp only [RepDs] at h ⊢
    obtain ⟨v, r, q, h1, h2⟩ := h
    exact ⟨v, r, q, RepD.mono e hs d v h1, RepDs.mono e hs ds r h2⟩
end
mutual
theorem RepD.rep {fp : List Addr} (e : ∀ b ∈ fp, ∀ o, H b = some o → F b = some o) : ∀ (d : D) (v : V), RepD M H fp d v → Rep M F d v
  | .non, _, h => by simpa only [RepD, Rep] using h
  | .bl _, _, h => by simpa only [RepD, Rep] using h
  | .int _, _, h => by simpa only [RepD, Rep] using h
  | .str _, _, h => by simpa only [RepD, Rep] using h
  | .tup xs, v, h => by
    simp only [RepD] at h
    simp only [Rep]
    obtain ⟨a, vs, r, m, q, z⟩ := h
    exact ⟨a, vs, r, e a m _ q, RepDs.reps (fun b hb => e b (mem_but.mp hb).1) xs vs z⟩
  | .lst xs, v, h => by
    simp only [RepD] at h
    simp only [Rep]
    obtain ⟨a, vs, r, m, q, z⟩ := h
    exact ⟨a, vs, r, e a m _ q, RepDs.reps (fun b hb => e b (mem_but.mp hb).1) xs vs z⟩
  | .dic _ _ _, _, h => by simp only [RepD] at h
  | .obj _ _ _, _, h => by simp only [RepD] at h
  | .scr _, _, h => by simp only [RepD] at h
theorem RepDs.reps {fp : List Addr} (e : ∀ b ∈ fp, ∀ o, H b = some o → F b = some o) : ∀ (ds : List D) (vs : List V), RepDs M H fp ds vs → Reps M F ds vs
  | [], _, h => by simpa only [RepDs, Reps] using h
  | d :: ds, vs, h => by
    simp only [RepDs] at h
    simp only [Reps]
    obtain ⟨v, r, q, h1, h2⟩ := h
    exact ⟨v, r, q, RepD.rep e d v h1, RepDs.reps e ds r h2⟩
end
theorem RepDs.cons {d : D} {ds : List D} {v : V} {vs : List V} (h : RepD M H fp d v) (t : RepDs M H fp ds vs) : RepDs M H fp (d :: ds) (v :: vs) := by
  simp only [RepDs]
  exact ⟨v, vs, rfl, h, t⟩
theorem RepDs.append : ∀ {ds es : List D} {vs us : List V}, RepDs M H fp ds vs → RepDs M H fp es us → RepDs M H fp (ds ++ es) (vs ++ us)
  | [], _, _, _, h, t => by simp only [RepDs] at h; subst h; exact t
  | d :: ds, es, vs, us, h, t => by
    simp only [RepDs] at h
    obtain ⟨v, r, rfl, q, z⟩ := h
    exact RepDs.cons q (RepDs.append z t)
end

/-- a value as a slot (or a call's answer) holds it: sh: all of it in F; own: its outermost object is at fp, not in F, the rest in F; deep: all its objects are at fp -/
def Val (M : Mx) (H F : Hp) (fl : Fl) (d : D) (v : V) (fp : List Addr) : Prop :=
  match fl with
  | .sh => Rep M F d v
  | .deep => RepD M H fp d v
  | .me => match d with
    | .obj c fs ds => ∃ a C dx us, v = .ref a ∧ fp = [a] ∧ H a = some (.ins C dx (fs.zip us)) ∧ fs.length = us.length ∧ M.cn c = some C ∧ Reps M F ds us ∧ v = M.me
    | _ => False
  | .own => match d with
    | .lst xs => ∃ a vs, v = .ref a ∧ fp = [a] ∧ H a = some (.lst vs) ∧ Reps M F xs vs
    | .dic t ks ds => ∃ a us, v = .ref a ∧ fp = [a] ∧ DicAt H a t ks us ∧ Reps M F ds us
    | .obj c fs ds => ∃ a C dx us, v = .ref a ∧ fp = [a] ∧ H a = some (.ins C dx (fs.zip us)) ∧ fs.length = us.length ∧ M.cn c = some C ∧ Reps M F ds us
    | d => Rep M F d v

/-- from (H, F) to (H', F'): what was tracked stays; F grows by new objects alone -/
structure Gr (H F H' F' : Hp) : Prop where
  h : Same H H'
  f : Same F F'
  fh : Same F' H'
  new : ∀ b, F' b ≠ none → F b ≠ none ∨ H b = none
/-- fp is new over (H, F), outside of F' -/
def Fresh (H F' : Hp) (fp : List Addr) : Prop := ∀ b ∈ fp, H b = none ∧ F' b = none

section
variable {M : Mx} {H H' H'' F F' F'' : Hp} {fp : List Addr}
theorem Gr.refl (h : Same F H) : Gr H F H F := ⟨.refl _, .refl _, h, fun _ z => .inl z⟩
theorem Gr.trans (a : Gr H F H' F') (b : Gr H' F' H'' F'') : Gr H F H'' F'' where
  h := a.h.trans b.h
  f := a.f.trans b.f
  fh := b.fh
  new := fun c z => by
    rcases b.new c z with z | z
    · exact a.new c z
    · exact .inr (a.h.free z)
/-- one new object, into F -/
theorem Gr.newF {p : Addr} {o : HO} (h : Same F H) (hp : H p = none) : Gr H F (upd H p o) (upd F p o) where
  h := fun b u e => by rw [upd_ne (ne_of_none e hp)]; exact e
  f := fun b u e => by rw [upd_ne (ne_of_none (h b u e) hp)]; exact e
  fh := fun b u e => by
    by_cases hb : b = p
    · subst hb; rw [upd_same] at e ⊢; exact e
    · rw [upd_ne hb] at e ⊢; exact h b u e
  new := fun b z => by
    by_cases hb : b = p
    · subst hb; exact .inr hp
    · rw [upd_ne hb] at z; exact .inl z
/-- one new object, not into F -/
theorem Gr.newO {p : Addr} {o : HO} (h : Same F H) (hp : H p = none) : Gr H F (upd H p o) F where
  h := fun b u e => by rw [upd_ne (ne_of_none e hp)]; exact e
  f := .refl _
  fh := fun b u e => by rw [upd_ne (ne_of_none (h b u e) hp)]; exact h b u e
  new := fun b z => .inl z
theorem upd_free {p : Addr} {o : HO} (h : Same F H) (hp : H p = none) : F p = none := h.free hp

theorem ext_same_of (h : Same F H) : Same F (ext F H fp) := fun b o e => by
  unfold ext
  split
  · exact h b o e
  · exact e
theorem ext_in (h : Same F H) : Same (ext F H fp) H := fun b o e => by
  unfold ext at e
  split at e
  · exact e
  · exact h b o e
theorem ext_at {b : Addr} (hb : b ∈ fp) : ext F H fp b = H b := by unfold ext; rw [if_pos hb]
theorem ext_off {b : Addr} (hb : b ∉ fp) : ext F H fp b = F b := by unfold ext; rw [if_neg hb]
/-- what was owned is given to F -/
theorem Val.sh {fl : Fl} {d : D} {v : V} (h : Same F H) (x : Val M H F fl d v fp) : Rep M (ext F H fp) d v := by
  cases fl with
  | sh => exact Rep.same (ext_same_of h) d v x
  | deep => exact RepD.rep (fun b hb o e => by rw [ext_at hb]; exact e) d v x
  | me =>
    cases d with
    | obj c fs ds =>
      obtain ⟨a, C, dx, us, rfl, rfl, q, l, c, z, _⟩ := x
      simp only [Rep]
      exact ⟨a, C, dx, us, rfl, by rw [ext_at (by simp)]; exact q, l, c, Reps.same (ext_same_of h) ds us z⟩
    | _ => exact False.elim x
  | own =>
    cases d with
    | lst xs =>
      obtain ⟨a, vs, rfl, rfl, q, z⟩ := x
      simp only [Rep]
      exact ⟨a, vs, rfl, by rw [ext_at (by simp)]; exact q, Reps.same (ext_same_of h) xs vs z⟩
    | dic t ks ds =>
      obtain ⟨a, us, rfl, rfl, q, z⟩ := x
      simp only [Rep]
      exact ⟨a, us, rfl, DicAt.at_ (ext_at (by simp)).symm q, Reps.same (ext_same_of h) ds us z⟩
    | obj c fs ds =>
      obtain ⟨a, C, dx, us, rfl, rfl, q, l, c, z⟩ := x
      simp only [Rep]
      exact ⟨a, C, dx, us, rfl, by rw [ext_at (by simp)]; exact q, l, c, Reps.same (ext_same_of h) ds us z⟩
    | non => exact Rep.same (ext_same_of h) _ v x
    | bl _ => exact Rep.same (ext_same_of h) _ v x
    | int _ => exact Rep.same (ext_same_of h) _ v x
    | str _ => exact Rep.same (ext_same_of h) _ v x
    | tup _ => exact Rep.same (ext_same_of h) _ v x
    | scr _ => exact Rep.same (ext_same_of h) _ v x
theorem Val.rep {fl : Fl} {d : D} {v : V} (h : Same F H) (x : Val M H F fl d v fp) : Rep M H d v := Rep.same (ext_in h) d v (Val.sh h x)
/-- the heap grows -/
theorem Val.grow {fl : Fl} {d : D} {v : V} (h : Same H H') (f : Same F F') (x : Val M H F fl d v fp) : Val M H' F' fl d v fp := by
  cases fl with
  | sh => exact Rep.same f d v x
  | deep => exact RepD.mono (fun b _ o e => h b o e) (fun _ z => z) d v x
  | me =>
    cases d with
    | obj c fs ds =>
      obtain ⟨a, C, dx, us, e, r, q, l, c, z, y⟩ := x
      exact ⟨a, C, dx, us, e, r, h _ _ q, l, c, Reps.same f ds us z, y⟩
    | _ => exact False.elim x
  | own =>
    cases d with
    | lst xs =>
      obtain ⟨a, vs, e, r, q, z⟩ := x
      exact ⟨a, vs, e, r, h _ _ q, Reps.same f xs vs z⟩
    | dic t ks ds =>
      obtain ⟨a, us, e, r, q, z⟩ := x
      exact ⟨a, us, e, r, DicAt.same h q, Reps.same f ds us z⟩
    | obj c fs ds =>
      obtain ⟨a, C, dx, us, e, r, q, l, c, z⟩ := x
      exact ⟨a, C, dx, us, e, r, h _ _ q, l, c, Reps.same f ds us z⟩
    | non => exact Rep.same f _ v x
    | bl _ => exact Rep.same f _ v x
    | int _ => exact Rep.same f _ v x
    | str _ => exact Rep.same f _ v x
    | tup _ => exact Rep.same f _ v x
    | scr _ => exact Rep.same f _ v x
/-- what was new goes into F -/
theorem Gr.give {H' F' : Hp} (g : Gr H F H' F') (fr : Fresh H F' fp) : Gr H F H' (ext F' H' fp) where
  h := g.h
  f := g.f.trans (ext_same_of g.fh)
  fh := ext_in g.fh
  new := fun b z => by
    by_cases hb : b ∈ fp
    · exact .inr (fr b hb).1
    · rw [ext_off hb] at z; exact g.new b z
end
end Z
/-! Z, part B: what the text's expressions and statements are worth, as plain functions of the names' values. -/
namespace Z
open PySem PySem.Spec PyProof.Rows L2

/-- an answer: a value; an exception of an own class with its one field; or: not told -/
inductive R (α : Type) where
  | ok (a : α) | ex (c : Str) (d : D) | no

def R.bind {α β : Type} (r : R α) (f : α → R β) : R β :=
  match r with
  | .ok a => f a
  | .ex c d => .ex c d
  | .no => .no
@[simp] theorem R.bind_ok {α β : Type} (a : α) (f : α → R β) : (R.ok a).bind f = f a := rfl
@[simp] theorem R.bind_no {α β : Type} (f : α → R β) : (R.no : R α).bind f = .no := rfl
@[simp] theorem R.bind_ex {α β : Type} (c : Str) (d : D) (f : α → R β) : (R.ex c d : R α).bind f = .ex c d := rfl
theorem R.bind_eq_ok {α β : Type} {r : R α} {f : α → R β} {b : β} (h : r.bind f = .ok b) : ∃ a, r = .ok a ∧ f a = .ok b := by
  cases r with
  | ok a => exact ⟨a, rfl, h⟩
  | ex c d => cases h
  | no => cases h
def chk {α : Type} (c : Bool) (r : R α) : R α := if c = true then r else .no
theorem chk_ok {α : Type} {c : Bool} {r : R α} {a : α} (h : chk c r = .ok a) : c = true ∧ r = .ok a := by
  unfold chk at h
  split at h
  · exact ⟨by assumption, h⟩
  · cases h
@[simp] theorem chk_true {α : Type} (r : R α) : chk true r = r := rfl
@[simp] theorem chk_false {α : Type} (r : R α) : chk false r = .no := rfl

/-! ### data to be compared -/
mutual
def toPy : D → PyData
  | .non => .none
  | .bl b => .bool b
  | .int i => .int i
  | .str x => .str x
  | .tup xs => .tuple (toPys xs)
  | .lst xs => .list (toPys xs)
  | .dic _ _ _ => .dict []
  | .obj _ _ _ => .dict []
  | .scr _ => .dict []
def toPys : List D → List PyData
  | [] => []
  | d :: r => toPy d :: toPys r
end
theorem toPys_map : ∀ ds : List D, toPys ds = ds.map toPy
  | [] => rfl
  | d :: r => by simp only [toPys, List.map_cons, toPys_map r]
/-- may be compared -/
def fine (d : D) : Bool := (toPy d).plain && decide ((toPy d).depth ≤ 100)
def eqv (x y : D) : Bool := PyData.eqv (toPy x) (toPy y)
/-- may be ordered -/
def sorts (x y : D) : Bool := PySem.W.alike (toPy x) (toPy y) && fine x && fine y && (match x with | .non => false | _ => true)
def lt (x y : D) : Bool := PySem.W.dataLt (toPy x) (toPy y)
def isAtom : D → Bool
  | .non => true
  | .bl _ => true
  | .int _ => true
  | .str _ => true
  | _ => false

/-! ### operators -/
def addD : D → D → R D
  | .int i, .int j => .ok (.int (i + j))
  | .str x, .str y => chk (decide (x.length + y.length ≤ sizeLine)) (.ok (.str (x ++ y)))
  | .lst xs, .lst ys => chk (decide (xs.length + ys.length ≤ sizeLine)) (.ok (.lst (xs ++ ys)))
  | .tup xs, .tup ys => chk (decide (xs.length + ys.length ≤ sizeLine)) (.ok (.tup (xs ++ ys)))
  | _, _ => .no
def subD : D → D → R D
  | .int i, .int j => .ok (.int (i - j))
  | _, _ => .no
def mulD : D → D → R D
  | .int i, .int j => chk (decide (i.natAbs < 2 ^ 64 ∨ j.natAbs < 2 ^ 64)) (.ok (.int (i * j)))
  | .lst xs, .int k => chk (decide (0 ≤ k ∧ k ≤ 1000000 ∧ xs.length * k.toNat ≤ sizeLine)) (.ok (.lst (List.replicate k.toNat xs).flatten))
  | _, _ => .no
def fdivD : D → D → R D
  | .int i, .int j => chk (decide (0 < j ∧ j < 1073741824)) (.ok (.int (i / j)))
  | _, _ => .no
def modD : D → D → R D
  | .int i, .int j => chk (decide (0 < j)) (.ok (.int (i % j)))
  | _, _ => .no
def powD : D → D → R D
  | .int i, .int j => chk (decide (0 ≤ j ∧ j ≤ 1000000 ∧ i.natAbs < 2 ^ 64)) (.ok (.int (i ^ j.toNat)))
  | _, _ => .no
def binD : Operator → D → D → R D
  | .Add => addD
  | .Sub => subD
  | .Mult => mulD
  | .FloorDiv => fdivD
  | .Mod => modD
  | .Pow => powD
  | _ => fun _ _ => .no
def negD : D → R D
  | .int i => .ok (.int (-i))
  | _ => .no

/-! ### keys of dicts -/
def keyA : D → Option Key
  | .int i => some (.inl i)
  | .str x => some (.inr x)
  | _ => none
def keyAs : List D → Option (List Key)
  | [] => some []
  | d :: r => (keyA d).bind fun k => (keyAs r).map (k :: ·)
def keyD : Bool → D → Option (List Key)
  | false, d => (keyA d).map fun k => [k]
  | true, .tup xs => keyAs xs
  | true, _ => none
def getK (ks : List (List Key)) (ds : List D) (k : List Key) : Option D := ((ks.zip ds).find? fun p => decide (p.1 = k)).map (·.2)
def hasK (ks : List (List Key)) (k : List Key) : Bool := ks.any fun y => decide (y = k)
/-- d[k] = x -/
def putD : D → D → D → R D
  | .dic t ks ds, k, x => match keyD t k with
    | some k => chk (decide (ks.length < sizeLine)) (.ok (if hasK ks k = true then .dic t ks ((ks.zip ds).map fun p => if p.1 = k then x else p.2) else .dic t (ks ++ [k]) (ds ++ [x])))
    | none => .no
  | .lst xs, .int i, x => match ixN xs.length i with
    | some j => .ok (.lst (xs.set j x))
    | none => .no
  | _, _, _ => .no
def dgetD (x k z : D) : R D := match x with
  | .dic t ks ds => match keyD t k with
    | some k => .ok ((getK ks ds k).getD z)
    | none => .no
  | _ => .no

/-- what counts as true -/
def truD : D → R Bool
  | .non => .ok false
  | .bl b => .ok b
  | .int i => .ok (i != 0)
  | .str x => chk (decide (x.length ≤ sizeLine)) (.ok (x.length != 0))
  | .tup xs => .ok (!xs.isEmpty)
  | .lst xs => .ok (!xs.isEmpty)
  | .dic t ks _ => chk (!t) (.ok (!ks.isEmpty))
  | _ => .no

def inD (x : D) : D → R Bool
  | .lst ys => chk (fine x && fine (.lst ys)) (.ok (ys.any fun y => eqv y x))
  | .tup ys => chk (fine x && fine (.tup ys)) (.ok (ys.any fun y => eqv y x))
  | .str z => match x with
    | .str c => chk (decide (c.length = 1)) (.ok (decide (c.cps.getD 0 0 ∈ z.cps.toList)))
    | _ => .no
  | .dic t ks _ => match keyD t x with
    | some k => .ok (hasK ks k)
    | none => .no
  | _ => .no
def ltD : D → D → R Bool
  | .int i, .int j => .ok (decide (i < j))
  | .str x, .str y => .ok (decide (x.cps.toList < y.cps.toList))
  | .lst xs, .lst ys => chk (sorts (.lst xs) (.lst ys)) (.ok (lt (.lst xs) (.lst ys)))
  | .tup xs, .tup ys => chk (sorts (.tup xs) (.tup ys)) (.ok (lt (.tup xs) (.tup ys)))
  | _, _ => .no
def leD : D → D → R Bool
  | .int i, .int j => .ok (decide (i ≤ j))
  | _, _ => .no
def gtD : D → D → R Bool
  | .int i, .int j => .ok (decide (j < i))
  | _, _ => .no
def geD : D → D → R Bool
  | .int i, .int j => .ok (decide (j ≤ i))
  | _, _ => .no
def isNone : D → Bool
  | .non => true
  | _ => false
def eqD (x y : D) : R Bool := chk (fine x && fine y) (.ok (eqv x y))
def isD : D → D → R Bool
  | x, .non => .ok (isNone x)
  | .bl a, .bl b => .ok (decide (a = b))
  | _, _ => .no
def notR (r : R Bool) : R Bool := r.bind fun b => .ok (!b)
def cmpD : CmpOp → D → D → R Bool
  | .Eq, x, y => eqD x y
  | .NotEq, x, y => notR (eqD x y)
  | .Lt, x, y => ltD x y
  | .LtE, x, y => leD x y
  | .Gt, x, y => gtD x y
  | .GtE, x, y => geD x y
  | .Is, x, y => isD x y
  | .IsNot, x, y => notR (isD x y)
  | .In, x, y => inD x y
  | .NotIn, x, y => notR (inD x y)

/-- xs[i] -/
def ixD : D → D → R D
  | .lst xs, .int i => match atI xs i with | some d => .ok d | none => .no
  | .tup xs, .int i => match atI xs i with | some d => .ok d | none => .no
  | .scr ns, .int i => match atI ns i with | some n => .ok (.int n) | none => .no
  | .str z, .int i => chk (decide (z.length ≤ sizeLine)) (match atI z.cps.toList i with | some c => .ok (.str ⟨#[c]⟩) | none => .no)
  | .dic t ks ds, k => match keyD t k with
    | some k => match getK ks ds k with | some d => .ok d | none => .no
    | none => .no
  | _, _ => .no
/-- the part of a list that a slice is -/
def cutL {α : Type} (xs : List α) (lo hi : Option Int) : List α := (xs.drop (HT.sIx xs.length 0 lo)).take (HT.sIx xs.length xs.length hi - HT.sIx xs.length 0 lo)
def cutD : D → Option Int → Option Int → R D
  | .lst xs, lo, hi => .ok (.lst (cutL xs lo hi))
  | .tup xs, lo, hi => .ok (.tup (cutL xs lo hi))
  | .str z, lo, hi => chk (decide (z.length ≤ sizeLine)) (.ok (.str (cutS z lo hi)))
  | _, _, _ => .no

/-! ### the built-ins -/
def lenD : D → R D
  | .dic _ ks _ => .ok (.int ks.length)
  | .lst xs => .ok (.int xs.length)
  | .tup xs => .ok (.int xs.length)
  | .scr ns => .ok (.int ns.length)
  | .str z => chk (decide (z.length ≤ sizeLine)) (.ok (.int z.length))
  | _ => .no
def boolsOf : List D → R (List Bool)
  | [] => .ok []
  | .bl b :: r => (boolsOf r).bind fun bs => .ok (b :: bs)
  | _ => .no
def intsOf : List D → R (List Int)
  | [] => .ok []
  | .int b :: r => (intsOf r).bind fun bs => .ok (b :: bs)
  | _ => .no
def allAlike (ds : List D) : Bool := ds.all fun x => ds.all fun y => sorts x y
def noTup : D → Bool
  | .tup _ => false
  | _ => true
def fullTup : D → Bool
  | .tup (_ :: _) => true
  | _ => false
/-- a list that may be sorted -/
def sortable (ds : List D) : Bool := allAlike ds && (ds.all noTup || ds.all fullTup)
def sortL (ds : List D) : List D := ds.mergeSort (PySem.W.dataLe false toPy)
inductive Blt where
  | len | all | any | sum | int | str | list | tuple | sorted | min | max | bool
  deriving DecidableEq
def intD : D → R D
  | .int i => .ok (.int i)
  | .bl b => .ok (.int (if b then 1 else 0))
  | _ => .no
def strD : D → R D
  | .int i => chk (decide (i.natAbs < 2 ^ 1000)) (.ok (.str (toString i)))
  | _ => .no
def keyT : Bool → List Key → D
  | false, [.inl i] => .int i
  | false, [.inr x] => .str x
  | _, ks => .tup (ks.map fun k => match k with | .inl i => .int i | .inr x => .str x)
def listD : D → R D
  | .dic t ks _ => chk (!t) (.ok (.lst (ks.map (keyT false))))
  | .lst ds => .ok (.lst ds)
  | .tup ds => .ok (.lst ds)
  | _ => .no
def tupleD : D → R D
  | .lst ds => .ok (.tup ds)
  | .tup ds => .ok (.tup ds)
  | _ => .no
def allD : D → R D
  | .lst ds => (boolsOf ds).bind fun bs => .ok (.bl (bs.all id))
  | _ => .no
def anyD : D → R D
  | .lst ds => (boolsOf ds).bind fun bs => .ok (.bl (bs.any id))
  | _ => .no
def sumD : D → R D
  | .lst ds => (intsOf ds).bind fun bs => .ok (.int bs.sum)
  | _ => .no
def sortedD : D → R D
  | .lst ds => chk (sortable ds) (.ok (.lst (sortL ds)))
  | _ => .no
def minI : List Int → Option Int
  | [] => none
  | i :: r => some (match minI r with | some j => if j < i then j else i | none => i)
def maxI : List Int → Option Int
  | [] => none
  | i :: r => some (match maxI r with | some j => if i < j then j else i | none => i)
def mnmx (f : List Int → Option Int) : List D → R D
  | [.lst ds] => (intsOf ds).bind fun is => match f is with | some i => .ok (.int i) | none => .no
  | [.int i, .int j] => match f [i, j] with | some i => .ok (.int i) | none => .no
  | _ => .no
def boolD : D → R D
  | .bl b => .ok (.bl b)
  | _ => .no
def one (f : D → R D) : List D → R D
  | [x] => f x
  | _ => .no
def bltD : Blt → List D → R D
  | .len => one lenD
  | .all => one allD
  | .any => one anyD
  | .sum => one sumD
  | .int => one intD
  | .str => one strD
  | .list => one listD
  | .tuple => one tupleD
  | .sorted => one sortedD
  | .min => mnmx minI
  | .max => mnmx maxI
  | .bool => one boolD
/-- isinstance(x, T) for built-in T -/
def tyD : D → String
  | .non => "NoneType"
  | .bl _ => "bool"
  | .int _ => "int"
  | .str _ => "str"
  | .tup _ => "tuple"
  | .lst _ => "list"
  | .dic _ _ _ => "dict"
  | _ => ""
def isiD (x : D) (t : String) : R D := match kitB (tyD x) t with
  | some b => chk (tyD x != "") (.ok (.bl b))
  | none => .no

/-! ### expressions -/
abbrev Env := List (Option D)
abbrev ZE := Env → R D
abbrev Call := Str → List D → R D

def look (ρ : Env) (i : Nat) : R D := match ρ[i]? with
  | some (some d) => .ok d
  | _ => .no
def eVar (i : Nat) : ZE := fun ρ => look ρ i
def eLit (d : D) : ZE := fun _ => .ok d
def eArgs : List ZE → Env → R (List D)
  | [], _ => .ok []
  | z :: r, ρ => (z ρ).bind fun d => (eArgs r ρ).bind fun ds => .ok (d :: ds)
def eLst (es : List ZE) : ZE := fun ρ => (eArgs es ρ).bind fun ds => .ok (.lst ds)
def eTup (es : List ZE) : ZE := fun ρ => (eArgs es ρ).bind fun ds => .ok (.tup ds)
def eBin (op : Operator) (a b : ZE) : ZE := fun ρ => (a ρ).bind fun x => (b ρ).bind fun y => binD op x y
def eNeg (a : ZE) : ZE := fun ρ => (a ρ).bind negD
def eNot (a : ZE) : ZE := fun ρ => (a ρ).bind fun x => (truD x).bind fun b => .ok (.bl (!b))
def eCmp (op : CmpOp) (a b : ZE) : ZE := fun ρ => (a ρ).bind fun x => (b ρ).bind fun y => (cmpD op x y).bind fun k => .ok (.bl k)
def eCmp2 (op op2 : CmpOp) (a b c : ZE) : ZE := fun ρ => (a ρ).bind fun x => (b ρ).bind fun y => (cmpD op x y).bind fun k =>
  if k = true then (c ρ).bind fun z => (cmpD op2 y z).bind fun k2 => .ok (.bl k2) else .ok (.bl false)
/-- a and b, a or b, as values -/
def eAnd (a b : ZE) : ZE := fun ρ => (a ρ).bind fun x => (truD x).bind fun k => if k = true then b ρ else .ok x
def eOr (a b : ZE) : ZE := fun ρ => (a ρ).bind fun x => (truD x).bind fun k => if k = true then .ok x else b ρ
def eIte (c a b : ZE) : ZE := fun ρ => (c ρ).bind fun x => (truD x).bind fun k => if k = true then a ρ else b ρ
def eIx (a b : ZE) : ZE := fun ρ => (a ρ).bind fun x => (b ρ).bind fun y => ixD x y
def ePart : Option ZE → Env → R (Option Int)
  | none, _ => .ok none
  | some z, ρ => (z ρ).bind fun d => match d with | .int i => .ok (some i) | _ => .no
def eCut (a : ZE) (lo hi : Option ZE) : ZE := fun ρ => (a ρ).bind fun x => (ePart lo ρ).bind fun l => (ePart hi ρ).bind fun h => cutD x l h
/-- the items of xs[lo:hi:st] -/
def pickL {α : Type} (xs : List α) (lo hi : Option Int) (st : Int) : List α := (sliceRange (sliceBounds lo hi (some st) xs.length).1 (sliceBounds lo hi (some st) xs.length).2.1 (sliceBounds lo hi (some st) xs.length).2.2).filterMap (xs[·]?)
def stepD : D → Option Int → Option Int → Option Int → R D
  | .lst xs, lo, hi, some st => chk (decide (st ≠ 0)) (.ok (.lst (pickL xs lo hi st)))
  | _, _, _, _ => .no
def eStep (a : ZE) (lo hi : Option ZE) (st : ZE) : ZE := fun ρ => (a ρ).bind fun x => (ePart lo ρ).bind fun l => (ePart hi ρ).bind fun h => (ePart (some st) ρ).bind fun s => stepD x l h s
def eBlt (f : Blt) (es : List ZE) : ZE := fun ρ => (eArgs es ρ).bind fun ds => bltD f ds
def eIsi (a : ZE) (t : String) : ZE := fun ρ => (a ρ).bind fun x => isiD x t
def mapR {α β : Type} (f : α → R β) : List α → R (List β)
  | [] => .ok []
  | x :: r => (f x).bind fun y => (mapR f r).bind fun ys => .ok (y :: ys)
/-- sorted by keys -/
def sortByL (ds ks : List D) : List D := ((ds.zip ks).mergeSort (PySem.W.dataLe false fun b => toPy b.2)).map (·.1)
def sortKD (call : Call) (f : Str) : D → R D
  | .lst ds => (mapR (fun d => call f [d]) ds).bind fun ks => chk (sortable ks) (.ok (.lst (sortByL ds ks)))
  | _ => .no
def eSortK (call : Call) (f : Str) (a : ZE) : ZE := fun ρ => (a ρ).bind fun x => sortKD call f x
def eCall (call : Call) (f : Str) (es : List ZE) : ZE := fun ρ => (eArgs es ρ).bind fun ds => call f ds

def flat : D → Bool
  | .lst xs => xs.all isAtom
  | d => isAtom d
/-- a value that is asked to have no objects within -/
def eFlat (z : ZE) : ZE := fun ρ => (z ρ).bind fun d => chk (flat d) (.ok d)
/-! ### dicts, objects, methods of built-ins -/
def eDic (t : Bool) : ZE := fun _ => .ok (.dic t [] [])
def eDget (a k x : ZE) : ZE := fun ρ => (a ρ).bind fun d => (k ρ).bind fun i => (x ρ).bind fun z => dgetD d i z
def fldD (f : Str) : D → R D
  | .obj _ fs ds => match (fs.zip ds).lookup f with | some d => .ok d | none => .no
  | _ => .no
def eFld (a : ZE) (f : Str) : ZE := fun ρ => (a ρ).bind (fldD f)
def keyOf (c m : Str) : Str := c ++ (("." : Str) ++ m)
def methD (call : Call) (m : Str) (ds : List D) : D → R D
  | .obj c fs us => chk (!fs.contains m) (call (keyOf c m) (.obj c fs us :: ds))
  | _ => .no
def eMeth (call : Call) (a : ZE) (m : Str) (es : List ZE) : ZE := fun ρ => (a ρ).bind fun x => (eArgs es ρ).bind fun ds => methD call m ds x
def dcL : List D → D → R D
  | [], acc => .ok acc
  | .tup [k, x] :: r, acc => (putD acc k x).bind (dcL r)
  | _, _ => .no
/-- x.f = d -/
def setF : D → Str → D → R D
  | .obj c fs ds, f, d => chk (decide (fs.length < 100) && !fs.contains f) (.ok (.obj c (fs ++ [f]) (ds ++ [d])))
  | _, _, _ => .no
inductive Mt where
  | index | join
  deriving DecidableEq
def idxOf (x : D) : List D → Option Nat
  | [] => none
  | y :: r => if eqv y x = true then some 0 else (idxOf x r).map (· + 1)
def strsOf : List D → R (List Str)
  | [] => .ok []
  | .str b :: r => (strsOf r).bind fun bs => .ok (b :: bs)
  | _ => .no
def mtD : Mt → D → D → R D
  | .index, .lst ys, x => chk (SeqAt.shaped (toPy x) && SeqAt.shaped (toPy (.lst ys))) (match idxOf x ys with | some i => .ok (.int i) | none => .no)
  | .join, .str s, .lst ys => (strsOf ys).bind fun zs => chk (decide (((zs.map (·.length)).sum + s.length * zs.length) ≤ 1000000)) (.ok (.str (PySem.Txt.join s zs)))
  | _, _, _ => .no
def eMt (m : Mt) (a b : ZE) : ZE := fun ρ => (a ρ).bind fun x => (b ρ).bind fun y => mtD m x y
/-! ### what is walked, where its items go -/
abbrev ZI := Env → R (List D)
def seqD : D → R (List D)
  | .lst xs => .ok xs
  | .tup xs => .ok xs
  | .str z => chk (decide (z.length ≤ sizeLine)) (.ok (z.cps.toList.map fun c => .str ⟨#[c]⟩))
  | _ => .no
def iSeq (a : ZE) : ZI := fun ρ => (a ρ).bind seqD
def rangeD : List D → R (List D)
  | [.int n] => chk (decide (-16000000 ≤ n ∧ n ≤ 16000000)) (.ok ((List.range n.toNat).map fun (k : Nat) => .int k))
  | [.int a, .int b] => chk (decide (-8000000 ≤ a ∧ a ≤ 8000000 ∧ -8000000 ≤ b ∧ b ≤ 8000000)) (.ok ((List.range (b - a).toNat).map fun (k : Nat) => .int (a + k)))
  | _ => .no
def iRange (es : List ZE) : ZI := fun ρ => (eArgs es ρ).bind rangeD
def zipD : D → D → R (List D)
  | .lst xs, .lst ys => .ok (List.zipWith (fun x y => .tup [x, y]) xs ys)
  | _, _ => .no
def iZip (a b : ZE) : ZI := fun ρ => (a ρ).bind fun x => (b ρ).bind fun y => zipD x y
def enumD : D → R (List D)
  | .lst xs => .ok (List.zipWith (fun (k : Nat) x => .tup [.int k, x]) (List.range xs.length) xs)
  | _ => .no
def iEnum (a : ZE) : ZI := fun ρ => (a ρ).bind enumD

abbrev ZG := D → Env → R Env
def gN (i : Nat) : ZG := fun d ρ => .ok (ρ.set i (some d))
def gEach : List ZG → List D → Env → R Env
  | [], [], ρ => .ok ρ
  | g :: gs, d :: ds, ρ => (g d ρ).bind fun ρ1 => gEach gs ds ρ1
  | _, _, _ => .no
def gT (gs : List ZG) : ZG := fun d ρ => match d with
  | .tup ds => gEach gs ds ρ
  | _ => .no

def killE (ks : List Nat) (ρ : Env) : Env := ks.foldl (fun r i => r.set i none) ρ
/-- each of the tests -/
def tests : List ZE → Env → R Bool
  | [], _ => .ok true
  | c :: cs, ρ => (c ρ).bind fun x => (truD x).bind fun k => if k = true then tests cs ρ else .ok false
def compL {α : Type} (f : α → R (Option D)) : List α → R (List D)
  | [] => .ok []
  | x :: r => (f x).bind fun o => (compL f r).bind fun ys => .ok (match o with | some y => y :: ys | none => ys)
def compF (own : List Nat) (g : ZG) (cs : List ZE) (e : ZE) (ρ : Env) (x : D) : R (Option D) :=
  (g x (killE own ρ)).bind fun ρ1 => (tests cs ρ1).bind fun k => if k = true then (e ρ1).bind fun y => .ok (some y) else .ok none
def eComp (own : List Nat) (g : ZG) (it : ZI) (cs : List ZE) (e : ZE) : ZE := fun ρ => (it ρ).bind fun xs => (compL (compF own g cs e ρ) xs).bind fun ys => .ok (.lst ys)

def eDC (own : List Nat) (g : ZG) (it : ZI) (cs : List ZE) (k e : ZE) : ZE := fun ρ => (it ρ).bind fun xs => (compL (compF own g cs (eTup [k, e]) ρ) xs).bind fun ys => dcL ys (.dic false [] [])
/-! ### statements -/
inductive Out where
  | nx (ρ : Env) | ct (ρ : Env) | rt (d : D) | ex (c : Str) (d : D) | no
abbrev ZS := Env → Out
def ofR {α : Type} (r : R α) (f : α → Out) : Out := match r with
  | .ok a => f a
  | .ex c d => .ex c d
  | .no => .no
@[simp] theorem ofR_ok {α : Type} (a : α) (f : α → Out) : ofR (.ok a) f = f a := rfl
@[simp] theorem ofR_no {α : Type} (f : α → Out) : ofR (.no : R α) f = .no := rfl
@[simp] theorem ofR_ex {α : Type} (c : Str) (d : D) (f : α → Out) : ofR (.ex c d : R α) f = .ex c d := rfl
def sNil : ZS := fun ρ => .nx ρ
def sSeq (a b : ZS) : ZS := fun ρ => match a ρ with
  | .nx ρ' => b ρ'
  | o => o
def sBlock : List ZS → ZS
  | [] => sNil
  | a :: r => sSeq a (sBlock r)
def sSet (i : Nat) (e : ZE) : ZS := fun ρ => ofR (e ρ) fun d => .nx (ρ.set i (some d))
/-- x = y, y's object goes to x -/
def sMove (i j : Nat) : ZS := fun ρ => ofR (look ρ j) fun d => .nx ((ρ.set j none).set i (some d))
def sUnp (g : ZG) (e : ZE) : ZS := fun ρ => ofR (e ρ) fun d => ofR (g d ρ) .nx
def sAug (op : Operator) (i : Nat) (e : ZE) : ZS := fun ρ => ofR (look ρ i) fun x => ofR (e ρ) fun y => ofR (chk (isAtom x && isAtom y) (binD op x y)) fun z => .nx (ρ.set i (some z))
def sRet (e : ZE) : ZS := fun ρ => ofR (e ρ) .rt
def sRetN : ZS := fun _ => .rt .non
def sExpr (e : ZE) : ZS := fun ρ => ofR (e ρ) fun _ => .nx ρ
def sIf (c : ZE) (a b : ZS) : ZS := fun ρ => ofR (c ρ) fun x => ofR (truD x) fun k => if k = true then a ρ else b ρ
def sCont : ZS := fun ρ => .ct ρ
def sNever : ZS := fun _ => .no
def forL {α : Type} (kill : List Nat) (f : α → Env → Out) : List α → Env → Out
  | [], ρ => .nx ρ
  | x :: r, ρ => match f x ρ with
    | .nx ρ' => forL kill f r (killE kill ρ')
    | .ct ρ' => forL kill f r (killE kill ρ')
    | o => o
def sFor (kill : List Nat) (g : ZG) (it : ZI) (b : ZS) : ZS := fun ρ => ofR (it ρ) fun xs => forL kill (fun x ρ' => ofR (g x ρ') b) xs (killE kill ρ)
def whileL (kill : List Nat) (c : ZE) (b : ZS) : Nat → Env → Out
  | 0, _ => .no
  | n + 1, ρ => ofR (c ρ) fun x => ofR (truD x) fun k => if k = true then (match b ρ with
    | .nx ρ' => whileL kill c b n (killE kill ρ')
    | .ct ρ' => whileL kill c b n (killE kill ρ')
    | o => o) else .nx ρ
def wFuel : Nat := 1000000
def sWhile (kill : List Nat) (c : ZE) (b : ZS) : ZS := fun ρ => whileL kill c b wFuel (killE kill ρ)
def appD : D → D → R D
  | .lst xs, d => chk (decide (xs.length < sizeLine)) (.ok (.lst (xs ++ [d])))
  | _, _ => .no
/-- x.append(e) -/
def sApp (i : Nat) (e : ZE) : ZS := fun ρ => ofR (e ρ) fun d => ofR (look ρ i) fun x => ofR (appD x d) fun z => .nx (ρ.set i (some z))
def extD : D → D → R D
  | .lst xs, .lst ys => chk (decide (xs.length + ys.length ≤ sizeLine)) (.ok (.lst (xs ++ ys)))
  | _, _ => .no
def sExt (i : Nat) (e : ZE) : ZS := fun ρ => ofR (e ρ) fun d => ofR (look ρ i) fun x => ofR (extD x d) fun z => .nx (ρ.set i (some z))

/-- the item at i, the list without it -/
def popD : D → D → R (D × D)
  | .lst xs, .int i => chk (decide (0 ≤ i ∧ xs.length ≤ sizeLine)) (match xs[i.toNat]? with | some d => .ok (d, .lst (xs.eraseIdx i.toNat)) | none => .no)
  | _, _ => .no
/-- x.append(y.pop(e)) -/
def sAppPop (i j : Nat) (e : ZE) : ZS := fun ρ => ofR (e ρ) fun k => ofR (look ρ j) fun y => ofR (popD y k) fun p => ofR (look ρ i) fun x => ofR (appD x p.1) fun z => .nx ((ρ.set j (some p.2)).set i (some z))
/-- what is told of a value is forgotten: a list within it is changed; p: the way to it -/
def sSpoil (i : Nat) (p e : ZE) : ZS := fun ρ => ofR (p ρ) fun x => ofR (e ρ) fun d => ofR (appD x d) fun _ => .nx (ρ.set i none)
def sPar (is : List Nat) (es : List ZE) : ZS := fun ρ => ofR (eArgs es ρ) fun ds => .nx ((is.zip ds).foldl (fun r p => r.set p.1 (some p.2)) ρ)
/-- x[k] = e -/
def sPut (i : Nat) (k e : ZE) : ZS := fun ρ => ofR (e ρ) fun d => ofR (look ρ i) fun x => ofR (k ρ) fun y => ofR (putD x y d) fun z => .nx (ρ.set i (some z))
/-- self.f = e -/
def sFld (i : Nat) (f : Str) (e : ZE) : ZS := fun ρ => ofR (e ρ) fun d => ofR (look ρ i) fun x => ofR (setF x f d) fun z => .nx (ρ.set i (some z))
/-! ### defs -/
/-- a def: parameters and all names, its body; ini: the class whose __init__ it is -/
structure Fd where
  np : Nat
  nn : Nat
  body : Call → ZS
  ini : Option Str := none
def begin_ (nn : Nat) (ds : List D) : Env := ds.map some ++ List.replicate (nn - ds.length) none
def endD : Out → R D
  | .rt d => .ok d
  | .nx _ => .ok .non
  | .ex c d => .ex c d
  | _ => .no
def endI : Out → R D
  | .nx ρ => look ρ 0
  | .ex c d => .ex c d
  | _ => .no
def runFd (call : Call) (f : Fd) (ds : List D) : R D := match f.ini with
  | none => chk (ds.length == f.np) (endD (f.body call (begin_ f.nn ds)))
  | some c => chk (ds.length + 1 == f.np) (endI (f.body call (begin_ f.nn (.obj c [] [] :: ds))))
/-- the text's defs by name; a call within n calls -/
def run (T : Str → Option Fd) : Nat → Call
  | 0, _, _ => .no
  | n + 1, f, ds => match T f with
    | some fd => runFd (run T n) fd ds
    | none => .no
end Z
/-! Z, part C: the frame's state, and operators by values. -/
namespace Z
open PySem PySem.Spec PyProof.Rows L2

/-- the frame's state: H0, F0 at the def's entry, H, F now; fe: the slots' flags; rho: what the slots hold; fps: what they own -/
structure St (M : Mx) (H0 F0 : Hp) (σ : L2.St) (H F : Hp) (fe : List Fl) (ρ : Env) (fps : Nat → List Addr) : Prop where
  h0 : Same H0 H
  f0 : Same F0 F
  fh : Same F H
  new : ∀ b, F b ≠ none → F0 b ≠ none ∨ H0 b = none
  len : ρ.length = σ.length
  slot : ∀ (i : Nat) (d : D), ρ[i]? = some (some d) → ∃ v, σ[i]? = some (some v) ∧ Val M H F (fe.getD i .sh) d v (fps i)
  out : ∀ i b, b ∈ fps i → F b = none ∧ H0 b = none ∧ H b ≠ none
  dis : ∀ i j b, b ∈ fps i → b ∈ fps j → i = j

section
variable {M : Mx} {H0 F0 H F H' F' : Hp} {σ : L2.St} {fe : List Fl} {ρ : Env} {fps : Nat → List Addr}
theorem St.grow (s : St M H0 F0 σ H F fe ρ fps) (g : Gr H F H' F') : St M H0 F0 σ H' F' fe ρ fps where
  h0 := s.h0.trans g.h
  f0 := s.f0.trans g.f
  fh := g.fh
  new := fun b z => by
    rcases g.new b z with z | z
    · exact s.new b z
    · exact .inr (s.h0.free z)
  len := s.len
  slot := fun i d e => by
    obtain ⟨v, h1, h2⟩ := s.slot i d e
    exact ⟨v, h1, h2.grow g.h g.f⟩
  out := fun i b hb => by
    obtain ⟨h1, h2, h3⟩ := s.out i b hb
    refine ⟨?_, h2, fun z => h3 (g.h.free z)⟩
    cases q : F' b with
    | none => rfl
    | some o =>
      rcases g.new b (by rw [q]; simp) with z | z
      · exact absurd h1 z
      · exact absurd z h3
  dis := s.dis
/-- everything is lent -/
theorem St.lend (s : St M H0 F0 σ H F fe ρ fps) : St M H H σ H H [] ρ (fun _ => []) where
  h0 := .refl _
  f0 := .refl _
  fh := .refl _
  new := fun b z => .inl z
  len := s.len
  slot := fun i d e => by
    obtain ⟨v, h1, h2⟩ := s.slot i d e
    exact ⟨v, h1, by simpa [Val] using h2.rep s.fh⟩
  out := fun i b hb => by cases hb
  dis := fun i j b hb => by cases hb
/-- back from a lending -/
theorem Gr.back (s : Same F H) (g : Gr H H H' F') : Gr H F H' F := ⟨g.h, .refl _, s.trans g.h, fun b z => .inl z⟩
/-- a slot gets a shared value -/
theorem getD_set {α : Type} {l : List α} {i j : Nat} {x d : α} (hj : j ≠ i) : (l.set i x).getD j d = l.getD j d := by
  rw [List.getD_eq_getElem?_getD, List.getD_eq_getElem?_getD, List.getElem?_set_ne (Ne.symm hj)]
end

/-- the elements are in F, the outermost object is in H -/
def RepC (M : Mx) (H F : Hp) (d : D) (v : V) : Prop := match d with
  | .lst xs => ∃ a vs, v = .ref a ∧ H a = some (.lst vs) ∧ Reps M F xs vs
  | .dic t ks ds => ∃ a us, v = .ref a ∧ DicAt H a t ks us ∧ Reps M F ds us
  | .obj c fs ds => ∃ a C dx us, v = .ref a ∧ H a = some (.ins C dx (fs.zip us)) ∧ fs.length = us.length ∧ M.cn c = some C ∧ Reps M F ds us
  | d => Rep M F d v
inductive Wt where
  | c | s | w | d
  deriving DecidableEq
def Res (M : Mx) (H H' F' : Hp) (w : Wt) (d : D) (v : V) : Prop := match w with
  | .c => RepC M H' F' d v
  | .s => Rep M F' d v
  | .w => ∃ fp, Val M H' F' .own d v fp ∧ Fresh H F' fp
  | .d => ∃ fp, Val M H' F' .deep d v fp ∧ Fresh H F' fp
theorem RepC.of {M : Mx} {H F : Hp} {d : D} {v : V} (h : Same F H) (x : Rep M F d v) : RepC M H F d v := by
  cases d with
  | lst xs => simp only [Rep] at x; obtain ⟨a, vs, r, q, z⟩ := x; exact ⟨a, vs, r, h _ _ q, z⟩
  | dic t ks ds => simp only [Rep] at x; obtain ⟨a, us, r, q, z⟩ := x; exact ⟨a, us, r, DicAt.same h q, z⟩
  | obj c fs ds => simp only [Rep] at x; obtain ⟨a, C, dx, us, r, q, l, c, z⟩ := x; exact ⟨a, C, dx, us, r, h _ _ q, l, c, z⟩
  | non => exact x
  | bl _ => exact x
  | int _ => exact x
  | str _ => exact x
  | tup _ => exact x
  | scr _ => exact x
theorem RepC.ofVal {M : Mx} {H F : Hp} {fl : Fl} {d : D} {v : V} {fp : List Addr} (h : Same F H) (hf : fl = .sh ∨ fl = .own ∨ fl = .me) (x : Val M H F fl d v fp) : RepC M H F d v := by
  rcases hf with rfl | rfl | rfl
  · exact RepC.of h x
  rotate_left
  · cases d with
    | obj c fs ds => obtain ⟨a, C, dx, us, r, _, q, l, c, z, _⟩ := x; exact ⟨a, C, dx, us, r, q, l, c, z⟩
    | _ => exact False.elim x
  · cases d with
    | lst xs => obtain ⟨a, vs, r, _, q, z⟩ := x; exact ⟨a, vs, r, q, z⟩
    | dic t ks ds => obtain ⟨a, us, r, _, q, z⟩ := x; exact ⟨a, us, r, q, z⟩
    | obj c fs ds => obtain ⟨a, C, dx, us, r, _, q, l, c, z⟩ := x; exact ⟨a, C, dx, us, r, q, l, c, z⟩
    | non => exact x
    | bl _ => exact x
    | int _ => exact x
    | str _ => exact x
    | tup _ => exact x
    | scr _ => exact x
theorem RepC.same {M : Mx} {H F H' F' : Hp} {d : D} {v : V} (h : Same H H') (f : Same F F') (x : RepC M H F d v) : RepC M H' F' d v := by
  cases d with
  | lst xs => obtain ⟨a, vs, r, q, z⟩ := x; exact ⟨a, vs, r, h _ _ q, Reps.same f _ _ z⟩
  | dic t ks ds => obtain ⟨a, us, r, q, z⟩ := x; exact ⟨a, us, r, DicAt.same h q, Reps.same f _ _ z⟩
  | obj c fs ds => obtain ⟨a, C, dx, us, r, q, l, c, z⟩ := x; exact ⟨a, C, dx, us, r, h _ _ q, l, c, Reps.same f _ _ z⟩
  | non => exact Rep.same f _ _ x
  | bl _ => exact Rep.same f _ _ x
  | int _ => exact Rep.same f _ _ x
  | str _ => exact Rep.same f _ _ x
  | tup _ => exact Rep.same f _ _ x
  | scr _ => exact Rep.same f _ _ x
/-- an atom is what it is -/
theorem atom_rep {M : Mx} {H F : Hp} {d : D} {v : V} (ha : isAtom d = true) (x : Rep M H d v) : Rep M F d v := by
  cases d <;> first | (exact Bool.noConfusion ha) | simpa only [Rep] using x
theorem atom_res {M : Mx} {H H' F' : Hp} {w : Wt} {d : D} {v : V} (ha : isAtom d = true) (x : Rep M F' d v) : Res M H H' F' w d v := by
  cases w with
  | c => cases d <;> first | (exact Bool.noConfusion ha) | exact x
  | s => exact x
  | w => exact ⟨[], by cases d <;> first | (exact Bool.noConfusion ha) | exact x, fun b hb => by cases hb⟩
  | d => exact ⟨[], by cases d <;> first | (exact Bool.noConfusion ha) | (simp only [Rep] at x; simpa only [Val, RepD] using x), fun b hb => by cases hb⟩
/-- a new list whose items are in F -/
theorem list_res {M : Mx} {H F : Hp} {p : Addr} {xs : List D} {vs : List V} {w : Wt} (hw : w ≠ .d) (h : Same F H) (hp : H p = none) (z : Reps M F xs vs) :
    ∃ F', Gr H F (upd H p (.lst vs)) F' ∧ Res M H (upd H p (.lst vs)) F' w (.lst xs) (.ref p) := by
  cases w with
  | d => exact absurd rfl hw
  | w => exact ⟨F, Gr.newO h hp, [p], ⟨p, vs, rfl, rfl, upd_same, z⟩, fun b hb => by
      have e : b = p := by simpa using hb
      subst e
      exact ⟨hp, h.free hp⟩⟩
  | c => exact ⟨F, Gr.newO h hp, p, vs, rfl, upd_same, z⟩
  | s => exact ⟨upd F p (.lst vs), Gr.newF h hp, by simp only [Res, Rep]; exact ⟨p, vs, rfl, upd_same, Reps.same (Gr.newF h hp).f _ _ z⟩⟩
/-- a new tuple whose items are in F -/
theorem tup_res {M : Mx} {H F : Hp} {p : Addr} {xs : List D} {vs : List V} {w : Wt} (hw : w ≠ .d) (h : Same F H) (hp : H p = none) (z : Reps M F xs vs) :
    ∃ F', Gr H F (upd H p (.tup vs)) F' ∧ Res M H (upd H p (.tup vs)) F' w (.tup xs) (.ref p) := by
  have r : Rep M (upd F p (.tup vs)) (.tup xs) (.ref p) := by simp only [Rep]; exact ⟨p, vs, rfl, upd_same, Reps.same (Gr.newF h hp).f _ _ z⟩
  refine ⟨upd F p (.tup vs), Gr.newF h hp, ?_⟩
  cases w with
  | d => exact absurd rfl hw
  | w => exact ⟨[], r, fun b hb => by cases hb⟩
  | c => exact r
  | s => exact r
theorem sh_res {M : Mx} {H H' F' : Hp} {w : Wt} {d : D} {v : V} (hw : w = .c ∨ w = .s) (h : Same F' H') (x : Rep M F' d v) : Res M H H' F' w d v := by
  rcases hw with rfl | rfl
  · exact RepC.of h x
  · exact x

/-! ### what an expression's reading is -/
def zT (M : Mx) (fe : List Fl) (w : Wt) (z : ZE) : TE := fun σ H Q => ∃ H0 F0 F ρ fps d, St M H0 F0 σ H F fe ρ fps ∧ z ρ = .ok d ∧ ∀ v H' F', Gr H F H' F' → Res M H H' F' w d v → Q v H'
/-- items on loan -/
abbrev zL (M : Mx) (z : ZE) : TE := zT M [] .s z
def zA (M : Mx) (fe : List Fl) (zs : List ZE) : TA := fun σ H Q => ∃ H0 F0 F ρ fps ds, St M H0 F0 σ H F fe ρ fps ∧ eArgs zs ρ = .ok ds ∧ ∀ vs H' F', Gr H F H' F' → Reps M F' ds vs → Q vs H'
def zTT (M : Mx) (z : ZE) : TT := fun σ H Q => ∃ H0 F0 F fe ρ fps d k, St M H0 F0 σ H F fe ρ fps ∧ z ρ = .ok d ∧ truD d = .ok k ∧ ∀ H', Gr H F H' F → Q k H'
theorem PE.imp {X : Cx} {e : Expr} {t t' : TE} (h : PE X e t) (q : ∀ σ H Q, t' σ H Q → t σ H Q) : PE X e t' := ⟨fun pins s σ H Q I z => h.run pins s σ H Q I (q _ _ _ z)⟩
theorem PT.imp {X : Cx} {e : Expr} {t t' : TT} (h : PT X e t) (q : ∀ σ H Q, t' σ H Q → t σ H Q) : PT X e t' := ⟨fun pins s σ H Q I z => h.run pins s σ H Q I (q _ _ _ z)⟩
theorem PA.imp {X : Cx} {e : List Expr} {t t' : TA} (h : PA X e t) (q : ∀ σ H Q, t' σ H Q → t σ H Q) : PA X e t' := ⟨fun p pins s σ H Q I z => h.run p pins s σ H Q I (q _ _ _ z)⟩
theorem PW.imp {X : Cx} {e : Expr} {t t' : TT} (h : PW X e t) (q : ∀ σ H Q, t' σ H Q → t σ H Q) : PW X e t' := ⟨fun wh pins s σ H Q I z => h.run wh pins s σ H Q I (q _ _ _ z)⟩
/-- a part on loan -/
theorem lend {M : Mx} {H0 F0 H F : Hp} {σ : L2.St} {fe : List Fl} {ρ : Env} {fps : Nat → List Addr} {z : ZE} {d : D} {Q : VK} (s : St M H0 F0 σ H F fe ρ fps) (e : z ρ = .ok d)
    (k : ∀ v H', Gr H F H' F → St M H0 F0 σ H' F fe ρ fps → Rep M H' d v → Q v H') : zL M z σ H Q :=
  ⟨H, H, H, ρ, _, d, s.lend, e, fun v H' F' g r => k v H' (Gr.back s.fh g) (s.grow (Gr.back s.fh g)) (Rep.same g.fh _ _ r)⟩

/-! ### reading data -/
mutual
theorem rep_dp {M : Mx} {H : Hp} : ∀ (d : D) (v : V), (toPy d).plain = true → Rep M H d v → Dp M.K H v (toPy d)
  | .non, v, _, h => by simp only [Rep] at h; subst h; exact .non
  | .bl b, v, _, h => by simp only [Rep] at h; subst h; exact .bl b
  | .int i, v, _, h => by simp only [Rep] at h; subst h; exact .int i
  | .str x, v, _, h => by simp only [Rep] at h; subst h; exact .str x
  | .tup xs, v, p, h => by
    simp only [Rep] at h
    obtain ⟨a, vs, rfl, q, z⟩ := h
    simp only [toPy, PyData.plain] at p ⊢
    exact .tup (SqT.of q) (reps_dp xs vs p z)
  | .lst xs, v, p, h => by
    simp only [Rep] at h
    obtain ⟨a, vs, rfl, q, z⟩ := h
    simp only [toPy, PyData.plain] at p ⊢
    exact .lst (.inl (.inl q)) (reps_dp xs vs p z)
  | .dic _ _ _, v, p, h => by simp only [toPy, PyData.plain] at p; cases p
  | .obj _ _ _, v, p, h => by simp only [toPy, PyData.plain] at p; cases p
  | .scr _, v, p, h => by simp only [toPy, PyData.plain] at p; cases p
theorem reps_dp {M : Mx} {H : Hp} : ∀ (ds : List D) (vs : List V), PyData.plainAll (toPys ds) = true → Reps M H ds vs → DpAll M.K H vs (toPys ds)
  | [], vs, _, h => by simp only [Reps] at h; subst h; exact .nil
  | d :: ds, vs, p, h => by
    simp only [Reps] at h
    obtain ⟨v, r, rfl, h1, h2⟩ := h
    simp only [toPys, PyData.plainAll, Bool.and_eq_true] at p ⊢
    exact .cons (rep_dp d v p.1 h1) (reps_dp ds r p.2 h2)
end
theorem fine_iff {d : D} (h : fine d = true) : (toPy d).plain = true ∧ (toPy d).depth ≤ 100 := by
  unfold fine at h
  rw [Bool.and_eq_true] at h
  exact ⟨h.1, of_decide_eq_true h.2⟩

section
variable {X : Cx}
def rDat (K : PySem.W.Frag) (f : PyData → PyData → Option Bool) : R2 := fun x y H Q => ∃ d e k, Dp K H x d ∧ Dp K H y e ∧ d.plain = true ∧ e.plain = true ∧ d.depth ≤ 100 ∧ e.depth ≤ 100 ∧ f d e = some k ∧ Q (.bl k) H
def fIn (neg : Bool) (x y : PyData) : Option Bool := match y with
  | .list ys => some (xor neg (ys.any fun y => PyData.eqv y x))
  | .tuple ys => some (xor neg (ys.any fun y => PyData.eqv y x))
  | _ => none
def isPyNone : PyData → Bool
  | .none => true
  | _ => false
def fLt (x y : PyData) : Option Bool := if (PySem.W.alike x y && !isPyNone x) = true then some (PySem.W.dataLt x y) else none
theorem min_room {A : Around} {d e : PyData} (hu : A.units + 150 < cLine) (h : d.depth ≤ 100) : A.units + min d.depth e.depth < cLine := by
  have := Nat.min_le_left d.depth e.depth
  omega
theorem op_eqP (hu : X.A.units + 150 < cLine) : OpR X (compareOp .Eq) (rDat X.K fun d e => some (PyData.eqv d e)) := by
  intro pins s σ H x y v u Q I rx ry h
  obtain ⟨d, e, k, hd, he, pd, pe, dd, de, ek, q⟩ := h
  cases ek
  obtain ⟨as, r1⟩ := hd.reads I d x v rx
  obtain ⟨bs, r2⟩ := he.reads I e y u ry
  exact SeqAt.eq_plain r1 r2 pd pe (min_room hu dd) ⟨.bl _, H, I, rfl, q⟩
theorem op_neP (hu : X.A.units + 150 < cLine) : OpR X (compareOp .NotEq) (rDat X.K fun d e => some (!PyData.eqv d e)) := by
  intro pins s σ H x y v u Q I rx ry h
  obtain ⟨d, e, k, hd, he, pd, pe, dd, de, ek, q⟩ := h
  cases ek
  obtain ⟨as, r1⟩ := hd.reads I d x v rx
  obtain ⟨bs, r2⟩ := he.reads I e y u ry
  exact SeqAt.ne_plain r1 r2 pd pe (min_room hu dd) ⟨.bl _, H, I, rfl, q⟩
theorem op_ltP (hu : X.A.units + 150 < cLine) : OpR X (compareOp .Lt) (rDat X.K fLt) := by
  intro pins s σ H x y v u Q I rx ry h
  obtain ⟨d, e, k, hd, he, pd, pe, dd, de, ek, q⟩ := h
  obtain ⟨as, r1⟩ := hd.reads I d x v rx
  obtain ⟨bs, r2⟩ := he.reads I e y u ry
  unfold fLt at ek
  split at ek
  · rename_i hc
    cases ek
    rw [Bool.and_eq_true] at hc
    exact PySem.W.lt_data r1 r2 hc.1 (fun z => by subst z; exact absurd hc.2 (by decide)) (min_room hu dd) ⟨.bl _, H, I, rfl, q⟩
  · cases ek
theorem op_inP (hu : X.A.units + 150 < cLine) : OpR X (compareOp .In) (rDat X.K (fIn false)) := by
  intro pins s σ H x y v u Q I rx ry h
  obtain ⟨d, e, k, hd, he, pd, pe, dd, de, ek, q⟩ := h
  obtain ⟨as, r1⟩ := hd.reads I d x v rx
  obtain ⟨bs, r2⟩ := he.reads I e y u ry
  cases e with
  | list ys =>
    simp only [fIn, Bool.false_xor, Option.some.injEq] at ek
    subst ek
    exact SeqAt.in_list_data r2 r1 pe pd (by have := Nat.min_le_right (PyData.depthAll ys) d.depth; omega) ⟨.bl _, H, I, rfl, q⟩
  | tuple ys =>
    simp only [fIn, Bool.false_xor, Option.some.injEq] at ek
    subst ek
    exact SeqAt.in_tuple_data r2 r1 pe pd (by have := Nat.min_le_right (PyData.depthAll ys) d.depth; omega) ⟨.bl _, H, I, rfl, q⟩
  | none => cases ek
  | bool _ => cases ek
  | int _ => cases ek
  | str _ => cases ek
  | dict _ => cases ek
theorem op_notInP (hu : X.A.units + 150 < cLine) : OpR X (compareOp .NotIn) (rDat X.K (fIn true)) := by
  intro pins s σ H x y v u Q I rx ry h
  obtain ⟨d, e, k, hd, he, pd, pe, dd, de, ek, q⟩ := h
  obtain ⟨as, r1⟩ := hd.reads I d x v rx
  obtain ⟨bs, r2⟩ := he.reads I e y u ry
  cases e with
  | list ys =>
    simp only [fIn, Bool.true_xor, Option.some.injEq] at ek
    subst ek
    exact SeqAt.notIn_list_data r2 r1 pe pd (by have := Nat.min_le_right (PyData.depthAll ys) d.depth; omega) ⟨.bl _, H, I, rfl, q⟩
  | tuple ys =>
    simp only [fIn, Bool.true_xor, Option.some.injEq] at ek
    subst ek
    exact SeqAt.notIn_tuple_data r2 r1 pe pd (by have := Nat.min_le_right (PyData.depthAll ys) d.depth; omega) ⟨.bl _, H, I, rfl, q⟩
  | none => cases ek
  | bool _ => cases ek
  | int _ => cases ek
  | str _ => cases ek
  | dict _ => cases ek
end
end Z
/-! Z, part D: the operators' and built-ins' rules, by data. -/
namespace Z
open PySem PySem.Spec PyProof.Rows L2

section
variable {M : Mx} {X : Cx} {H F : Hp} {a b d : D} {x y : V} {w : Wt} {Q : VK}
def rAddZ (K : PySem.W.Frag) : R2 := fun x y H Q =>
  (∃ i j, x = .int i ∧ y = .int j ∧ Q (.int (i + j)) H) ∨ (∃ i j, x = .str i ∧ y = .str j ∧ i.length + j.length ≤ sizeLine ∧ Q (.str (i ++ j)) H) ∨ rCat x y H Q ∨ rCatA K x y H Q
theorem op_addZ : OpR X (binaryOp .Add) (rAddZ X.K) := op_add.or (op_add_str.or (op_cat.or op_catA))
theorem add_z (hK : X.K = M.K) (hw : w ≠ .d) (hf : Same F H) (e : addD a b = .ok d) (ra : RepC M H F a x) (rb : RepC M H F b y) (k : ∀ v H' F', Gr H F H' F' → Res M H H' F' w d v → Q v H') : rAddZ X.K x y H Q := by
  cases a with
  | int i =>
    cases b with
    | int j =>
      cases e
      have e1 : x = .int i := by simpa only [RepC, Rep] using ra
      have e2 : y = .int j := by simpa only [RepC, Rep] using rb
      exact .inl ⟨i, j, e1, e2, k _ _ _ (.refl hf) (atom_res rfl (by simp only [Rep]))⟩
    | _ => cases e
  | str i =>
    cases b with
    | str j =>
      obtain ⟨h1, h2⟩ := chk_ok e
      cases h2
      have e1 : x = .str i := by simpa only [RepC, Rep] using ra
      have e2 : y = .str j := by simpa only [RepC, Rep] using rb
      exact .inr (.inl ⟨i, j, e1, e2, of_decide_eq_true h1, k _ _ _ (.refl hf) (atom_res rfl (by simp only [Rep]))⟩)
    | _ => cases e
  | lst xs =>
    cases b with
    | lst ys =>
      obtain ⟨h1, h2⟩ := chk_ok e
      cases h2
      obtain ⟨l, vs, rfl, q1, z1⟩ := ra
      obtain ⟨m, us, rfl, q2, z2⟩ := rb
      refine .inr (.inr (.inl ⟨l, m, vs, us, rfl, rfl, q1, q2, ?_, fun p hp => ?_⟩))
      · rw [← z1.len, ← z2.len]; exact of_decide_eq_true h1
      · obtain ⟨F', g, r⟩ := list_res (w := w) hw hf hp (z1.append z2)
        exact k _ _ _ g r
    | _ => cases e
  | tup xs =>
    cases b with
    | tup ys =>
      obtain ⟨h1, h2⟩ := chk_ok e
      cases h2
      have ra' : Rep M F (.tup xs) x := ra
      have rb' : Rep M F (.tup ys) y := rb
      simp only [Rep] at ra' rb'
      obtain ⟨l, vs, rfl, q1, z1⟩ := ra'
      obtain ⟨m, us, rfl, q2, z2⟩ := rb'
      have tr : ∀ {t : List D} {v : V}, Rep M F (.tup t) v → Res M H H F w (.tup t) v := fun {t v} r => by
        cases w with
        | d => exact absurd rfl hw
        | w => exact ⟨[], r, fun b hb => by cases hb⟩
        | c => exact r
        | s => exact r
      refine .inr (.inr (.inr ⟨l, m, vs, us, rfl, rfl, by rw [hK]; exact SqT.of (hf _ _ q1), by rw [hK]; exact SqT.of (hf _ _ q2), ?_, fun ev => ?_, fun _ eu => ?_, fun _ _ p hp => ?_⟩))
      · rw [← z1.len, ← z2.len]; exact of_decide_eq_true h1
      · have : xs = [] := List.length_eq_zero_iff.mp (by rw [z1.len, ev]; rfl)
        subst this
        exact k _ _ _ (.refl hf) (tr rb)
      · have : ys = [] := List.length_eq_zero_iff.mp (by rw [z2.len, eu]; rfl)
        subst this
        rw [List.append_nil] at k
        exact k _ _ _ (.refl hf) (tr ra)
      · obtain ⟨F', g, r⟩ := tup_res (w := w) hw hf hp (z1.append z2)
        exact k _ _ _ g r
    | _ => cases e
  | _ => cases e
/-- two ints by an operator -/
theorem int2 {C : Int → Int → Prop} {g : Int → Int → Int} {i j : Int} (hf : Same F H) (ra : RepC M H F (.int i) x) (rb : RepC M H F (.int j) y) (hc : C i j) (k : ∀ v H' F', Gr H F H' F' → Res M H H' F' w (.int (g i j)) v → Q v H') : rI C (fun i j => .int (g i j)) x y H Q := by
  have e1 : x = .int i := by simpa only [RepC, Rep] using ra
  have e2 : y = .int j := by simpa only [RepC, Rep] using rb
  exact ⟨i, j, e1, e2, hc, k _ _ _ (.refl hf) (atom_res rfl (by simp only [Rep]))⟩
theorem int2' {g : Int → Int → Int} {i j : Int} (hf : Same F H) (ra : RepC M H F (.int i) x) (rb : RepC M H F (.int j) y) (k : ∀ v H' F', Gr H F H' F' → Res M H H' F' w (.int (g i j)) v → Q v H') : rI0 (fun i j => .int (g i j)) x y H Q := by
  have e1 : x = .int i := by simpa only [RepC, Rep] using ra
  have e2 : y = .int j := by simpa only [RepC, Rep] using rb
  exact ⟨i, j, e1, e2, k _ _ _ (.refl hf) (atom_res rfl (by simp only [Rep]))⟩
theorem cmul_of {i j : Int} (h : i.natAbs < 2 ^ 64 ∨ j.natAbs < 2 ^ 64) : CMul i j := by
  unfold CMul
  omega
/-- a rule for each operator that is told -/
def OpZ (M : Mx) (X : Cx) (f : Value → Value → Sem Value) (g : D → D → R D) : Prop := ∃ r : R2, OpR X f r ∧ ∀ (H F : Hp) (a b d : D) (x y : V) (w : Wt) (Q : VK), w ≠ .d → Same F H → g a b = .ok d → RepC M H F a x → RepC M H F b y → (∀ v H' F', Gr H F H' F' → Res M H H' F' w d v → Q v H') → r x y H Q
theorem op_binZ (hK : X.K = M.K) (op : Operator) : OpZ M X (binaryOp op) (binD op) := by
  cases op with
  | Add => exact ⟨_, op_addZ, fun H F a b d x y w Q hw hf e ra rb k => add_z hK hw hf e ra rb k⟩
  | Sub =>
    refine ⟨_, op_sub, fun H F a b d x y w Q hw hf e ra rb k => ?_⟩
    cases a with
    | int i => cases b with
      | int j => cases e; exact int2' hf ra rb k
      | _ => cases e
    | _ => cases e
  | Mult =>
    refine ⟨_, op_mul.or op_rep, fun H F a b d x y w Q hw hf e ra rb k => ?_⟩
    cases a with
    | int i => cases b with
      | int j =>
        obtain ⟨h1, h2⟩ := chk_ok e
        cases h2
        exact .inl (int2 hf ra rb (cmul_of (of_decide_eq_true h1)) k)
      | _ => cases e
    | lst xs => cases b with
      | int j =>
        obtain ⟨h1, h2⟩ := chk_ok e
        cases h2
        have h1 := of_decide_eq_true h1
        obtain ⟨l, vs, rfl, q1, z1⟩ := ra
        have e2 : y = .int j := by simpa only [RepC, Rep] using rb
        subst e2
        refine .inr ⟨l, j, vs, rfl, rfl, q1, by omega, by omega, by rw [← z1.len]; exact h1.2.2, fun p hp => ?_⟩
        have zz : ∀ n : Nat, Reps M F (List.replicate n xs).flatten (List.replicate n vs).flatten := fun n => by
          induction n with
          | zero => simp [Reps]
          | succ n ih => rw [List.replicate_succ, List.replicate_succ, List.flatten_cons, List.flatten_cons]; exact z1.append ih
        obtain ⟨F', g, r⟩ := list_res (w := w) hw hf hp (zz j.toNat)
        exact k _ _ _ g r
      | _ => cases e
    | _ => cases e
  | FloorDiv =>
    refine ⟨_, op_fdiv, fun H F a b d x y w Q hw hf e ra rb k => ?_⟩
    cases a with
    | int i => cases b with
      | int j =>
        obtain ⟨h1, h2⟩ := chk_ok e
        cases h2
        have h1 : 0 < j ∧ j < 1073741824 := of_decide_eq_true h1
        exact int2 hf ra rb (show CDiv i j from h1) k
      | _ => cases e
    | _ => cases e
  | Mod =>
    refine ⟨_, op_mod, fun H F a b d x y w Q hw hf e ra rb k => ?_⟩
    cases a with
    | int i => cases b with
      | int j =>
        obtain ⟨h1, h2⟩ := chk_ok e
        cases h2
        exact int2 (C := fun _ j => 0 < j) hf ra rb (of_decide_eq_true h1) k
      | _ => cases e
    | _ => cases e
  | Pow =>
    refine ⟨_, op_pow, fun H F a b d x y w Q hw hf e ra rb k => ?_⟩
    cases a with
    | int i => cases b with
      | int j =>
        obtain ⟨h1, h2⟩ := chk_ok e
        cases h2
        have h1 : 0 ≤ j ∧ j ≤ 1000000 ∧ i.natAbs < 2 ^ 64 := of_decide_eq_true h1
        exact int2 (g := fun i j => i ^ j.toNat) hf ra rb (show CPow i j from h1) k
      | _ => cases e
    | _ => cases e
  | _ => exact ⟨fun _ _ _ _ => False, fun _ _ _ _ _ _ _ _ _ _ _ _ z => z.elim, fun H F a b d x y w Q hw hf e => by cases e⟩

/-! ### comparisons -/
def CmpZ (M : Mx) (X : Cx) (op : CmpOp) : Prop := ∃ r : R2, OpR X (compareOp op) r ∧ ∀ (H : Hp) (a b : D) (c : Bool) (x y : V) (Q : VK), cmpD op a b = .ok c → Rep M H a x → Rep M H b y → Q (.bl c) H → r x y H Q
theorem dat_z {f : PyData → PyData → Option Bool} {c : Bool} (hK : X.K = M.K) (ha : fine a = true) (hb : fine b = true) (ra : Rep M H a x) (rb : Rep M H b y) (e : f (toPy a) (toPy b) = some c) (q : Q (.bl c) H) : rDat X.K f x y H Q := by
  obtain ⟨a1, a2⟩ := fine_iff ha
  obtain ⟨b1, b2⟩ := fine_iff hb
  rw [hK]
  exact ⟨_, _, c, rep_dp a x a1 ra, rep_dp b y b1 rb, a1, b1, a2, b2, e, q⟩
theorem notR_ok {r : R Bool} {c : Bool} (h : notR r = .ok c) : r = .ok (!c) := by
  obtain ⟨b, h1, h2⟩ := R.bind_eq_ok h
  cases h2
  rw [h1, Bool.not_not]
theorem eqD_ok {c : Bool} (h : eqD a b = .ok c) : fine a = true ∧ fine b = true ∧ eqv a b = c := by
  obtain ⟨h1, h2⟩ := chk_ok h
  cases h2
  rw [Bool.and_eq_true] at h1
  exact ⟨h1.1, h1.2, rfl⟩
theorem none_iff {v : V} (h : Rep M H a v) : isNone a = decide (v = .non) := by
  cases a with
  | non => simp only [Rep] at h; subst h; rfl
  | bl _ => simp only [Rep] at h; subst h; rfl
  | int _ => simp only [Rep] at h; subst h; rfl
  | str _ => simp only [Rep] at h; subst h; rfl
  | tup _ => simp only [Rep] at h; obtain ⟨_, _, rfl, _⟩ := h; rfl
  | lst _ => simp only [Rep] at h; obtain ⟨_, _, rfl, _⟩ := h; rfl
  | dic _ _ _ => simp only [Rep] at h; obtain ⟨_, _, rfl, _⟩ := h; rfl
  | obj _ _ _ => simp only [Rep] at h; obtain ⟨_, _, _, _, rfl, _⟩ := h; rfl
  | scr _ => simp only [Rep] at h; obtain ⟨_, rfl, _⟩ := h; rfl
theorem ints_lt {i j : Int} {g : Int → Int → Bool} (ra : Rep M H (.int i) x) (rb : Rep M H (.int j) y) (q : Q (.bl (g i j)) H) : rI0 (fun i j => .bl (g i j)) x y H Q := by
  have e1 : x = .int i := by simpa only [Rep] using ra
  have e2 : y = .int j := by simpa only [Rep] using rb
  exact ⟨i, j, e1, e2, q⟩
/-! ### dicts -/
theorem keyA_rep {H : Hp} {d : D} {v : V} {k : Key} (e : keyA d = some k) (r : Rep M H d v) : v = kV k := by
  cases d with
  | int i => cases e; simp only [Rep] at r; exact r
  | str i => cases e; simp only [Rep] at r; exact r
  | _ => cases e
theorem keyAs_rep {H : Hp} : ∀ {ds : List D} {vs : List V} {ks : List Key}, keyAs ds = some ks → Reps M H ds vs → vs = ks.map kV
  | [], vs, ks, e, r => by cases e; simp only [Reps] at r; exact r
  | d :: ds, vs, ks, e, r => by
    obtain ⟨k, e1, e⟩ := Option.bind_eq_some_iff.mp e
    obtain ⟨kr, e2, e3⟩ := Option.map_eq_some_iff.mp e
    subst e3
    simp only [Reps] at r
    obtain ⟨v, us, rfl, r1, r2⟩ := r
    rw [keyA_rep e1 r1, keyAs_rep e2 r2]
    rfl
theorem val_of {κ : Type} [DecidableEq κ] {F : Hp} {g : κ → List Key} (hg : ∀ a b, g a = g b → a = b) {k : κ} : ∀ {kvs : List (κ × V)} {ds : List D}, Reps M F ds (kvs.map (·.2)) →
    (valV kvs k).isSome = hasK (kvs.map fun p => g p.1) (g k) ∧ (∀ e, getK (kvs.map fun p => g p.1) ds (g k) = some e → ∃ v, valV kvs k = some v ∧ Rep M F e v) ∧ (getK (kvs.map fun p => g p.1) ds (g k) = none → valV kvs k = none)
  | [], ds, r => ⟨rfl, fun e h => (by simp [getK] at h), fun _ => rfl⟩
  | (k2, w) :: kvs, ds, r => by
    cases ds with
    | nil => simp [Reps] at r
    | cons d ds =>
      simp only [List.map_cons, Reps] at r
      obtain ⟨v, us, e, r1, r2⟩ := r
      cases e
      obtain ⟨h1, h2, h3⟩ := val_of hg (k := k) (kvs := kvs) r2
      by_cases hk : k2 = k
      · subst hk
        rw [valV_pos rfl]
        refine ⟨by simp [hasK], fun e h => ?_, fun h => ?_⟩
        · have : d = e := by simpa [getK] using h
          rw [← this]
          exact ⟨_, rfl, r1⟩
        · simp [getK] at h
      · have hk2 : ¬ g k2 = g k := fun z => hk (hg _ _ z)
        rw [valV_neg hk]
        have e1 : getK (List.map (fun p => g p.1) ((k2, w) :: kvs)) (d :: ds) (g k) = getK (kvs.map fun p => g p.1) ds (g k) := by
          simp [getK, hk2]
        have e2 : hasK (List.map (fun p => g p.1) ((k2, w) :: kvs)) (g k) = hasK (kvs.map fun p => g p.1) (g k) := by
          simp [hasK, hk2]
        rw [e1, e2]
        exact ⟨h1, h2, h3⟩
theorem get_dic {H F : Hp} {a : Addr} {t : Bool} {ks : List (List Key)} {us : List V} {ds : List D} {d : D} {y : V} {k : List Key} (h : DicAt H a t ks us) (z : Reps M F ds us) (hk : keyD t d = some k) (r : Rep M H d y) :
    ∃ o, DGet H a y o ∧ o.isSome = hasK ks k ∧ (∀ e, getK ks ds k = some e → ∃ v, o = some v ∧ Rep M F e v) ∧ (getK ks ds k = none → o = none) := by
  cases t with
  | false =>
    obtain ⟨kvs, h, rfl, rfl⟩ := h
    obtain ⟨k0, e1, e2⟩ := Option.map_eq_some_iff.mp hk
    subst e2
    rw [keyA_rep e1 r]
    exact ⟨_, DGet.k h, val_of (g := fun p => [p]) (fun a b e => by simpa using e) z⟩
  | true =>
    obtain ⟨kvs, h, rfl, rfl⟩ := h
    cases d with
    | tup xs =>
      simp only [Rep] at r
      obtain ⟨b, vs, rfl, hb, q⟩ := r
      rw [keyAs_rep hk q] at hb
      exact ⟨_, DGet.t h hb, val_of (g := fun p => p) (fun a b e => e) z⟩
    | _ => cases hk
def rInDic (neg : Bool) : R2 := fun x y H Q => ∃ a o, y = .ref a ∧ DGet H a x o ∧ Q (.bl (xor neg o.isSome)) H
theorem op_inDic (hu : X.A.units + 150 < cLine) : OpR X (compareOp .In) (rInDic false) := by
  intro pins s σ H x y v u Q I rx ry h
  obtain ⟨a, o, rfl, g, q⟩ := h
  obtain rfl : u = Value.ref a := ry
  rw [Bool.false_xor] at q
  exact d_in (by omega) I g rx fun s' I' => ⟨.bl o.isSome, H, I', rfl, q⟩
theorem op_notInDic (hu : X.A.units + 150 < cLine) : OpR X (compareOp .NotIn) (rInDic true) := by
  intro pins s σ H x y v u Q I rx ry h
  obtain ⟨a, o, rfl, g, q⟩ := h
  obtain rfl : u = Value.ref a := ry
  rw [Bool.true_xor] at q
  exact d_notIn (by omega) I g rx fun s' I' => ⟨.bl (!o.isSome), H, I', rfl, q⟩
theorem inDic_z {neg : Bool} {c : Bool} {t : Bool} {ks : List (List Key)} {ds : List D} (e : inD a (.dic t ks ds) = .ok (xor neg c)) (ra : Rep M H a x) (rb : Rep M H (.dic t ks ds) y) (q : Q (.bl c) H) : rInDic neg x y H Q := by
  simp only [Rep] at rb
  obtain ⟨p, us, rfl, h, z⟩ := rb
  have e : (match keyD t a with | some k => R.ok (hasK ks k) | none => R.no) = R.ok (xor neg c) := e
  split at e
  · rename_i k hk
    obtain ⟨o, g, h1, _⟩ := get_dic h z hk ra
    refine ⟨p, o, rfl, g, ?_⟩
    rw [h1, R.ok.inj e]
    cases neg <;> cases c <;> exact q
  · cases e
theorem in_z {neg : Bool} {c : Bool} (hK : X.K = M.K) (hnd : ∀ t ks ds, b ≠ .dic t ks ds) (e : inD a b = .ok (xor neg c)) (ra : Rep M H a x) (rb : Rep M H b y) (q : Q (.bl c) H) :
    (∃ (c0 : Nat) (z : Str), x = .str ⟨#[c0]⟩ ∧ y = .str z ∧ Q (.bl (xor neg (decide (c0 ∈ z.cps.toList)))) H) ∨ rDat X.K (fIn neg) x y H Q := by
  cases b with
  | lst ys =>
    obtain ⟨h1, h2⟩ := chk_ok e
    rw [Bool.and_eq_true] at h1
    refine .inr (dat_z hK h1.1 h1.2 ra rb ?_ q)
    have e3 := R.ok.inj h2
    have e4 : (toPys ys).any (fun y => PyData.eqv y (toPy a)) = ys.any fun y => eqv y a := by rw [toPys_map, List.any_map]; rfl
    simp only [toPy, fIn, e4, e3]
    cases neg <;> cases c <;> rfl
  | tup ys =>
    obtain ⟨h1, h2⟩ := chk_ok e
    rw [Bool.and_eq_true] at h1
    refine .inr (dat_z hK h1.1 h1.2 ra rb ?_ q)
    have e3 := R.ok.inj h2
    have e4 : (toPys ys).any (fun y => PyData.eqv y (toPy a)) = ys.any fun y => eqv y a := by rw [toPys_map, List.any_map]; rfl
    simp only [toPy, fIn, e4, e3]
    cases neg <;> cases c <;> rfl
  | str z =>
    cases a with
    | str s =>
      obtain ⟨h1, h2⟩ := chk_ok e
      have h1 : s.cps.size = 1 := of_decide_eq_true h1
      have e1 : x = .str s := by simpa only [Rep] using ra
      have e2 : y = .str z := by simpa only [Rep] using rb
      obtain ⟨c0, hc⟩ : ∃ c0, s = ⟨#[c0]⟩ := by
        obtain ⟨arr⟩ := s
        have : arr.size = 1 := h1
        refine ⟨arr[0]'(by omega), ?_⟩
        congr 1
        apply Array.ext
        · simp [this]
        · intro i h3 h4
          have : i = 0 := by omega
          subst this
          rfl
      subst hc
      refine .inl ⟨c0, z, e1, e2, ?_⟩
      have e3 := R.ok.inj h2
      have e4 : decide (c0 ∈ z.cps.toList) = xor neg c := e3
      rw [e4]
      cases neg <;> cases c <;> exact q
    | _ => cases e
  | dic t ks ds => exact absurd rfl (hnd t ks ds)
  | _ => cases e
theorem op_cmpZ (hK : X.K = M.K) (hu : X.A.units + 150 < cLine) (op : CmpOp) : CmpZ M X op := by
  cases op with
  | Eq =>
    refine ⟨_, op_eqP hu, fun H a b c x y Q e ra rb q => ?_⟩
    obtain ⟨h1, h2, h3⟩ := eqD_ok e
    exact dat_z hK h1 h2 ra rb (congrArg some h3) q
  | NotEq =>
    refine ⟨_, op_neP hu, fun H a b c x y Q e ra rb q => ?_⟩
    obtain ⟨h1, h2, h3⟩ := eqD_ok (notR_ok e)
    refine dat_z hK h1 h2 ra rb ?_ q
    have h3 : PyData.eqv (toPy a) (toPy b) = !c := h3
    rw [h3, Bool.not_not]
  | Lt =>
    refine ⟨_, op_lt.or (op_lt_str.or (op_ltP hu)), fun H a b c x y Q e ra rb q => ?_⟩
    have srt : ∀ {a b : D}, sorts a b = true → Rep M H a x → Rep M H b y → Q (.bl (lt a b)) H → rDat X.K fLt x y H Q := fun {a b} s ra rb q => by
      unfold sorts at s
      simp only [Bool.and_eq_true] at s
      obtain ⟨⟨⟨s1, s2⟩, s3⟩, s4⟩ := s
      refine dat_z hK s2 s3 ra rb ?_ q
      unfold fLt
      have : isPyNone (toPy a) = false := by
        cases a <;> first | (exact Bool.noConfusion s4) | rfl
      rw [this, s1]
      rfl
    cases a with
    | int i => cases b with
      | int j => cases e; exact .inl (ints_lt (g := fun i j => decide (i < j)) ra rb q)
      | _ => cases e
    | str i => cases b with
      | str j =>
        cases e
        have e1 : x = .str i := by simpa only [Rep] using ra
        have e2 : y = .str j := by simpa only [Rep] using rb
        exact .inr (.inl ⟨i, j, e1, e2, q⟩)
      | _ => cases e
    | lst xs => cases b with
      | lst ys => obtain ⟨h1, h2⟩ := chk_ok e; cases h2; exact .inr (.inr (srt h1 ra rb q))
      | _ => cases e
    | tup xs => cases b with
      | tup ys => obtain ⟨h1, h2⟩ := chk_ok e; cases h2; exact .inr (.inr (srt h1 ra rb q))
      | _ => cases e
    | _ => cases e
  | LtE =>
    refine ⟨_, op_le, fun H a b c x y Q e ra rb q => ?_⟩
    cases a with
    | int i => cases b with
      | int j => cases e; exact ints_lt (g := fun i j => decide (i ≤ j)) ra rb q
      | _ => cases e
    | _ => cases e
  | Gt =>
    refine ⟨_, op_gt, fun H a b c x y Q e ra rb q => ?_⟩
    cases a with
    | int i => cases b with
      | int j => cases e; exact ints_lt (g := fun i j => decide (j < i)) ra rb q
      | _ => cases e
    | _ => cases e
  | GtE =>
    refine ⟨_, op_ge, fun H a b c x y Q e ra rb q => ?_⟩
    cases a with
    | int i => cases b with
      | int j => cases e; exact ints_lt (g := fun i j => decide (j ≤ i)) ra rb q
      | _ => cases e
    | _ => cases e
  | Is =>
    refine ⟨_, op_isN.or op_isBl, fun H a b c x y Q e ra rb q => ?_⟩
    cases b with
    | non =>
      have e2 : y = .non := by simpa only [Rep] using rb
      have e3 : isNone a = c := by cases a <;> exact R.ok.inj e
      rw [none_iff ra] at e3
      exact .inl ⟨e2, by rw [e3]; exact q⟩
    | bl b =>
      cases a with
      | bl a =>
        have e3 : decide (a = b) = c := R.ok.inj e
        exact .inr ⟨a, b, by simpa only [Rep] using ra, by simpa only [Rep] using rb, by rw [e3]; exact q⟩
      | _ => cases e
    | _ => cases a <;> cases e
  | IsNot =>
    refine ⟨_, op_notN.or op_notBl, fun H a b c x y Q e ra rb q => ?_⟩
    have e := notR_ok e
    cases b with
    | non =>
      have e2 : y = .non := by simpa only [Rep] using rb
      have e3 : isNone a = !c := by cases a <;> exact R.ok.inj e
      rw [none_iff ra] at e3
      exact .inl ⟨e2, by rw [e3, Bool.not_not]; exact q⟩
    | bl b =>
      cases a with
      | bl a =>
        have e3 : decide (a = b) = !c := R.ok.inj e
        exact .inr ⟨a, b, by simpa only [Rep] using ra, by simpa only [Rep] using rb, by rw [e3, Bool.not_not]; exact q⟩
      | _ => cases e
    | _ => cases a <;> cases e
  | In => exact ⟨_, (op_in_sign.or (op_inP hu)).or (op_inDic hu), fun H a b c x y Q e ra rb q => by
      cases b with
      | dic t ks ds => exact .inr (inDic_z (by rw [Bool.false_xor]; exact e) ra rb q)
      | _ =>
        refine .inl ?_
        have z := in_z (neg := false) (c := c) hK (fun _ _ _ z => by cases z) (by rw [Bool.false_xor]; exact e) ra rb q
        simpa only [Bool.false_xor] using z⟩
  | NotIn => exact ⟨_, (op_notIn_sign.or (op_notInP hu)).or (op_notInDic hu), fun H a b c x y Q e ra rb q => by
      cases b with
      | dic t ks ds => exact .inr (inDic_z (by rw [Bool.true_xor]; exact notR_ok e) ra rb q)
      | _ =>
        refine .inl ?_
        have z := in_z (neg := true) (c := c) hK (fun _ _ _ z => by cases z) (by rw [Bool.true_xor]; exact notR_ok e) ra rb q
        simpa only [Bool.true_xor] using z⟩

/-! ### truth, subscripts, slices -/
theorem tru_z {k : Bool} (hK : X.K = M.K) (e : truD d = .ok k) (r : Rep M H d x) : TruV X.K x H k := by
  cases d with
  | non => cases e; simp only [Rep] at r; subst r; rfl
  | bl b => cases e; simp only [Rep] at r; subst r; rfl
  | int b => cases e; simp only [Rep] at r; subst r; rfl
  | str b =>
    obtain ⟨h1, h2⟩ := chk_ok e
    cases h2
    simp only [Rep] at r
    subst r
    refine ⟨of_decide_eq_true h1, ?_⟩
    cases b.length with
    | zero => rfl
    | succ n => simp; omega
  | tup xs =>
    cases e
    simp only [Rep] at r
    obtain ⟨a, vs, rfl, q, z⟩ := r
    refine .inr (.inl ⟨vs, SqT.of q, ?_⟩)
    have l := z.len
    cases xs <;> cases vs <;> first | rfl | (simp at l)
  | lst xs =>
    cases e
    simp only [Rep] at r
    obtain ⟨a, vs, rfl, q, z⟩ := r
    refine .inl ⟨vs, .inl (.inl q), ?_⟩
    have l := z.len
    cases xs <;> cases vs <;> first | rfl | (simp at l)
  | dic t ks ds =>
    obtain ⟨h1, h2⟩ := chk_ok e
    cases h2
    cases t with
    | true => cases h1
    | false =>
      simp only [Rep] at r
      obtain ⟨a, us, rfl, ⟨kvs, q, rfl, rfl⟩, z⟩ := r
      exact .inr (.inr ⟨kvs, q, by cases kvs <;> rfl⟩)
  | _ => cases e
def rIxDic : R2 := fun x y H Q => ∃ a v, x = .ref a ∧ DGet H a y (some v) ∧ Q v H
theorem ix_dic (hu : X.A.units + 1 < cLine) : IxR X rIxDic := by
  intro value slice pins s σ H x y v u Q I rx ry h hs
  obtain ⟨a, z, rfl, g, q⟩ := h
  obtain rfl : v = Value.ref a := rx
  have hT := dict_typeIs I g
  unfold subscriptTail
  refine wpAny_bind ?_
  rw [getitemInPython_of_ne hT.not_modules]
  refine wpAny_bind (wpAny_specialOf hT PySem.F.slot_dict_getitem.lookup ?_)
  have fin : wpAny (model X.prog X.w) X.A (subscripted slice false (.ref a) u) (fun r s₃ => wpAny (model X.prog X.w) X.A (letTemporaryGo value (.ref a) r >>= fun _ => pure r) (EP X pins σ Q) X.xe s₃) X.xe s := by
    rw [hs]
    exact wpAny_operating (d_getItem hu I g ry fun w' s3 I3 rw' => wpAny_bind (wpAny_letTemporaryGo (wpAny_pure ⟨z, H, I3, rw', q⟩)))
  first
    | exact wpAny_pure (wpAny_bind fin)
    | exact wpAny_bind fin
theorem atI_get {α : Type} {xs : List α} {i : Int} {d : α} (h : atI xs i = some d) : ∃ j, ixN xs.length i = some j ∧ xs[j]? = some d := by
  unfold atI at h
  cases q : ixN xs.length i with
  | none => rw [q] at h; cases h
  | some j => rw [q] at h; exact ⟨j, rfl, h⟩
theorem atI_of {α : Type} {xs : List α} {i : Int} {j : Nat} {d : α} (h : ixN xs.length i = some j) (e : xs[j]? = some d) : atI xs i = some d := by
  unfold atI
  rw [h]
  exact e
theorem ix_y (hK : X.K = M.K) (hnd : ∀ t ks ds, a ≠ .dic t ks ds) (hf : Same F H) (e : ixD a b = .ok d) (ra : RepC M H F a x) (rb : Rep M H b y) (k : ∀ v, Rep M F d v → Q v H) : rIx X.K x y H Q := by
  cases b with
  | int i =>
    have e2 : y = .int i := by simpa only [Rep] using rb
    subst e2
    cases a with
    | lst xs =>
      obtain ⟨l, vs, rfl, q, z⟩ := ra
      simp only [ixD] at e
      split at e
      · rename_i d' hd
        cases e
        obtain ⟨j, h1, h2⟩ := atI_get hd
        obtain ⟨v, h3, h4⟩ := z.get h2
        exact .inl ⟨l, vs, i, v, rfl, rfl, .inl (.inl q), atI_of (by rw [← z.len]; exact h1) h3, k v h4⟩
      · cases e
    | tup xs =>
      have ra : Rep M F (.tup xs) x := ra
      simp only [Rep] at ra
      obtain ⟨l, vs, rfl, q, z⟩ := ra
      simp only [ixD] at e
      split at e
      · rename_i d' hd
        cases e
        obtain ⟨j, h1, h2⟩ := atI_get hd
        obtain ⟨v, h3, h4⟩ := z.get h2
        exact .inr (.inl ⟨l, vs, i, v, rfl, rfl, by rw [hK]; exact SqT.of (hf _ _ q), atI_of (by rw [← z.len]; exact h1) h3, k v h4⟩)
      · cases e
    | scr ns =>
      have ra : Rep M F (.scr ns) x := ra
      simp only [Rep] at ra
      obtain ⟨l, rfl, q⟩ := ra
      simp only [ixD] at e
      split at e
      · rename_i n hd
        cases e
        obtain ⟨j, h1, h2⟩ := atI_get hd
        exact .inl ⟨l, _, i, .int n, rfl, rfl, by rw [hK]; exact hf.seq q, atI_of (by rw [List.length_map]; exact h1) (by rw [List.getElem?_map, h2]; rfl), k _ (by simp only [Rep])⟩
      · cases e
    | str z =>
      have e1 : x = .str z := by simpa only [RepC, Rep] using ra
      subst e1
      obtain ⟨h1, h2⟩ := chk_ok e
      split at h2
      · rename_i c hc
        cases h2
        exact .inr (.inr ⟨z, i, c, rfl, rfl, of_decide_eq_true h1, hc, k _ (by simp only [Rep])⟩)
      · cases h2
    | dic t ks ds => exact absurd rfl (hnd t ks ds)
    | _ => cases e
  | _ => cases a <;> first | (cases e; done) | exact absurd rfl (hnd _ _ _)
def rIxZ (K : PySem.W.Frag) : R2 := fun x y H Q => rIx K x y H Q ∨ rIxDic x y H Q
theorem ix_seqZ (hu : X.A.units + 1 < cLine) : IxR X (rIxZ X.K) := ix_seq.or (ix_dic hu)
theorem ix_z (hK : X.K = M.K) (hf : Same F H) (e : ixD a b = .ok d) (ra : RepC M H F a x) (rb : Rep M H b y) (k : ∀ v, Rep M F d v → Q v H) : rIxZ X.K x y H Q := by
  cases a with
  | dic t ks ds =>
    obtain ⟨p, us, rfl, h, z⟩ := ra
    have e : (match keyD t b with | some k => (match getK ks ds k with | some d => R.ok d | none => R.no) | none => R.no) = R.ok d := by cases b <;> exact e
    split at e
    · rename_i k0 hk
      obtain ⟨o, g, h1, h2, h3⟩ := get_dic h z hk rb
      split at e
      · rename_i d' hd
        cases e
        obtain ⟨v, h4, h5⟩ := h2 _ hd
        subst h4
        exact .inr ⟨p, v, rfl, g, k v h5⟩
      · cases e
    · cases e
  | _ => exact .inl (ix_y hK (fun _ _ _ z => by cases z) hf e ra rb k)
end
end Z
/-! Z, part E: built-ins and iterables by data. -/
namespace Z
open PySem PySem.Spec PyProof.Rows L2

theorem Gr.off {H F H' F' : Hp} (g : Gr H F H' F') {p : Addr} (hf : F p = none) (hh : H p ≠ none) : F' p = none := by
  cases q : F' p with
  | none => rfl
  | some o =>
    rcases g.new p (by rw [q]; simp) with z | z
    · exact absurd hf z
    · exact absurd z hh
/-- an object outside of F is written -/
theorem Gr.write {H F H' F' : Hp} (g : Gr H F H' F') {p : Addr} {o : HO} (hp : H p = none) (hf : F' p = none) : Gr H F (upd H' p o) F' where
  h := fun b u e => by rw [upd_ne (ne_of_none e hp)]; exact g.h b u e
  f := g.f
  fh := fun b u e => by rw [upd_ne (ne_of_none e hf)]; exact g.fh b u e
  new := g.new

def RepW (M : Mx) (H F : Hp) (w : Wt) : D → V → Prop := match w with
  | .c => RepC M H F
  | _ => Rep M F
theorem RepW.same {M : Mx} {H F H' F' : Hp} {w : Wt} {d : D} {v : V} (h : Same H H') (f : Same F F') (x : RepW M H F w d v) : RepW M H' F' w d v := by
  cases w <;> first | exact RepC.same h f x | exact Rep.same f _ _ x
theorem RepW.c {M : Mx} {H F : Hp} {w : Wt} {d : D} {v : V} (h : Same F H) (x : RepW M H F w d v) : RepC M H F d v := by
  cases w <;> first | exact x | exact RepC.of h x
theorem RepW.res {M : Mx} {H0 H F : Hp} {w : Wt} {d : D} {v : V} (hw : w = .c ∨ w = .s) (x : Res M H0 H F w d v) : RepW M H F w d v := by
  rcases hw with rfl | rfl <;> exact x
abbrev RepWs (M : Mx) (H F : Hp) (w : Wt) : List D → List V → Prop := Paired (RepW M H F w)
theorem RepWs.same {M : Mx} {H F H' F' : Hp} {w : Wt} {ds : List D} {vs : List V} (h : Same H H') (f : Same F F') (x : RepWs M H F w ds vs) : RepWs M H' F' w ds vs := Paired.mapP x fun _ _ => RepW.same h f
theorem RepWs.reps {M : Mx} {H F : Hp} : ∀ {ds : List D} {vs : List V}, RepWs M H F .s ds vs → Reps M F ds vs
  | _, _, .nil => by simp [Reps]
  | _, _, .cons r t => Reps.cons r (RepWs.reps t)

/-! ### built-in functions -/
/-- a rule by data for a built-in of one argument -/
def BltZ (M : Mx) (X : Cx) (f : Value) (g : D → R D) : Prop := ∃ r, CallR X f r ∧ ∀ (H F : Hp) (a d : D) (x : V) (w : Wt) (Q : VK), w ≠ .d → Same F H → g a = .ok d → RepC M H F a x → (∀ v H' F', Gr H F H' F' → Res M H H' F' w d v → Q v H') → r [x] H Q
section
variable {M : Mx} {X : Cx}
theorem boolsOf_ok {F : Hp} : ∀ {ds : List D} {bs : List Bool} {vs : List V}, boolsOf ds = .ok bs → Reps M F ds vs → vs = bs.map V.bl
  | [], bs, vs, e, r => by cases e; simpa [Reps] using r
  | d :: ds, bs, vs, e, r => by
    simp only [Reps] at r
    obtain ⟨v, us, rfl, r1, r2⟩ := r
    cases d with
    | bl b =>
      obtain ⟨cs, h1, h2⟩ := R.bind_eq_ok e
      cases h2
      simp only [Rep] at r1
      rw [r1, boolsOf_ok h1 r2]
      rfl
    | _ => cases e
theorem intsOf_ok {F : Hp} : ∀ {ds : List D} {bs : List Int} {vs : List V}, intsOf ds = .ok bs → Reps M F ds vs → vs = bs.map V.int
  | [], bs, vs, e, r => by cases e; simpa [Reps] using r
  | d :: ds, bs, vs, e, r => by
    simp only [Reps] at r
    obtain ⟨v, us, rfl, r1, r2⟩ := r
    cases d with
    | int b =>
      obtain ⟨cs, h1, h2⟩ := R.bind_eq_ok e
      cases h2
      simp only [Rep] at r1
      rw [r1, intsOf_ok h1 r2]
      rfl
    | _ => cases e
theorem blt_len (hK : X.K = M.K) : BltZ M X (.builtin "len") lenD := by
  refine ⟨_, (call_len.or call_lenD).or call_len_dT, fun H F a d x w Q hw hf e r1 k => ?_⟩
  have done : ∀ {n : Int}, d = .int n → Q (.int n) H := fun {n} ed => k _ _ _ (.refl hf) (by rw [ed]; exact atom_res rfl (by simp only [Rep]))
  cases a with
  | lst xs =>
    cases e
    obtain ⟨l, us, rfl, q, z⟩ := r1
    exact .inl (.inl ⟨_, xs.length, rfl, .inl ⟨us, .inl (.inl q), z.len⟩, done rfl⟩)
  | tup xs =>
    cases e
    have r1 : Rep M F (.tup xs) x := r1
    simp only [Rep] at r1
    obtain ⟨l, us, rfl, q, z⟩ := r1
    exact .inl (.inl ⟨_, xs.length, rfl, .inr ⟨us, by rw [hK]; exact SqT.of (hf _ _ q), z.len⟩, done rfl⟩)
  | scr ns =>
    cases e
    have r1 : Rep M F (.scr ns) x := r1
    simp only [Rep] at r1
    obtain ⟨l, rfl, q⟩ := r1
    exact .inl (.inl ⟨_, ns.length, rfl, .inl ⟨_, by rw [hK]; exact hf.seq q, (List.length_map ..).symm⟩, done rfl⟩)
  | str z =>
    obtain ⟨h1, h2⟩ := chk_ok e
    cases h2
    have e1 : x = .str z := by simpa only [RepC, Rep] using r1
    subst e1
    exact .inl (.inl ⟨_, z.length, rfl, ⟨of_decide_eq_true h1, rfl⟩, done rfl⟩)
  | dic t ks ds =>
    cases e
    obtain ⟨l, us, rfl, q, z⟩ := r1
    cases t with
    | false =>
      obtain ⟨kvs, q, rfl, rfl⟩ := q
      exact .inl (.inr ⟨l, kvs, rfl, q, done (by rw [List.length_map])⟩)
    | true =>
      obtain ⟨kvs, q, rfl, rfl⟩ := q
      exact .inr ⟨l, kvs, rfl, q, done (by rw [List.length_map])⟩
  | _ => cases e
theorem blt_all (hc : X.calm = true) : BltZ M X (.builtin "all") allD := by
  refine ⟨_, cr_all hc, fun H F a d x w Q hw hf e r k => ?_⟩
  cases a with
  | lst xs =>
    obtain ⟨bs, h1, h2⟩ := R.bind_eq_ok e
    cases h2
    obtain ⟨a, us, rfl, q, z⟩ := r
    exact ⟨a, bs, rfl, .inl (.inl (by rw [q, boolsOf_ok h1 z])), k _ _ _ (.refl hf) (atom_res rfl (by simp only [Rep]))⟩
  | _ => cases e
theorem blt_any (hc : X.calm = true) : BltZ M X (.builtin "any") anyD := by
  refine ⟨_, cr_any hc, fun H F a d x w Q hw hf e r k => ?_⟩
  cases a with
  | lst xs =>
    obtain ⟨bs, h1, h2⟩ := R.bind_eq_ok e
    cases h2
    obtain ⟨a, us, rfl, q, z⟩ := r
    exact ⟨a, bs, rfl, .inl (.inl (by rw [q, boolsOf_ok h1 z])), k _ _ _ (.refl hf) (atom_res rfl (by simp only [Rep]))⟩
  | _ => cases e
theorem blt_sum (hc : X.calm = true) : BltZ M X (.builtin "sum") sumD := by
  refine ⟨_, cr_sum hc, fun H F a d x w Q hw hf e r k => ?_⟩
  cases a with
  | lst xs =>
    obtain ⟨bs, h1, h2⟩ := R.bind_eq_ok e
    cases h2
    obtain ⟨a, us, rfl, q, z⟩ := r
    exact ⟨a, bs, rfl, .inl (.inl (by rw [q, intsOf_ok h1 z])), k _ _ _ (.refl hf) (atom_res rfl (by simp only [Rep]))⟩
  | _ => cases e
theorem blt_int : BltZ M X (.type "int") intD := by
  refine ⟨_, call_int1, fun H F a d x w Q hw hf e r k => ?_⟩
  cases a with
  | int i =>
    cases e
    have e1 : x = .int i := by simpa only [RepC, Rep] using r
    subst e1
    exact .inl ⟨i, rfl, k _ _ _ (.refl hf) (atom_res rfl (by simp only [Rep]))⟩
  | bl b =>
    cases e
    have e1 : x = .bl b := by simpa only [RepC, Rep] using r
    subst e1
    exact .inr ⟨b, rfl, k _ _ _ (.refl hf) (atom_res rfl (by simp only [Rep]))⟩
  | _ => cases e
theorem blt_str : BltZ M X (.type "str") strD := by
  refine ⟨_, call_str_int, fun H F a d x w Q hw hf e r k => ?_⟩
  cases a with
  | int i =>
    obtain ⟨h1, h2⟩ := chk_ok e
    cases h2
    have e1 : x = .int i := by simpa only [RepC, Rep] using r
    subst e1
    have h1 : i.natAbs < 2 ^ 1000 := of_decide_eq_true h1
    refine ⟨i, rfl, ?_, k _ _ _ (.refl hf) (atom_res rfl (by simp only [Rep]))⟩
    by_cases h0 : i.natAbs = 0
    · rw [h0]; decide
    · have := (Nat.log2_lt h0).mpr h1
      omega
  | _ => cases e
theorem keys_reps {F : Hp} : ∀ kvs : List (Key × V), Reps M F ((kvs.map fun p => [p.1]).map (keyT false)) (kvs.map fun kv => kV kv.1)
  | [] => by simp [Reps]
  | (.inl i, w) :: kvs => Reps.cons (by simp only [keyT, Rep]; rfl) (keys_reps kvs)
  | (.inr i, w) :: kvs => Reps.cons (by simp only [keyT, Rep]; rfl) (keys_reps kvs)
theorem blt_list (hK : X.K = M.K) (hc : X.calm = true) : BltZ M X (.type "list") listD := by
  refine ⟨_, call_list_of.or (call_listD hc), fun H F a d x w Q hw hf e r k => ?_⟩
  cases a with
  | lst xs =>
    cases e
    obtain ⟨a, us, rfl, q, z⟩ := r
    refine .inl ⟨a, us, rfl, .inl (.inl (.inl q)), fun p hp => ?_⟩
    obtain ⟨F', g, r⟩ := list_res (w := w) hw hf hp z
    exact k _ _ _ g r
  | tup xs =>
    cases e
    have r : Rep M F (.tup xs) x := r
    simp only [Rep] at r
    obtain ⟨a, us, rfl, q, z⟩ := r
    refine .inl ⟨a, us, rfl, .inr (by rw [hK]; exact SqT.of (hf _ _ q)), fun p hp => ?_⟩
    obtain ⟨F', g, r⟩ := list_res (w := w) hw hf hp z
    exact k _ _ _ g r
  | dic t ks ds =>
    obtain ⟨h1, h2⟩ := chk_ok e
    cases h2
    cases t with
    | true => cases h1
    | false =>
      obtain ⟨l, us, rfl, q, z⟩ := r
      obtain ⟨kvs, q, rfl, rfl⟩ := q
      refine .inr ⟨l, kvs, rfl, .inl q, fun p hp => ?_⟩
      obtain ⟨F', g, r⟩ := list_res (w := w) hw hf hp (keys_reps kvs)
      exact k _ _ _ g r
  | _ => cases e
/-- a rule by data for a built-in of one or two arguments -/
theorem minI_is : ∀ {ns : List Int} {m : Int}, minI ns = some m → m ∈ ns ∧ ∀ y ∈ ns, m ≤ y
  | [], m, h => by cases h
  | i :: r, m, h => by
    unfold minI at h
    cases q : minI r with
    | none =>
      rw [q] at h
      cases h
      have : r = [] := by cases r with | nil => rfl | cons a b => simp [minI] at q
      subst this
      exact ⟨List.mem_cons_self, fun y hy => by have e : y = i := by simpa using hy
                                                rw [e]; exact Int.le_refl _⟩
    | some j =>
      rw [q] at h
      obtain ⟨h1, h2⟩ := minI_is q
      have h : (if j < i then j else i) = m := by simpa using h
      by_cases hij : j < i
      · rw [if_pos hij] at h
        subst h
        refine ⟨List.mem_cons_of_mem _ h1, fun y hy => ?_⟩
        rcases List.mem_cons.mp hy with e | e
        · omega
        · exact h2 y e
      · rw [if_neg hij] at h
        subst h
        refine ⟨List.mem_cons_self, fun y hy => ?_⟩
        rcases List.mem_cons.mp hy with e | e
        · omega
        · have := h2 y e; omega
theorem maxI_is : ∀ {ns : List Int} {m : Int}, maxI ns = some m → m ∈ ns ∧ ∀ y ∈ ns, y ≤ m
  | [], m, h => by cases h
  | i :: r, m, h => by
    unfold maxI at h
    cases q : maxI r with
    | none =>
      rw [q] at h
      cases h
      have : r = [] := by cases r with | nil => rfl | cons a b => simp [maxI] at q
      subst this
      exact ⟨List.mem_cons_self, fun y hy => by have e : y = i := by simpa using hy
                                                rw [e]; exact Int.le_refl _⟩
    | some j =>
      rw [q] at h
      obtain ⟨h1, h2⟩ := maxI_is q
      have h : (if i < j then j else i) = m := by simpa using h
      by_cases hij : i < j
      · rw [if_pos hij] at h
        subst h
        refine ⟨List.mem_cons_of_mem _ h1, fun y hy => ?_⟩
        rcases List.mem_cons.mp hy with e | e
        · omega
        · exact h2 y e
      · rw [if_neg hij] at h
        subst h
        refine ⟨List.mem_cons_self, fun y hy => ?_⟩
        rcases List.mem_cons.mp hy with e | e
        · omega
        · have := h2 y e; omega
theorem blt_bool : BltZ M X (.type "bool") boolD := by
  refine ⟨_, call_bool1, fun H F a d x w Q hw hf e r k => ?_⟩
  cases a with
  | bl b =>
    cases e
    have e1 : x = .bl b := by simpa only [RepC, Rep] using r
    subst e1
    exact .inr ⟨b, rfl, k _ _ _ (.refl hf) (atom_res rfl (by simp only [Rep]))⟩
  | _ => cases e
def BltZs (M : Mx) (X : Cx) (f : Value) (g : List D → R D) : Prop := ∃ r, CallR X f r ∧ ∀ (H F : Hp) (as : List D) (d : D) (xs : List V) (w : Wt) (Q : VK), w ≠ .d → Same F H → g as = .ok d → RepWs M H F .c as xs → (∀ v H' F', Gr H F H' F' → Res M H H' F' w d v → Q v H') → r xs H Q
theorem BltZ.many {f : Value} {g : D → R D} (h : BltZ M X f g) : BltZs M X f (one g) := by
  obtain ⟨r, h1, h2⟩ := h
  refine ⟨r, h1, fun H F as d xs w Q hw hf e q k => ?_⟩
  cases q with
  | nil => cases e
  | cons q1 q =>
    cases q with
    | nil => exact h2 H F _ d _ w Q hw hf e q1 k
    | cons _ _ => cases e
theorem mnmx_ok {f : List Int → Option Int} {as : List D} {d : D} (e : mnmx f as = .ok d) : (∃ ds is m, as = [.lst ds] ∧ intsOf ds = .ok is ∧ f is = some m ∧ d = .int m) ∨ ∃ i j m, as = [.int i, .int j] ∧ f [i, j] = some m ∧ d = .int m := by
  unfold mnmx at e
  split at e
  · obtain ⟨is, h1, e⟩ := R.bind_eq_ok e
    split at e
    · rename_i m hm
      cases e
      exact .inl ⟨_, is, m, rfl, h1, hm, rfl⟩
    · cases e
  · split at e
    · rename_i m hm
      cases e
      exact .inr ⟨_, _, m, rfl, hm, rfl⟩
    · cases e
  · cases e
theorem ws1 {H F : Hp} {a : D} {xs : List V} (h : RepWs M H F .c [a] xs) : ∃ x, xs = [x] ∧ RepC M H F a x := by
  cases h with
  | cons h1 h2 => cases h2 with | nil => exact ⟨_, rfl, h1⟩
theorem ws2 {H F : Hp} {a b : D} {xs : List V} (h : RepWs M H F .c [a, b] xs) : ∃ x y, xs = [x, y] ∧ RepC M H F a x ∧ RepC M H F b y := by
  cases h with
  | cons h1 h2 => cases h2 with | cons h2 h3 => cases h3 with | nil => exact ⟨_, _, rfl, h1, h2⟩
theorem blt_min (hc : X.calm = true) : BltZs M X (.builtin "min") (mnmx minI) := by
  refine ⟨_, (cr_min hc).or (call_min2 hc), fun H F as d xs w Q hw hf e q k => ?_⟩
  have fin : ∀ m, d = .int m → Q (.int m) H := fun m e => k _ _ _ (.refl hf) (by rw [e]; exact atom_res rfl (by simp only [Rep]))
  rcases mnmx_ok e with ⟨ds, is, m, rfl, h1, h2, h3⟩ | ⟨i, j, m, rfl, h2, h3⟩
  · obtain ⟨x, rfl, a, us, rfl, q, z⟩ := ws1 q
    have := intsOf_ok h1 z
    subst this
    obtain ⟨m1, m2⟩ := minI_is h2
    refine .inl ⟨a, is, rfl, .inl (.inl q), by cases is with | nil => cases h2 | cons _ _ => simp, fun n n1 n2 => ?_⟩
    have e1 := n2 m m1
    have e2 := m2 n n1
    have : n = m := by omega
    rw [this]
    exact fin m h3
  · obtain ⟨x, y, rfl, rx, ry⟩ := ws2 q
    have e1 : x = .int i := by simpa only [RepC, Rep] using rx
    have e2 : y = .int j := by simpa only [RepC, Rep] using ry
    subst e1 e2
    refine .inr ⟨i, j, rfl, ?_⟩
    have : m = if j < i then j else i := by simpa [minI] using h2.symm
    rw [← this]
    exact fin m h3
theorem blt_max (hc : X.calm = true) : BltZs M X (.builtin "max") (mnmx maxI) := by
  refine ⟨_, (cr_max hc).or (call_max2 hc), fun H F as d xs w Q hw hf e q k => ?_⟩
  have fin : ∀ m, d = .int m → Q (.int m) H := fun m e => k _ _ _ (.refl hf) (by rw [e]; exact atom_res rfl (by simp only [Rep]))
  rcases mnmx_ok e with ⟨ds, is, m, rfl, h1, h2, h3⟩ | ⟨i, j, m, rfl, h2, h3⟩
  · obtain ⟨x, rfl, a, us, rfl, q, z⟩ := ws1 q
    have := intsOf_ok h1 z
    subst this
    obtain ⟨m1, m2⟩ := maxI_is h2
    refine .inl ⟨a, is, rfl, .inl (.inl q), by cases is with | nil => cases h2 | cons _ _ => simp, fun n n1 n2 => ?_⟩
    have e1 := n2 m m1
    have e2 := m2 n n1
    have : n = m := by omega
    rw [this]
    exact fin m h3
  · obtain ⟨x, y, rfl, rx, ry⟩ := ws2 q
    have e1 : x = .int i := by simpa only [RepC, Rep] using rx
    have e2 : y = .int j := by simpa only [RepC, Rep] using ry
    subst e1 e2
    refine .inr ⟨i, j, rfl, ?_⟩
    have : m = if i < j then j else i := by simpa [maxI] using h2.symm
    rw [← this]
    exact fin m h3
theorem blt_tuple (hK : X.K = M.K) : BltZ M X (.type "tuple") tupleD := by
  refine ⟨_, call_tuple_of, fun H F a d x w Q hw hf e r k => ?_⟩
  cases a with
  | lst xs =>
    cases e
    obtain ⟨a, us, rfl, q, z⟩ := r
    refine ⟨a, us, rfl, .inl ⟨.inl (.inl q), fun p hp => ?_⟩⟩
    obtain ⟨F', g, r⟩ := tup_res (w := w) hw hf hp z
    exact k _ _ _ g r
  | tup xs =>
    cases e
    have r : Rep M F (.tup xs) x := r
    have r' := r
    simp only [Rep] at r'
    obtain ⟨a, us, rfl, q, z⟩ := r'
    refine ⟨a, us, rfl, .inr ⟨by rw [hK]; exact SqT.of (hf _ _ q), k _ _ _ (.refl hf) ?_⟩⟩
    cases w with
    | d => exact absurd rfl hw
    | w => exact ⟨[], r, fun b hb => by cases hb⟩
    | c => exact r
    | s => exact r
  | _ => cases e

/-! ### sorted -/
theorem zip_fst {α β : Type} : ∀ {xs : List α} {ys : List β}, xs.length = ys.length → (xs.zip ys).map Prod.fst = xs
  | [], [], _ => rfl
  | x :: xs, y :: ys, h => by simp only [List.zip_cons_cons, List.map_cons, zip_fst (xs := xs) (ys := ys) (by simpa using h)]
theorem zip_snd {α β : Type} : ∀ {xs : List α} {ys : List β}, xs.length = ys.length → (xs.zip ys).map Prod.snd = ys
  | [], [], _ => rfl
  | x :: xs, y :: ys, h => by simp only [List.zip_cons_cons, List.map_cons, zip_snd (xs := xs) (ys := ys) (by simpa using h)]
theorem reps_zip {M : Mx} {F : Hp} : ∀ {xs : List D} {vs : List V}, Reps M F xs vs → ∀ p ∈ xs.zip vs, Rep M F p.1 p.2
  | [], vs, h, p, hp => by simp at hp
  | x :: xs, vs, h, p, hp => by
    simp only [Reps] at h
    obtain ⟨v, r, rfl, h1, h2⟩ := h
    rw [List.zip_cons_cons] at hp
    rcases List.mem_cons.mp hp with rfl | hp
    · exact h1
    · exact reps_zip h2 p hp
theorem reps_of {M : Mx} {F : Hp} : ∀ {l : List (D × V)}, (∀ p ∈ l, Rep M F p.1 p.2) → Reps M F (l.map Prod.fst) (l.map Prod.snd)
  | [], _ => by simp [Reps]
  | p :: l, h => Reps.cons (h p (by simp)) (reps_of fun q hq => h q (by simp [hq]))
theorem each_vals : ∀ {us : List Value} {ps : List (D × V)}, Vals (ps.map Prod.snd) us → PySem.W.EachIs (fun u (p : D × V) => RelV p.2 u) us ps
  | _, [], .nil => .nil
  | _, _ :: _, .cons r t => .cons r (each_vals t)
theorem vals_each : ∀ {us : List Value} {ps : List (D × V)}, PySem.W.EachIs (fun u (p : D × V) => RelV p.2 u) us ps → Vals (ps.map Prod.snd) us
  | _, [], .nil => .nil
  | _, _ :: _, .cons r t => .cons r (vals_each t)
theorem sorts_fine {a b : D} (h : sorts a b = true) : fine a = true := by
  unfold sorts at h
  simp only [Bool.and_eq_true] at h
  exact h.1.1.2
theorem sortable_z {ps : List (D × V)} (h : sortable (ps.map Prod.fst) = true) : PySem.W.AllAlike (ps.map fun p => toPy p.1) ∧ PySem.W.Sortable (ps.map fun p => toPy p.1) ∧ ∀ p ∈ ps, fine p.1 = true := by
  unfold sortable at h
  rw [Bool.and_eq_true, Bool.or_eq_true] at h
  obtain ⟨h1, h2⟩ := h
  unfold allAlike at h1
  rw [List.all_eq_true] at h1
  have h1 : ∀ p ∈ ps, ∀ q ∈ ps, sorts p.1 q.1 = true := fun p hp q hq => List.all_eq_true.mp (h1 p.1 (List.mem_map_of_mem hp)) q.1 (List.mem_map_of_mem hq)
  refine ⟨fun d hd d' hd' => ?_, ?_, fun p hp => sorts_fine (h1 p hp p hp)⟩
  · obtain ⟨p, hp, rfl⟩ := List.mem_map.mp hd
    obtain ⟨q, hq, rfl⟩ := List.mem_map.mp hd'
    have z := h1 p hp q hq
    unfold sorts at z
    simp only [Bool.and_eq_true] at z
    exact z.1.1.1
  · rcases h2 with h2 | h2
    · refine .inr fun d hd => ?_
      obtain ⟨p, hp, rfl⟩ := List.mem_map.mp hd
      have n := List.all_eq_true.mp h2 p.1 (List.mem_map_of_mem hp)
      have z := h1 p hp p hp
      unfold sorts at z
      simp only [Bool.and_eq_true] at z
      refine ⟨fun e => ?_, fun xs e => ?_⟩
      · cases q : p.1 <;> rw [q] at e z <;> first | (exact Bool.noConfusion z.2) | (simp [toPy] at e)
      · cases q : p.1 <;> rw [q] at e n <;> first | (exact Bool.noConfusion n) | (simp [toPy] at e)
    · refine .inl fun d hd => ?_
      obtain ⟨p, hp, rfl⟩ := List.mem_map.mp hd
      have n := List.all_eq_true.mp h2 p.1 (List.mem_map_of_mem hp)
      cases q : p.1 with
      | tup xs =>
        rw [q] at n
        cases xs with
        | nil => exact Bool.noConfusion n
        | cons x r => exact ⟨toPy x, toPys r, by simp only [toPy, toPys]⟩
      | _ => rw [q] at n; exact Bool.noConfusion n
def rSortZ (M : Mx) : List V → Hp → VK → Prop := fun vs H Q => ∃ (a : Addr) (ps : List (D × V)) (F : Hp), vs = [V.ref a] ∧ Same F H ∧ H a = some (.lst (ps.map Prod.snd)) ∧ (∀ p ∈ ps, Rep M F p.1 p.2) ∧ sortable (ps.map Prod.fst) = true ∧
  ∀ p, H p = none → Q (.ref p) (upd H p (.lst ((ps.mergeSort (PySem.W.dataLe false fun p => toPy p.1)).map Prod.snd)))
theorem cr_sortZ (hK : X.K = M.K) (hu : X.A.units + 150 < cLine) : CallR X (.builtin "sorted") (rSortZ M) := by
  intro pins s σ H vs us Q I r h
  obtain ⟨a, ps, F, rfl, hf, ha, hr, hs, q⟩ := h
  obtain ⟨u1, rfl, e1⟩ := vals1 r
  obtain rfl : u1 = Value.ref a := e1
  obtain ⟨hz, its, n, rv, e⟩ := I.hok a _ ha
  obtain ⟨s1, s2, s3⟩ := sortable_z hs
  have len : its.length = ps.length := by rw [← rv.length, List.length_map]
  have rd : ∀ (p : D × V) (u : Value), p ∈ ps → RelV p.2 u → ∃ as, Reads s.heap u (toPy p.1) as := fun p u hp ru => by
    have z := rep_dp p.1 p.2 (fine_iff (s3 p hp)).1 (Rep.same hf _ _ (hr p hp))
    rw [← hK] at z
    exact z.reads I _ _ _ ru
  have er : PySem.W.EachIs (fun (v : Value) (b : D × V) => ∃ as, Reads s.heap v (toPy b.1) as) its ps := by
    refine PySem.W.EachIs.of_zip len fun z hz => ?_
    have h1 := (each_vals rv).zip z hz
    exact rd z.2 z.1 (List.of_mem_zip hz).2 h1
  refine PySem.W.sorted_data (R := fun u (p : D × V) => RelV p.2 u) (enc := fun p : D × V => toPy p.1) (bs := ps) ⟨_, e, rfl, _, rfl⟩ (each_vals rv) er s1 s2 (by rw [List.length_map] at hz; exact hz) (fun p hp => ?_) fun out hl ho => ?_
  · have := (fine_iff (s3 p hp)).2
    omega
  · obtain ⟨ep, he⟩ := PyProof.Rows.sortedAll_at s.heap its out.toArray
    have hlen : ((ps.mergeSort (PySem.W.dataLe false fun p => toPy p.1)).map Prod.snd).length ≤ sizeLine := by
      rw [List.length_map, List.length_mergeSort]
      rw [List.length_map] at hz
      exact hz
    exact ⟨.ref _, _, I.laid (t' := s.toks) (o := .lst ((ps.mergeSort (PySem.W.dataLe false fun p => toPy p.1)).map Prod.snd)) (fun _ _ => PyProof.Rows.sortedAll_old) (Nat.le_succ _) ⟨hlen, out, ep, vals_each ho, he⟩, rfl, q _ (I.hok.fresh (Nat.le_succ _))⟩
theorem sort_fst {ps : List (D × V)} : (ps.mergeSort (PySem.W.dataLe false fun p => toPy p.1)).map Prod.fst = sortL (ps.map Prod.fst) := by
  unfold sortL
  exact List.map_mergeSort fun a _ b _ => rfl
theorem blt_sorted (hK : X.K = M.K) (hu : X.A.units + 150 < cLine) : BltZ M X (.builtin "sorted") sortedD := by
  refine ⟨_, cr_sortZ hK hu, fun H F a d x w Q hw hf e r k => ?_⟩
  cases a with
  | lst xs =>
    obtain ⟨h1, h2⟩ := chk_ok e
    cases h2
    obtain ⟨a, us, rfl, q, z⟩ := r
    refine ⟨a, xs.zip us, F, rfl, hf, by rw [zip_snd z.len]; exact q, reps_zip z, by rw [zip_fst z.len]; exact h1, fun p hp => ?_⟩
    have zz := reps_of (M := M) (F := F) (l := (xs.zip us).mergeSort (PySem.W.dataLe false fun p => toPy p.1)) fun p hp => reps_zip z p ((List.mergeSort_perm _ _).mem_iff.mp hp)
    rw [sort_fst, zip_fst z.len] at zz
    obtain ⟨F', g, r⟩ := list_res (w := w) hw hf hp zz
    exact k _ _ _ g r
  | _ => cases e
end
end Z
/-! Z, part F: from the text's expressions to functions. -/
namespace Z
open PySem PySem.Spec PyProof.Rows L2

/-- what the compiler knows: the def's names by slot; the module's constants; the text's defs, their answers' flags, what they are worth -/
structure CC where
  N : List Str
  con : Str → Option D
  fn : Str → Bool
  fl : Str → Fl
  call : Call
  kills : Pos → List Nat
  dp : Pos → Bool
  mt : Str → Bool
  mfl : Str → Fl
  cl : Str → Bool
  fld : Str → Bool
  dt : Pos → Bool

def ixOf (x : Str) : List Str → Option Nat
  | [] => none
  | y :: r => if x = y then some 0 else (ixOf x r).map (· + 1)
theorem ixOf_get {x : Str} : ∀ {l : List Str} {i : Nat}, ixOf x l = some i → l[i]? = some x
  | [], _, h => by cases h
  | y :: r, i, h => by
    unfold ixOf at h
    split at h
    · rename_i e; cases h; rw [e]; rfl
    · obtain ⟨j, h1, h2⟩ := Option.map_eq_some_iff.mp h
      subst h2
      simpa using ixOf_get h1
def plainName (x : Str) : Bool := !(x == ("__debug__" : Str)) && !(x == ("__classdict__" : Str)) && !(x == ("__name__" : Str))
def visK : Option NameKind → Bool
  | some .local => true
  | some .cell => true
  | some .free => true
  | _ => false
def locK : Option NameKind → Bool
  | some .local => true
  | some .cell => true
  | _ => false
def glK : Option NameKind → Bool
  | some .globalImplicit => true
  | _ => false
def gd {α : Type} (b : Bool) (x : Option α) : Option α := if b = true then x else none
theorem gd_some {α : Type} {b : Bool} {x : Option α} {a : α} (h : gd b x = some a) : b = true ∧ x = some a := by
  unfold gd at h
  split at h
  · exact ⟨by assumption, h⟩
  · cases h
def okFl : Wt → Fl → Bool
  | .s, .sh => true
  | .c, .sh => true
  | .c, .own => true
  | .c, .me => true
  | _, _ => false
def cName (C : CC) (sc : Scope) (fe : List Fl) (w : Wt) (x : Str) : Option ZE :=
  gd (plainName x) (if visK (sc.names.lookup x) = true then (ixOf x C.N).bind fun i => gd (okFl w (fe.getD i .sh)) (some (eVar i))
  else gd (glK (sc.names.lookup x)) ((C.con x).map eLit))
def cConst : Const → Option D
  | .none => some .non
  | .bool b => some (.bl b)
  | .int i => some (.int i)
  | .str x => some (.str x)
  | _ => none
def bltTab : List (Str × Blt) := [("len", .len), ("all", .all), ("any", .any), ("sum", .sum), ("int", .int), ("str", .str), ("list", .list), ("tuple", .tuple), ("sorted", .sorted), ("min", .min), ("max", .max), ("bool", .bool)]
def bltOf (x : Str) : Option Blt := bltTab.lookup x
def tyOf (x : Str) : Option String :=
  if x = "int" then some "int" else if x = "bool" then some "bool" else if x = "str" then some "str" else if x = "list" then some "list" else if x = "tuple" then some "tuple" else if x = "dict" then some "dict" else none
def bltNames : List Str := ["len", "all", "any", "sum", "int", "str", "list", "tuple", "sorted", "isinstance", "bool", "dict", "range", "zip", "enumerate", "min", "max"]
def isBuiltin (C : CC) (sc : Scope) (x : Str) : Bool := plainName x && glK (sc.names.lookup x) && bltNames.contains x
/-- the want of an argument, by the answer's want and flag -/
def foldB (f : ZE → ZE → ZE) : List ZE → Option ZE
  | [] => none
  | [z] => some z
  | z :: zs => (foldB f zs).map (f z)
def boolF : BoolOp → ZE → ZE → ZE
  | .And => eAnd
  | .Or => eOr
def mapO {α β : Type} (f : α → Option β) : List α → Option (List β)
  | [] => some []
  | a :: r => (f a).bind fun b => (mapO f r).map (b :: ·)
def notStar : Expr → Bool
  | .Starred _ _ => false
  | _ => true
def notSlice : Expr → Bool
  | .Slice _ _ _ _ => false
  | _ => true
def notSet : Expr → Bool
  | .Set _ _ _ => false
  | _ => true
def plainTest : Expr → Bool
  | .UnaryOp .Not _ _ => false
  | .BoolOp _ _ _ => false
  | .IfExp _ _ _ _ => false
  | .Compare _ _ _ _ => false
  | _ => true

/-! ### targets -/
def tgNames : Nat → Expr → List Str
  | 0, _ => []
  | _ + 1, .Name x _ => [x]
  | n + 1, .Tuple es _ _ => es.flatMap (tgNames n)
  | _ + 1, _ => []
def cG : Nat → CC → Scope → Expr → Option (ZG × List Nat)
  | 0, _, _, _ => none
  | _ + 1, C, sc, .Name x _ => gd (locK (sc.names.lookup x)) ((ixOf x C.N).map fun i => (gN i, [i]))
  | n + 1, C, sc, .Tuple es _ _ => gd (es.all notStar) ((mapO (cG n C sc) es).map fun ps => (gT (ps.map (·.1)), ps.flatMap (·.2)))
  | _ + 1, _, _, _ => none
def setSh (fe : List Fl) (is : List Nat) : List Fl := is.foldl (fun f i => f.set i .sh) fe

/-- the built-ins with one argument, isinstance -/
def cIsi (C : CC) (sc : Scope) (es : Expr → Option ZE) : List Expr → Option ZE
  | [a, .Name t _] => gd (isBuiltin C sc t) ((tyOf t).bind fun t => (es a).map fun x => eIsi x t)
  | _ => none
def cBl (C : CC) (sc : Scope) (f : Str) (w : Wt) (ec es : Expr → Option ZE) (l : List Expr) : Option ZE :=
  if f = "isinstance" then cIsi C sc es l else (bltOf f).bind fun g => gd (w != .d && !l.isEmpty) ((mapO ec l).map (eBlt g))
/-- receivers whose attributes are read plainly -/
def attrBase : Expr → Bool
  | .Name _ _ => true
  | .Subscript _ _ _ => true
  | .Attribute _ _ _ => false
  | _ => false
def mtBase : Expr → Bool
  | .Name _ _ => true
  | .Subscript _ _ _ => true
  | .Constant _ _ _ => true
  | _ => false
def mtOf (x : Str) : Option Mt :=
  if x = "index" then some .index else if x = "join" then some .join else none
/-- methods of built-ins with one argument; d.get(k, x) -/
def cMt (m : Str) (w : Wt) (ap p : Pos) (ec es : Expr → Option ZE) (a : Expr) : List Expr → Option ZE
  | [b] => (mtOf m).bind fun g => gd (w != .d && mtBase a && notStar b && (ap.endLine == p.line)) ((ec a).bind fun x => (es b).map fun y => eMt g x y)
  | _ => none
def cZip (w : Wt) (ew : Expr → Option ZE) : List Expr → Expr → Option ZI
  | [a, b], .Tuple _ _ _ => gd (notStar a && notStar b && (w == .s || w == .c)) ((ew a).bind fun x => (ew b).map fun y => iZip x y)
  | _, _ => none
def cEnum (w : Wt) (ew : Expr → Option ZE) : List Expr → Expr → Option ZI
  | [a], .Tuple _ _ _ => gd (notStar a && (w == .s || w == .c)) ((ew a).map iEnum)
  | _, _ => none
mutual
def cE : Nat → CC → Scope → List Fl → Wt → Expr → Option ZE
  | 0, _, _, _, _, _ => none
  | n + 1, C, sc, fe, w, .Name x _ => cName C sc fe w x
  | n + 1, C, sc, fe, w, .Constant c _ _ => (cConst c).map eLit
  | n + 1, C, sc, fe, w, .List es _ => gd (w != .d && decide (es.length ≤ 1000) && es.all notStar) ((mapO (cE n C sc fe .s) es).map eLst)
  | n + 1, C, sc, fe, w, .Tuple es _ _ => gd (w != .d && decide (es.length ≤ 1000) && es.all notStar) ((mapO (cE n C sc fe .s) es).map eTup)
  | n + 1, C, sc, fe, w, .BinOp a op b _ => gd (w != .d) ((cE n C sc fe .c a).bind fun x => (cE n C sc fe .c b).map fun y => eBin op x y)
  | n + 1, C, sc, fe, w, .UnaryOp .USub a _ => (cE n C sc [] .s a).map eNeg
  | n + 1, C, sc, fe, w, .UnaryOp .Not a _ => (cE n C sc [] .s a).map eNot
  | n + 1, C, sc, fe, w, .Compare a [op] [b] _ => gd (!behindInMarks op b) ((cE n C sc [] .s a).bind fun x => (cE n C sc [] .s b).map fun y => eCmp op x y)
  | n + 1, C, sc, fe, w, .Compare a [op, op2] [b, c] _ => gd (!lastMarks [op, op2] [b, c]) ((cE n C sc [] .s a).bind fun x => (cE n C sc [] .s b).bind fun y => (cE n C sc [] .s c).map fun z => eCmp2 op op2 x y z)
  | n + 1, C, sc, fe, w, .BoolOp op es _ => gd (w == .s || w == .c) ((mapO (cE n C sc fe w) es).bind (foldB (boolF op)))
  | n + 1, C, sc, fe, w, .IfExp c a b _ => (cT n C sc c).bind fun x => (cE n C sc fe w a).bind fun y => (cE n C sc fe w b).map fun z => eIte x y z
  | n + 1, C, sc, fe, w, .Subscript a (.Slice lo hi none _) _ => gd (w != .d) ((cE n C sc fe .c a).bind fun x =>
      (match lo with | none => some none | some l => (cE n C sc [] .s l).map some).bind fun l => (match hi with | none => some none | some h => (cE n C sc [] .s h).map some).map fun h => eCut x l h)
  | n + 1, C, sc, fe, w, .Subscript a (.Slice lo hi (some st) _) _ => gd (w != .d) ((cE n C sc fe .c a).bind fun x =>
      (match lo with | none => some none | some l => (cE n C sc [] .s l).map some).bind fun l => (match hi with | none => some none | some h => (cE n C sc [] .s h).map some).bind fun h => (cE n C sc [] .s st).map fun z => eStep x l h z)
  | n + 1, C, sc, fe, w, .Subscript a i _ => gd ((w == .s || w == .c) && notSlice i) ((cE n C sc fe .c a).bind fun x => (cE n C sc [] .s i).map fun y => eIx x y)
  | n + 1, C, sc, fe, w, .Call (.Name f _) es [] _ =>
      if C.fn f = true then gd (plainName f && glK (sc.names.lookup f) && es.all notStar && (w == .s || w == .c || (w == .w && C.fl f == .own))) ((mapO (cE n C sc fe .s) es).map (eCall C.call f))
      else if C.cl f = true then gd (plainName f && glK (sc.names.lookup f) && es.all notStar && (w == .s || w == .c || (w == .w && C.fl (keyOf f "__init__") == .own))) ((mapO (cE n C sc fe .s) es).map (eCall C.call (keyOf f "__init__")))
      else gd (isBuiltin C sc f && es.all notStar) (cBl C sc f w (cE n C sc fe .c) (cE n C sc [] .s) es)
  | n + 1, C, sc, fe, w, .Call (.Name f _) [a] [⟨some key, .Name kf _, _⟩] _ => gd (decide (f = "sorted") && decide (key = "key") && isBuiltin C sc f && C.fn kf && plainName kf && glK (sc.names.lookup kf) && notStar a && (w != .d)) ((cE n C sc fe .c a).map (eSortK C.call kf))
  | n + 1, C, sc, fe, w, .ListComp elt [⟨tg, iter, ifs, 0⟩] scope _ =>
      gd (w != .d && notSet iter && decide (ifs.length ≤ 1)) ((mapO (fun x => (ixOf x C.N).map fun i => (x, i)) (tgNames 9 tg)).bind fun own =>
        gd (blkC C.N sc scope own && own.all (fun p => locK (scope.names.lookup p.1))) ((cG 9 C scope tg).bind fun g => gd (g.2.all fun i => (own.map (·.2)).contains i) ((cI n C sc fe .c tg iter).bind fun it =>
          (mapO (cT n C (relS scope sc)) ifs).bind fun cs => (cE n C (relS scope sc) (setSh (setSh fe (own.map (·.2))) g.2) .s elt).map fun e => eComp (own.map (·.2)) g.1 it cs e)))
  | n + 1, C, sc, fe, w, .DictComp kx vx [⟨tg, iter, ifs, 0⟩] scope _ =>
      gd (w != .d && notSet iter && decide (ifs.length ≤ 1)) ((mapO (fun x => (ixOf x C.N).map fun i => (x, i)) (tgNames 9 tg)).bind fun own =>
        gd (blkC C.N sc scope own && own.all (fun p => locK (scope.names.lookup p.1))) ((cG 9 C scope tg).bind fun g => gd (g.2.all fun i => (own.map (·.2)).contains i) ((cI n C sc fe .c tg iter).bind fun it =>
          (mapO (cT n C (relS scope sc)) ifs).bind fun cs => (cE n C (relS scope sc) (setSh (setSh fe (own.map (·.2))) g.2) .s kx).bind fun k => (cE n C (relS scope sc) (setSh (setSh fe (own.map (·.2))) g.2) .s vx).map fun e => eDC (own.map (·.2)) g.1 it cs k e)))
  | n + 1, C, sc, fe, w, .Dict [] [] p => gd (w != .d) (some (eDic (C.dt p)))
  | n + 1, C, sc, fe, w, .Attribute a f _ => gd (C.fld f && attrBase a && (w == .s || w == .c)) ((cE n C sc fe .c a).map fun x => eFld x f)
  | n + 1, C, sc, fe, w, .Call (.Attribute a m ap) es [] p =>
      if C.mt m = true then gd (attrBase a && es.all notStar && decide (es.length < 30) && (ap.endLine == p.line) && (w == .s || w == .c || (w == .w && C.mfl m == .own))) ((cE n C sc fe .s a).bind fun x => (mapO (cE n C sc fe .s) es).map (eMeth C.call x m))
      else cMt m w ap p (cE n C sc fe .c) (cE n C sc [] .s) a es
  | _ + 1, _, _, _, _, _ => none
/-- what is walked -/
def cI : Nat → CC → Scope → List Fl → Wt → Expr → Expr → Option ZI
  | 0, _, _, _, _, _, _ => none
  | n + 1, C, sc, fe, w, tg, .Call (.Name f p) es [] q =>
      if (isBuiltin C sc f && decide (f = "range")) = true then gd (decide (es.length ≤ 2) && decide (1 ≤ es.length) && es.all notStar) ((mapO (cE n C sc [] .s) es).map iRange)
      else if (isBuiltin C sc f && decide (f = "zip")) = true then (cZip w (cE n C sc fe w) es tg)
      else if (isBuiltin C sc f && decide (f = "enumerate")) = true then (cEnum w (cE n C sc fe w) es tg)
      else gd (w == .s || w == .c) ((cE n C sc fe w (.Call (.Name f p) es [] q)).map iSeq)
  | n + 1, C, sc, fe, w, tg, e => gd ((w == .s || w == .c) && notSet e) ((cE n C sc fe w e).map iSeq)
/-- a test -/
def cT : Nat → CC → Scope → Expr → Option ZE
  | 0, _, _, _ => none
  | n + 1, C, sc, .UnaryOp .Not a _ => (cT n C sc a).map eNot
  | n + 1, C, sc, .BoolOp op es _ => (mapO (cT n C sc) es).bind (foldB (boolF op))
  | n + 1, C, sc, .Compare a [op] [b] _ => gd (!behindInMarks op b) ((cE n C sc [] .s a).bind fun x => (cE n C sc [] .s b).map fun y => eCmp op x y)
  | n + 1, C, sc, .Compare a [op, op2] [b, c] _ => gd (!lastMarks [op, op2] [b, c]) ((cE n C sc [] .s a).bind fun x => (cE n C sc [] .s b).bind fun y => (cE n C sc [] .s c).map fun z => eCmp2 op op2 x y z)
  | n + 1, C, sc, e => gd (plainTest e) (cE n C sc [] .s e)
end

/-! ### promises -/
/-- what a def that is worth m promises -/
def spOf (M : Mx) (fl : Fl) (m : List D → R D) (np : Nat) : Sp := fun vs H Q _ => ∃ ds F r, ds.length = np ∧ Same F H ∧ Reps M F ds vs ∧ m ds = .ok r ∧
  ∀ v H' F' fp, Gr H F H' F' → Val M H' F' fl r v fp → Fresh H F' fp → Q v H'
/-- the def x of the text, as a body sees it -/
def FnAt (M : Mx) (X : Cx) (fl : Fl) (m : List D → R D) (x : Str) : Prop := ∃ (fa : Addr) (fd : FuncData) (ps : List Str) (k : Nat),
  FnOk X.prog X.w X.K X.mg X.base CX0 k fa fd ps (spOf M fl m ps.length) ∧ Room (k + 2) X.A ∧ X.mg x = some (.ref fa) ∧ PySem.W.keepIn X.K (.ref fa) = true ∧ Binds X.K fd ps [] ∧ ∀ ds d, m ds = .ok d → ds.length = ps.length
/-- a method that stands at the class C -/
def MeAt (X : Cx) (C : Addr) (m : Str) (sp : Sp) : Prop := ∃ (fa : Addr) (fd : FuncData) (ps : List Str) (k : Nat), FnOk X.prog X.w X.K X.mg X.base CX0 k fa fd ps sp ∧ Room k X.A ∧ Cls X.K C ∧ Meth X.K C m fa ∧ Binds X.K fd ps []
/-- what a class's __init__ promises: from a new bare instance, the finished object -/
def spMk (M : Mx) (C0 : Addr) (fl : Fl) (mm : List D → R D) (n : Nat) : Sp := fun vs H Q _ => ∃ (a dx : Addr) (us : List V) (ds : List D) (F H1 : Hp) (d : D), vs = .ref a :: us ∧ H = upd (upd H1 dx (.own a)) a (.ins C0 dx []) ∧ H1 a = none ∧ H1 dx = none ∧ dx ≠ a ∧
  ds.length + 1 = n ∧ Same F H1 ∧ Reps M F ds us ∧ mm ds = .ok d ∧ ∀ H' F' fp, Gr H1 F H' F' → Val M H' F' fl d (.ref a) fp → Fresh H1 F' fp → Q .non H'
def MkAt (M : Mx) (X : Cx) (fl : Fl) (mm : List D → R D) (x : Str) : Prop := ∃ (C0 fa : Addr) (fd : FuncData) (ps : List Str) (k : Nat),
  FnOk X.prog X.w X.K X.mg X.base CX0 k fa fd ps (spMk M C0 fl mm ps.length) ∧ Room (k + 1) X.A ∧ Mk X.K C0 fa ∧ X.mg x = some (.ref C0) ∧ Binds X.K fd ps [] ∧ ∀ ds d, mm ds = .ok d → ds.length + 1 = ps.length
/-- the context fits -/
structure XOk (C : CC) (M : Mx) (X : Cx) (sc : Scope) : Prop where
  n : X.N = C.N
  nd : C.N.Nodup
  sc : X.env.scope = sc
  k : X.K = M.K
  calm : X.calm = true
  room : X.A.units + 160 < cLine
  free : ∀ x, x ∈ bltNames → X.mg x = none
  con : ∀ x d, C.con x = some d → isAtom d = true ∧ ∃ v u, X.mg x = some u ∧ RelV v u ∧ ∀ F, Rep M F d v
  fn : ∀ x, C.fn x = true → FnAt M X (C.fl x) (C.call x) x
  cls : ∀ c C0, M.cn c = some C0 → Cls X.K C0 ∧ ∀ f, C.fld f = true → NoAttr X.K C0 f
  mt : ∀ m, C.mt m = true → ∀ c C0 ds d, M.cn c = some C0 → C.call (keyOf c m) ds = .ok d → ∃ n, ds.length = n ∧ MeAt X C0 m (spOf M (C.mfl m) (C.call (keyOf c m)) n)
  mak : ∀ x, C.cl x = true → MkAt M X (C.fl (keyOf x "__init__")) (C.call (keyOf x "__init__")) x
end Z
/-! Z, part G: expressions are worth what they are told to be: the single forms. -/
namespace Z
open PySem PySem.Spec PyProof.Rows L2

section
variable {M : Mx} {H H1 H2 F F1 F2 : Hp} {w : Wt} {d : D} {v : V}
theorem Res.back (g : Gr H F H1 F1) (r : Res M H1 H2 F2 w d v) : Res M H H2 F2 w d v := by
  cases w with
  | c => exact r
  | s => exact r
  | w => obtain ⟨fp, x, z⟩ := r; exact ⟨fp, x, fun b hb => ⟨g.h.free (z b hb).1, (z b hb).2⟩⟩
  | d => obtain ⟨fp, x, z⟩ := r; exact ⟨fp, x, fun b hb => ⟨g.h.free (z b hb).1, (z b hb).2⟩⟩
end
theorem blt_mem {x : Str} (h : bltNames.contains x = true) : x ∈ bltNames := by simpa using h

section
variable {C : CC} {M : Mx} {X : Cx} {sc : Scope} {fe : List Fl} {w : Wt}
def zAw (M : Mx) (fe : List Fl) (w : Wt) (zs : List ZE) : TA := fun σ H Q => ∃ H0 F0 F ρ fps ds, St M H0 F0 σ H F fe ρ fps ∧ eArgs zs ρ = .ok ds ∧ ∀ vs H' F', Gr H F H' F' → RepWs M H' F' w ds vs → Q vs H'
/-- a part in a row -/
theorem zT_go {z : ZE} {H0 F0 H F : Hp} {σ : L2.St} {ρ : Env} {fps : Nat → List Addr} {d : D} {Q : VK} (s : St M H0 F0 σ H F fe ρ fps) (e : z ρ = .ok d) (k : ∀ v H' F', Gr H F H' F' → St M H0 F0 σ H' F' fe ρ fps → Res M H H' F' w d v → Q v H') : zT M fe w z σ H Q :=
  ⟨H0, F0, F, ρ, fps, d, s, e, fun v H' F' g r => k v H' F' g (s.grow g) r⟩

theorem z_name {x : Str} {pos : Pos} {z : ZE} (o : XOk C M X sc) (h : cName C sc fe w x = some z) : PE X (.Name x pos) (zT M fe w z) := by
  obtain ⟨hp, h⟩ := gd_some h
  unfold plainName at hp
  simp only [Bool.and_eq_true, Bool.not_eq_true'] at hp
  obtain ⟨⟨p1, p2⟩, p3⟩ := hp
  split at h
  · rename_i hv
    obtain ⟨i, hi, h⟩ := Option.bind_eq_some_iff.mp h
    obtain ⟨hf, h⟩ := gd_some h
    cases h
    have vis : Vis X.env.scope x := by
      rw [o.sc]
      unfold Vis
      unfold visK at hv
      split at hv <;> first | (exact Bool.noConfusion hv) | (simp_all)
    refine PE.imp (pe_var (i := i) (by rw [o.n]; exact ixOf_get hi) vis p1 p2) fun σ H Q ⟨H0, F0, F, ρ, fps, d, s, e, k⟩ => ?_
    unfold eVar look at e
    split at e
    · rename_i d' hd
      cases e
      obtain ⟨v, h1, h2⟩ := s.slot i _ hd
      refine ⟨v, h1, k v H F (.refl s.fh) ?_⟩
      cases hg : fe.getD i .sh <;> rw [hg] at hf h2
      · cases w with
        | s => exact h2
        | c => exact RepC.of s.fh h2
        | w => cases hf
        | d => cases hf
      · cases w with
        | c => exact RepC.ofVal s.fh (.inr (.inl rfl)) h2
        | s => cases hf
        | w => cases hf
        | d => cases hf
      · cases w <;> cases hf
      · cases w with
        | c => exact RepC.ofVal s.fh (.inr (.inr rfl)) h2
        | s => cases hf
        | w => cases hf
        | d => cases hf
    · cases e
  · obtain ⟨hg, h⟩ := gd_some h
    obtain ⟨d, h1, h2⟩ := Option.map_eq_some_iff.mp h
    subst h2
    obtain ⟨ha, v, u, hm, r, q⟩ := o.con x d h1
    have gl : Gl X x := by
      show X.env.scope.names.lookup x = some .globalImplicit
      rw [o.sc]
      unfold glK at hg
      split at hg <;> first | assumption | (exact Bool.noConfusion hg)
    refine PE.imp (pe_glob gl hm r p1) fun σ H Q ⟨H0, F0, F, ρ, fps, d', s, e, k⟩ => ?_
    cases e
    exact k v H F (.refl s.fh) (atom_res ha (q F))
theorem z_const {c : Const} {j : Nat} {pos : Pos} {z : ZE} (h : (cConst c).map eLit = some z) : PE X (.Constant c j pos) (zT M fe w z) := by
  obtain ⟨d, h1, h2⟩ := Option.map_eq_some_iff.mp h
  subst h2
  have fin : ∀ {v : V}, isAtom d = true → (∀ F, Rep M F d v) → ∀ σ H Q, zT M fe w (eLit d) σ H Q → tC v σ H Q := fun {v} ha r σ H Q ⟨H0, F0, F, ρ, fps, d', s, e, k⟩ => by
    cases e
    exact k v H F (.refl s.fh) (atom_res ha (r F))
  cases c with
  | none => cases h1; exact PE.imp pe_non (fin rfl fun F => by simp only [Rep])
  | bool b => cases h1; exact PE.imp pe_bl (fin rfl fun F => by simp only [Rep])
  | int i => cases h1; exact PE.imp pe_int (fin rfl fun F => by simp only [Rep])
  | str x => cases h1; exact PE.imp pe_str (fin rfl fun F => by simp only [Rep])
  | _ => cases h1

theorem star_cons {e : Expr} {es : List Expr} {env : PySem.Env} (h : notStar e = true) : starEach (e :: es) env = (false, eval e env) :: starEach es env := by
  cases e <;> first | rfl | (exact Bool.noConfusion h)
theorem star_any {env : PySem.Env} {pos : Pos} : ∀ {es : List Expr}, es.all notStar = true → (backTo pos (starEach es env)).any (·.1) = false
  | [], _ => rfl
  | e :: es, h => by
    rw [List.all_cons, Bool.and_eq_true] at h
    rw [star_cons h.1]
    show (false || (backTo pos (starEach es env)).any (·.1)) = false
    rw [Bool.false_or]
    exact star_any h.2
/-- arguments, one by one -/
theorem z_args {f : Expr → Option ZE} (hw : w = .c ∨ w = .s) : ∀ {es : List Expr} {zs : List ZE}, (∀ e ∈ es, ∀ z, f e = some z → PE X e (zT M fe w z)) → es.all notStar = true → mapO f es = some zs → PA X es (zAw M fe w zs)
  | [], zs, _, _, h => by
    cases h
    refine PA.imp pa_nil fun σ H Q ⟨H0, F0, F, ρ, fps, ds, s, e, k⟩ => ?_
    cases e
    exact k [] H F (.refl s.fh) .nil
  | e :: es, zs, hp, hn, h => by
    obtain ⟨z, h1, h⟩ := Option.bind_eq_some_iff.mp h
    obtain ⟨zr, h2, h3⟩ := Option.map_eq_some_iff.mp h
    subst h3
    rw [List.all_cons, Bool.and_eq_true] at hn
    have ih := z_args hw (fun e' he z => hp e' (List.mem_cons_of_mem _ he) z) hn.2 h2
    refine PA.imp (pa_cons (hp e List.mem_cons_self z h1) ih (star_cons hn.1)) fun σ H Q ⟨H0, F0, F, ρ, fps, ds, s, e, k⟩ => ?_
    obtain ⟨d, e1, e⟩ := R.bind_eq_ok e
    obtain ⟨dr, e2, e⟩ := R.bind_eq_ok e
    cases e
    refine zT_go s e1 fun v H1 F1 g1 s1 r1 => ⟨H0, F0, F1, ρ, fps, dr, s1, e2, fun vs H2 F2 g2 r2 => k _ H2 F2 (g1.trans g2) (.cons ((RepW.res hw r1).same g2.h g2.f) r2)⟩
theorem eArgs_len : ∀ {zs : List ZE} {ρ : Env} {ds : List D}, eArgs zs ρ = .ok ds → ds.length = zs.length
  | [], _, _, h => by cases h; rfl
  | z :: zs, ρ, ds, h => by
    obtain ⟨d, e1, e⟩ := R.bind_eq_ok h
    obtain ⟨dr, e2, e⟩ := R.bind_eq_ok e
    cases e
    rw [List.length_cons, List.length_cons, eArgs_len e2]
theorem mapO_len {α β : Type} {f : α → Option β} : ∀ {xs : List α} {ys : List β}, mapO f xs = some ys → ys.length = xs.length
  | [], _, h => by cases h; rfl
  | x :: xs, ys, h => by
    obtain ⟨z, h1, h⟩ := Option.bind_eq_some_iff.mp h
    obtain ⟨zr, h2, h3⟩ := Option.map_eq_some_iff.mp h
    subst h3
    rw [List.length_cons, List.length_cons, mapO_len h2]
theorem z_list {es : List Expr} {zs : List ZE} {pos : Pos} (hw : w ≠ .d) (hl : es.length ≤ 1000) (hz : zs.length = es.length) (ha : PA X es (zAw M fe .s zs)) : PE X (.List es pos) (zT M fe w (eLst zs)) := by
  refine PE.imp (pe_lst ha) fun σ H Q ⟨H0, F0, F, ρ, fps, d, s, e, k⟩ => ?_
  obtain ⟨ds, e1, e⟩ := R.bind_eq_ok e
  cases e
  refine ⟨H0, F0, F, ρ, fps, ds, s, e1, fun vs H1 F1 g1 r1 => ⟨?_, fun p hp => ?_⟩⟩
  · rw [← r1.length, eArgs_len e1, hz]
    exact Nat.le_trans hl (by decide)
  · obtain ⟨F', g, r⟩ := list_res (w := w) hw g1.fh hp r1.reps
    exact k _ _ _ (g1.trans g) (r.back g1)
theorem z_tuple {es : List Expr} {zs : List ZE} {j : Nat} {pos : Pos} (hw : w ≠ .d) (hl : es.length ≤ 1000) (hz : zs.length = es.length) (ha : PA X es (zAw M fe .s zs)) : PE X (.Tuple es j pos) (zT M fe w (eTup zs)) := by
  refine PE.imp (pe_tup ha) fun σ H Q ⟨H0, F0, F, ρ, fps, d, s, e, k⟩ => ?_
  obtain ⟨ds, e1, e⟩ := R.bind_eq_ok e
  cases e
  refine ⟨H0, F0, F, ρ, fps, ds, s, e1, fun vs H1 F1 g1 r1 => ⟨?_, fun p hp => ?_⟩⟩
  · rw [← r1.length, eArgs_len e1, hz]
    exact Nat.le_trans hl (by decide)
  · obtain ⟨F', g, r⟩ := tup_res (w := w) hw g1.fh hp r1.reps
    exact k _ _ _ (g1.trans g) (r.back g1)
theorem z_bin {a b : Expr} {x y : ZE} {op : Operator} {pos : Pos} (o : XOk C M X sc) (hw : w ≠ .d) (ha : PE X a (zT M fe .c x)) (hb : PE X b (zT M fe .c y)) : PE X (.BinOp a op b pos) (zT M fe w (eBin op x y)) := by
  obtain ⟨r, ho, hr⟩ := op_binZ o.k op
  refine PE.imp (pe_op ho ha hb) fun σ H Q ⟨H0, F0, F, ρ, fps, d, s, e, k⟩ => ?_
  obtain ⟨d1, e1, e⟩ := R.bind_eq_ok e
  obtain ⟨d2, e2, e⟩ := R.bind_eq_ok e
  refine zT_go s e1 fun v1 H1 F1 g1 s1 r1 => zT_go s1 e2 fun v2 H2 F2 g2 s2 r2 => ?_
  have r1 : RepC M H1 F1 d1 v1 := r1
  exact hr H2 F2 d1 d2 d v1 v2 w Q hw g2.fh e (r1.same g2.h g2.f) r2 fun v H' F' g r => k v H' F' ((g1.trans g2).trans g) (r.back (g1.trans g2))
theorem z_neg {a : Expr} {x : ZE} {pos : Pos} (ha : PE X a (zL M x)) : PE X (.UnaryOp .USub a pos) (zT M fe w (eNeg x)) := by
  refine PE.imp (pe_un un_neg ha) fun σ H Q ⟨H0, F0, F, ρ, fps, d, s, e, k⟩ => ?_
  obtain ⟨d1, e1, e⟩ := R.bind_eq_ok e
  refine lend s e1 fun v H' g s' r => ?_
  cases d1 with
  | int i =>
    cases e
    simp only [Rep] at r
    exact ⟨i, r, k _ _ _ g (atom_res rfl (by simp only [Rep]))⟩
  | _ => cases e
theorem z_not {a : Expr} {x : ZE} {pos : Pos} (o : XOk C M X sc) (ha : PE X a (zL M x)) : PE X (.UnaryOp .Not a pos) (zT M fe w (eNot x)) := by
  refine PE.imp (pe_notT ha) fun σ H Q ⟨H0, F0, F, ρ, fps, d, s, e, k⟩ => ?_
  obtain ⟨d1, e1, e⟩ := R.bind_eq_ok e
  obtain ⟨t, e2, e⟩ := R.bind_eq_ok e
  cases e
  refine lend s e1 fun v H' g s' r => ⟨t, tru_z o.k e2 r, k _ _ _ g (atom_res rfl (by simp only [Rep]))⟩
theorem z_cmp {a b : Expr} {x y : ZE} {op : CmpOp} {pos : Pos} (o : XOk C M X sc) (hm : behindInMarks op b = false) (ha : PE X a (zL M x)) (hb : PE X b (zL M y)) : PE X (.Compare a [op] [b] pos) (zT M fe w (eCmp op x y)) := by
  obtain ⟨r, ho, hr⟩ := op_cmpZ o.k (by have := o.room; omega) op
  refine PE.imp (pe_cmpR ho ha hb hm) fun σ H Q ⟨H0, F0, F, ρ, fps, d, s, e, k⟩ => ?_
  obtain ⟨d1, e1, e⟩ := R.bind_eq_ok e
  obtain ⟨d2, e2, e⟩ := R.bind_eq_ok e
  obtain ⟨c, e3, e⟩ := R.bind_eq_ok e
  cases e
  refine lend s e1 fun v1 H1 g1 s1 r1 => lend s1 e2 fun v2 H2 g2 s2 r2 => ?_
  exact hr H2 d1 d2 c v1 v2 Q e3 (Rep.same g2.h _ _ r1) r2 (k _ _ _ (g1.trans g2) (atom_res rfl (by simp only [Rep])))
theorem z_cmp2 {a b c : Expr} {x y z : ZE} {op op2 : CmpOp} {pos : Pos} (o : XOk C M X sc) (hm : lastMarks [op, op2] [b, c] = false) (ha : PE X a (zL M x)) (hb : PE X b (zL M y)) (hc : PE X c (zL M z)) : PE X (.Compare a [op, op2] [b, c] pos) (zT M fe w (eCmp2 op op2 x y z)) := by
  obtain ⟨r, ho, hr⟩ := op_cmpZ o.k (by have := o.room; omega) op
  obtain ⟨r2, ho2, hr2⟩ := op_cmpZ o.k (by have := o.room; omega) op2
  refine PE.imp (pe_chain ho ho2 ha hb hc hm) fun σ H Q ⟨H0, F0, F, ρ, fps, d, s, e, k⟩ => ?_
  obtain ⟨d1, e1, e⟩ := R.bind_eq_ok e
  obtain ⟨d2, e2, e⟩ := R.bind_eq_ok e
  obtain ⟨t, e3, e⟩ := R.bind_eq_ok e
  refine lend s e1 fun v1 H1 g1 s1 q1 => lend s1 e2 fun v2 H2 g2 s2 q2 => ?_
  refine hr H2 d1 d2 t v1 v2 _ e3 (Rep.same g2.h _ _ q1) q2 ⟨t, rfl, ?_⟩
  cases t with
  | false =>
    cases e
    exact iteF (k _ _ _ (g1.trans g2) (atom_res rfl (by simp only [Rep])))
  | true =>
    obtain ⟨d3, e4, e⟩ := R.bind_eq_ok e
    obtain ⟨t2, e5, e⟩ := R.bind_eq_ok e
    cases e
    refine iteT (lend s2 e4 fun v3 H3 g3 s3 q3 => ?_)
    exact hr2 H3 d2 d3 t2 v2 v3 Q e5 (Rep.same g3.h _ _ q2) q3 (k _ _ _ ((g1.trans g2).trans g3) (atom_res rfl (by simp only [Rep])))
theorem RepC.rep {H F : Hp} {d : D} {v : V} (h : Same F H) (x : RepC M H F d v) : Rep M H d v := by
  cases d with
  | lst xs => obtain ⟨a, vs, r, q, z⟩ := x; simp only [Rep]; exact ⟨a, vs, r, q, Reps.same h _ _ z⟩
  | dic t ks ds => obtain ⟨a, us, r, q, z⟩ := x; simp only [Rep]; exact ⟨a, us, r, q, Reps.same h _ _ z⟩
  | obj c fs ds => obtain ⟨a, C, dx, us, r, q, l, c, z⟩ := x; simp only [Rep]; exact ⟨a, C, dx, us, r, q, l, c, Reps.same h _ _ z⟩
  | non => exact Rep.same h _ _ x
  | bl _ => exact Rep.same h _ _ x
  | int _ => exact Rep.same h _ _ x
  | str _ => exact Rep.same h _ _ x
  | tup _ => exact Rep.same h _ _ x
  | scr _ => exact Rep.same h _ _ x
/-- and, or, as values -/
theorem z_bool (o : XOk C M X sc) (hw : w = .s ∨ w = .c) {op : BoolOp} {pos : Pos} {f : Expr → Option ZE} : ∀ {es : List Expr} {zs : List ZE} {z : ZE}, (∀ e ∈ es, ∀ z, f e = some z → PE X e (zT M fe w z)) → mapO f es = some zs → foldB (boolF op) zs = some z → PE X (.BoolOp op es pos) (zT M fe w z)
  | [], zs, z, _, h, h2 => by cases h; cases h2
  | [e], zs, z, hp, h, h2 => by
    obtain ⟨x, h1, h⟩ := Option.bind_eq_some_iff.mp h
    cases h
    cases h2
    exact pe_one (hp e List.mem_cons_self _ h1)
  | e :: e' :: es, zs, z, hp, h, h2 => by
    obtain ⟨x, h1, h⟩ := Option.bind_eq_some_iff.mp h
    obtain ⟨zr, h3, h⟩ := Option.map_eq_some_iff.mp h
    subst h
    cases zr with
    | nil => have := mapO_len h3; simp at this
    | cons y zr =>
      obtain ⟨q, h4, h5⟩ := Option.map_eq_some_iff.mp h2
      subst h5
      have ih := z_bool (pos := pos) o hw (fun e2 he z => hp e2 (List.mem_cons_of_mem _ he) z) h3 h4
      have hx := hp e List.mem_cons_self _ h1
      have rep : ∀ {H H' F' : Hp} {d : D} {v : V}, Same F' H' → Res M H H' F' w d v → Rep M H' d v := fun {H H' F' d v} hf r => by
        rcases hw with rfl | rfl
        · exact Rep.same hf _ _ r
        · exact RepC.rep hf r
      cases op with
      | And =>
        refine PE.imp (pe_andT hx ih) fun σ H Q ⟨H0, F0, F, ρ, fps, d, s, e, k⟩ => ?_
        obtain ⟨d1, e1, e⟩ := R.bind_eq_ok e
        obtain ⟨t, e2, e⟩ := R.bind_eq_ok e
        refine zT_go s e1 fun v H1 F1 g1 s1 r1 => ⟨t, tru_z o.k e2 (rep g1.fh r1), ?_⟩
        cases t with
        | true => exact iteT (zT_go s1 e fun v2 H2 F2 g2 s2 r2 => k _ _ _ (g1.trans g2) (r2.back g1))
        | false => cases e; exact iteF (k _ _ _ g1 r1)
      | Or =>
        refine PE.imp (pe_orT hx ih) fun σ H Q ⟨H0, F0, F, ρ, fps, d, s, e, k⟩ => ?_
        obtain ⟨d1, e1, e⟩ := R.bind_eq_ok e
        obtain ⟨t, e2, e⟩ := R.bind_eq_ok e
        refine zT_go s e1 fun v H1 F1 g1 s1 r1 => ⟨t, tru_z o.k e2 (rep g1.fh r1), ?_⟩
        cases t with
        | true => cases e; exact iteT (k _ _ _ g1 r1)
        | false => exact iteF (zT_go s1 e fun v2 H2 F2 g2 s2 r2 => k _ _ _ (g1.trans g2) (r2.back g1))
theorem z_ite {a b c : Expr} {x y z : ZE} {pos : Pos} (hc : PT X c (zTT M x)) (ha : PE X a (zT M fe w y)) (hb : PE X b (zT M fe w z)) : PE X (.IfExp c a b pos) (zT M fe w (eIte x y z)) := by
  refine PE.imp (pe_ifExp hc ha hb) fun σ H Q ⟨H0, F0, F, ρ, fps, d, s, e, k⟩ => ?_
  obtain ⟨d1, e1, e⟩ := R.bind_eq_ok e
  obtain ⟨t, e2, e⟩ := R.bind_eq_ok e
  refine ⟨H0, F0, F, fe, ρ, fps, d1, t, s, e1, e2, fun H1 g1 => ?_⟩
  have s1 := s.grow g1
  cases t with
  | true => exact iteT (zT_go s1 e fun v2 H2 F2 g2 s2 r2 => k _ _ _ (g1.trans g2) (r2.back g1))
  | false => exact iteF (zT_go s1 e fun v2 H2 F2 g2 s2 r2 => k _ _ _ (g1.trans g2) (r2.back g1))
theorem z_ix {a i : Expr} {x y : ZE} {pos : Pos} (o : XOk C M X sc) (hw : w = .c ∨ w = .s) (hn : notSlice i = true) (ha : PE X a (zT M fe .c x)) (hb : PE X i (zL M y)) : PE X (.Subscript a i pos) (zT M fe w (eIx x y)) := by
  refine PE.imp (pe_ix (ix_seqZ (by have := o.room; omega)) ha hb (fun _ _ => by cases i <;> first | rfl | (exact Bool.noConfusion hn))) fun σ H Q ⟨H0, F0, F, ρ, fps, d, s, e, k⟩ => ?_
  obtain ⟨d1, e1, e⟩ := R.bind_eq_ok e
  obtain ⟨d2, e2, e⟩ := R.bind_eq_ok e
  refine zT_go s e1 fun v1 H1 F1 g1 s1 r1 => lend s1 e2 fun v2 H2 g2 s2 r2 => ?_
  have r1 : RepC M H1 F1 d1 v1 := r1
  exact ix_z o.k g2.fh e (r1.same g2.h g2.f) r2 fun v r => k v _ _ (g1.trans g2) (sh_res hw g2.fh r)

/-! ### slices -/
theorem cutL_len {α : Type} (xs : List α) (lo hi : Option Int) : (cutL xs lo hi).length = min (HT.sIx xs.length xs.length hi - HT.sIx xs.length 0 lo) (xs.length - HT.sIx xs.length 0 lo) := by
  unfold cutL
  rw [List.length_take, List.length_drop]
theorem reps_cut {F : Hp} {xs : List D} {vs : List V} (h : Reps M F xs vs) (lo hi : Option Int) : Reps M F (cutL xs lo hi) (cutV vs lo hi) := by
  unfold cutL cutV
  rw [h.len]
  exact (h.drop _).take _
theorem cutL_all {α : Type} {xs : List α} {lo hi : Option Int} (h : HT.sIx xs.length 0 lo = 0 ∧ HT.sIx xs.length xs.length hi = xs.length) : cutL xs lo hi = xs := by
  unfold cutL
  rw [h.1, h.2, List.drop_zero, Nat.sub_zero, List.take_length]
def rCutZ (K : PySem.W.Frag) : V → Option Int → Option Int → Hp → VK → Prop := fun x lo hi H Q => rSlL K x lo hi H Q ∨ rSlA K x lo hi H Q ∨ rSlS x lo hi H Q
theorem SlR.or {r r' : V → Option Int → Option Int → Hp → VK → Prop} (h : SlR X r) (h' : SlR X r') : SlR X (fun x lo hi H Q => r x lo hi H Q ∨ r' x lo hi H Q) := by
  intro pins s σ H x v vl vu lo hi sl Q I rx hs pl pu q
  rcases q with q | q
  · exact h pins s σ H x v vl vu lo hi sl Q I rx hs pl pu q
  · exact h' pins s σ H x v vl vu lo hi sl Q I rx hs pl pu q
theorem sl_cutZ : SlR X (rCutZ X.K) := SlR.or sl_list (SlR.or sl_tupA sl_str)
def zO (M : Mx) (fe : List Fl) (z : Option ZE) : TO := fun σ H Q => ∃ H0 F0 F ρ fps o, St M H0 F0 σ H F fe ρ fps ∧ ePart z ρ = .ok o ∧ ∀ H', Gr H F H' F → Q o H'
theorem PO.imp {e : Option Expr} {t t' : TO} (h : PO X e t) (q : ∀ σ H Q, t' σ H Q → t σ H Q) : PO X e t' := ⟨fun pins s σ H Q I z => h.run pins s σ H Q I (q _ _ _ z)⟩
theorem z_part {l : Option Expr} {z : Option ZE} {f : Expr → Option ZE} (hp : ∀ e z, f e = some z → PE X e (zL M z)) (h : (match l with | none => some none | some l => (f l).map some) = some z) : PO X l (zO M fe z) := by
  cases l with
  | none =>
    cases h
    refine PO.imp po_none fun σ H Q ⟨H0, F0, F, ρ, fps, o, s, e, k⟩ => ?_
    cases e
    exact k H (.refl s.fh)
  | some l =>
    obtain ⟨y, h1, h2⟩ := Option.map_eq_some_iff.mp h
    subst h2
    refine PO.imp (po_some (hp l y h1)) fun σ H Q ⟨H0, F0, F, ρ, fps, o, s, e, k⟩ => ?_
    obtain ⟨d1, e1, e⟩ := R.bind_eq_ok e
    refine lend s e1 fun v1 H1 g1 s1 r1 => ?_
    cases d1 with
    | int i => cases e; simp only [Rep] at r1; exact ⟨i, r1, k _ g1⟩
    | _ => cases e
theorem z_cut {a : Expr} {lo hi : Option Expr} {x : ZE} {l h : Option ZE} {p2 pos : Pos} (o : XOk C M X sc) (hw : w ≠ .d) (ha : PE X a (zT M fe .c x)) (hl : PO X lo (zO M fe l)) (hh : PO X hi (zO M fe h)) : PE X (.Subscript a (.Slice lo hi none p2) pos) (zT M fe w (eCut x l h)) := by
  refine PE.imp (pe_slice sl_cutZ ha hl hh) fun σ H Q ⟨H0, F0, F, ρ, fps, d, s, e, k⟩ => ?_
  obtain ⟨d1, e1, e⟩ := R.bind_eq_ok e
  obtain ⟨i, e2, e⟩ := R.bind_eq_ok e
  obtain ⟨j, e3, e⟩ := R.bind_eq_ok e
  refine zT_go s e1 fun v1 H1 F1 g1 s1 r1 => ⟨H0, F0, F1, ρ, fps, i, s1, e2, fun H2 g2 => ⟨H0, F0, F1, ρ, fps, j, s1.grow g2, e3, fun H3 g3 => ?_⟩⟩
  have g := g2.trans g3
  have r1 : RepC M H1 F1 d1 v1 := r1
  have r3 := r1.same g.h g.f
  have k' : ∀ v H' F', Gr H3 F1 H' F' → Res M H3 H' F' w d v → Q v H' := fun v H' F' q r => k v H' F' ((g1.trans g).trans q) (r.back (g1.trans g))
  cases d1 with
  | lst xs =>
    cases e
    obtain ⟨b, us, rfl, q, z⟩ := r3
    refine .inl ⟨b, us, rfl, .inl (.inl q), fun p hp => ?_⟩
    obtain ⟨F', g', r⟩ := list_res (w := w) hw g.fh hp (reps_cut z i j)
    exact k' _ _ _ g' r
  | tup xs =>
    cases e
    have r4 : Rep M F1 (.tup xs) v1 := r3
    have r5 := r4
    simp only [Rep] at r5
    obtain ⟨b, us, rfl, q, z⟩ := r5
    refine .inr (.inl ⟨b, us, rfl, by rw [o.k]; exact SqT.of (g.fh _ _ q), fun hall => ?_, fun _ p hp => ?_⟩)
    · rw [← z.len] at hall
      rw [cutL_all hall] at k'
      refine k' _ _ _ (.refl g.fh) ?_
      cases w with
      | d => exact absurd rfl hw
      | w => exact ⟨[], r4, fun b hb => by cases hb⟩
      | c => exact r4
      | s => exact r4
    · obtain ⟨F', g', r⟩ := tup_res (w := w) hw g.fh hp (reps_cut z i j)
      exact k' _ _ _ g' r
  | str y =>
    obtain ⟨h1, h2⟩ := chk_ok e
    cases h2
    have e1 : v1 = .str y := by simpa only [RepC, Rep] using r3
    subst e1
    exact .inr (.inr ⟨y, rfl, of_decide_eq_true h1, k' _ _ _ (.refl g.fh) (atom_res rfl (by simp only [Rep]))⟩)
  | _ => cases e
end
end Z
/-! Z: slices with a step -/
namespace Z
open PySem PySem.Spec PyProof.Rows L2
section
variable {C : CC} {M : Mx} {X : Cx} {sc : Scope} {fe : List Fl} {w : Wt}
theorem reps_pick {F : Hp} {xs : List D} {vs : List V} (h : Reps M F xs vs) : ∀ ks : List Nat, Reps M F (ks.filterMap (xs[·]?)) (ks.filterMap (vs[·]?))
  | [] => by simp only [List.filterMap_nil, Reps]
  | k :: ks => by
    rw [List.filterMap_cons, List.filterMap_cons]
    cases hk : xs[k]? with
    | none =>
      have h1 := h.len
      have h2 : xs.length ≤ k := List.getElem?_eq_none_iff.mp hk
      have : vs[k]? = none := List.getElem?_eq_none_iff.mpr (by omega)
      rw [this]
      exact reps_pick h ks
    | some d =>
      obtain ⟨v, h1, h2⟩ := h.get hk
      rw [h1]
      exact Reps.cons h2 (reps_pick h ks)
theorem vals_pick {xs : List V} {us : List Value} (h : Vals xs us) : ∀ ks : List Nat, Vals (ks.filterMap (xs[·]?)) (ks.filterMap (us[·]?))
  | [] => .nil
  | k :: ks => by
    rw [List.filterMap_cons, List.filterMap_cons]
    cases hk : xs[k]? with
    | none =>
      rw [h.none_of hk]
      exact vals_pick h ks
    | some d =>
      obtain ⟨v, h1, h2⟩ := h.get hk
      rw [h1]
      exact .cons h2 (vals_pick h ks)
theorem pick_arr (its : List Value) (lo hi : Option Int) (st : Int) : slicePick its.toArray lo hi (some st) = (pickL its lo hi st).toArray := by
  unfold slicePick pickL
  simp only [List.size_toArray, List.getElem?_toArray]
theorem pickL_len (xs : List V) (us : List Value) (h : Vals xs us) (lo hi : Option Int) (st : Int) : (pickL xs lo hi st).length ≤ xs.length := by
  have h1 : Vals (pickL xs lo hi st) (pickL us lo hi st) := by
    unfold pickL
    rw [h.length]
    exact vals_pick h _
  have h2 := slicePick_size_le us.toArray lo hi (some st)
  rw [pick_arr, List.size_toArray, List.size_toArray] at h2
  rw [h1.length, h.length]
  exact h2
/-- xs[lo:hi:st] of a list: a new list -/
def rStL (K : PySem.W.Frag) : V → Option Int → Option Int → Option Int → Hp → VK → Prop := fun x lo hi st H Q => ∃ a xs k, x = .ref a ∧ SqL K H a xs ∧ st = some k ∧ k ≠ 0 ∧ ∀ p, H p = none → Q (.ref p) (upd H p (.lst (pickL xs lo hi k)))
theorem pe_step {a st : Expr} {lo hi : Option Expr} {te : TE} {tl th ts : TO} {p2 pos : Pos} (he : PE X a te) (hl : PO X lo tl) (hu : PO X hi th) (hst : PO X (some st) ts) :
    PE X (.Subscript a (.Slice lo hi (some st) p2) pos) (fun σ H Q => te σ H fun x H1 => tl σ H1 fun l H2 => th σ H2 fun u H3 => ts σ H3 fun s H4 => rStL X.K x l u s H4 Q) := by
  refine ⟨fun pins s σ H Q I h => ?_⟩
  refine Subscript_ (thn (he.run pins s σ H _ I h) fun v s1 ⟨x, H1, I1, r1, q1⟩ => ?_)
  refine wpAny_Slice (thn (hl.run pins s1 σ H1 _ I1 q1) fun vl s2 ⟨l, H2, I2, pl, q2⟩ => thn (hu.run pins s2 σ H2 _ I2 q2) fun vu s3 ⟨u, H3, I3, pu, q3⟩ => thn (hst.run pins s3 σ H3 _ I3 q3) fun vs s4 ⟨k, H4, I4, ps, q4⟩ => ?_)
  have I5 : Inv X pins σ H4 { s4 with heap := s4.heap.push { cls := .type "slice", data := .fields #[vl, vu, vs] } } := I4.kept (t' := s4.toks) fun b ob q => Heap.get?_push_of_some _ q
  obtain ⟨b, xs, k, rfl, hx, rfl, hk, q⟩ := q4
  cases r1
  obtain ⟨its, r, ht, hz⟩ := I5.list hx
  have hg : wpAny (model X.prog X.w) X.A (getItem (.ref b) (.ref s4.heap.objs.size)) (EP X pins σ Q) X.xe { s4 with heap := s4.heap.push { cls := .type "slice", data := .fields #[vl, vu, vs] } } := by
    refine wpAny_getItem_list_slice ht.isList (Heap.IsSliceOf.new ..) pl pu ps (by simp [hk]) ?_ (by rw [List.size_toArray] <;> have := r.length <;> omega)
    rw [pick_arr]
    have hv : Vals (pickL xs l u k) (pickL its l u k) := by
      unfold pickL
      rw [r.length]
      exact vals_pick r _
    refine ⟨.ref _, _, I5.laid (t' := s4.toks) (o := .lst (pickL xs l u k)) (fun b ob q => Heap.get?_push_of_some _ q) (Nat.le_refl _) ?_, rfl, q _ (I5.hok.fresh (Nat.le_refl _))⟩
    exact ⟨Nat.le_trans (pickL_len xs its r l u k) hz, _, 0, hv, Heap.get?_push_size _ rfl⟩
  show wpAny (model X.prog X.w) X.A (subscriptTail a (.Slice lo hi (some st) p2) (.ref b) (.ref s4.heap.objs.size)) (EP X pins σ Q) X.xe { s4 with heap := s4.heap.push { cls := .type "slice", data := .fields #[vl, vu, vs] } }
  exact tail_any (ops := [.ref b, .ref s4.heap.objs.size]) ht.isList.typeIs slot_list_getitem.lookup hg (by with_unfolding_all rfl)
theorem z_step {a st : Expr} {lo hi : Option Expr} {x : ZE} {l h : Option ZE} {z : ZE} {p2 pos : Pos} (o : XOk C M X sc) (hw : w ≠ .d) (ha : PE X a (zT M fe .c x)) (hl : PO X lo (zO M fe l)) (hh : PO X hi (zO M fe h)) (hs : PO X (some st) (zO M fe (some z))) : PE X (.Subscript a (.Slice lo hi (some st) p2) pos) (zT M fe w (eStep x l h z)) := by
  refine PE.imp (pe_step ha hl hh hs) fun σ H Q ⟨H0, F0, F, ρ, fps, d, s, e, k⟩ => ?_
  obtain ⟨d1, e1, e⟩ := R.bind_eq_ok e
  obtain ⟨i, e2, e⟩ := R.bind_eq_ok e
  obtain ⟨j, e3, e⟩ := R.bind_eq_ok e
  obtain ⟨n, e4, e⟩ := R.bind_eq_ok e
  refine zT_go s e1 fun v1 H1 F1 g1 s1 r1 => ⟨H0, F0, F1, ρ, fps, i, s1, e2, fun H2 g2 => ⟨H0, F0, F1, ρ, fps, j, s1.grow g2, e3, fun H3 g3 => ⟨H0, F0, F1, ρ, fps, n, (s1.grow g2).grow g3, e4, fun H4 g4 => ?_⟩⟩⟩
  have g := (g2.trans g3).trans g4
  have r1 : RepC M H1 F1 d1 v1 := r1
  have r3 := r1.same g.h g.f
  have k' : ∀ v H' F', Gr H4 F1 H' F' → Res M H4 H' F' w d v → Q v H' := fun v H' F' q r => k v H' F' ((g1.trans g).trans q) (r.back (g1.trans g))
  cases d1 with
  | lst xs =>
    cases n with
    | none => cases e
    | some n =>
      have e : chk (decide (n ≠ 0)) (R.ok (D.lst (pickL xs i j n))) = .ok d := e
      by_cases hn : n ≠ 0
      · rw [decide_eq_true hn] at e
        cases e
        obtain ⟨b, us, rfl, q, z⟩ := r3
        refine ⟨b, us, n, rfl, .inl (.inl q), rfl, hn, fun p hp => ?_⟩
        have rp : Reps M F1 (pickL xs i j n) (pickL us i j n) := by
          unfold pickL
          rw [z.len]
          exact reps_pick z _
        obtain ⟨F', g', r⟩ := list_res (w := w) hw g.fh hp rp
        exact k' _ _ _ g' r
      · rw [decide_eq_false hn] at e
        cases e
  | _ => cases e
end
end Z
/-! Z, part H: calls, targets, what is walked, comprehensions; all expressions. -/
namespace Z
open PySem PySem.Spec PyProof.Rows L2

section
variable {C : CC} {M : Mx} {X : Cx} {sc : Scope} {fe : List Fl} {w : Wt}
theorem glOf {x : Str} (o : XOk C M X sc) (hg : glK (sc.names.lookup x) = true) : Gl X x := by
  show X.env.scope.names.lookup x = some .globalImplicit
  rw [o.sc]
  unfold glK at hg
  split at hg <;> first | assumption | (exact Bool.noConfusion hg)
theorem plain_parts {x : Str} (h : plainName x = true) : (x == ("__debug__" : Str)) = false ∧ x ≠ "__name__" := by
  unfold plainName at h
  simp only [Bool.and_eq_true, Bool.not_eq_true'] at h
  exact ⟨h.1.1, by simpa using h.2⟩
theorem builtin_parts {x : Str} (o : XOk C M X sc) (h : isBuiltin C sc x = true) : Gl X x ∧ X.mg x = none ∧ (x == ("__debug__" : Str)) = false ∧ x ≠ "__name__" := by
  unfold isBuiltin at h
  simp only [Bool.and_eq_true] at h
  exact ⟨glOf o h.1.2, o.free x (blt_mem h.2), plain_parts h.1.1⟩
/-- which value a built-in's name has -/
def bltV : Blt → Value
  | .len => .builtin "len"
  | .all => .builtin "all"
  | .any => .builtin "any"
  | .sum => .builtin "sum"
  | .int => .type "int"
  | .str => .type "str"
  | .list => .type "list"
  | .tuple => .type "tuple"
  | .sorted => .builtin "sorted"
  | .min => .builtin "min"
  | .max => .builtin "max"
  | .bool => .type "bool"
theorem bltOf_cases {f : Str} {g : Blt} (h : bltOf f = some g) : bootBuiltins f = some (bltV g) ∧ ((∃ id, bltV g = .builtin id) ∨ ∃ T, bltV g = .type T) := by
  have hm : (f, g) ∈ bltTab := PySem.mem_of_lookup h
  clear h
  simp only [bltTab, List.mem_cons, Prod.mk.injEq, List.not_mem_nil, or_false] at hm
  rcases hm with ⟨rfl, rfl⟩ | ⟨rfl, rfl⟩ | ⟨rfl, rfl⟩ | ⟨rfl, rfl⟩ | ⟨rfl, rfl⟩ | ⟨rfl, rfl⟩ | ⟨rfl, rfl⟩ | ⟨rfl, rfl⟩ | ⟨rfl, rfl⟩ | ⟨rfl, rfl⟩ | ⟨rfl, rfl⟩ | ⟨rfl, rfl⟩
  all_goals
    first
      | exact ⟨by decide +kernel, .inl ⟨_, rfl⟩⟩
      | exact ⟨by decide +kernel, .inr ⟨_, rfl⟩⟩
theorem blt_rule (o : XOk C M X sc) (g : Blt) : BltZs M X (bltV g) (bltD g) := by
  have hu : X.A.units + 150 < cLine := by have := o.room; omega
  cases g with
  | len => exact (blt_len o.k).many
  | all => exact (blt_all o.calm).many
  | any => exact (blt_any o.calm).many
  | sum => exact (blt_sum o.calm).many
  | int => exact blt_int.many
  | str => exact blt_str.many
  | list => exact (blt_list o.k o.calm).many
  | tuple => exact (blt_tuple o.k).many
  | sorted => exact (blt_sorted o.k hu).many
  | min => exact blt_min o.calm
  | max => exact blt_max o.calm
  | bool => exact blt_bool.many
theorem pa_one {a : Expr} {x : ZE} (hn : notStar a = true) (ha : PE X a (zT M fe w x)) (hw : w = .c ∨ w = .s) : PA X [a] (fun σ H Q => ∃ H0 F0 F ρ fps d, St M H0 F0 σ H F fe ρ fps ∧ x ρ = .ok d ∧ ∀ v H' F', Gr H F H' F' → RepW M H' F' w d v → Q [v] H') := by
  refine PA.imp (pa_cons ha pa_nil (star_cons hn)) fun σ H Q ⟨H0, F0, F, ρ, fps, d, s, e, k⟩ => ?_
  exact zT_go s e fun v H' F' g s' r => k v H' F' g (RepW.res hw r)
theorem z_blt {f : Str} {g : Blt} {a : Expr} {es : List Expr} {zs : List ZE} {p pos : Pos} (o : XOk C M X sc) (hb : isBuiltin C sc f = true) (hg : bltOf f = some g) (hw : w ≠ .d) (hn : (a :: es).all notStar = true) (pa : PA X (a :: es) (zAw M fe .c zs)) : PE X (.Call (.Name f p) (a :: es) [] pos) (zT M fe w (eBlt g zs)) := by
  obtain ⟨gl, hm, hd, hnm⟩ := builtin_parts o hb
  obtain ⟨hv, hk⟩ := bltOf_cases hg
  obtain ⟨r, hc, hr⟩ := blt_rule o g
  rw [List.all_cons, Bool.and_eq_true] at hn
  have fin : ∀ σ H Q, zT M fe w (eBlt g zs) σ H Q → tCB r (zAw M fe .c zs) σ H Q := fun σ H Q ⟨H0, F0, F, ρ, fps, d, s, e, k⟩ => by
    obtain ⟨ds, e1, e⟩ := R.bind_eq_ok e
    exact ⟨H0, F0, F, ρ, fps, ds, s, e1, fun v H' F' g1 r1 => hr H' F' ds d v w Q hw g1.fh e r1 fun v2 H2 F2 g2 r2 => k _ _ _ (g1.trans g2) (r2.back g1)⟩
  rcases hk with ⟨id, hk⟩ | ⟨T, hk⟩
  · rw [hk] at hv hc
    exact PE.imp (pe_callB hc gl hm hv pa hnm hd (star_cons hn.1) (star_any hn.2)) fin
  · rw [hk] at hv hc
    exact PE.imp (pe_callTy hc gl hm hv pa hnm hd (star_cons hn.1) (star_any hn.2)) fin

/-! ### isinstance -/
theorem tyx_of {H : Hp} {d : D} {v : V} (hK : X.K = M.K) (h : Rep M H d v) (hn : (tyD d != "") = true) : TyX X.K H v (.type (tyD d)) := by
  cases d with
  | non => simp only [Rep] at h; subst h; exact .base .non
  | bl b => simp only [Rep] at h; subst h; exact .base (.bl b)
  | int b => simp only [Rep] at h; subst h; exact .base (.int b)
  | str b => simp only [Rep] at h; subst h; exact .base (.str b)
  | tup xs =>
    simp only [Rep] at h
    obtain ⟨a, vs, rfl, q, z⟩ := h
    exact .base (.tup q)
  | lst xs =>
    simp only [Rep] at h
    obtain ⟨a, vs, rfl, q, z⟩ := h
    exact .base (.lst q)
  | dic t ks ds =>
    simp only [Rep] at h
    obtain ⟨a, us, rfl, q, z⟩ := h
    cases t
    · obtain ⟨kvs, e, _⟩ := q
      exact .base (.dK e)
    · obtain ⟨kvs, e, _⟩ := q
      exact .base (.dT e)
  | obj c fs ds => exact Bool.noConfusion hn
  | scr ns => exact Bool.noConfusion hn
theorem tyOf_boot {t : Str} {s : String} (h : tyOf t = some s) : bootBuiltins t = some (.type s) := by
  unfold tyOf at h
  repeat
    (split at h
     · rename_i e; subst e; cases h; decide +kernel)
  cases h
theorem boot_isi : bootBuiltins ("isinstance" : Str) = some (.builtin "isinstance") := by decide +kernel
theorem z_isi {a : Expr} {x : ZE} {t : Str} {ty : String} {p p2 pos : Pos} (o : XOk C M X sc) (hb : isBuiltin C sc "isinstance" = true) (ht : isBuiltin C sc t = true) (hty : tyOf t = some ty) (hn : notStar a = true) (ha : PE X a (zL M x)) :
    PE X (.Call (.Name "isinstance" p) [a, .Name t p2] [] pos) (zT M fe w (eIsi x ty)) := by
  obtain ⟨gl, hm, hd, hnm⟩ := builtin_parts o hb
  obtain ⟨gl2, hm2, hd2, hnm2⟩ := builtin_parts o ht
  have pa := pa_cons ha (pa_cons (pe_bltn (v := .ty ty) (pos := p2) gl2 hm2 (tyOf_boot hty) rfl hnm2 hd2) pa_nil (star_cons rfl)) (star_cons hn)
  refine PE.imp (pe_callB call_isi gl hm boot_isi pa hnm hd (star_cons hn) rfl) fun σ H Q ⟨H0, F0, F, ρ, fps, d, s, e, k⟩ => ?_
  obtain ⟨d1, e1, e⟩ := R.bind_eq_ok e
  refine lend s e1 fun v H' g s' r => ?_
  unfold isiD at e
  split at e
  · rename_i b hb
    obtain ⟨h1, h2⟩ := chk_ok e
    cases h2
    exact ⟨v, .ty ty, _, _, b, rfl, .ty ty, tyx_of o.k r h1, kit_ty hb, k _ _ _ g (atom_res rfl (by simp only [Rep]))⟩
  · cases e

/-! ### calls of the text's defs -/
theorem val_w {H H' F F' : Hp} {fl : Fl} {d : D} {v : V} {fp : List Addr} (hw : (w == .s || w == .c || (w == .w && fl == .own)) = true) (g : Gr H F H' F') (x : Val M H' F' fl d v fp) (fr : Fresh H F' fp) : ∃ F'', Gr H F H' F'' ∧ Res M H H' F'' w d v := by
  have sh : Gr H F H' (ext F' H' fp) ∧ Rep M (ext F' H' fp) d v := ⟨g.give fr, Val.sh g.fh x⟩
  cases w with
  | s => exact ⟨_, sh.1, sh.2⟩
  | c => exact ⟨_, sh.1, RepC.of sh.1.fh sh.2⟩
  | w =>
    have : fl = .own := by simpa using hw
    subst this
    exact ⟨F', g, fp, x, fr⟩
  | d => exact Bool.noConfusion hw
theorem z_call {f : Str} {es : List Expr} {zs : List ZE} {p pos : Pos} (o : XOk C M X sc) (hf : C.fn f = true) (hp : plainName f = true) (hg : glK (sc.names.lookup f) = true) (hn : es.all notStar = true)
    (hw : (w == .s || w == .c || (w == .w && C.fl f == .own)) = true) (hz : zs.length = es.length) (ha : PA X es (zAw M fe .s zs)) : PE X (.Call (.Name f p) es [] pos) (zT M fe w (eCall C.call f zs)) := by
  obtain ⟨fa, fd, ps, kk, F, hr, hm, hk, hb, hl⟩ := o.fn f hf
  have gl := glOf o hg
  obtain ⟨hd, _⟩ := plain_parts hp
  have fin : ∀ {t : TA} σ H Q, (∀ σ H Q, zAw M fe .s zs σ H Q → t σ H Q) → zT M fe w (eCall C.call f zs) σ H Q → tCall (spOf M (C.fl f) (C.call f) ps.length) [] E0 t σ H Q := fun {t} σ H Q ht ⟨H0, F0, F, ρ, fps, d, s, e, k⟩ => by
    obtain ⟨ds, e1, e⟩ := R.bind_eq_ok e
    refine ht σ H _ ⟨H0, F0, F, ρ, fps, ds, s, e1, fun vs H1 F1 g1 r1 => ?_⟩
    show spOf M (C.fl f) (C.call f) ps.length (vs ++ []) H1 Q E0
    rw [List.append_nil]
    refine ⟨ds, F1, d, hl ds d e, g1.fh, r1.reps, e, fun v H2 F2 fp g2 x fr => ?_⟩
    obtain ⟨F3, g3, r3⟩ := val_w (w := w) hw g2 x fr
    exact k v H2 F3 (g1.trans g3) (r3.back g1)
  cases es with
  | nil => exact PE.imp (pe_call0 F (hr.mono (by omega)) gl hm hk hb .nil pass0 hd) fun σ H Q z => fin σ H Q (fun σ H Q ⟨H0, F0, F, ρ, fps, ds, s, e, k⟩ => by
      cases zs with
      | nil => cases e; exact k [] H F (.refl s.fh) .nil
      | cons z zr => cases hz) z
  | cons e es =>
    rw [List.all_cons, Bool.and_eq_true] at hn
    exact PE.imp (pe_call F (hr.mono (by omega)) gl hm hk hb .nil pass0 ha hd (star_cons hn.1) (star_any hn.2)) fun σ H Q z => fin σ H Q (fun _ _ _ z => z) z

/-! ### targets -/
theorem St.put {H0 F0 H F : Hp} {σ : L2.St} {ρ : Env} {fps : Nat → List Addr} {i : Nat} {d : D} {v : V} (s : St M H0 F0 σ H F fe ρ fps) (r : Rep M F d v) : St M H0 F0 (σ.set i (some v)) H F (fe.set i .sh) (ρ.set i (some d)) (fun j => if j = i then [] else fps j) where
  h0 := s.h0
  f0 := s.f0
  fh := s.fh
  new := s.new
  len := by rw [List.length_set, List.length_set, s.len]
  slot := fun j e h => by
    by_cases hj : j = i
    · subst hj
      have hl : j < ρ.length := by
        obtain ⟨hl, _⟩ := List.getElem?_eq_some_iff.mp h
        simpa using hl
      rw [List.getElem?_set_self hl] at h
      cases h
      refine ⟨v, by rw [List.getElem?_set_self (by rw [← s.len]; exact hl)], ?_⟩
      have : (fe.set j .sh).getD j .sh = .sh := by
        rw [List.getD_eq_getElem?_getD]
        by_cases h2 : j < fe.length
        · rw [List.getElem?_set_self h2]; rfl
        · rw [List.getElem?_eq_none (by simpa using h2)]; rfl
      rw [this]
      exact r
    · rw [List.getElem?_set_ne (Ne.symm hj)] at h
      obtain ⟨u, h1, h2⟩ := s.slot j e h
      refine ⟨u, by rw [List.getElem?_set_ne (Ne.symm hj)]; exact h1, ?_⟩
      rw [getD_set hj, if_neg hj]
      exact h2
  out := fun j b hb => by
    by_cases hj : j = i
    · rw [if_pos hj] at hb; cases hb
    · rw [if_neg hj] at hb; exact s.out j b hb
  dis := fun j k b hb hc => by
    by_cases hj : j = i
    · rw [if_pos hj] at hb; cases hb
    · by_cases hk : k = i
      · rw [if_pos hk] at hc; cases hc
      · rw [if_neg hj] at hb
        rw [if_neg hk] at hc
        exact s.dis j k b hb hc
theorem wipe_set {σ : L2.St} {i : Nat} {x : Option V} : ∀ {vs : List Nat}, i ∈ vs → wipe (σ.set i x) vs = wipe σ vs
  | [], h => by cases h
  | v :: vs, h => by
    unfold wipe
    by_cases hi : i ∈ vs
    · rw [wipe_set hi]
    · have e : i = v := by
        rcases List.mem_cons.mp h with h | h
        · exact h
        · exact absurd h hi
      subst e
      have key : ∀ {vs : List Nat}, i ∉ vs → wipe (σ.set i x) vs = (wipe σ vs).set i x := fun {vs} => by
        induction vs with
        | nil => intro _; rfl
        | cons a r ih =>
          intro hn
          unfold wipe
          rw [ih (fun z => hn (List.mem_cons_of_mem _ z)), List.set_comm _ _ (fun z => hn (by rw [z]; exact List.mem_cons_self))]
      rw [key hi, List.set_set]
/-- where items go: the slots ss are set, to shared values -/
def zG (M : Mx) (fe : List Fl) (g : ZG) (ss : List Nat) : TG := fun v σ H Q => ∃ H0 F0 F ρ fps d ρ', St M H0 F0 σ H F fe ρ fps ∧ Rep M F d v ∧ g d ρ = .ok ρ' ∧
  ∀ σ' fps', St M H0 F0 σ' H F (setSh fe ss) ρ' fps' → (∀ vs : List Nat, (∀ i ∈ ss, i ∈ vs) → wipe σ' vs = wipe σ vs) → Q σ' H
def zGs (M : Mx) (fe : List Fl) (gs : List ZG) (ss : List Nat) : TGs := fun us σ H Q => ∃ H0 F0 F ρ fps ds ρ', St M H0 F0 σ H F fe ρ fps ∧ Reps M F ds us ∧ gEach gs ds ρ = .ok ρ' ∧
  ∀ σ' fps', St M H0 F0 σ' H F (setSh fe ss) ρ' fps' → (∀ vs : List Nat, (∀ i ∈ ss, i ∈ vs) → wipe σ' vs = wipe σ vs) → Q σ' H
theorem PG.imp {e : Expr} {t t' : TG} (h : PG X e t) (q : ∀ v σ H Q, t' v σ H Q → t v σ H Q) : PG X e t' := ⟨fun pins s σ H v u Q I r z => h.run pins s σ H v u Q I r (q _ _ _ _ z)⟩
theorem PGs.imp {e : List Expr} {t t' : TGs} (h : PGs X e t) (q : ∀ v σ H Q, t' v σ H Q → t v σ H Q) : PGs X e t' := ⟨fun pins s σ H v u Q I r z => h.run pins s σ H v u Q I r (q _ _ _ _ z)⟩
/-- the names that may be stored, in this context -/
def LocOk (sc0 : Scope) (X : Cx) : Prop := ∀ x, locK (sc0.names.lookup x) = true → Loc X.env.scope x ∧ (X.fn x = true ∨ X.env.scope.names.lookup x = some .local)
theorem assign_cons {e : Expr} {es : List Expr} {env : PySem.Env} (h : notStar e = true) : assignEach (e :: es) env = (false, assign e env) :: assignEach es env := by
  cases e <;> first | rfl | (exact Bool.noConfusion h)
theorem assign_len {env : PySem.Env} : ∀ {es : List Expr}, es.all notStar = true → (assignEach es env).length = es.length ∧ (assignEach es env).findIdx? (·.1) = none
  | [], _ => ⟨rfl, rfl⟩
  | e :: es, h => by
    rw [List.all_cons, Bool.and_eq_true] at h
    obtain ⟨h1, h2⟩ := assign_len (env := env) h.2
    rw [assign_cons h.1]
    refine ⟨by rw [List.length_cons, List.length_cons, h1], ?_⟩
    rw [List.findIdx?_cons, h2]
    rfl
theorem setSh_append (fe : List Fl) (a b : List Nat) : setSh fe (a ++ b) = setSh (setSh fe a) b := by unfold setSh; rw [List.foldl_append]
theorem z_tgts {f : Expr → Option (ZG × List Nat)} (hf : ∀ e ps fe, f e = some ps → PG X e (zG M fe ps.1 ps.2)) : ∀ {es : List Expr} {ps : List (ZG × List Nat)} {fe : List Fl}, es.all notStar = true → mapO f es = some ps → PGs X es (zGs M fe (ps.map (·.1)) (ps.flatMap (·.2)))
  | [], ps, fe, _, h => by
    cases h
    refine PGs.imp pgs_nil fun us σ H Q ⟨H0, F0, F, ρ, fps, ds, ρ', s, r, e, k⟩ => ?_
    cases ds with
    | nil =>
      cases e
      rw [Reps.nil_iff] at r
      exact ⟨r, k σ fps s fun _ _ => rfl⟩
    | cons _ _ => cases e
  | e :: es, ps, fe, hn, h => by
    obtain ⟨z, h1, h⟩ := Option.bind_eq_some_iff.mp h
    obtain ⟨zr, h2, h3⟩ := Option.map_eq_some_iff.mp h
    subst h3
    rw [List.all_cons, Bool.and_eq_true] at hn
    have ih := z_tgts (fe := setSh fe z.2) hf hn.2 h2
    refine PGs.imp (pgs_cons (hf e z fe h1) ih (by rw [assign_cons hn.1]; rfl)) fun us σ H Q ⟨H0, F0, F, ρ, fps, ds, ρ', s, r, e, k⟩ => ?_
    cases ds with
    | nil => cases e
    | cons d ds =>
      obtain ⟨ρ1, e1, e2⟩ := R.bind_eq_ok e
      simp only [Reps] at r
      obtain ⟨v, ur, rfl, r1, r2⟩ := r
      refine ⟨v, ur, rfl, H0, F0, F, ρ, fps, d, ρ1, s, r1, e1, fun σ1 fps1 s1 w1 => ⟨H0, F0, F, ρ1, fps1, ds, ρ', s1, r2, e2, fun σ2 fps2 s2 w2 => ?_⟩⟩
      rw [List.flatMap_cons] at k
      rw [← setSh_append] at s2
      exact k σ2 fps2 s2 fun vs hv => (w2 vs fun i hi => hv i (List.mem_append_right _ hi)).trans (w1 vs fun i hi => hv i (List.mem_append_left _ hi))
theorem z_tgt (hn : X.N = C.N) (nd : C.N.Nodup) (hK : X.K = M.K) (hc : X.calm = true) {sc0 : Scope} (hl : LocOk sc0 X) : ∀ (n : Nat) (e : Expr) (ps : ZG × List Nat) (fe : List Fl), cG n C sc0 e = some ps → PG X e (zG M fe ps.1 ps.2)
  | 0, e, ps, fe, h => by cases e <;> cases h
  | n + 1, .Name x pos, ps, fe, h => by
    obtain ⟨h1, h2⟩ := gd_some h
    obtain ⟨i, h3, h4⟩ := Option.map_eq_some_iff.mp h2
    subst h4
    obtain ⟨l1, l2⟩ := hl x h1
    refine PG.imp (pg_name (i := i) (by rw [hn]; exact nd) (by rw [hn]; exact ixOf_get h3) l1 l2) fun v σ H Q ⟨H0, F0, F, ρ, fps, d, ρ', s, r, e, k⟩ => ?_
    cases e
    exact k _ _ (s.put r) fun vs hv => wipe_set (hv i (by simp))
  | n + 1, .Tuple es j pos, ps, fe, h => by
    obtain ⟨h1, h2⟩ := gd_some h
    obtain ⟨qs, h3, h4⟩ := Option.map_eq_some_iff.mp h2
    subst h4
    obtain ⟨a1, a2⟩ := assign_len (env := X.env) h1
    have ih := z_tgts (M := M) (X := X) (fe := fe) (fun e ps fe h => z_tgt hn nd hK hc hl n e ps fe h) h1 h3
    refine PG.imp (pg_tup hc ih a1 a2) fun v σ H Q ⟨H0, F0, F, ρ, fps, d, ρ', s, r, e, k⟩ => ?_
    cases d with
    | tup ds =>
      simp only [Rep] at r
      obtain ⟨a, us, rfl, q, z⟩ := r
      refine ⟨a, us, rfl, by rw [hK]; exact SqT.of (s.fh _ _ q), ?_, H0, F0, F, ρ, fps, ds, ρ', s, z, e, k⟩
      rw [← z.len]
      have key : ∀ {gs : List ZG} {ds : List D} {ρ ρ' : Env}, gEach gs ds ρ = .ok ρ' → ds.length = gs.length := fun {gs} => by
        induction gs with
        | nil => intro ds ρ ρ' e; cases ds <;> first | rfl | cases e
        | cons g gs ih =>
          intro ds ρ ρ' e
          cases ds with
          | nil => cases e
          | cons d ds =>
            obtain ⟨ρ1, e1, e2⟩ := R.bind_eq_ok e
            rw [List.length_cons, List.length_cons, ih e2]
      have e : gEach (qs.map (·.1)) ds ρ = .ok ρ' := e
      rw [key e, List.length_map, mapO_len h3]
    | _ => cases e
  | n + 1, .BoolOp _ _ _, ps, fe, h => by cases h
  | n + 1, .NamedExpr _ _ _, ps, fe, h => by cases h
  | n + 1, .BinOp _ _ _ _, ps, fe, h => by cases h
  | n + 1, .UnaryOp _ _ _, ps, fe, h => by cases h
  | n + 1, .Lambda _ _ _ _, ps, fe, h => by cases h
  | n + 1, .IfExp _ _ _ _, ps, fe, h => by cases h
  | n + 1, .Dict _ _ _, ps, fe, h => by cases h
  | n + 1, .Set _ _ _, ps, fe, h => by cases h
  | n + 1, .ListComp _ _ _ _, ps, fe, h => by cases h
  | n + 1, .SetComp _ _ _ _, ps, fe, h => by cases h
  | n + 1, .DictComp _ _ _ _ _, ps, fe, h => by cases h
  | n + 1, .GeneratorExp _ _ _ _, ps, fe, h => by cases h
  | n + 1, .Await _ _, ps, fe, h => by cases h
  | n + 1, .Yield _ _, ps, fe, h => by cases h
  | n + 1, .YieldFrom _ _, ps, fe, h => by cases h
  | n + 1, .Compare _ _ _ _, ps, fe, h => by cases h
  | n + 1, .Call _ _ _ _, ps, fe, h => by cases h
  | n + 1, .FormattedValue _ _ _ _, ps, fe, h => by cases h
  | n + 1, .JoinedStr _ _, ps, fe, h => by cases h
  | n + 1, .Constant _ _ _, ps, fe, h => by cases h
  | n + 1, .Attribute _ _ _, ps, fe, h => by cases h
  | n + 1, .Subscript _ _ _, ps, fe, h => by cases h
  | n + 1, .Starred _ _, ps, fe, h => by cases h
  | n + 1, .List _ _, ps, fe, h => by cases h
  | n + 1, .Slice _ _ _ _, ps, fe, h => by cases h
end
end Z
/-! Z, part HK: sorted by a key that is a def of the text; keys of any data that may be sorted. -/
namespace Z
open PySem PySem.Spec PyProof.Rows L2

section
variable {M : Mx} {X : Cx} {pins : List (Addr × Obj)} {σ : L2.St} {H : Hp} {s : Shared}
/-- the same state one call deeper -/
abbrev deep2 (X : Cx) : Cx := { X with A := X.A.in1.in1, xe := fun _ _ => False }
theorem inv_deep2 (I : Inv X pins σ H s) : Inv (deep2 X) pins σ H s :=
  ⟨⟨I.ok.mod, I.ok.kind, I.ok.glob, I.ok.blt, I.ok.above, I.ok.inj, I.ok.has, I.ok.cab, I.ok.hd, I.ok.frames, I.ok.stk, I.ok.exf, I.ok.bs, I.ok.bsz, I.ok.noex, I.ok.exfs, I.ok.funs, I.ok.frf⟩, I.os, I.bare, I.base, I.loc, I.cell, I.free, I.freeC, I.pin, I.hok, I.len⟩
theorem inv_undeep2 (ok : X.Ok) (I : Inv (deep2 X) pins σ H s) : Inv X pins σ H s :=
  ⟨ok, I.os, I.bare, I.base, I.loc, I.cell, I.free, I.freeC, I.pin, I.hok, I.len⟩
/-- an address that no one tracks and that was made after the frame began -/
structure Loose (X : Cx) (pins : List (Addr × Obj)) (H : Hp) (k : Addr) : Prop where
  n : H k = none
  l : k ≠ X.env.locals
  a : X.s_0.heap.objs.size ≤ k
  ce : ∀ x d, X.env.cells.lookup x = some d → d ≠ k
  p : ∀ p ∈ X.pn ++ pins, p.1 ≠ k
  f : k ∉ X.fs
theorem loose_new (I : Inv X pins σ H s) {c : Addr} (hc : s.heap.objs.size ≤ c) : Loose X pins H c where
  n := I.hok.fresh hc
  l := fun z => absurd (Nat.lt_of_lt_of_le I.lt hc) (by rw [z]; exact Nat.lt_irrefl _)
  a := Nat.le_trans I.sz hc
  ce := fun x d e z => by
    obtain ⟨v, q⟩ := I.cell x d e
    exact absurd (Nat.lt_of_lt_of_le q.lt hc) (by rw [z]; exact Nat.lt_irrefl _)
  p := fun p hp z => absurd (Nat.lt_of_lt_of_le (Heap.lt_size (I.pin p hp).1) hc) (by rw [z]; exact Nat.lt_irrefl _)
  f := I.nofs hc
theorem Loose.at {H' : Hp} {c : Addr} (l : Loose X pins H c) (h : H' c = none) : Loose X pins H' c := ⟨h, l.l, l.a, l.ce, l.p, l.f⟩
/-- both the key store and the list being sorted are watched -/
theorem pin2 {a b : Addr} {oa ob : Obj} (I : Inv X pins σ H s) (la : Loose X pins H a) (lb : Loose X pins H b) (ha : s.heap.get? a = some oa) (hb : s.heap.get? b = some ob) (da : ∀ v, oa.data ≠ .cell v) (db : ∀ v, ob.data ≠ .cell v) : Inv X (pins ++ [(a, oa), (b, ob)]) σ H s :=
  I.pins_of fun p hp => by
    rcases List.mem_append.mp hp with hp | hp
    · exact I.pin p (List.mem_append_right _ hp)
    · rcases List.mem_cons.mp hp with hp | hp
      · subst hp; exact ⟨ha, la.n, la.l, la.f, da⟩
      · have hp : p = (b, ob) := by simpa using hp
        subst hp; exact ⟨hb, lb.n, lb.l, lb.f, db⟩
theorem mapR_get {α β : Type} {f : α → R β} : ∀ {xs : List α} {ys : List β}, mapR f xs = .ok ys → ys.length = xs.length ∧ ∀ (i : Nat) (x : α), xs[i]? = some x → ∃ y, ys[i]? = some y ∧ f x = .ok y
  | [], ys, h => by cases h; exact ⟨rfl, fun i x e => by simp at e⟩
  | x :: xs, ys, h => by
    obtain ⟨y, h1, h⟩ := R.bind_eq_ok h
    obtain ⟨zs, h2, h⟩ := R.bind_eq_ok h
    cases h
    obtain ⟨l, g⟩ := mapR_get h2
    refine ⟨by rw [List.length_cons, List.length_cons, l], fun i x' e => ?_⟩
    cases i with
    | zero => simp at e; subst e; exact ⟨y, rfl, h1⟩
    | succ i => simp at e; obtain ⟨y', e1, e2⟩ := g i x' e; exact ⟨y', by simpa using e1, e2⟩
/-- behind the sort: the list is laid, the key store forgotten -/
theorem inv_lay {a kS : Addr} {h' : Heap} {tk : Nat} {ys : List V} {out : List Value} {c : Nat} (I : Inv X pins σ H s) (la : Loose X pins H a) (lk : Loose X pins H kS) (hk : ∀ b o, b ≠ a → b ≠ kS → s.heap.get? b = some o → h'.get? b = some o)
    (ho : h'.get? a = some { cls := .type "list", data := .seq out.toArray c }) (hv : Vals ys out) (hz : ys.length ≤ sizeLine) : Inv X pins σ (upd H a (.lst ys)) { s with heap := h', toks := tk } := by
  have nb : ∀ {b : Addr} {o : HO}, H b = some o → b ≠ a := fun {b o} e z => by rw [z, la.n] at e; cases e
  have nk : ∀ {b : Addr} {o : HO}, H b = some o → b ≠ kS := fun {b o} e z => by rw [z, lk.n] at e; cases e
  have nc : ∀ {b : Addr}, b ∉ [a, kS] → b ≠ a ∧ b ≠ kS := fun {b} h => ⟨fun z => h (by simp [z]), fun z => h (by simp [z])⟩
  refine I.step (g' := s.gens) (d' := s.drawn) (ch := [a, kS]) (fun b hb => ?_) (fun b o _ _ h e _ => hk b o (nc h).1 (nc h).2 e) (fun b o _ _ h e _ => ⟨o.slots, hk b o (nc h).1 (nc h).2 e⟩) (fun b o h _ n => by rw [upd_ne (nc h).1]; exact n)
    (fun b o h e => ⟨o, hk b o (nc h).1 (nc h).2 e⟩) (fun b xs e => by rw [upd_ne (nb e)]; exact e) (fun b o u e => by rw [upd_ne (nb e)]; exact e) (fun b ps e => ⟨#[], by rw [upd_ne (nb e), e]; simp⟩) (fun m hm => ?_) (fun b u e => ?_) I.bare
  · rcases List.mem_cons.mp hb with hb | hb
    · subst hb; exact ⟨.inr la.a, la.l, la.ce, la.p⟩
    · have hb : b = kS := by simpa using hb
      subst hb; exact ⟨.inr lk.a, lk.l, lk.ce, lk.p⟩
  · obtain ⟨o, es, ep, h1, r⟩ := hm
    exact ⟨o, es, ep, hk _ o (Ne.symm la.l) (Ne.symm lk.l) h1, r⟩
  · by_cases hb : b = a
    · subst hb
      rw [upd_same] at e
      cases e
      exact ⟨hz, out, c, hv, ho⟩
    · rw [upd_ne hb] at e
      refine (I.hok b u e).stay (fun d v hc q => ?_) (fun d q => by rw [upd_ne (nb q)]; exact q) fun d xs q => by rw [upd_ne (nb q)]; exact q
      rcases hc with z | z
      · rw [z] at q ⊢; exact hk b v hb (nk e) q
      · exact hk d v (nb z) (nk z) q
theorem each_reads {K : PySem.W.Frag} (I : Inv X pins σ H s) (hK : X.K = M.K) : ∀ {ks : List D} {kvs : List V} {us : List Value}, (∀ k ∈ ks, fine k = true) → Reps M H ks kvs → Vals kvs us → PySem.W.EachIs (fun v k => ∃ as, Reads s.heap v k as) us (ks.map toPy)
  | [], kvs, us, _, h, r => by
    rw [Reps.nil_iff] at h
    subst h
    cases r
    exact .nil
  | k :: ks, kvs, us, hf, h, r => by
    simp only [Reps] at h
    obtain ⟨v, vr, rfl, h1, h2⟩ := h
    cases r with
    | cons r1 r2 =>
      have z := rep_dp k v (fine_iff (hf k List.mem_cons_self)).1 h1
      rw [← hK] at z
      exact .cons (z.reads I _ _ _ r1) (each_reads (K := K) I hK (fun x hx => hf x (List.mem_cons_of_mem _ hx)) h2 r2)
theorem each3 : ∀ {ds : List D} {us : List V} {ks : List D} {its : List Value}, ds.length = us.length → ks.length = us.length → Vals us its → PySem.W.EachIs (fun u (b : (D × V) × D) => RelV b.1.2 u) its ((ds.zip us).zip ks)
  | [], [], [], _, _, _, .nil => .nil
  | d :: ds, u :: us, k :: ks, _, h1, h2, .cons r t => .cons r (each3 (by simpa using h1) (by simpa using h2) t)
theorem vals3 : ∀ {us : List Value} {bs : List ((D × V) × D)}, PySem.W.EachIs (fun u (b : (D × V) × D) => RelV b.1.2 u) us bs → Vals (bs.map (·.1.2)) us
  | _, [], .nil => .nil
  | _, _ :: _, .cons r t => .cons r (vals3 t)
theorem Rep_same_all {F : Hp} (h : Same F H) {ks : List D} {kvs : List V} (z : Reps M F ks kvs) : Reps M H ks kvs := Reps.same h _ _ z
theorem sortK_rest {fa a kS : Addr} {kk e1 : Nat} {fdd : FuncData} {ps : List Str} {fl : Fl} {m : List D → R D} {us : List V} {its : List Value} {ds ks : List D} {F0 : Hp} {Q : VK} {E' : Value → Shared → Prop}
    (hK : X.K = M.K) (hu : X.A.units + 150 < cLine) (G : FnOk X.prog X.w X.K X.mg X.base CX0 kk fa fdd ps (spOf M fl m ps.length)) (hr : Room (kk + 2) X.A) (hb : Binds X.K fdd ps []) (hl1 : ∀ ds d, m ds = .ok d → ds.length = ps.length)
    (I : Inv X pins σ H s) (hf : Same F0 H) (la : Loose X pins H a) (lk : Loose X pins H kS) (hka : kS ≠ a) (nk : s.heap.get? kS = some (seqObj "list" #[] 0)) (na : s.heap.get? a = some (seqObj "list" #[] e1))
    (hz : Reps M F0 ds us) (rv : Vals us its) (hL : its.length ≤ sizeLine) (hk : mapR (fun d => m [d]) ds = .ok ks) (hs : sortable ks = true)
    (q : ∀ H' F', Gr H F0 H' F' → H' a = none → F' a = none → Q (.ref a) (upd H' a (.lst ((((ds.zip us).zip ks).mergeSort (PySem.W.dataLe false fun b => toPy b.2)).map (·.1.2))))) :
    wpAny (model X.prog X.w) X.A.in1.in1 (PyProof.Rows.ksk_rest a (.ref fa) false its.toArray e1 (.ref kS)) (fun f s' => f = .done (.ret .none) ∧ EP X pins σ Q (.ref a) s') E' s := by
  obtain ⟨lks, gk⟩ := mapR_get hk
  have lus := hz.len
  have lit := rv.length
  obtain ⟨s1, s2, s3⟩ := sortable_z (ps := ks.map fun k => (k, V.non)) (by rw [List.map_map]; simpa [Function.comp_def] using hs)
  rw [List.map_map] at s1 s2
  have s1 : PySem.W.AllAlike (ks.map toPy) := s1
  have s2 : PySem.W.Sortable (ks.map toPy) := s2
  have s3 : ∀ k ∈ ks, fine k = true := fun k hk => s3 (k, V.non) (List.mem_map.mpr ⟨k, hk, rfl⟩)
  unfold PyProof.Rows.ksk_rest
  refine wpAny_bind (wpAny_rule ?_)
  rw [List.forIn_toArray]
  refine wpAny_bind (PyProof.Rows.ksk_fold (fun i s' => ∃ H' F' kvs kA ep, Inv X pins σ H' s' ∧ Gr H F0 H' F' ∧ H' a = none ∧ H' kS = none ∧ s'.heap.get? kS = some (seqObj "list" kA ep) ∧ s'.heap.get? a = some (seqObj "list" #[] e1) ∧ Vals kvs kA.toList ∧ Reps M F' (ks.take i) kvs) its 0 s
    ⟨H, F0, [], #[], 0, I, .refl hf, la.n, lk.n, nk, na, .nil, by simp [Reps]⟩ ?step ?done)
  case step =>
    rintro j x s' hx ⟨H', F', kvs, kA, ep, I', g', ha', hk', nk', na', rk, zk⟩
    simp only [Nat.zero_add] at zk ⊢
    have hj : j < its.length := (List.getElem?_eq_some_iff.mp hx).1
    have hjd : j < ds.length := by omega
    obtain ⟨u, hu1, hu2⟩ := hz.get (List.getElem?_eq_getElem hjd)
    obtain ⟨k, hk1, hk2⟩ := gk j _ (List.getElem?_eq_getElem hjd)
    obtain ⟨x', hx1, rx⟩ := rv.get hu1
    rw [hx] at hx1
    cases hx1
    have P := inv_deep2 (pin2 I' (la.at ha') (lk.at hk') na' nk' (fun v z => nomatch z) (fun v z => nomatch z))
    have call := run_fn (X := deep2 X) (E := E0) (dvs := []) (ds := []) (Q := fun v H2 => ∃ F2, Gr H' F' H2 F2 ∧ Rep M F2 k v) G (hr.in1.in1) hb .nil pass0 P (.cons rx .nil) (by
      refine ⟨[ds[j]], F', k, hl1 _ _ hk2, g'.fh, Reps.cons (Rep.same g'.f _ _ hu2) (by simp [Reps]), hk2, fun v H2 F2 fp g x fr => ⟨_, g.give fr, Val.sh g.fh x⟩⟩)
    refine wpAny_bind (wpAny_attempt (wpAny_mono call (fun v s2 he => ?_) fun _ _ hF => hF.elim))
    obtain ⟨kv, H2, I2, rk2, F2, g2, z2⟩ := he
    have pin : ∀ p ∈ [(a, seqObj "list" #[] e1), (kS, seqObj "list" kA ep)], s2.heap.get? p.1 = some p.2 ∧ H2 p.1 = none := fun p hp => by
      have := I2.pin p (List.mem_append_right _ (List.mem_append_right _ hp))
      exact ⟨this.1, this.2.1⟩
    obtain ⟨na2, ha2⟩ := pin (a, seqObj "list" #[] e1) (by simp)
    obtain ⟨nk2, hk2'⟩ := pin (kS, seqObj "list" kA ep) (by simp)
    have I3 : Inv X pins σ H2 s2 := (inv_undeep2 I.ok I2).pins_of fun p hp => I2.pin p (List.mem_append_right _ (List.mem_append_left _ hp))
    have hz2 : kA.size ≤ its.length := by
      have h1 : kvs.length = kA.toList.length := rk.length
      have h2 : (ks.take j).length = kvs.length := zk.len
      have h3 : kA.toList.length = kA.size := Array.length_toList
      rw [List.length_take] at h2
      omega
    dsimp only
    have sb := Heap.SameBut.update s2.heap kS (Obj.mapSeq (·.push v))
    obtain ⟨c2, hc2⟩ : ∃ c2, (s2.heap.update kS (Obj.mapSeq (·.push v))).get? kS = some (seqObj "list" (kA.push v) c2) := ⟨_, PyProof.Rows.get?_update_seq nk2 (·.push v)⟩
    refine wpAny_bind (PyProof.Rows.listUpdate_at nk2 rfl ?_ (Nat.le_trans hz2 hL) (Nat.le_trans (Nat.le_of_eq (Array.size_push ..)) (Nat.succ_le_succ (Nat.le_trans hz2 hL))))
    have lk2 := lk.at hk2'
    refine wpAny_pure ⟨rfl, H2, F2, kvs ++ [kv], kA.push v, c2, I3.turned (it := kS) (t' := s2.toks) (fun b o hb e => (sb.2 b hb).trans e) lk2.n lk2.l (.inr lk2.a) lk2.ce lk2.p, g'.trans g2, ha2, hk2', hc2, (sb.2 a hka.symm).trans na2, ?_, ?_⟩
    · rw [Array.toList_push]
      exact rk.append (.cons rk2 .nil)
    · rw [List.take_add_one, hk1]
      exact (Reps.same g2.f _ _ zk).append (Reps.cons z2 (by simp [Reps]))
  case done =>
    rintro s' ⟨H', F', kvs, kA, ep, I', g', ha', hk', nk', na', rk, zk⟩
    have e3 : ks.take (0 + its.length) = ks := List.take_of_length_le (by omega)
    rw [e3] at zk
    have er := each_reads (M := M) (K := X.K) I' hK s3 (Rep_same_all g'.fh zk) rk
    have hsz : kA.size = its.length := by
      have h1 : kvs.length = kA.toList.length := rk.length
      have h2 : ks.length = kvs.length := zk.len
      have h3 : kA.toList.length = kA.size := Array.length_toList
      omega
    obtain ⟨G0, G1, G2⟩ := L2.restrict s'.heap fun b => decide (b ≠ kS)
    have kp : PySem.W.KeepsBut a G0 s'.heap := fun b o hb e => by
      by_cases h : b = kS
      · rw [G2 b (by simp [h])] at e; cases e
      · rw [← G1 b (by simp [h])]; exact e
    refine wpAny_bind (PyProof.Rows.listItems_at nk' rfl ?_)
    refine PySem.W.keyH_end (κ := PySem.W.dataKind s'.heap (ks.map toPy)) (h₁ := G0) kp (G2 kS (by simp)) nk' na' hka (PySem.W.SortsAt.data er s1 s2 fun d hd => ?_) hsz hL fun h3 tk c k3 n3 => ⟨rfl, ?_⟩
    · obtain ⟨k, hk, rfl⟩ := List.mem_map.mp hd
      have := (fine_iff (s3 k hk)).2
      show X.A.units + 1 + 1 + _ < cLine
      omega
    · have eo := PySem.W.keyedOut_each (rev := false) (R := fun u (b : (D × V) × D) => RelV b.1.2 u) (bs := (ds.zip us).zip ks) (vs := its) (out := PySem.W.sortVals (PySem.W.dataKind s'.heap (ks.map toPy)) false kA.toList its) (fun b => toPy b.2) (by
        have e4 : ((ds.zip us).zip ks).map (fun b => toPy b.2) = ks.map toPy := by
          have := zip_snd (xs := ds.zip us) (ys := ks) (by rw [List.length_zip]; omega)
          calc ((ds.zip us).zip ks).map (fun b => toPy b.2) = (((ds.zip us).zip ks).map (·.2)).map toPy := by rw [List.map_map]; rfl
            _ = ks.map toPy := by rw [this]
        rw [e4]
        exact ⟨s'.heap, kA.toList, s1, rfl, er⟩) (each3 lus (by omega) rv)
      refine ⟨.ref a, _, inv_lay I' (la.at ha') (lk.at hk') (fun b o h1 h2 e => k3 b o h1 (by rw [G1 b (by simp [h2])]; exact e)) n3 (ys := (((ds.zip us).zip ks).mergeSort (PySem.W.dataLe false fun b => toPy b.2)).map (·.1.2)) (vals3 eo) (by rw [List.length_map, List.length_mergeSort, List.length_zip, List.length_zip]; omega), rfl, q H' F' g' ha' (g'.fh.free ha')⟩
theorem sortK_run {fa l : Addr} {kk : Nat} {fdd : FuncData} {ps : List Str} {fl : Fl} {m : List D → R D} {us : List V} {ds ks : List D} {F0 : Hp} {Q : VK}
    (hK : X.K = M.K) (hu : X.A.units + 150 < cLine) (G : FnOk X.prog X.w X.K X.mg X.base CX0 kk fa fdd ps (spOf M fl m ps.length)) (hr : Room (kk + 2) X.A) (hb : Binds X.K fdd ps []) (hl1 : ∀ ds d, m ds = .ok d → ds.length = ps.length)
    (I : Inv X pins σ H s) (hf : Same F0 H) (ha : H l = some (.lst us)) (hz : Reps M F0 ds us) (hk : mapR (fun d => m [d]) ds = .ok ks) (hs : sortable ks = true)
    (q : ∀ H' F' p, Gr H F0 H' F' → H' p = none → F' p = none → H p = none → Q (.ref p) (upd H' p (.lst ((((ds.zip us).zip ks).mergeSort (PySem.W.dataLe false fun b => toPy b.2)).map (·.1.2))))) :
    wpAny (model X.prog X.w) X.A (call (.builtin "sorted") [.ref l] [(Str.ofString "key", .ref fa)]) (EP X pins σ Q) X.xe s := by
  obtain ⟨hzl, its, n, rv, e⟩ := I.hok l _ ha
  have hL : its.length ≤ sizeLine := by rw [← rv.length]; exact hzl
  refine PySem.W.sorted_of_sort (l := l) (vs := its) ⟨_, e, rfl, _, rfl⟩ hL (PyProof.Rows.ksk_s1 _ _) (fun _ => PyProof.Rows.ksk_l1 _ _) fun E' => ?_
  rw [PyProof.Rows.ksk_t1]
  have ho := PySem.W.copyHeap_at s.heap its
  have hold : ∀ b o, s.heap.get? b = some o → (PySem.W.copyHeap s.heap its).get? b = some o := fun b o q => PySem.W.copyHeap_old q
  generalize hch : PySem.W.copyHeap s.heap its = hc at *
  have hlt : s.heap.objs.size + 1 < hc.objs.size := Heap.lt_size ho
  have la : Loose X pins H (s.heap.objs.size + 1) := loose_new I (Nat.le_succ _)
  obtain ⟨a, haa⟩ : ∃ a, s.heap.objs.size + 1 = a := ⟨_, rfl⟩
  rw [haa] at ho la hlt ⊢
  unfold PyProof.Rows.ksk_tree
  refine wpAny_bind (PyProof.Rows.listItems_at ho rfl ?_)
  refine wpAny_bind (PyProof.Rows.listUpdate_at ho rfl ?_ (by rw [List.size_toArray]; exact hL) (Nat.zero_le _))
  obtain ⟨e1, ho1⟩ : ∃ e1, (hc.update a (Obj.mapSeq fun _ => (#[] : Array Value))).get? a = some (seqObj "list" #[] e1) := ⟨_, PyProof.Rows.get?_update_seq ho fun _ => #[]⟩
  refine wpAny_bind (PyProof.Rows.seqEpoch_at ho1 rfl ?_)
  refine wpAny_bind (wpAny_newTuple ?_ (by show its.length ≤ _; exact hL))
  refine wpAny_bind (wpAny_newList ?_ (Nat.zero_le _))
  refine wpAny_holding ?_
  have sz1 : (hc.update a (Obj.mapSeq fun _ => (#[] : Array Value))).objs.size = hc.objs.size := Heap.size_update ..
  have sz2 : ((hc.update a (Obj.mapSeq fun _ => (#[] : Array Value))).push (seqObj "tuple" its.toArray 0)).objs.size = hc.objs.size + 1 := by rw [PyProof.Rows.size_push', sz1]
  have I4 : Inv X pins σ H { s with heap := ((hc.update a (Obj.mapSeq fun _ => (#[] : Array Value))).push (seqObj "tuple" its.toArray 0)).push (seqObj "list" #[] 0), toks := s.toks } := I.kept (t' := s.toks) fun b o hb => by
    have hbl : b < s.heap.objs.size := Heap.lt_size hb
    refine Heap.get?_push_of_some _ (Heap.get?_push_of_some _ ?_)
    have hba : b ≠ a := Nat.ne_of_lt (by rw [← haa]; exact Nat.lt_succ_of_lt hbl)
    rw [Heap.get?_update_ne _ _ _ _ hba]
    exact hold b o hb
  have lk := loose_new (c := ((hc.update a (Obj.mapSeq fun _ => (#[] : Array Value))).push (seqObj "tuple" its.toArray 0)).objs.size) I (by rw [sz2]; omega)
  have nka : ((hc.update a (Obj.mapSeq fun _ => (#[] : Array Value))).push (seqObj "tuple" its.toArray 0)).objs.size ≠ a := by rw [sz2]; omega
  have key := sortK_rest (E' := E') (a := a) (kS := ((hc.update a (Obj.mapSeq fun _ => (#[] : Array Value))).push (seqObj "tuple" its.toArray 0)).objs.size) hK hu G hr hb hl1 I4 hf la lk nka (Heap.get?_push_size _ rfl)
    (Heap.get?_push_of_some _ (Heap.get?_push_of_some _ ho1)) hz rv hL hk hs (fun H' F' g h1 h2 => q H' F' a g h1 h2 la.n)
  exact key
theorem tri_zip : ∀ {ds : List D} {us : List V} {ks : List D}, ds.length = us.length → ks.length = us.length → ((ds.zip us).zip ks).map (fun b => (b.1.1, b.2)) = ds.zip ks
  | [], [], [], _, _ => rfl
  | d :: ds, u :: us, k :: ks, h1, h2 => by
    simp only [List.zip_cons_cons, List.map_cons]
    rw [tri_zip (by simpa using h1) (by simpa using h2)]
/-- sorted(a, key=f) -/
theorem z_sortK {C : CC} {sc : Scope} {fe : List Fl} {w : Wt} {kf : Str} {a : Expr} {x : ZE} {p p2 p3 pos : Pos} (o : XOk C M X sc) (hb : isBuiltin C sc "sorted" = true) (hf : C.fn kf = true) (hp : plainName kf = true) (hg : glK (sc.names.lookup kf) = true) (hn : notStar a = true) (hw : w ≠ .d) (ha : PE X a (zT M fe .c x)) :
    PE X (.Call (.Name "sorted" p) [a] [⟨some "key", .Name kf p2, p3⟩] pos) (zT M fe w (eSortK C.call kf x)) := by
  obtain ⟨gl, hm, hd, hnm⟩ := builtin_parts o hb
  obtain ⟨fa, fd, ps, kk, G, hr, gm, hk, bnd, hl⟩ := o.fn kf hf
  have hu : X.A.units + 150 < cLine := by have := o.room; omega
  let r : List V → List V → Hp → VK → Prop := fun vs zs H Q => ∃ (l : Addr) (us : List V) (ds ks : List D) (F0 : Hp), vs = [.ref l] ∧ zs = [.ref fa] ∧ Same F0 H ∧ H l = some (.lst us) ∧ Reps M F0 ds us ∧ mapR (fun d => C.call kf [d]) ds = .ok ks ∧ sortable ks = true ∧
    ∀ H' F' p, Gr H F0 H' F' → H' p = none → F' p = none → H p = none → Q (.ref p) (upd H' p (.lst ((((ds.zip us).zip ks).mergeSort (PySem.W.dataLe false fun b => toPy b.2)).map (·.1.2))))
  have cr : CallRK X (.builtin "sorted") [Str.ofString "key"] r := by
    intro pins s σ H vs zs us ws Q I rv rz ⟨l, us', ds, ks, F0, e1, e2, h1, h2, h3, h4, h5, q⟩
    subst e1
    subst e2
    obtain ⟨u1, rfl, r1⟩ := vals1 rv
    obtain ⟨w1, rfl, r2⟩ := vals1 rz
    obtain rfl : u1 = Value.ref l := r1
    obtain rfl : w1 = Value.ref fa := r2
    exact sortK_run o.k hu G hr bnd hl I h1 h2 h3 h4 h5 q
  have pf : PE X (.Name kf p2) (tC (.ref fa)) := pe_glob (glOf o hg) gm rfl (plain_parts hp).1
  refine PE.imp (pe_callBK (kws := [⟨some "key", .Name kf p2, p3⟩]) cr gl hm (by decide +kernel) (pa_one (w := .c) hn ha (.inl rfl)) (pk_cons pf pk_nil) hnm hd (by rw [star_cons hn]; rfl) (by rw [star_cons hn]; rfl) rfl rfl rfl) fun σ H Q ⟨H0, F0, F, ρ, fps, d, s, e, k⟩ => ?_
  obtain ⟨d1, e1, e⟩ := R.bind_eq_ok e
  cases d1 with
  | lst ds =>
    obtain ⟨ks, e2, e⟩ := R.bind_eq_ok e
    obtain ⟨e3, e4⟩ := chk_ok e
    cases e4
    refine ⟨H0, F0, F, ρ, fps, _, s, e1, fun v H1 F1 g1 r1 => ?_⟩
    obtain ⟨l, us, rfl, ql, zl⟩ := r1
    refine ⟨l, us, ds, ks, F1, rfl, rfl, g1.fh, ql, zl, e2, e3, fun H2 F2 p g2 n1 n2 n3 => ?_⟩
    obtain ⟨lk, _⟩ := mapR_get e2
    have lu := zl.len
    have zz := reps_of (M := M) (F := F2) (l := (((ds.zip us).zip ks).mergeSort (PySem.W.dataLe false fun b => toPy b.2)).map (·.1)) fun q hq => by
      obtain ⟨b, hb, rfl⟩ := List.mem_map.mp hq
      have hb := (List.mergeSort_perm _ _).mem_iff.mp hb
      have hb : b.1 ∈ ds.zip us := (List.of_mem_zip (a := b.1) (b := b.2) hb).1
      exact Rep.same g2.f _ _ (reps_zip zl _ hb)
    rw [List.map_map, List.map_map] at zz
    have e5 : (((ds.zip us).zip ks).mergeSort (PySem.W.dataLe false fun b => toPy b.2)).map (fun b => b.1.1) = sortByL ds ks := by
      unfold sortByL
      have h1 : ((ds.zip us).zip ks).map (fun b => (b.1.1, b.2)) = ds.zip ks := tri_zip lu (by omega)
      rw [← h1, ← List.map_mergeSort (f := fun b : (D × V) × D => (b.1.1, b.2)) (r := PySem.W.dataLe false fun b => toPy b.2) (fun a _ b _ => rfl), List.map_map]
      rfl
    have zz : Reps M F2 ((((ds.zip us).zip ks).mergeSort (PySem.W.dataLe false fun b => toPy b.2)).map (fun b => b.1.1)) ((((ds.zip us).zip ks).mergeSort (PySem.W.dataLe false fun b => toPy b.2)).map (fun b => b.1.2)) := zz
    rw [e5] at zz
    obtain ⟨F3, g3, r3⟩ := list_res (w := w) hw g2.fh n1 zz
    exact k _ _ _ ((g1.trans g2).trans g3) (r3.back (g1.trans g2))
  | _ => cases e
end
end Z
/-! Z, part HO (begun): objects: fields, methods. -/
namespace Z
open PySem PySem.Spec PyProof.Rows L2

theorem lookup_zip {M : Mx} {F : Hp} {f : Str} : ∀ {fs : List Str} {ds : List D} {us : List V} {d : D}, fs.length = us.length → Reps M F ds us → (fs.zip ds).lookup f = some d → ∃ v, (fs.zip us).lookup f = some v ∧ Rep M F d v
  | [], _, _, _, _, _, h => by simp at h
  | g :: fs, ds, us, d, hl, r, h => by
    cases ds with
    | nil => simp at h
    | cons e ds =>
      simp only [Reps] at r
      obtain ⟨v, ur, rfl, r1, r2⟩ := r
      rw [List.zip_cons_cons, List.lookup_cons] at h ⊢
      cases hg : (f == g) with
      | true => rw [hg] at h; cases h; exact ⟨v, rfl, r1⟩
      | false => rw [hg] at h; exact lookup_zip (by simpa using hl) r2 h
theorem lookup_out {f : Str} : ∀ {fs : List Str} {us : List V}, fs.contains f = false → (fs.zip us).lookup f = none
  | [], _, _ => by simp
  | g :: fs, us, h => by
    cases us with
    | nil => simp
    | cons u us =>
      rw [List.contains_cons, Bool.or_eq_false_iff] at h
      rw [List.zip_cons_cons, List.lookup_cons, h.1]
      exact lookup_out h.2
section
variable {M : Mx} {X : Cx} {C : CC} {sc : Scope} {fe : List Fl} {w : Wt}
theorem z_fld {a : Expr} {x : ZE} {f : Str} {pos : Pos} (hc : ∀ c C0, M.cn c = some C0 → Cls X.K C0) (hf : ∀ c C0, M.cn c = some C0 → NoAttr X.K C0 f) (hw : w = .c ∨ w = .s) (hb : attrBase a = true) (ha : PE X a (zT M fe .c x)) : PE X (.Attribute a f pos) (zT M fe w (eFld x f)) := by
  refine PE.imp (pe_fld ha (by cases a <;> first | rfl | (exact Bool.noConfusion hb))) fun σ H Q ⟨H0, F0, F, ρ, fps, d, s, e, k⟩ => ?_
  obtain ⟨d1, e1, e⟩ := R.bind_eq_ok e
  refine zT_go s e1 fun v1 H1 F1 g1 s1 r1 => ?_
  cases d1 with
  | obj c fs ds =>
    obtain ⟨p, C0, dx, us, rfl, q, hl, hcn, z⟩ := r1
    unfold fldD at e
    dsimp only at e
    split at e
    · rename_i d' hd
      cases e
      obtain ⟨v, h1, h2⟩ := lookup_zip hl z hd
      exact ⟨p, C0, dx, _, v, rfl, q, hc c C0 hcn, hf c C0 hcn, h1, k v H1 F1 g1 (sh_res hw g1.fh h2)⟩
    · cases e
  | _ => cases e
theorem star_all {env : PySem.Env} {pos : Pos} : ∀ {es : List Expr}, es.all notStar = true → (backTo pos (starEach es env)).all (fun x => !x.1) = true
  | [], _ => rfl
  | e :: es, h => by
    rw [List.all_cons, Bool.and_eq_true] at h
    rw [star_cons h.1]
    show (true && (backTo pos (starEach es env)).all (fun x => !x.1)) = true
    rw [Bool.true_and]
    exact star_all h.2
theorem meth_form {env : PySem.Env} {pos : Pos} {es : List Expr} (h : es.all notStar = true) (hl : es.length < 30) : methodCallForm (es.length + ([] : List Keyword).length) (backTo pos (starEach es env)) (backToKw pos (keywordEach [] env)) = true := by
  unfold methodCallForm
  rw [star_all h]
  exact decide_eq_true hl
theorem meth_eval {o : Expr} {es : List Expr} {m : Str} {apos pos : Pos} {env : PySem.Env} (hb : attrBase o = true) (h : es.all notStar = true) (hl : es.length < 30) (hp : (apos.endLine == pos.line) = true) : eval (.Call (.Attribute o m apos) es [] pos) env = (do
      let ov ← eval o env
      standAt apos.atName
      let (f, first) ← holding [ov] (getMethod ov m (do return (← importBound o env).getD true))
      callWith pos f first (backTo pos (starEach es env)) (backToKw pos (keywordEach [] env))) := by
  have hbase : attributeBase o m env (eval o env) = eval o env := by cases o <;> first | rfl | (exact Bool.noConfusion hb)
  have hpos : methodCallPos true o env apos pos = pure pos := by unfold methodCallPos; simp [hp]
  rw [arm_eval_Call, hbase]
  unfold methodCall
  rw [meth_form h hl, hpos]
  rfl
/-- o.m(e, ..): the class is the object's own -/
def tMethD (X : Cx) (m : Str) (ta : TE) (t : TA) : TE := fun σ H Q => ta σ H fun x H1 => ∃ a C dx fs sp, x = .ref a ∧ H1 a = some (.ins C dx fs) ∧ fs.lookup m = none ∧ MeAt X C m sp ∧ t σ H1 fun vs H2 => sp (x :: (vs ++ [])) H2 Q E0
theorem pe_methD {o e : Expr} {es : List Expr} {m : Str} {apos pos : Pos} {ta : TE} {t : TA} (hbs : attrBase o = true) (hn : (e :: es).all notStar = true) (hl : (e :: es).length < 30) (hp : (apos.endLine == pos.line) = true) (he : PE X o ta) (ha : PA X (e :: es) t) :
    PE X (.Call (.Attribute o m apos) (e :: es) [] pos) (tMethD X m ta t) := by
  have hn2 := hn
  rw [List.all_cons, Bool.and_eq_true] at hn2
  refine ⟨fun pins s σ H Q I h => ?_⟩
  refine PySem.W.methodCall_KW (thn (he.run pins s σ H _ I h) fun u s1 ⟨x, H1, I1, rx, a, C, dx, fs, sp, ex, ea, l, ⟨fa, fd, ps, k, F, hr, c, hm, hb⟩, q⟩ => ?_) (meth_eval hbs hn hl hp)
  subst ex
  obtain rfl : u = Value.ref a := rx
  refine getmeth_ok I1 ea c hm l ?_
  refine PySem.W.callWith_K (first := [.ref a]) (h₀ := X.base) I.ok.mod.kin hm.kp (thn (ha.run pos pins s1 σ H1 _ I1 q) fun us s2 ⟨vs, H2, I2, r, q2⟩ => ⟨I2.kIn, ?_⟩) (star_cons hn2.1) (star_any hn2.2)
  exact run_fn (us := .ref a :: us) (vs := .ref a :: vs) F hr hb .nil pass0 I2 (.cons rfl r) q2
theorem pe_methD0 {o : Expr} {m : Str} {apos pos : Pos} {ta : TE} (hbs : attrBase o = true) (hp : (apos.endLine == pos.line) = true) (he : PE X o ta) :
    PE X (.Call (.Attribute o m apos) [] [] pos) (tMethD X m ta tNil) := by
  refine ⟨fun pins s σ H Q I h => ?_⟩
  refine PySem.W.methodCall_KW (thn (he.run pins s σ H _ I h) fun u s1 ⟨x, H1, I1, rx, a, C, dx, fs, sp, ex, ea, l, ⟨fa, fd, ps, k, F, hr, c, hm, hb⟩, q⟩ => ?_) (meth_eval hbs rfl (by decide) hp)
  subst ex
  obtain rfl : u = Value.ref a := rx
  refine getmeth_ok I1 ea c hm l ?_
  exact PySem.W.callWith_K0 (first := [.ref a]) I1.kIn hm.kp (run_fn (us := [.ref a]) (vs := [.ref a]) F hr hb .nil pass0 I1 (.cons rfl .nil) q)
theorem meth_fin {a : Expr} {x : ZE} {zs : List ZE} {m : Str} {fl : Fl} {t : TA} {call : Call} (hM : ∀ c C0 ds d, M.cn c = some C0 → call (keyOf c m) ds = .ok d → ∃ n, ds.length = n ∧ MeAt X C0 m (spOf M fl (call (keyOf c m)) n))
    (hw : (w == .s || w == .c || (w == .w && fl == .own)) = true) (ht : ∀ σ H Q, zAw M fe .s zs σ H Q → t σ H Q) {σ : L2.St} {H : Hp} {Q : VK} (h : zT M fe w (eMeth call x m zs) σ H Q) : tMethD X m (zT M fe .s x) t σ H Q := by
  obtain ⟨H0, F0, F, ρ, fps, d, s, e, k⟩ := h
  obtain ⟨d1, e1, e⟩ := R.bind_eq_ok e
  obtain ⟨ds, e2, e⟩ := R.bind_eq_ok e
  refine zT_go s e1 fun v1 H1 F1 g1 s1 r1 => ?_
  have r0 : Rep M F1 d1 v1 := r1
  cases d1 with
  | obj c fs us0 =>
    obtain ⟨h1, h2⟩ := chk_ok e
    have rr := r0
    simp only [Rep] at r0
    obtain ⟨p, C0, dx, us, rfl, q, hl, hcn, z⟩ := r0
    obtain ⟨n, hn, me⟩ := hM c C0 _ d hcn h2
    refine ⟨p, C0, dx, _, _, rfl, g1.fh _ _ q, lookup_out (by simpa using h1), me, ht σ H1 _ ⟨H0, F0, F1, ρ, fps, ds, s1, e2, fun vs H2 F2 g2 r2 => ?_⟩⟩
    show spOf M fl (call (keyOf c m)) n (V.ref p :: (vs ++ [])) H2 Q E0
    rw [List.append_nil]
    refine ⟨_ :: ds, F2, d, hn, g2.fh, Reps.cons (Rep.same g2.2 _ _ rr) r2.reps, h2, fun v H3 F3 fp g3 y fr => ?_⟩
    obtain ⟨F4, g4, r4⟩ := val_w (w := w) hw g3 y fr
    exact k v H3 F4 ((g1.trans g2).trans g4) (r4.back (g1.trans g2))
  | _ => cases e
theorem z_meth {a : Expr} {es : List Expr} {x : ZE} {zs : List ZE} {m : Str} {fl : Fl} {apos pos : Pos} {call : Call} (hM : ∀ c C0 ds d, M.cn c = some C0 → call (keyOf c m) ds = .ok d → ∃ n, ds.length = n ∧ MeAt X C0 m (spOf M fl (call (keyOf c m)) n))
    (hw : (w == .s || w == .c || (w == .w && fl == .own)) = true) (hb : attrBase a = true) (hn : es.all notStar = true) (hl : es.length < 30) (hp : (apos.endLine == pos.line) = true) (hz : zs.length = es.length)
    (he : PE X a (zT M fe .s x)) (ha : PA X es (zAw M fe .s zs)) : PE X (.Call (.Attribute a m apos) es [] pos) (zT M fe w (eMeth call x m zs)) := by
  cases es with
  | nil => exact PE.imp (pe_methD0 hb hp he) fun σ H Q z => meth_fin (a := a) hM hw (fun σ H Q ⟨H0, F0, F, ρ, fps, ds, s, e, k⟩ => by
      cases zs with
      | nil => cases e; exact k [] H F (.refl s.fh) .nil
      | cons z zr => cases hz) z
  | cons e es => exact PE.imp (pe_methD hb hn hl hp he ha) fun σ H Q z => meth_fin (a := a) hM hw (fun _ _ _ z => z) z
theorem z_make {f key : Str} {es : List Expr} {zs : List ZE} {fl : Fl} {call : Call} {p pos : Pos} (hmk : MkAt M X fl (call key) f) (gl : Gl X f) (hd : (f == ("__debug__" : Str)) = false) (hn : es.all notStar = true)
    (hw : (w == .s || w == .c || (w == .w && fl == .own)) = true) (hz : zs.length = es.length) (ha : PA X es (zAw M fe .s zs)) : PE X (.Call (.Name f p) es [] pos) (zT M fe w (eCall call key zs)) := by
  obtain ⟨C0, fa, fd, ps, kk, F, hr, mk, hm, hb, hl⟩ := hmk
  have fin : ∀ {t : TA} σ H Q, (∀ σ H Q, zAw M fe .s zs σ H Q → t σ H Q) → zT M fe w (eCall call key zs) σ H Q → tMake C0 (spMk M C0 fl (call key) ps.length) [] E0 t σ H Q := fun {t} σ H Q ht ⟨H0, F0, F, ρ, fps, d, s, e, k⟩ => by
    obtain ⟨ds, e1, e⟩ := R.bind_eq_ok e
    refine ht σ H _ ⟨H0, F0, F, ρ, fps, ds, s, e1, fun vs H1 F1 g1 r1 => ?_⟩
    intro x dx hx hdx hne
    rw [List.append_nil]
    refine ⟨x, dx, vs, ds, F1, H1, d, rfl, rfl, hx, hdx, hne, hl ds d e, g1.fh, r1.reps, e, fun H2 F2 fp g2 y fr => ⟨rfl, ?_⟩⟩
    obtain ⟨F3, g3, r3⟩ := val_w (w := w) hw g2 y fr
    exact k (.ref x) H2 F3 (g1.trans g3) (r3.back g1)
  cases es with
  | nil => exact PE.imp (pe_make0 mk F hr gl hm hb .nil pass0 hd) fun σ H Q z => fin σ H Q (fun σ H Q ⟨H0, F0, F, ρ, fps, ds, s, e, k⟩ => by
      cases zs with
      | nil => cases e; exact k [] H F (.refl s.fh) .nil
      | cons z zr => cases hz) z
  | cons e es =>
    rw [List.all_cons, Bool.and_eq_true] at hn
    exact PE.imp (pe_make mk F hr gl hm hb .nil pass0 ha hd (star_cons hn.1) (star_any hn.2)) fun σ H Q z => fin σ H Q (fun _ _ _ z => z) z
/-! ### dicts: stores, displays -/
theorem put_of {κ : Type} [DecidableEq κ] {F : Hp} {g : κ → List Key} (hg : ∀ a b, g a = g b → a = b) {t : Bool} {k : κ} {x : D} {v : V} (rx : Rep M F x v) : ∀ {kvs : List (κ × V)} {ds : List D}, Reps M F ds (kvs.map (·.2)) →
    ∃ ds', (if hasK (kvs.map fun p => g p.1) (g k) = true then D.dic t (kvs.map fun p => g p.1) (((kvs.map fun p => g p.1).zip ds).map fun p => if p.1 = g k then x else p.2) else D.dic t ((kvs.map fun p => g p.1) ++ [g k]) (ds ++ [x])) = .dic t ((putK kvs k v).map fun p => g p.1) ds' ∧ Reps M F ds' ((putK kvs k v).map (·.2)) := by
  intro kvs ds z
  have e0 : hasK (kvs.map fun p => g p.1) (g k) = kvs.any fun kv => decide (kv.1 = k) := by
    unfold hasK
    rw [List.any_map]
    congr 1
    funext p
    show decide (g p.1 = g k) = decide (p.1 = k)
    by_cases h : p.1 = k
    · simp [h]
    · rw [decide_eq_false h, decide_eq_false (fun z => h (hg _ _ z))]
  unfold putK
  rw [e0]
  by_cases h : (kvs.any fun kv => decide (kv.1 = k)) = true
  · rw [if_pos h, if_pos h]
    refine ⟨_, by rw [List.map_map]; congr 1; refine List.map_congr_left fun p _ => ?_; show g p.1 = g (if p.1 = k then (p.1, v) else p).1; split <;> rfl, ?_⟩
    clear h e0
    induction kvs generalizing ds with
    | nil => simp [Reps]
    | cons p kvs ih =>
      cases ds with
      | nil => simp [Reps] at z
      | cons d ds =>
        simp only [List.map_cons, Reps] at z
        obtain ⟨w, us, e, z1, z2⟩ := z
        cases e
        simp only [List.map_cons, List.zip_cons_cons]
        refine Reps.cons ?_ (ih z2)
        by_cases hk : p.1 = k
        · rw [if_pos hk, if_pos (by rw [hk])]; exact rx
        · rw [if_neg hk, if_neg (fun e => hk (hg _ _ e))]; exact z1
  · rw [if_neg h, if_neg h]
    exact ⟨_, by rw [List.map_append]; rfl, by rw [List.map_append]; exact z.append (Reps.cons rx (by simp [Reps]))⟩
theorem put_K {F : Hp} {kvs : List (Key × V)} {ds : List D} {k x d' : D} {y v : V} (z : Reps M F ds (kvs.map (·.2))) (e : putD (.dic false (kvs.map fun p => [p.1]) ds) k x = .ok d') (rk : Rep M F k y) (rx : Rep M F x v) :
    ∃ k0 ds', y = kV k0 ∧ kvs.length < sizeLine ∧ d' = .dic false ((putK kvs k0 v).map fun p => [p.1]) ds' ∧ Reps M F ds' ((putK kvs k0 v).map (·.2)) := by
  unfold putD at e
  dsimp only at e
  split at e
  · rename_i kk hk
    obtain ⟨k0, e1, e2⟩ := Option.map_eq_some_iff.mp hk
    subst e2
    obtain ⟨c1, c2⟩ := chk_ok e
    cases c2
    obtain ⟨ds', q1, q2⟩ := put_of (M := M) (F := F) (t := false) (k := k0) (g := fun p => [p]) (fun a b e => by simpa using e) rx z
    refine ⟨k0, ds', keyA_rep e1 rk, ?_, q1, q2⟩
    have := of_decide_eq_true c1
    simpa using this
  · cases e
theorem put_dic {H F : Hp} {a : Addr} {t : Bool} {ks : List (List Key)} {us : List V} {ds : List D} {k x d' : D} {y v : V} (h : DicAt H a t ks us) (z : Reps M F ds us) (e : putD (.dic t ks ds) k x = .ok d') (rk : Rep M H k y) (rx : Rep M F x v) :
    ∃ ks' ds' us' o, d' = .dic t ks' ds' ∧ DPut H a y v (upd H a o) ∧ DicAt (upd H a o) a t ks' us' ∧ Reps M F ds' us' := by
  unfold putD at e
  dsimp only at e
  split at e
  · rename_i kk hk
    obtain ⟨c1, c2⟩ := chk_ok e
    have c1 := of_decide_eq_true c1
    cases c2
    cases t with
    | false =>
      obtain ⟨kvs, h, rfl, rfl⟩ := h
      obtain ⟨k0, e1, e2⟩ := Option.map_eq_some_iff.mp hk
      subst e2
      obtain ⟨ds', q1, q2⟩ := put_of (M := M) (F := F) (t := false) (k := k0) (g := fun p => [p]) (fun a b e => by simpa using e) rx z
      exact ⟨_, ds', _, .dK (putK kvs k0 v), q1, by rw [keyA_rep e1 rk]; exact DPut.k h (by simpa using c1), ⟨_, upd_same, rfl, rfl⟩, q2⟩
    | true =>
      obtain ⟨kvs, h, rfl, rfl⟩ := h
      cases k with
      | tup xs =>
        simp only [Rep] at rk
        obtain ⟨b, vs, rfl, hb, q⟩ := rk
        rw [keyAs_rep hk q] at hb
        obtain ⟨ds', q1, q2⟩ := put_of (M := M) (F := F) (t := true) (k := kk) (g := fun p => p) (fun a b e => e) rx z
        exact ⟨_, ds', _, .dT (putK kvs kk v), q1, DPut.t h hb (by simpa using c1), ⟨_, upd_same, rfl, rfl⟩, q2⟩
      | _ => cases hk
  · cases e
/-- a new dict -/
theorem dic_res {H F : Hp} {p : Addr} {t : Bool} {ks : List (List Key)} {ds : List D} {us : List V} {ob : HO} (hw : w ≠ .d) (h : Same F H) (hp : H p = none) (hd : ∀ K : Hp, K p = some ob → DicAt K p t ks us) (z : Reps M F ds us) :
    ∃ F', Gr H F (upd H p ob) F' ∧ Res M H (upd H p ob) F' w (.dic t ks ds) (.ref p) := by
  cases w with
  | d => exact absurd rfl hw
  | w => exact ⟨F, Gr.newO h hp, [p], ⟨p, us, rfl, rfl, hd _ upd_same, z⟩, fun b hb => by
      have e : b = p := by simpa using hb
      subst e
      exact ⟨hp, h.free hp⟩⟩
  | c => exact ⟨F, Gr.newO h hp, p, us, rfl, hd _ upd_same, z⟩
  | s => exact ⟨upd F p ob, Gr.newF h hp, by simp only [Res, Rep]; exact ⟨p, us, rfl, hd _ upd_same, Reps.same (Gr.newF h hp).f _ _ z⟩⟩
theorem z_dic {t : Bool} {pos : Pos} (hw : w ≠ .d) : PE X (.Dict [] [] pos) (zT M fe w (eDic t)) := by
  cases t with
  | false =>
    refine PE.imp pe_dnewK fun σ H Q ⟨H0, F0, F, ρ, fps, d, s, e, k⟩ p hp => ?_
    cases e
    obtain ⟨F', g, r⟩ := dic_res (M := M) (w := w) (t := false) (ks := []) (ds := []) (us := []) (ob := .dK []) hw s.fh hp (fun K h => ⟨[], h, rfl, rfl⟩) (by simp [Reps])
    exact k _ _ _ g r
  | true =>
    refine PE.imp pe_dnewT fun σ H Q ⟨H0, F0, F, ρ, fps, d, s, e, k⟩ p hp => ?_
    cases e
    obtain ⟨F', g, r⟩ := dic_res (M := M) (w := w) (t := true) (ks := []) (ds := []) (us := []) (ob := .dT []) hw s.fh hp (fun K h => ⟨[], h, rfl, rfl⟩) (by simp [Reps])
    exact k _ _ _ g r
/-! ### methods of built-ins -/
theorem idxOf_is {x : D} : ∀ {ys : List D} {i : Nat}, idxOf x ys = some i → ∃ y, ys[i]? = some y ∧ eqv y x = true ∧ ∀ m z, m < i → ys[m]? = some z → eqv z x = false
  | [], i, h => by cases h
  | y :: r, i, h => by
    unfold idxOf at h
    by_cases e : eqv y x = true
    · rw [if_pos e] at h
      cases h
      exact ⟨y, rfl, e, fun m z hm => absurd hm (Nat.not_lt_zero _)⟩
    · rw [if_neg e] at h
      obtain ⟨j, h1, h2⟩ := Option.map_eq_some_iff.mp h
      subst h2
      obtain ⟨z, z1, z2, z3⟩ := idxOf_is h1
      refine ⟨z, by simpa using z1, z2, fun m u hm hu => ?_⟩
      cases m with
      | zero =>
        have : y = u := by simpa using hu
        rw [← this]
        simpa using e
      | succ m => exact z3 m u (by omega) (by simpa using hu)
theorem strsOf_ok {F : Hp} : ∀ {ds : List D} {bs : List Str} {vs : List V}, strsOf ds = .ok bs → Reps M F ds vs → vs = bs.map V.str
  | [], bs, vs, e, r => by cases e; simpa [Reps] using r
  | d :: ds, bs, vs, e, r => by
    simp only [Reps] at r
    obtain ⟨v, us, rfl, r1, r2⟩ := r
    cases d with
    | str b =>
      obtain ⟨cs, h1, h2⟩ := R.bind_eq_ok e
      cases h2
      simp only [Rep] at r1
      rw [r1, strsOf_ok h1 r2]
      rfl
    | _ => cases e
theorem mt_few1 {e : Expr} {cp : Pos} {env : PySem.Env} (hn : notStar e = true) : ((backTo cp (starEach [e] env)).all (fun x => !x.1) && (backToKw cp (keywordEach [] env)).all (fun x => x.1.isSome)
      && decide ([e].length + ([] : List Keyword).length + (if ([] : List Keyword).isEmpty then 0 else 1) < 30)) = true := by
  rw [star_cons hn]
  rfl
theorem z_index {a b : Expr} {x y : ZE} {ap pos : Pos} (o : XOk C M X sc) (hw : w ≠ .d) (hm : mtBase a = true) (hn : notStar b = true) (hl : (ap.endLine == pos.line) = true) (ha : PE X a (zT M fe .c x)) (hb : PE X b (zL M y)) :
    PE X (.Call (.Attribute a "index" ap) [b] [] pos) (zT M fe w (eMt .index x y)) := by
  have hu : X.A.units + 65 < cLine := by have := o.room; omega
  have pa := pa_cons hb pa_nil (star_cons hn)
  refine PE.imp (pe_bm PySem.F.plainAttrs_list PySem.F.slot_list_index PySem.F.type_list_index (mt_indexD hu) ha pa (by cases a <;> first | rfl | (exact Bool.noConfusion hm)) (mt_few1 hn) hl (star_cons hn) rfl) fun σ H Q ⟨H0, F0, F, ρ, fps, d, s, e, k⟩ => ?_
  obtain ⟨d1, e1, e⟩ := R.bind_eq_ok e
  obtain ⟨d2, e2, e⟩ := R.bind_eq_ok e
  refine zT_go s e1 fun v1 H1 F1 g1 s1 r1 => ?_
  cases d1 with
  | lst ys =>
    obtain ⟨c1, c2⟩ := chk_ok e
    rw [Bool.and_eq_true] at c1
    obtain ⟨l, us, rfl, q, z⟩ := r1
    refine ⟨.inl ⟨rfl, _, .inl (.inl q)⟩, lend s1 e2 fun v2 H2 g2 s2 r2 => ?_⟩
    split at c2
    · rename_i i hi
      cases c2
      obtain ⟨y0, h1, h2, h3⟩ := idxOf_is hi
      have pl : (toPy (.lst ys)).plain = true := PyData.plain_of_canLay0 _ (SeqAt.canLay_of_shaped c1.2)
      have px : (toPy d2).plain = true := PyData.plain_of_canLay0 _ (SeqAt.canLay_of_shaped c1.1)
      have rl : Rep M H2 (.lst ys) (.ref l) := by simp only [Rep]; exact ⟨l, us, rfl, g2.h _ _ q, Reps.same g2.fh _ _ (Reps.same g2.f _ _ z)⟩
      have dl := rep_dp (.lst ys) _ pl rl
      have dx := rep_dp d2 _ px r2
      rw [← o.k] at dl dx
      refine ⟨l, v2, toPy d2, toPys ys, i, toPy y0, rfl, rfl, dl, dx, c1.2, c1.1, by rw [toPys_map, List.getElem?_map, h1]; rfl, h2, fun m z' hm hz => ?_, k _ _ _ (g1.trans g2) (atom_res rfl (by simp only [Rep]))⟩
      rw [toPys_map, List.getElem?_map] at hz
      obtain ⟨y1, hy1, hy2⟩ := Option.map_eq_some_iff.mp hz
      rw [← hy2]
      exact h3 m y1 hm hy1
    · cases c2
  | _ => cases e
theorem z_join {a b : Expr} {x y : ZE} {ap pos : Pos} (o : XOk C M X sc) (hw : w ≠ .d) (hm : mtBase a = true) (hn : notStar b = true) (hl : (ap.endLine == pos.line) = true) (ha : PE X a (zT M fe .c x)) (hb : PE X b (zL M y)) :
    PE X (.Call (.Attribute a "join" ap) [b] [] pos) (zT M fe w (eMt .join x y)) := by
  have pa := pa_cons hb pa_nil (star_cons hn)
  refine PE.imp (pe_bm PySem.F.plainAttrs_str PySem.F.slot_str_join PySem.F.type_str_join mt_join ha pa (by cases a <;> first | rfl | (exact Bool.noConfusion hm)) (mt_few1 hn) hl (star_cons hn) rfl) fun σ H Q ⟨H0, F0, F, ρ, fps, d, s, e, k⟩ => ?_
  obtain ⟨d1, e1, e⟩ := R.bind_eq_ok e
  obtain ⟨d2, e2, e⟩ := R.bind_eq_ok e
  refine zT_go s e1 fun v1 H1 F1 g1 s1 r1 => ?_
  cases d1 with
  | str z =>
    have r1 : v1 = .str z := by simpa only [Res, RepC, Rep] using r1
    subst r1
    cases d2 with
    | lst ys =>
      obtain ⟨zs, c0, e⟩ := R.bind_eq_ok e
      obtain ⟨c1, c2⟩ := chk_ok e
      cases c2
      refine ⟨rfl, lend s1 e2 fun v2 H2 g2 s2 r2 => ?_⟩
      simp only [Rep] at r2
      obtain ⟨l, us, rfl, q, zz⟩ := r2
      rw [strsOf_ok c0 zz] at q
      have c1 := of_decide_eq_true c1
      exact ⟨z, l, zs, rfl, rfl, .inl (.inl (.inl q)), by rw [Nat.mul_comm]; omega, k _ _ _ (g1.trans g2) (atom_res rfl (by simp only [Rep]))⟩
    | _ => cases e
  | _ => cases e
end
end Z
/-! Z, part I: what is walked, comprehensions; all expressions. -/
namespace Z
open PySem PySem.Spec PyProof.Rows L2

/-- J yields the data ds, one by one, while what stands in B and F stands -/
def Yields (M : Mx) (J : It) (ds : List D) (B F : Hp) : Prop := ds.length ≤ sizeLine ∧ ∀ (Hc Fc : Hp), Same B Hc → Same F Fc → Same Fc Hc → ∀ i : Nat,
  (i < ds.length → J.go i Hc ∧ ∀ x Hn, J.yld i Hc x Hn → ∃ d Fn, ds[i]? = some d ∧ Gr Hc Fc Hn Fn ∧ Rep M Fn d x) ∧ (ds.length ≤ i → J.stop i Hc)
/-- the heap that a walk leans on -/
def baseOf (w : Wt) (H F : Hp) : Hp := match w with
  | .c => H
  | _ => F
def zI (M : Mx) (fe : List Fl) (w : Wt) (it : ZI) : TI := fun σ H W => ∃ H0 F0 F ρ fps xs, St M H0 F0 σ H F fe ρ fps ∧ it ρ = .ok xs ∧ ∀ J H' F', Gr H F H' F' → Yields M J xs (baseOf w H' F') F' → W J H'
theorem PI.imp {X : Cx} {tg e : Expr} {t t' : TI} (h : PI X tg e t) (q : ∀ σ H W, t' σ H W → t σ H W) : PI X tg e t' := ⟨fun pins s σ H W I z => h.run pins s σ H W I (q _ _ _ z)⟩

section
variable {C : CC} {M : Mx} {X : Cx} {sc : Scope} {fe : List Fl} {w : Wt}
/-- a list, a tuple or a text, by its value -/
def iAny (K : PySem.W.Frag) (tl : TE) : TI := fun σ H W => tl σ H fun x H1 =>
  (∃ a xs, x = .ref a ∧ SqL K H1 a xs ∧ (xs.length ≤ sizeLine → W (Itl K a) H1)) ∨ (∃ a xs, x = .ref a ∧ SqT K H1 a xs ∧ (xs.length ≤ sizeLine → W (Itt K a) H1)) ∨ ∃ z, x = .str z ∧ W (Its z) H1
theorem pi_any {tg l : Expr} {tl : TE} (hl : PE X l tl) : PI X tg l (iAny X.K tl) := by
  refine ⟨fun pins s σ H W I h => ?_⟩
  refine thn (hl.run pins s σ H _ I h) fun v s1 hh => ?_
  obtain ⟨x, H1, I1, r1, q1⟩ := hh
  rcases q1 with ⟨a, xs, ex, hq, q⟩ | ⟨a, xs, ex, hq, q⟩ | ⟨z, ex, q⟩
  · subst ex
    obtain rfl : v = Value.ref a := r1
    obtain ⟨its, rv, p, hz⟩ := I1.list hq
    exact wpAny_pyIter_list p.isList (pi_one (tk := s1.toks) I1 _ (turn_list a _) ⟨_, Heap.get?_push_size _ rfl, rfl, rfl⟩ (q hz))
  · subst ex
    obtain rfl : v = Value.ref a := r1
    obtain ⟨its, rv, p, hz⟩ := I1.tuple hq
    exact wpAny_pyIter_tuple (show s1.heap.IsTuple a its.toArray from p) (pi_one (tk := s1.toks) I1 _ (turn_tuple a _) ⟨_, Heap.get?_push_size _ rfl, rfl, rfl⟩ (q hz))
  · subst ex
    obtain ⟨t, rfl⟩ := r1
    cases ha : z.cps.all (· < 128)
    · exact wpAny_pyIter_wide ha (pi_one (tk := s1.toks) I1 _ (turn_str _ z t "str_iterator" (.inr rfl)) ⟨_, Heap.get?_push_size _ rfl, rfl, rfl⟩ q)
    · exact wpAny_pyIter_ascii ha (pi_one (tk := s1.toks) I1 _ (turn_str _ z t "str_ascii_iterator" (.inl rfl)) ⟨_, Heap.get?_push_size _ rfl, rfl, rfl⟩ q)
theorem yields_list {H F : Hp} {a : Addr} {xs : List D} {us : List V} (hz : us.length ≤ sizeLine) (hB : H a = some (.lst us)) (z : Reps M F xs us) : Yields M (Itl M.K a) xs H F := by
  refine ⟨by rw [z.len]; exact hz, fun Hc Fc b f h i => ⟨fun hi => ?_, fun hi => ⟨us, .inl (.inl (b _ _ hB)), by rw [← z.len]; exact hi⟩⟩⟩
  have hq : SqL M.K Hc a us := .inl (.inl (b _ _ hB))
  obtain ⟨v, h1, h2⟩ := z.get (List.getElem?_eq_getElem hi)
  refine ⟨⟨us, v, hq, h1⟩, fun x Hn hy => ?_⟩
  obtain ⟨rfl, hy⟩ := hy
  have e := hy us hq
  rw [h1] at e
  cases e
  exact ⟨_, Fc, List.getElem?_eq_getElem hi, .refl h, Rep.same f _ _ h2⟩
theorem yields_tup {B F : Hp} {a : Addr} {xs : List D} {us : List V} (hz : us.length ≤ sizeLine) (hB : F a = some (.tup us)) (z : Reps M F xs us) : Yields M (Itt M.K a) xs B F := by
  refine ⟨by rw [z.len]; exact hz, fun Hc Fc b f h i => ⟨fun hi => ?_, fun hi => ⟨us, SqT.of (h _ _ (f _ _ hB)), by rw [← z.len]; exact hi⟩⟩⟩
  have hq : SqT M.K Hc a us := SqT.of (h _ _ (f _ _ hB))
  obtain ⟨v, h1, h2⟩ := z.get (List.getElem?_eq_getElem hi)
  refine ⟨⟨us, v, hq, h1⟩, fun x Hn hy => ?_⟩
  obtain ⟨rfl, hy⟩ := hy
  have e := hy us hq
  rw [h1] at e
  cases e
  exact ⟨_, Fc, List.getElem?_eq_getElem hi, .refl h, Rep.same f _ _ h2⟩
theorem yields_str {B F : Hp} {z : Str} (hz : z.length ≤ sizeLine) : Yields M (Its z) (z.cps.toList.map fun c => .str ⟨#[c]⟩) B F := by
  have hz' : z.cps.size ≤ sizeLine := hz
  refine ⟨by simpa using hz', fun Hc Fc b f h i => ⟨fun hi => ?_, fun hi => (show z.cps.size ≤ i by simpa using hi)⟩⟩
  have hi' : i < z.cps.size := by simpa using hi
  refine ⟨hi', fun x Hn hy => ?_⟩
  obtain ⟨rfl, c, hc, rfl⟩ := hy
  refine ⟨.str ⟨#[c]⟩, Fc, ?_, .refl h, by simp only [Rep]⟩
  rw [List.getElem?_map, Array.getElem?_toList, hc]
  rfl
theorem z_iseq {tg l : Expr} {z : ZE} (o : XOk C M X sc) (hw : w = .c ∨ w = .s) (hl : PE X l (zT M fe w z)) : PI X tg l (zI M fe w (iSeq z)) := by
  refine PI.imp (pi_any hl) fun σ H W ⟨H0, F0, F, ρ, fps, xs, s, e, k⟩ => ?_
  obtain ⟨d, e1, e⟩ := R.bind_eq_ok e
  refine zT_go s e1 fun v H1 F1 g1 s1 r1 => ?_
  have k := fun J y => k J H1 F1 g1 y
  rw [o.k]
  cases d with
  | lst ds =>
    cases e
    rcases hw with rfl | rfl
    · obtain ⟨a, us, rfl, q, z⟩ := r1
      exact .inl ⟨a, us, rfl, .inl (.inl q), fun hz => k _ (yields_list hz q z)⟩
    · have r1 : Rep M F1 (.lst xs) v := r1
      simp only [Rep] at r1
      obtain ⟨a, us, rfl, q, z⟩ := r1
      exact .inl ⟨a, us, rfl, .inl (.inl (g1.fh _ _ q)), fun hz => k _ (yields_list hz q z)⟩
  | tup ds =>
    cases e
    have r1 : Rep M F1 (.tup xs) v := by rcases hw with rfl | rfl <;> exact r1
    simp only [Rep] at r1
    obtain ⟨a, us, rfl, q, z⟩ := r1
    exact .inr (.inl ⟨a, us, rfl, SqT.of (g1.fh _ _ q), fun hz => k _ (yields_tup hz q z)⟩)
  | str y =>
    obtain ⟨h1, h2⟩ := chk_ok e
    cases h2
    have e1 : v = .str y := by rcases hw with rfl | rfl <;> simpa only [Res, RepC, Rep] using r1
    exact .inr (.inr ⟨y, e1, k _ (yields_str (of_decide_eq_true h1))⟩)
  | _ => cases e
theorem yields_range {B F : Hp} {lo : Int} {n : Nat} {xs : List D} (hz : n ≤ sizeLine) (hx : xs = (List.range n).map fun (k : Nat) => .int (lo + k)) : Yields M (Itr lo n) xs B F := by
  subst hx
  refine ⟨by simpa using hz, fun Hc Fc b f h i => ⟨fun hi => ?_, fun hi => ?_⟩⟩
  · have hi' : i < n := by simpa using hi
    refine ⟨hi', fun x Hn hy => ?_⟩
    obtain ⟨rfl, rfl⟩ := hy
    refine ⟨.int (lo + i), Fc, ?_, .refl h, by simp only [Rep]⟩
    rw [List.getElem?_map, List.getElem?_range hi']
    rfl
  · exact (show n ≤ i by simpa using hi)
theorem z_irange {tg : Expr} {es : List Expr} {zs : List ZE} {p pos : Pos} (o : XOk C M X sc) (hb : isBuiltin C sc "range" = true) (h1 : es.length ≤ 2) (h2 : 1 ≤ es.length) (hn : es.all notStar = true) (ha : PA X es (zAw M [] .s zs)) (hz : zs.length = es.length) :
    PI X tg (.Call (.Name "range" p) es [] pos) (zI M fe w (iRange zs)) := by
  obtain ⟨gl, hm, hd, hnm⟩ := builtin_parts o hb
  have lend2 : ∀ {ta : TA} σ H (W : It → Hp → Prop), (∀ σ H Q, zAw M [] .s zs σ H Q → ta σ H Q) → zI M fe w (iRange zs) σ H W →
      ∃ ds xs, zAw M [] .s zs σ H (fun vs H1 => rangeD ds = .ok xs ∧ (∃ F1, Reps M F1 ds vs) ∧ ∀ J, (∀ B F, Yields M J xs B F) → W J H1) := fun {ta} σ H W ht ⟨H0, F0, F, ρ, fps, xs, s, e, k⟩ => by
    obtain ⟨ds, e1, e⟩ := R.bind_eq_ok e
    exact ⟨ds, xs, H, H, H, ρ, _, ds, s.lend, e1, fun vs H1 F1 g1 r1 => ⟨e, ⟨F1, r1.reps⟩, fun J y => k J H1 F (Gr.back s.fh g1) (y _ _)⟩⟩
  have sl : (16000000 : Nat) ≤ sizeLine := by rw [sizeLine_eq]; decide
  match es, hn, ha, h1, h2, hz with
  | [a], hn, ha, _, _, hz =>
    rw [List.all_cons, Bool.and_eq_true] at hn
    refine PI.imp (pi_range1 gl hm ha (by rw [star_cons hn.1]; rfl)) fun σ H W z => ?_
    obtain ⟨ds, xs, q⟩ := lend2 σ H W (fun _ _ _ z => z) z
    obtain ⟨H0, F0, F, ρ, fps, ds', s, e, k⟩ := q
    refine ⟨H0, F0, F, ρ, fps, ds', s, e, fun vs H1 F1 g1 r1 => ?_⟩
    obtain ⟨er, ⟨F2, r2⟩, kk⟩ := k vs H1 F1 g1 r1
    match ds, er, r2 with
    | [.int n], er, r2 =>
      obtain ⟨h3, h4⟩ := chk_ok er
      have h3 : -16000000 ≤ n ∧ n ≤ 16000000 := of_decide_eq_true h3
      simp only [Reps, Rep] at r2
      obtain ⟨v, r, rfl, rfl, rfl⟩ := r2
      refine ⟨n, rfl, by omega, by omega, kk _ fun B F => yields_range (by omega) ?_⟩
      rw [← R.ok.inj h4]
      exact List.map_congr_left fun k _ => by rw [Int.zero_add]
    | [.int a, .int b], er, r2 =>
      have l0 := eArgs_len e
      have l1 := r2.len
      have l2 := r1.length
      rw [hz] at l0
      simp at l0 l1
      omega
  | [a, b], hn, ha, _, _, hz =>
    rw [List.all_cons, Bool.and_eq_true, List.all_cons, Bool.and_eq_true] at hn
    refine PI.imp (pi_range2 gl hm ha (by rw [star_cons hn.1, star_cons hn.2.1]; rfl) (by rw [star_cons hn.2.1]; rfl)) fun σ H W z => ?_
    obtain ⟨ds, xs, q⟩ := lend2 σ H W (fun _ _ _ z => z) z
    obtain ⟨H0, F0, F, ρ, fps, ds', s, e, k⟩ := q
    refine ⟨H0, F0, F, ρ, fps, ds', s, e, fun vs H1 F1 g1 r1 => ?_⟩
    obtain ⟨er, ⟨F2, r2⟩, kk⟩ := k vs H1 F1 g1 r1
    match ds, er, r2 with
    | [.int n], er, r2 =>
      have l0 := eArgs_len e
      have l1 := r2.len
      have l2 := r1.length
      rw [hz] at l0
      simp at l0 l1
      omega
    | [.int a, .int b], er, r2 =>
      obtain ⟨h3, h4⟩ := chk_ok er
      have h3 : -8000000 ≤ a ∧ a ≤ 8000000 ∧ -8000000 ≤ b ∧ b ≤ 8000000 := of_decide_eq_true h3
      simp only [Reps, Rep] at r2
      obtain ⟨v, r, rfl, rfl, v2, r3, rfl, rfl, rfl⟩ := r2
      exact ⟨a, b, rfl, ⟨by omega, by omega, by omega, by omega⟩, kk _ fun B F => yields_range (by omega) (R.ok.inj h4).symm⟩
theorem yields_zip {H F : Hp} {a b : Addr} {xs ys : List D} {us ws : List V} (hz : us.length ≤ sizeLine) (ha : H a = some (.lst us)) (hb : H b = some (.lst ws)) (za : Reps M F xs us) (zb : Reps M F ys ws) :
    Yields M (Itz M.K a b) (List.zipWith (fun x y => .tup [x, y]) xs ys) H F := by
  have la := za.len
  have lb := zb.len
  refine ⟨by rw [List.length_zipWith]; omega, fun Hc Fc q f h i => ⟨fun hi => ?_, fun hi => ?_⟩⟩
  all_goals
    have qa : SqL M.K Hc a us := .inl (.inl (q _ _ ha))
    have qb : SqL M.K Hc b ws := .inl (.inl (q _ _ hb))
    rw [List.length_zipWith] at hi
  · have ia : i < xs.length := by omega
    have ib : i < ys.length := by omega
    obtain ⟨v, h1, h2⟩ := za.get (List.getElem?_eq_getElem ia)
    obtain ⟨u, h3, h4⟩ := zb.get (List.getElem?_eq_getElem ib)
    refine ⟨⟨us, ws, v, u, qa, qb, h1, h3⟩, fun x Hn hy => ?_⟩
    obtain ⟨T, x1, x2, rfl, hT, rfl, f1, f2⟩ := hy
    have e1 := f1 us qa
    have e2 := f2 ws qb
    rw [h1] at e1
    rw [h3] at e2
    cases e1
    cases e2
    refine ⟨.tup [xs[i], ys[i]], upd Fc T (.tup [v, u]), ?_, Gr.newF h hT, ?_⟩
    · rw [List.getElem?_zipWith, List.getElem?_eq_getElem ia, List.getElem?_eq_getElem ib]
    · have sm := (Gr.newF (o := .tup [v, u]) h hT).f
      simp only [Rep]
      exact ⟨T, [v, u], rfl, upd_same, Reps.cons (Rep.same sm _ _ (Rep.same f _ _ h2)) (Reps.cons (Rep.same sm _ _ (Rep.same f _ _ h4)) (by simp only [Reps]))⟩
  · exact ⟨us, ws, qa, qb, by omega⟩
/-- arguments whose first one is a list: its length is known -/
def tLen (K : PySem.W.Frag) (ta : TA) : TA := fun σ H Q => ta σ H fun vs H1 => ∃ a r xs, vs = .ref a :: r ∧ SqL K H1 a xs ∧ (xs.length ≤ sizeLine → Q vs H1)
theorem pa_len {es : List Expr} {ta : TA} (ha : PA X es ta) : PA X es (tLen X.K ta) := ⟨fun pos pins s σ H Q I h => thn (ha.run pos pins s σ H _ I h) fun us s1 hh => by
  obtain ⟨vs, H1, I1, r, a, vr, xs, ev, hx, q⟩ := hh
  obtain ⟨_, _, _, hz⟩ := I1.list hx
  exact ⟨vs, H1, I1, r, q hz⟩⟩
theorem z_izip {a b : Expr} {x y : ZE} {p pos tpos : Pos} {elts : List Expr} {kk : Nat} (o : XOk C M X sc) (hb : isBuiltin C sc "zip" = true) (na : notStar a = true) (nb : notStar b = true) (hw : w = .c ∨ w = .s) (ha : PE X a (zT M fe w x)) (hy : PE X b (zT M fe w y)) :
    PI X (.Tuple elts kk tpos) (.Call (.Name "zip" p) [a, b] [] pos) (zI M fe w (iZip x y)) := by
  obtain ⟨gl, hm, hd, hnm⟩ := builtin_parts o hb
  have pa := pa_len (pa_cons ha (pa_cons hy pa_nil (star_cons nb)) (star_cons na))
  refine PI.imp (pi_zip gl hm pa (by rw [star_cons na]) (by rw [star_cons nb]; rfl)) fun σ H W ⟨H0, F0, F, ρ, fps, xs, s, e, k⟩ => ?_
  obtain ⟨d1, e1, e⟩ := R.bind_eq_ok e
  obtain ⟨d2, e2, e⟩ := R.bind_eq_ok e
  refine zT_go s e1 fun v1 H1 F1 g1 s1 r1 => zT_go s1 e2 fun v2 H2 F2 g2 s2 r2 => ?_
  rw [o.k]
  cases d1 with
  | lst us =>
    cases d2 with
    | lst ws =>
      cases e
      have q1 : ∃ l vs, v1 = .ref l ∧ baseOf w H2 F2 l = some (.lst vs) ∧ H2 l = some (.lst vs) ∧ Reps M F2 us vs := by
        rcases hw with rfl | rfl
        · obtain ⟨l, vs, rfl, q, z⟩ := r1
          exact ⟨l, vs, rfl, g2.h _ _ q, g2.h _ _ q, Reps.same g2.f _ _ z⟩
        · have r1 : Rep M F1 (.lst us) v1 := r1
          simp only [Rep] at r1
          obtain ⟨l, vs, rfl, q, z⟩ := r1
          exact ⟨l, vs, rfl, g2.f _ _ q, g2.fh _ _ (g2.f _ _ q), Reps.same g2.f _ _ z⟩
      have q2 : ∃ l vs, v2 = .ref l ∧ baseOf w H2 F2 l = some (.lst vs) ∧ H2 l = some (.lst vs) ∧ Reps M F2 ws vs := by
        rcases hw with rfl | rfl
        · obtain ⟨l, vs, rfl, q, z⟩ := r2
          exact ⟨l, vs, rfl, q, q, z⟩
        · have r2 : Rep M F2 (.lst ws) v2 := r2
          simp only [Rep] at r2
          obtain ⟨l, vs, rfl, q, z⟩ := r2
          exact ⟨l, vs, rfl, q, g2.fh _ _ q, z⟩
      obtain ⟨l1, vs1, rfl, b1, h1, z1⟩ := q1
      obtain ⟨l2, vs2, rfl, b2, h2, z2⟩ := q2
      refine ⟨l1, [.ref l2], vs1, rfl, .inl (.inl h1), fun hz => ⟨l1, l2, vs1, vs2, rfl, .inl (.inl h1), .inl (.inl h2), ?_⟩⟩
      exact k _ H2 F2 (g1.trans g2) (yields_zip hz b1 b2 z1 z2)
    | _ => cases e
  | _ => cases e
theorem yields_enum {H F : Hp} {a : Addr} {xs : List D} {us : List V} (hz : us.length ≤ sizeLine) (ha : H a = some (.lst us)) (za : Reps M F xs us) :
    Yields M (Ite M.K a) (List.zipWith (fun (k : Nat) x => .tup [.int k, x]) (List.range xs.length) xs) H F := by
  have la := za.len
  refine ⟨by rw [List.length_zipWith, List.length_range]; omega, fun Hc Fc q f h i => ⟨fun hi => ?_, fun hi => ?_⟩⟩
  all_goals
    have qa : SqL M.K Hc a us := .inl (.inl (q _ _ ha))
    rw [List.length_zipWith, List.length_range] at hi
  · have ia : i < xs.length := by omega
    obtain ⟨v, h1, h2⟩ := za.get (List.getElem?_eq_getElem ia)
    refine ⟨⟨us, v, qa, h1⟩, fun x Hn hy => ?_⟩
    obtain ⟨T, x1, rfl, hT, rfl, f1⟩ := hy
    have e1 := f1 us qa
    rw [h1] at e1
    cases e1
    refine ⟨.tup [.int i, xs[i]], upd Fc T (.tup [.int i, v]), ?_, Gr.newF h hT, ?_⟩
    · rw [List.getElem?_zipWith, List.getElem?_eq_getElem ia, List.getElem?_range ia]
    · have sm := (Gr.newF (o := .tup [.int i, v]) h hT).f
      simp only [Rep]
      exact ⟨T, [.int i, v], rfl, upd_same, Reps.cons (by simp only [Rep]) (Reps.cons (Rep.same sm _ _ (Rep.same f _ _ h2)) (by simp only [Reps]))⟩
  · exact ⟨us, qa, by omega⟩
theorem z_ienum {a : Expr} {x : ZE} {p pos tpos : Pos} {elts : List Expr} {kk : Nat} (o : XOk C M X sc) (hb : isBuiltin C sc "enumerate" = true) (na : notStar a = true) (hw : w = .c ∨ w = .s) (ha : PE X a (zT M fe w x)) :
    PI X (.Tuple elts kk tpos) (.Call (.Name "enumerate" p) [a] [] pos) (zI M fe w (iEnum x)) := by
  obtain ⟨gl, hm, hd, hnm⟩ := builtin_parts o hb
  have pa := pa_len (pa_cons ha pa_nil (star_cons na))
  refine PI.imp (pi_enum gl hm pa (by rw [star_cons na]; rfl)) fun σ H W ⟨H0, F0, F, ρ, fps, xs, s, e, k⟩ => ?_
  obtain ⟨d1, e1, e⟩ := R.bind_eq_ok e
  refine zT_go s e1 fun v1 H1 F1 g1 s1 r1 => ?_
  rw [o.k]
  cases d1 with
  | lst us =>
    cases e
    have q1 : ∃ l vs, v1 = .ref l ∧ baseOf w H1 F1 l = some (.lst vs) ∧ H1 l = some (.lst vs) ∧ Reps M F1 us vs := by
      rcases hw with rfl | rfl
      · obtain ⟨l, vs, rfl, q, z⟩ := r1
        exact ⟨l, vs, rfl, q, q, z⟩
      · have r1 : Rep M F1 (.lst us) v1 := r1
        simp only [Rep] at r1
        obtain ⟨l, vs, rfl, q, z⟩ := r1
        exact ⟨l, vs, rfl, q, g1.fh _ _ q, z⟩
    obtain ⟨l1, vs1, rfl, b1, h1, z1⟩ := q1
    refine ⟨l1, [], vs1, rfl, .inl (.inl h1), fun hz => ⟨l1, vs1, rfl, .inl (.inl h1), ?_⟩⟩
    exact k _ H1 F1 g1 (yields_enum hz b1 z1)
  | _ => cases e

/-! ### list comprehensions -/
theorem compL_cons {α : Type} {f : α → R (Option D)} {x : α} {r : List α} {ys : List D} (h : compL f (x :: r) = .ok ys) : ∃ o zs, f x = .ok o ∧ compL f r = .ok zs ∧ ys = (match o with | some y => y :: zs | none => zs) := by
  obtain ⟨o, h1, h⟩ := R.bind_eq_ok h
  obtain ⟨zs, h2, h⟩ := R.bind_eq_ok h
  cases h
  exact ⟨o, zs, h1, h2, rfl⟩
theorem St.wipe1 {H0 F0 H F : Hp} {σ : L2.St} {ρ : Env} {fps : Nat → List Addr} {i : Nat} (s : St M H0 F0 σ H F fe ρ fps) : St M H0 F0 (σ.set i none) H F (fe.set i .sh) (ρ.set i none) (fun j => if j = i then [] else fps j) where
  h0 := s.h0
  f0 := s.f0
  fh := s.fh
  new := s.new
  len := by rw [List.length_set, List.length_set, s.len]
  slot := fun j e h => by
    by_cases hj : j = i
    · subst hj
      by_cases hl : j < ρ.length
      · rw [List.getElem?_set_self hl] at h; cases h
      · rw [List.getElem?_eq_none (by simpa using hl)] at h; cases h
    · rw [List.getElem?_set_ne (Ne.symm hj)] at h
      obtain ⟨u, h1, h2⟩ := s.slot j e h
      refine ⟨u, by rw [List.getElem?_set_ne (Ne.symm hj)]; exact h1, ?_⟩
      rw [getD_set hj, if_neg hj]
      exact h2
  out := fun j b hb => by
    by_cases hj : j = i
    · rw [if_pos hj] at hb; cases hb
    · rw [if_neg hj] at hb; exact s.out j b hb
  dis := fun j k b hb hc => by
    by_cases hj : j = i
    · rw [if_pos hj] at hb; cases hb
    · by_cases hk : k = i
      · rw [if_pos hk] at hc; cases hc
      · rw [if_neg hj] at hb
        rw [if_neg hk] at hc
        exact s.dis j k b hb hc
theorem wipe_foldl : ∀ (vs : List Nat) (σ : L2.St) (x : Nat), (wipe σ vs).set x none = wipe (σ.set x none) vs
  | [], _, _ => rfl
  | v :: vs, σ, x => by
    unfold wipe
    rw [← wipe_foldl vs σ x]
    by_cases h : v = x
    · rw [h]
    · rw [List.set_comm _ _ h]
theorem wipe_twice {σ : L2.St} {vs : List Nat} : ∀ {us : List Nat}, (∀ i ∈ us, i ∈ vs) → wipe (wipe σ us) vs = wipe σ vs
  | [], _ => rfl
  | u :: us, h => by
    have e : wipe σ (u :: us) = (wipe σ us).set u none := rfl
    rw [e, wipe_set (h u (by simp)), wipe_twice fun i hi => h i (by simp [hi])]
theorem St.wiped {H0 F0 H F : Hp} : ∀ (vs : List Nat) {σ : L2.St} {fe : List Fl} {ρ : Env} {fps : Nat → List Addr}, St M H0 F0 σ H F fe ρ fps → ∃ fps', St M H0 F0 (wipe σ vs) H F (setSh fe vs) (killE vs ρ) fps'
  | [], _, _, _, fps, s => ⟨fps, s⟩
  | v :: vs, σ, fe, ρ, fps, s => by
    obtain ⟨fps', q⟩ := St.wiped vs (s.wipe1 (i := v))
    refine ⟨fps', ?_⟩
    have e : wipe σ (v :: vs) = wipe (σ.set v none) vs := wipe_foldl vs σ v
    rw [e]
    exact q
def zTs (M : Mx) (cs : List ZE) : TT := fun σ H Q => ∃ H0 F0 F fe ρ fps k, St M H0 F0 σ H F fe ρ fps ∧ tests cs ρ = .ok k ∧ ∀ H', Gr H F H' F → Q k H'
theorem PTs.imp {e : List Expr} {t t' : TT} (h : PTs X e t) (q : ∀ σ H Q, t' σ H Q → t σ H Q) : PTs X e t' := ⟨fun pins s σ H Q I z => h.run pins s σ H Q I (q _ _ _ z)⟩
theorem z_tests {f : Expr → Option ZE} {ifs : List Expr} {cs : List ZE} (hl : ifs.length ≤ 1) (hf : ∀ e z, f e = some z → PT X e (zTT M z)) (h : mapO f ifs = some cs) : PTs X ifs (zTs M cs) := by
  match ifs, hl, h with
  | [], _, h =>
    cases h
    refine PTs.imp pts_nil fun σ H Q ⟨H0, F0, F, fe, ρ, fps, k, s, e, q⟩ => ?_
    cases e
    exact q H (.refl s.fh)
  | [a], _, h =>
    obtain ⟨z, h1, h⟩ := Option.bind_eq_some_iff.mp h
    cases h
    refine PTs.imp (pts_one (hf a z h1)) fun σ H Q ⟨H0, F0, F, fe, ρ, fps, k, s, e, q⟩ => ?_
    obtain ⟨d, e1, e⟩ := R.bind_eq_ok e
    obtain ⟨t, e2, e⟩ := R.bind_eq_ok e
    refine ⟨H0, F0, F, fe, ρ, fps, d, t, s, e1, e2, fun H' g => ?_⟩
    cases t with
    | true => cases e; exact q H' g
    | false => cases e; exact q H' g
theorem comp_read {vs : List Nat} {it : ZI} {g : ZG} {ss : List Nat} {cs : List ZE} {e : ZE} (hw : w ≠ .d) (hss : ∀ i ∈ ss, i ∈ vs) (σ : L2.St) (H : Hp) (Q : VK) (hz : zT M fe w (eComp vs g it cs e) σ H Q) :
    tLc (zI M fe .c it) (zG M (setSh fe vs) g ss) (zTs M cs) (zT M (setSh (setSh fe vs) ss) .s e) vs σ H Q := by
  obtain ⟨H0, F0, F, ρ, fps, d, s, ev, k⟩ := hz
  obtain ⟨xs, e1, ev⟩ := R.bind_eq_ok ev
  obtain ⟨ys, e2, ev⟩ := R.bind_eq_ok ev
  cases ev
  refine ⟨H0, F0, F, ρ, fps, xs, s, e1, fun J H1 F1 g1 hY D hD => ?_⟩
  obtain ⟨hlen, hY⟩ := hY
  have hFD : F1 D = none := g1.fh.free hD
  -- between two turns
  let P : Nat → Hp → Prop := fun i Hc => ∃ Fc us acc rest, Gr H1 F1 Hc Fc ∧ Hc D = some (.lst us) ∧ Fc D = none ∧ Reps M Fc acc us ∧ acc.length ≤ i ∧ compL (compF vs g cs e ρ) (xs.drop i) = .ok rest ∧ acc ++ rest = ys
  refine ⟨fun i m Hc => i ≤ xs.length ∧ m = xs.length - i ∧ P i Hc, ⟨xs.length, Nat.zero_le _, by omega, F1, [], [], ys, ?_, upd_same, hFD, by simp [Reps], Nat.zero_le _, by rw [List.drop_zero]; exact e2, rfl⟩, ?_⟩
  · exact Gr.write (.refl g1.fh) hD hFD
  rintro i m Hc ⟨hi, rfl, Fc, us, acc, rest, gc, hc, fc, za, la, er, ea⟩
  obtain ⟨y1, y2⟩ := hY Hc Fc gc.h gc.f gc.fh i
  by_cases hlt : i < xs.length
  · obtain ⟨go, yld⟩ := y1 hlt
    refine .inr ⟨go, P (i + 1), fun H' p => ⟨xs.length - (i + 1), by omega, by omega, rfl, p⟩, fun x Hn hy => ?_⟩
    obtain ⟨dx, Fn, hx, gn, rx⟩ := yld x Hn hy
    have edr : xs.drop i = dx :: xs.drop (i + 1) := by
      rw [List.drop_eq_getElem_cons hlt]
      rw [List.getElem?_eq_getElem hlt] at hx
      cases hx
      rfl
    rw [edr] at er
    obtain ⟨ov, zs, f1, f2, f3⟩ := compL_cons er
    obtain ⟨ρ1, q1, f1⟩ := R.bind_eq_ok f1
    obtain ⟨t, q2, f1⟩ := R.bind_eq_ok f1
    obtain ⟨fps1, s1⟩ := (((s.grow g1).grow gc).grow gn).wiped vs
    refine ⟨H0, F0, Fn, killE vs ρ, fps1, dx, ρ1, s1, rx, q1, fun σ2 fps2 s2 w2 => ⟨(w2 vs hss).trans (wipe_twice fun _ z => z), H0, F0, Fn, _, ρ1, fps2, t, s2, q2, fun H3 g3 => ?_⟩⟩
    have gg : Gr H1 F1 H3 Fn := (gc.trans gn).trans g3
    have hD3 : H3 D = some (.lst us) := g3.h _ _ (gn.h _ _ hc)
    have hFn : Fn D = none := gn.off fc (by rw [hc]; simp)
    cases t with
    | true =>
      obtain ⟨yv, q3, f1⟩ := R.bind_eq_ok f1
      cases f1
      refine iteT (zT_go (s2.grow g3) q3 fun v H4 F4 g4 s4 r4 => ⟨us, g4.h _ _ hD3, ?_, F4, us ++ [v], acc ++ [yv], zs, ?_, upd_same, ?_, ?_, ?_, f2, ?_⟩)
      · rw [← za.len]; omega
      · exact (gg.trans g4).write hD (g4.off hFn (by rw [hD3]; simp))
      · exact g4.off hFn (by rw [hD3]; simp)
      · exact (Reps.same (gn.f.trans g4.f) _ _ za).append (Reps.cons r4 (by simp [Reps]))
      · rw [List.length_append]; exact Nat.succ_le_succ la
      · rw [← ea, f3, List.append_assoc]; rfl
    | false =>
      cases f1
      exact iteF ⟨Fn, us, acc, zs, gg, hD3, hFn, Reps.same gn.f _ _ za, Nat.le_succ_of_le la, f2, by rw [← ea, f3]⟩
  · have ei : i = xs.length := by omega
    subst ei
    rw [List.drop_length] at er
    cases er
    rw [List.append_nil] at ea
    subst ea
    refine .inl ⟨y2 (Nat.le_refl _), ?_⟩
    cases w with
    | d => exact absurd rfl hw
    | c => exact k _ Hc Fc (g1.trans gc) ⟨D, us, rfl, hc, za⟩
    | w => exact k _ Hc Fc (g1.trans gc) ⟨[D], ⟨D, us, rfl, rfl, hc, za⟩, fun b hb => by
        have eb : b = D := by simpa using hb
        subst eb
        exact ⟨g1.h.free hD, fc⟩⟩
    | s =>
      have fr : Fresh H Fc [D] := fun b hb => by
        have eb : b = D := by simpa using hb
        subst eb
        exact ⟨g1.h.free hD, fc⟩
      exact k _ Hc (ext Fc Hc [D]) ((g1.trans gc).give fr) (Val.sh (fl := .own) gc.fh ⟨D, us, rfl, rfl, hc, za⟩)
theorem z_comp {elt tg iter : Expr} {ifs : List Expr} {scope : Scope} {own : List (Str × Nat)} {pos : Pos} {it : ZI} {g : ZG} {ss : List Nat} {cs : List ZE} {e : ZE} (o : XOk C M X sc) (hw : w ≠ .d) (hi : PI X tg iter (zI M fe .c it)) (ok : BlkOk X.N X.env.scope scope own) (hss : ∀ i ∈ ss, i ∈ own.map (·.2))
    (hg : ∀ (s : Shared) (H : Hp) (C : Addr) (cl : List (Str × Addr)) (fp : List Addr), PG (X.blk s H scope (compEnvC scope cl C X.env) fp) tg (zG M (setSh fe (own.map (·.2))) g ss))
    (ht : ∀ (s : Shared) (H : Hp) (C : Addr) (cl : List (Str × Addr)) (fp : List Addr), PTs (X.blk s H scope (compEnvC scope cl C X.env) fp) ifs (zTs M cs))
    (he : ∀ (s : Shared) (H : Hp) (C : Addr) (cl : List (Str × Addr)) (fp : List Addr), PE (X.blk s H scope (compEnvC scope cl C X.env) fp) elt (zT M (setSh (setSh fe (own.map (·.2))) ss) .s e)) (hs : ∀ x, foldedSetIterable iter X.env x = pure x) :
    PE X (.ListComp elt [⟨tg, iter, ifs, 0⟩] scope pos) (zT M fe w (eComp (own.map (·.2)) g it cs e)) :=
  PE.imp (pe_lc o.calm (by rw [o.n]; exact o.nd) hi ok hg ht he hs) (comp_read hw hss)
/-! ### comprehensions of dicts -/
theorem dcL_cons {p : D} {r : List D} {acc d : D} (h : dcL (p :: r) acc = .ok d) : ∃ k x acc', p = .tup [k, x] ∧ putD acc k x = .ok acc' ∧ dcL r acc' = .ok d := by
  unfold dcL at h
  split at h
  · rename_i h1; cases h1
  · rename_i h1
    cases h1
    obtain ⟨a, h2, h3⟩ := R.bind_eq_ok h
    exact ⟨_, _, a, rfl, h2, h3⟩
  · cases h
theorem dc_read {vs : List Nat} {it : ZI} {g : ZG} {ss : List Nat} {cs : List ZE} {kz e : ZE} (hw : w ≠ .d) (hss : ∀ i ∈ ss, i ∈ vs) (σ : L2.St) (H : Hp) (Q : VK) (hz : zT M fe w (eDC vs g it cs kz e) σ H Q) :
    tDc (zI M fe .c it) (zG M (setSh fe vs) g ss) (zTs M cs) (zT M (setSh (setSh fe vs) ss) .s kz) (zT M (setSh (setSh fe vs) ss) .s e) vs σ H Q := by
  obtain ⟨H0, F0, F, ρ, fps, d, s, ev, k⟩ := hz
  obtain ⟨xs, e1, ev⟩ := R.bind_eq_ok ev
  obtain ⟨ys, e2, ev⟩ := R.bind_eq_ok ev
  refine ⟨H0, F0, F, ρ, fps, xs, s, e1, fun J H1 F1 g1 hY D hD => ?_⟩
  obtain ⟨hlen, hY⟩ := hY
  have hFD : F1 D = none := g1.fh.free hD
  let P : Nat → Hp → Prop := fun i Hc => ∃ Fc kvs ds rest, Gr H1 F1 Hc Fc ∧ Hc D = some (.dK kvs) ∧ Fc D = none ∧ Reps M Fc ds (kvs.map (·.2)) ∧ compL (compF vs g cs (eTup [kz, e]) ρ) (xs.drop i) = .ok rest ∧ dcL rest (.dic false (kvs.map fun p => [p.1]) ds) = .ok d
  refine ⟨fun i m Hc => i ≤ xs.length ∧ m = xs.length - i ∧ P i Hc, ⟨xs.length, Nat.zero_le _, by omega, F1, [], [], ys, ?_, upd_same, hFD, by simp [Reps], by rw [List.drop_zero]; exact e2, ev⟩, ?_⟩
  · exact Gr.write (.refl g1.fh) hD hFD
  rintro i m Hc ⟨hi, rfl, Fc, kvs, ds, rest, gc, hc, fc, za, er, ea⟩
  obtain ⟨y1, y2⟩ := hY Hc Fc gc.h gc.f gc.fh i
  by_cases hlt : i < xs.length
  · obtain ⟨go, yld⟩ := y1 hlt
    refine .inr ⟨go, P (i + 1), fun H' p => ⟨xs.length - (i + 1), by omega, by omega, rfl, p⟩, fun x Hn hy => ?_⟩
    obtain ⟨dx, Fn, hx, gn, rx⟩ := yld x Hn hy
    have edr : xs.drop i = dx :: xs.drop (i + 1) := by
      rw [List.drop_eq_getElem_cons hlt]
      rw [List.getElem?_eq_getElem hlt] at hx
      cases hx
      rfl
    rw [edr] at er
    obtain ⟨ov, zs, f1, f2, f3⟩ := compL_cons er
    obtain ⟨ρ1, q1, f1⟩ := R.bind_eq_ok f1
    obtain ⟨t, q2, f1⟩ := R.bind_eq_ok f1
    obtain ⟨fps1, s1⟩ := (((s.grow g1).grow gc).grow gn).wiped vs
    refine ⟨H0, F0, Fn, killE vs ρ, fps1, dx, ρ1, s1, rx, q1, fun σ2 fps2 s2 w2 => ⟨(w2 vs hss).trans (wipe_twice fun _ z => z), H0, F0, Fn, _, ρ1, fps2, t, s2, q2, fun H3 g3 => ?_⟩⟩
    have gg : Gr H1 F1 H3 Fn := (gc.trans gn).trans g3
    have hD3 : H3 D = some (.dK kvs) := g3.h _ _ (gn.h _ _ hc)
    have hFn : Fn D = none := gn.off fc (by rw [hc]; simp)
    cases t with
    | true =>
      obtain ⟨yv, q3, f1⟩ := R.bind_eq_ok f1
      cases f1
      have q3 : (eArgs [kz, e] ρ1).bind (fun ds => R.ok (Z.D.tup ds)) = .ok yv := q3
      obtain ⟨es, q3, q4⟩ := R.bind_eq_ok q3
      have q4 : R.ok (Z.D.tup es) = R.ok yv := q4
      have q3 : (kz ρ1).bind (fun d => (eArgs [e] ρ1).bind fun ds => R.ok (d :: ds)) = .ok es := q3
      obtain ⟨dk, p1, q3⟩ := R.bind_eq_ok q3
      obtain ⟨er2, p2, q3⟩ := R.bind_eq_ok q3
      have p2 : (e ρ1).bind (fun d => (eArgs [] ρ1).bind fun ds => R.ok (d :: ds)) = .ok er2 := p2
      obtain ⟨dv, p3, p2⟩ := R.bind_eq_ok p2
      have p2 : R.ok [dv] = R.ok er2 := p2
      cases p2
      cases q3
      cases q4
      subst f3
      obtain ⟨k1, x1, acc', c1, c2, c3⟩ := dcL_cons ea
      cases c1
      refine iteT (zT_go (s2.grow g3) p1 fun v H4 F4 g4 s4 r4 => zT_go s4 p3 fun u H5 F5 g5 s5 r5 => ?_)
      have r4 : Rep M F4 dk v := r4
      have r5 : Rep M F5 dv u := r5
      have g45 := g4.trans g5
      obtain ⟨k0, ds', b1, b2, b3, b4⟩ := put_K (F := F5) (Reps.same (gn.f.trans g45.f) _ _ za) c2 (Rep.same g5.f _ _ r4) r5
      subst b3
      refine ⟨kvs, k0, b1, g45.h _ _ hD3, b2, F5, putK kvs k0 u, ds', zs, ?_, upd_same, ?_, b4, f2, c3⟩
      · exact (gg.trans g45).write hD (g45.off hFn (by rw [hD3]; simp))
      · exact g45.off hFn (by rw [hD3]; simp)
    | false =>
      cases f1
      exact iteF ⟨Fn, kvs, ds, zs, gg, hD3, hFn, Reps.same gn.f _ _ za, f2, by rw [← ea, f3]⟩
  · have ei : i = xs.length := by omega
    subst ei
    rw [List.drop_length] at er
    cases er
    cases ea
    refine .inl ⟨y2 (Nat.le_refl _), ?_⟩
    have dat : DicAt Hc D false (kvs.map fun p => [p.1]) (kvs.map (·.2)) := ⟨kvs, hc, rfl, rfl⟩
    cases w with
    | d => exact absurd rfl hw
    | c => exact k _ Hc Fc (g1.trans gc) ⟨D, _, rfl, dat, za⟩
    | w => exact k _ Hc Fc (g1.trans gc) ⟨[D], ⟨D, _, rfl, rfl, dat, za⟩, fun b hb => by
        have eb : b = D := by simpa using hb
        subst eb
        exact ⟨g1.h.free hD, fc⟩⟩
    | s =>
      have fr : Fresh H Fc [D] := fun b hb => by
        have eb : b = D := by simpa using hb
        subst eb
        exact ⟨g1.h.free hD, fc⟩
      exact k _ Hc (ext Fc Hc [D]) ((g1.trans gc).give fr) (Val.sh (fl := .own) gc.fh ⟨D, _, rfl, rfl, dat, za⟩)
theorem z_dc {kx vx tg iter : Expr} {ifs : List Expr} {scope : Scope} {own : List (Str × Nat)} {pos : Pos} {it : ZI} {g : ZG} {ss : List Nat} {cs : List ZE} {kz e : ZE} (o : XOk C M X sc) (hw : w ≠ .d) (hi : PI X tg iter (zI M fe .c it)) (ok : BlkOk X.N X.env.scope scope own) (hss : ∀ i ∈ ss, i ∈ own.map (·.2))
    (hg : ∀ (s : Shared) (H : Hp) (C : Addr) (cl : List (Str × Addr)) (fp : List Addr), PG (X.blk s H scope (compEnvC scope cl C X.env) fp) tg (zG M (setSh fe (own.map (·.2))) g ss))
    (ht : ∀ (s : Shared) (H : Hp) (C : Addr) (cl : List (Str × Addr)) (fp : List Addr), PTs (X.blk s H scope (compEnvC scope cl C X.env) fp) ifs (zTs M cs))
    (hk : ∀ (s : Shared) (H : Hp) (C : Addr) (cl : List (Str × Addr)) (fp : List Addr), PE (X.blk s H scope (compEnvC scope cl C X.env) fp) kx (zT M (setSh (setSh fe (own.map (·.2))) ss) .s kz))
    (he : ∀ (s : Shared) (H : Hp) (C : Addr) (cl : List (Str × Addr)) (fp : List Addr), PE (X.blk s H scope (compEnvC scope cl C X.env) fp) vx (zT M (setSh (setSh fe (own.map (·.2))) ss) .s e)) (hs : ∀ x, foldedSetIterable iter X.env x = pure x) :
    PE X (.DictComp kx vx [⟨tg, iter, ifs, 0⟩] scope pos) (zT M fe w (eDC (own.map (·.2)) g it cs kz e)) :=
  PE.imp (pe_dc o.calm (by rw [o.n]; exact o.nd) hi ok hg ht hk he hs) (dc_read hw hss)
end
end Z
/-! Z, part J: every expression that compiles is worth what it compiles to. -/
namespace Z
open PySem PySem.Spec PyProof.Rows L2

theorem want_cs {w : Wt} (h : (w == .s || w == .c) = true) : w = .c ∨ w = .s := by
  cases w <;> first | exact .inl rfl | exact .inr rfl | (exact Bool.noConfusion h)
theorem want_nd {w : Wt} (h : (w != .d) = true) : w ≠ .d := by
  rintro rfl
  exact Bool.noConfusion h
theorem XOk.blk {C : CC} {M : Mx} {X : Cx} {sc : Scope} (o : XOk C M X sc) (s : Shared) (H : Hp) (scope : Scope) (cl : List (Str × Addr)) (Cc : Addr) (fp : List Addr) : XOk C M (X.blk s H scope (compEnvC scope cl Cc X.env) fp) (relS scope sc) where
  n := o.n
  nd := o.nd
  sc := by
    have e := o.sc
    subst e
    rfl
  k := o.k
  calm := o.calm
  room := o.room
  free := o.free
  con := o.con
  fn := o.fn
  cls := o.cls
  mt := o.mt
  mak := o.mak
theorem LocOk.blk {X : Cx} (s : Shared) (H : Hp) (scope : Scope) (cl : List (Str × Addr)) (Cc : Addr) (fp : List Addr) : LocOk scope (X.blk s H scope (compEnvC scope cl Cc X.env) fp) := fun x h => by
  have key : ∀ k, k ≠ NameKind.free → scope.names.lookup x = some k → (relS scope X.env.scope).names.lookup x = some k := fun k hk e => lookup_relS_keep hk e
  unfold locK at h
  split at h
  · rename_i e
    exact ⟨.inl (key _ (by decide) e), .inr (key _ (by decide) e)⟩
  · rename_i e
    exact ⟨.inr (key _ (by decide) e), .inl (by show (scope.names.lookup x == some NameKind.cell) = true; rw [e]; rfl)⟩
  · exact Bool.noConfusion h
theorem notSet_folded {e : Expr} {env : PySem.Env} (h : notSet e = true) : ∀ x, foldedSetIterable e env x = pure x := by
  intro x
  cases e <;> first | rfl | (exact Bool.noConfusion h)
theorem z_chainT {C : CC} {M : Mx} {X : Cx} {sc : Scope} {a b c : Expr} {x y z : ZE} {op op2 : CmpOp} {pos : Pos} (o : XOk C M X sc) (hm : lastMarks [op, op2] [b, c] = false) (ha : PE X a (zL M x)) (hb : PE X b (zL M y)) (hc : PE X c (zL M z)) : PT X (.Compare a [op, op2] [b, c] pos) (zTT M (eCmp2 op op2 x y z)) := by
  obtain ⟨r, ho, hr⟩ := op_cmpZ o.k (by have := o.room; omega) op
  obtain ⟨r2, ho2, hr2⟩ := op_cmpZ o.k (by have := o.room; omega) op2
  refine PT.imp (pt_chain ho ho2 ha hb hc hm) fun σ H Q ⟨H0, F0, F, fe, ρ, fps, d, k0, s, e, et, k⟩ => ?_
  obtain ⟨d1, e1, e⟩ := R.bind_eq_ok e
  obtain ⟨d2, e2, e⟩ := R.bind_eq_ok e
  obtain ⟨t, e3, e⟩ := R.bind_eq_ok e
  refine lend s e1 fun v1 H1 g1 s1 q1 => lend s1 e2 fun v2 H2 g2 s2 q2 => ?_
  refine hr H2 d1 d2 t v1 v2 _ e3 (Rep.same g2.h _ _ q1) q2 ⟨t, rfl, ?_⟩
  cases t with
  | false =>
    cases e
    cases et
    exact iteF ⟨false, rfl, k _ (g1.trans g2)⟩
  | true =>
    obtain ⟨d3, e4, e⟩ := R.bind_eq_ok e
    obtain ⟨t2, e5, e⟩ := R.bind_eq_ok e
    cases e
    cases et
    refine iteT (lend s2 e4 fun v3 H3 g3 s3 q3 => ?_)
    exact hr2 H3 d2 d3 _ v2 v3 _ e5 (Rep.same g3.h _ _ q2) q3 ⟨_, rfl, k _ ((g1.trans g2).trans g3)⟩
theorem z_cmpT {C : CC} {M : Mx} {X : Cx} {sc : Scope} {a b : Expr} {x y : ZE} {op : CmpOp} {pos : Pos} (o : XOk C M X sc) (hm : behindInMarks op b = false) (ha : PE X a (zL M x)) (hb : PE X b (zL M y)) : PT X (.Compare a [op] [b] pos) (zTT M (eCmp op x y)) := by
  obtain ⟨r, ho, hr⟩ := op_cmpZ o.k (by have := o.room; omega) op
  refine PT.imp (pt_cmpR ho ha hb hm) fun σ H Q ⟨H0, F0, F, fe, ρ, fps, d, k0, s, e, et, k⟩ => ?_
  obtain ⟨d1, e1, e⟩ := R.bind_eq_ok e
  obtain ⟨d2, e2, e⟩ := R.bind_eq_ok e
  obtain ⟨c, e3, e⟩ := R.bind_eq_ok e
  cases e
  cases et
  refine lend s e1 fun v1 H1 g1 s1 r1 => lend s1 e2 fun v2 H2 g2 s2 r2 => ?_
  exact hr H2 d1 d2 _ v1 v2 _ e3 (Rep.same g2.h _ _ r1) r2 ⟨_, rfl, k _ (g1.trans g2)⟩
theorem z_truthT {C : CC} {M : Mx} {X : Cx} {sc : Scope} {a : Expr} {x : ZE} (o : XOk C M X sc) (hp : plainTest a = true) (ha : PE X a (zL M x)) : PT X a (zTT M x) := by
  refine PT.imp (pt_truth ha (fun whole => ?_)) fun σ H Q ⟨H0, F0, F, fe, ρ, fps, d, k0, s, e, et, k⟩ => ?_
  · cases a <;> first
      | rfl
      | (exact Bool.noConfusion hp)
      | (rename_i op _ _; cases op <;> first | rfl | (exact Bool.noConfusion hp))
  · exact lend s e fun v H' g s' r => ⟨k0, tru_z o.k et r, k _ g⟩
/-- and, or, as tests -/
theorem z_boolT {M : Mx} {X : Cx} {op : BoolOp} {pos : Pos} {f : Expr → Option ZE} : ∀ {es : List Expr} {zs : List ZE} {z : ZE}, (∀ e ∈ es, ∀ z, f e = some z → PT X e (zTT M z)) → mapO f es = some zs → foldB (boolF op) zs = some z → PW X (.BoolOp op es pos) (zTT M z)
  | [], zs, z, _, h, h2 => by cases h; cases h2
  | [e], zs, z, hp, h, h2 => by
    obtain ⟨x, h1, h⟩ := Option.bind_eq_some_iff.mp h
    cases h
    cases h2
    have q := hp e List.mem_cons_self _ h1
    cases op with
    | And => exact pw_and1 q
    | Or => exact pw_or1 q
  | e :: e' :: es, zs, z, hp, h, h2 => by
    obtain ⟨x, h1, h⟩ := Option.bind_eq_some_iff.mp h
    obtain ⟨zr, h3, h⟩ := Option.map_eq_some_iff.mp h
    subst h
    cases zr with
    | nil => have := mapO_len h3; simp at this
    | cons y zr =>
      obtain ⟨q, h4, h5⟩ := Option.map_eq_some_iff.mp h2
      subst h5
      have ih := z_boolT (pos := pos) (fun e2 he z => hp e2 (List.mem_cons_of_mem _ he) z) h3 h4
      have hx := hp e List.mem_cons_self _ h1
      cases op with
      | And =>
        refine PW.imp (pw_and hx ih) fun σ H Q ⟨H0, F0, F, fe, ρ, fps, d, k0, s, e, et, k⟩ => ?_
        obtain ⟨d1, e1, e⟩ := R.bind_eq_ok e
        obtain ⟨t, e2, e⟩ := R.bind_eq_ok e
        refine ⟨H0, F0, F, fe, ρ, fps, d1, t, s, e1, e2, fun H1 g1 => ?_⟩
        cases t with
        | true => exact iteT ⟨H0, F0, F, fe, ρ, fps, d, k0, s.grow g1, e, et, fun H2 g2 => k _ (g1.trans g2)⟩
        | false =>
          cases e
          rw [e2] at et
          cases et
          exact iteF (k _ g1)
      | Or =>
        refine PW.imp (pw_or hx ih) fun σ H Q ⟨H0, F0, F, fe, ρ, fps, d, k0, s, e, et, k⟩ => ?_
        obtain ⟨d1, e1, e⟩ := R.bind_eq_ok e
        obtain ⟨t, e2, e⟩ := R.bind_eq_ok e
        refine ⟨H0, F0, F, fe, ρ, fps, d1, t, s, e1, e2, fun H1 g1 => ?_⟩
        cases t with
        | true =>
          cases e
          rw [e2] at et
          cases et
          exact iteT (k _ g1)
        | false => exact iteF ⟨H0, F0, F, fe, ρ, fps, d, k0, s.grow g1, e, et, fun H2 g2 => k _ (g1.trans g2)⟩
theorem z_notT {M : Mx} {X : Cx} {a : Expr} {x : ZE} {pos : Pos} (ha : PT X a (zTT M x)) : PT X (.UnaryOp .Not a pos) (zTT M (eNot x)) := by
  refine PT.imp (pt_not ha) fun σ H Q ⟨H0, F0, F, fe, ρ, fps, d, k0, s, e, et, k⟩ => ?_
  obtain ⟨d1, e1, e⟩ := R.bind_eq_ok e
  obtain ⟨t, e2, e⟩ := R.bind_eq_ok e
  cases e
  cases et
  exact ⟨H0, F0, F, fe, ρ, fps, d1, t, s, e1, e2, fun H1 g1 => k _ g1⟩

theorem cBl_ok {C : CC} {sc : Scope} {f : Str} {w : Wt} {ec es : Expr → Option ZE} {l : List Expr} {z : ZE} (h : cBl C sc f w ec es l = some z) :
    (∃ a r g zs, l = a :: r ∧ bltOf f = some g ∧ (w != .d) = true ∧ mapO ec l = some zs ∧ eBlt g zs = z) ∨
    (∃ a t q ty x, l = [a, .Name t q] ∧ f = "isinstance" ∧ isBuiltin C sc t = true ∧ tyOf t = some ty ∧ es a = some x ∧ eIsi x ty = z) := by
  unfold cBl at h
  split at h
  · rename_i ef
    unfold cIsi at h
    split at h
    · obtain ⟨h2, h⟩ := gd_some h
      obtain ⟨ty, h3, h⟩ := Option.bind_eq_some_iff.mp h
      obtain ⟨x, h4, h5⟩ := Option.map_eq_some_iff.mp h
      exact .inr ⟨_, _, _, ty, x, rfl, ef, h2, h3, h4, h5⟩
    · cases h
  · obtain ⟨g, h2, h⟩ := Option.bind_eq_some_iff.mp h
    obtain ⟨h3, h⟩ := gd_some h
    obtain ⟨zs, h4, h5⟩ := Option.map_eq_some_iff.mp h
    rw [Bool.and_eq_true] at h3
    cases l with
    | nil => exact absurd h3.2 (by simp)
    | cons a r => exact .inl ⟨a, r, g, zs, rfl, h2, h3.1, h4, h5⟩
theorem mtOf_is {m : Str} {g : Mt} (h : mtOf m = some g) : (m = "index" ∧ g = .index) ∨ (m = "join" ∧ g = .join) := by
  unfold mtOf at h
  by_cases e : m = "index"
  · rw [if_pos e] at h; cases h; exact .inl ⟨e, rfl⟩
  · rw [if_neg e] at h
    by_cases e2 : m = "join"
    · rw [if_pos e2] at h; cases h; exact .inr ⟨e2, rfl⟩
    · rw [if_neg e2] at h; cases h
theorem sound (C : CC) (M : Mx) : ∀ n : Nat,
    (∀ (X : Cx) (sc : Scope) (fe : List Fl) (w : Wt) (e : Expr) (z : ZE), XOk C M X sc → cE n C sc fe w e = some z → PE X e (zT M fe w z)) ∧
    (∀ (X : Cx) (sc : Scope) (fe : List Fl) (w : Wt) (tg e : Expr) (it : ZI), XOk C M X sc → cI n C sc fe w tg e = some it → PI X tg e (zI M fe w it)) ∧
    (∀ (X : Cx) (sc : Scope) (e : Expr) (z : ZE), XOk C M X sc → cT n C sc e = some z → PT X e (zTT M z)) := by
  intro n
  induction n with
  | zero => exact ⟨fun X sc fe w e z o h => (by cases h), fun X sc fe w tg e it o h => (by cases h), fun X sc e z o h => (by cases h)⟩
  | succ n ih =>
    obtain ⟨iE, iI, iT⟩ := ih
    refine ⟨fun X sc fe w e z o h => ?_, fun X sc fe w tg e it o h => ?_, fun X sc e z o h => ?_⟩
    · cases e with
      | Name x p => exact z_name o h
      | Constant c j p => exact z_const h
      | List es p =>
        obtain ⟨h1, h⟩ := gd_some h
        obtain ⟨zs, h2, h3⟩ := Option.map_eq_some_iff.mp h
        subst h3
        simp only [Bool.and_eq_true, decide_eq_true_eq] at h1
        exact z_list (want_nd h1.1.1) h1.1.2 (mapO_len h2) (z_args (.inr rfl) (fun e _ z => iE X sc fe .s e z o) h1.2 h2)
      | Tuple es j p =>
        obtain ⟨h1, h⟩ := gd_some h
        obtain ⟨zs, h2, h3⟩ := Option.map_eq_some_iff.mp h
        subst h3
        simp only [Bool.and_eq_true, decide_eq_true_eq] at h1
        exact z_tuple (want_nd h1.1.1) h1.1.2 (mapO_len h2) (z_args (.inr rfl) (fun e _ z => iE X sc fe .s e z o) h1.2 h2)
      | BinOp a op b p =>
        obtain ⟨h1, h⟩ := gd_some h
        obtain ⟨x, h2, h⟩ := Option.bind_eq_some_iff.mp h
        obtain ⟨y, h3, h4⟩ := Option.map_eq_some_iff.mp h
        subst h4
        exact z_bin o (want_nd h1) (iE X sc fe .c a x o h2) (iE X sc fe .c b y o h3)
      | UnaryOp op a p =>
        cases op with
        | USub =>
          obtain ⟨x, h2, h3⟩ := Option.map_eq_some_iff.mp h
          subst h3
          exact z_neg (iE X sc [] .s a x o h2)
        | Not =>
          obtain ⟨x, h2, h3⟩ := Option.map_eq_some_iff.mp h
          subst h3
          exact z_not o (iE X sc [] .s a x o h2)
        | _ => cases h
      | Compare a ops bs p =>
        match ops, bs, h with
        | [op], [b], h =>
          obtain ⟨h1, h⟩ := gd_some h
          obtain ⟨x, h2, h⟩ := Option.bind_eq_some_iff.mp h
          obtain ⟨y, h3, h4⟩ := Option.map_eq_some_iff.mp h
          subst h4
          exact z_cmp o (by simpa using h1) (iE X sc [] .s a x o h2) (iE X sc [] .s b y o h3)
        | [op, op2], [b, c], h =>
          obtain ⟨h1, h⟩ := gd_some h
          obtain ⟨x, h2, h⟩ := Option.bind_eq_some_iff.mp h
          obtain ⟨y, h3, h⟩ := Option.bind_eq_some_iff.mp h
          obtain ⟨q, h4, h5⟩ := Option.map_eq_some_iff.mp h
          subst h5
          exact z_cmp2 o (by simpa using h1) (iE X sc [] .s a x o h2) (iE X sc [] .s b y o h3) (iE X sc [] .s c q o h4)
      | BoolOp op es p =>
        obtain ⟨h1, h⟩ := gd_some h
        obtain ⟨zs, h2, h3⟩ := Option.bind_eq_some_iff.mp h
        exact z_bool o (want_cs h1).symm (fun e _ z => iE X sc fe w e z o) h2 h3
      | IfExp c a b p =>
        obtain ⟨x, h2, h⟩ := Option.bind_eq_some_iff.mp h
        obtain ⟨y, h3, h⟩ := Option.bind_eq_some_iff.mp h
        obtain ⟨q, h4, h5⟩ := Option.map_eq_some_iff.mp h
        subst h5
        exact z_ite (iT X sc c x o h2) (iE X sc fe w a y o h3) (iE X sc fe w b q o h4)
      | Subscript a i p =>
        have gen : gd ((w == .s || w == .c) && notSlice i) ((cE n C sc fe .c a).bind fun x => (cE n C sc [] .s i).map fun y => eIx x y) = some z → PE X (.Subscript a i p) (zT M fe w z) := fun h => by
          obtain ⟨h1, h⟩ := gd_some h
          obtain ⟨x, h2, h⟩ := Option.bind_eq_some_iff.mp h
          obtain ⟨y, h3, h4⟩ := Option.map_eq_some_iff.mp h
          subst h4
          rw [Bool.and_eq_true] at h1
          exact z_ix o (want_cs h1.1) h1.2 (iE X sc fe .c a x o h2) (iE X sc [] .s i y o h3)
        cases i with
        | Slice lo hi st q =>
          cases st with
          | none =>
            obtain ⟨h1, h⟩ := gd_some h
            obtain ⟨x, h2, h⟩ := Option.bind_eq_some_iff.mp h
            obtain ⟨l, h3, h⟩ := Option.bind_eq_some_iff.mp h
            obtain ⟨hh, h4, h5⟩ := Option.map_eq_some_iff.mp h
            subst h5
            exact z_cut o (want_nd h1) (iE X sc fe .c a x o h2) (z_part (fun e z => iE X sc [] .s e z o) h3) (z_part (fun e z => iE X sc [] .s e z o) h4)
          | some st =>
            obtain ⟨h1, h⟩ := gd_some h
            obtain ⟨x, h2, h⟩ := Option.bind_eq_some_iff.mp h
            obtain ⟨l, h3, h⟩ := Option.bind_eq_some_iff.mp h
            obtain ⟨hh, h4, h⟩ := Option.bind_eq_some_iff.mp h
            obtain ⟨z, h5, h6⟩ := Option.map_eq_some_iff.mp h
            subst h6
            exact z_step o (want_nd h1) (iE X sc fe .c a x o h2) (z_part (fun e z => iE X sc [] .s e z o) h3) (z_part (fun e z => iE X sc [] .s e z o) h4) (z_part (l := some st) (f := cE n C sc [] .s) (fun e z => iE X sc [] .s e z o) (by show (cE n C sc [] .s st).map some = some (some z); rw [h5]; rfl))
        | _ => exact gen h
      | Call f es ks p =>
        cases f with
        | Name f q =>
          cases ks with
          | nil =>
            change (if C.fn f = true then gd (plainName f && glK (sc.names.lookup f) && es.all notStar && (w == .s || w == .c || (w == .w && C.fl f == .own))) ((mapO (cE n C sc fe .s) es).map (eCall C.call f))
              else if C.cl f = true then gd (plainName f && glK (sc.names.lookup f) && es.all notStar && (w == .s || w == .c || (w == .w && C.fl (keyOf f "__init__") == .own))) ((mapO (cE n C sc fe .s) es).map (eCall C.call (keyOf f "__init__")))
              else gd (isBuiltin C sc f && es.all notStar) (cBl C sc f w (cE n C sc fe .c) (cE n C sc [] .s) es)) = some z at h
            split at h
            · rename_i hf
              obtain ⟨h1, h⟩ := gd_some h
              obtain ⟨zs, h2, h3⟩ := Option.map_eq_some_iff.mp h
              subst h3
              simp only [Bool.and_eq_true] at h1
              exact z_call o hf h1.1.1.1 h1.1.1.2 h1.1.2 h1.2 (mapO_len h2) (z_args (.inr rfl) (fun e _ z => iE X sc fe .s e z o) h1.1.2 h2)
            split at h
            · rename_i hf
              obtain ⟨h1, h⟩ := gd_some h
              obtain ⟨zs, h2, h3⟩ := Option.map_eq_some_iff.mp h
              subst h3
              simp only [Bool.and_eq_true] at h1
              exact z_make (o.mak f hf) (glOf o h1.1.1.2) (plain_parts h1.1.1.1).1 h1.1.2 h1.2 (mapO_len h2) (z_args (.inr rfl) (fun e _ z => iE X sc fe .s e z o) h1.1.2 h2)
            · obtain ⟨h1, h⟩ := gd_some h
              rw [Bool.and_eq_true] at h1
              rcases cBl_ok h with ⟨a, r, g, zs, rfl, h2, h3, h4, h5⟩ | ⟨a, t, q2, ty, x, rfl, ef, h2, h3, h4, h5⟩
              · subst h5
                exact z_blt o h1.1 h2 (want_nd h3) h1.2 (z_args (.inl rfl) (fun e _ z => iE X sc fe .c e z o) h1.2 h4)
              · subst h5
                subst ef
                have hn := h1.2
                rw [List.all_cons, Bool.and_eq_true] at hn
                exact z_isi o h1.1 h2 h3 hn.1 (iE X sc [] .s a x o h4)
          | cons kw kr =>
            match es, kw, kr, h with
            | [a], ⟨some key, .Name kf p2, p3⟩, [], h =>
              obtain ⟨h1, h⟩ := gd_some h
              obtain ⟨x, h2, h3⟩ := Option.map_eq_some_iff.mp h
              subst h3
              simp only [Bool.and_eq_true, decide_eq_true_eq] at h1
              obtain ⟨⟨⟨⟨⟨⟨⟨c1, c2⟩, c3⟩, c4⟩, c5⟩, c6⟩, c7⟩, c8⟩ := h1
              subst c1
              subst c2
              exact z_sortK o c3 c4 c5 c6 c7 (want_nd c8) (iE X sc fe .c a x o h2)
            | [], kw, kr, h => exact absurd h (by cases kw; simp [cE])
            | _ :: _ :: _, kw, kr, h => exact absurd h (by cases kw; simp [cE])
        | Attribute a m ap =>
          cases ks with
          | nil =>
            change (if C.mt m = true then gd (attrBase a && es.all notStar && decide (es.length < 30) && (ap.endLine == p.line) && (w == .s || w == .c || (w == .w && C.mfl m == .own))) ((cE n C sc fe .s a).bind fun x => (mapO (cE n C sc fe .s) es).map (eMeth C.call x m))
              else cMt m w ap p (cE n C sc fe .c) (cE n C sc [] .s) a es) = some z at h
            split at h
            · rename_i hf
              obtain ⟨h1, h⟩ := gd_some h
              obtain ⟨x, h2, h⟩ := Option.bind_eq_some_iff.mp h
              obtain ⟨zs, h3, h4⟩ := Option.map_eq_some_iff.mp h
              subst h4
              simp only [Bool.and_eq_true, decide_eq_true_eq] at h1
              obtain ⟨⟨⟨⟨c1, c2⟩, c3⟩, c4⟩, c5⟩ := h1
              exact z_meth (fl := C.mfl m) (fun c C0 ds d e1 e2 => o.mt m hf c C0 ds d e1 e2) c5 c1 c2 c3 c4 (mapO_len h3) (iE X sc fe .s a x o h2) (z_args (.inr rfl) (fun e _ z => iE X sc fe .s e z o) c2 h3)
            · unfold cMt at h
              split at h
              · rename_i b
                obtain ⟨g, h2, h⟩ := Option.bind_eq_some_iff.mp h
                obtain ⟨h1, h⟩ := gd_some h
                obtain ⟨x, h3, h⟩ := Option.bind_eq_some_iff.mp h
                obtain ⟨y, h4, h5⟩ := Option.map_eq_some_iff.mp h
                subst h5
                simp only [Bool.and_eq_true] at h1
                obtain ⟨⟨⟨c1, c2⟩, c3⟩, c4⟩ := h1
                rcases mtOf_is h2 with ⟨e1, e2⟩ | ⟨e1, e2⟩
                · subst e1 e2
                  exact z_index o (want_nd c1) c2 c3 c4 (iE X sc fe .c a x o h3) (iE X sc [] .s b y o h4)
                · subst e1 e2
                  exact z_join o (want_nd c1) c2 c3 c4 (iE X sc fe .c a x o h3) (iE X sc [] .s b y o h4)
              · cases h
          | cons kw kr => exact absurd h (by simp [cE])
        | _ => cases h
      | Dict ks vs p =>
        match ks, vs, h with
        | [], [], h =>
          obtain ⟨h1, h⟩ := gd_some h
          cases h
          exact z_dic (want_nd h1)
      | Attribute a f p =>
        obtain ⟨h1, h⟩ := gd_some h
        obtain ⟨x, h2, h3⟩ := Option.map_eq_some_iff.mp h
        subst h3
        simp only [Bool.and_eq_true] at h1
        exact z_fld (fun c C0 e => (o.cls c C0 e).1) (fun c C0 e => (o.cls c C0 e).2 f h1.1.1) (want_cs h1.2) h1.1.2 (iE X sc fe .c a x o h2)
      | DictComp kx vx gs scope p =>
        match gs, h with
        | [⟨tg, iter, ifs, 0⟩], h =>
          obtain ⟨h1, h⟩ := gd_some h
          obtain ⟨own, h2, h⟩ := Option.bind_eq_some_iff.mp h
          obtain ⟨h3, h⟩ := gd_some h
          obtain ⟨g, h4, h⟩ := Option.bind_eq_some_iff.mp h
          obtain ⟨h5, h⟩ := gd_some h
          obtain ⟨it, h6, h⟩ := Option.bind_eq_some_iff.mp h
          obtain ⟨cs, h7, h⟩ := Option.bind_eq_some_iff.mp h
          obtain ⟨kz, h10, h⟩ := Option.bind_eq_some_iff.mp h
          obtain ⟨ez, h8, h9⟩ := Option.map_eq_some_iff.mp h
          subst h9
          simp only [Bool.and_eq_true, decide_eq_true_eq] at h1 h3
          have ok : BlkOk X.N X.env.scope scope own := by
            rw [o.n, o.sc]
            exact blkOk_by h3.1
          exact z_dc o (want_nd h1.1.1) (iI X sc fe .c tg iter it o h6) ok (fun i hi => by simpa using List.all_eq_true.mp h5 i hi)
            (fun s H Cc cl fp => z_tgt (o.blk s H scope cl Cc fp).n (o.blk s H scope cl Cc fp).nd (o.blk s H scope cl Cc fp).k (o.blk s H scope cl Cc fp).calm (LocOk.blk s H scope cl Cc fp) 9 tg g _ h4)
            (fun s H Cc cl fp => z_tests h1.2 (fun e z h => iT _ _ e z (o.blk s H scope cl Cc fp) h) h7)
            (fun s H Cc cl fp => iE _ _ _ .s kx kz (o.blk s H scope cl Cc fp) h10)
            (fun s H Cc cl fp => iE _ _ _ .s vx ez (o.blk s H scope cl Cc fp) h8) (notSet_folded h1.1.2)
      | ListComp elt gs scope p =>
        match gs, h with
        | [⟨tg, iter, ifs, 0⟩], h =>
          obtain ⟨h1, h⟩ := gd_some h
          obtain ⟨own, h2, h⟩ := Option.bind_eq_some_iff.mp h
          obtain ⟨h3, h⟩ := gd_some h
          obtain ⟨g, h4, h⟩ := Option.bind_eq_some_iff.mp h
          obtain ⟨h5, h⟩ := gd_some h
          obtain ⟨it, h6, h⟩ := Option.bind_eq_some_iff.mp h
          obtain ⟨cs, h7, h⟩ := Option.bind_eq_some_iff.mp h
          obtain ⟨ez, h8, h9⟩ := Option.map_eq_some_iff.mp h
          subst h9
          simp only [Bool.and_eq_true, decide_eq_true_eq] at h1 h3
          have ok : BlkOk X.N X.env.scope scope own := by
            rw [o.n, o.sc]
            exact blkOk_by h3.1
          exact z_comp o (want_nd h1.1.1) (iI X sc fe .c tg iter it o h6) ok (fun i hi => by simpa using List.all_eq_true.mp h5 i hi)
            (fun s H Cc cl fp => z_tgt (o.blk s H scope cl Cc fp).n (o.blk s H scope cl Cc fp).nd (o.blk s H scope cl Cc fp).k (o.blk s H scope cl Cc fp).calm (LocOk.blk s H scope cl Cc fp) 9 tg g _ h4)
            (fun s H Cc cl fp => z_tests h1.2 (fun e z h => iT _ _ e z (o.blk s H scope cl Cc fp) h) h7)
            (fun s H Cc cl fp => iE _ _ _ .s elt ez (o.blk s H scope cl Cc fp) h8) (notSet_folded h1.1.2)
      | _ => cases h
    · have gen : gd ((w == .s || w == .c) && notSet e) ((cE n C sc fe w e).map iSeq) = some it → PI X tg e (zI M fe w it) := fun h => by
        obtain ⟨h1, h⟩ := gd_some h
        obtain ⟨x, h2, h3⟩ := Option.map_eq_some_iff.mp h
        subst h3
        rw [Bool.and_eq_true] at h1
        exact z_iseq o (want_cs h1.1) (iE X sc fe w e x o h2)
      cases e with
      | Call f es ks p =>
        cases f with
        | Name f q =>
          cases ks with
          | nil =>
            change (if (isBuiltin C sc f && decide (f = "range")) = true then gd (decide (es.length ≤ 2) && decide (1 ≤ es.length) && es.all notStar) ((mapO (cE n C sc [] .s) es).map iRange)
              else if (isBuiltin C sc f && decide (f = "zip")) = true then (cZip w (cE n C sc fe w) es tg)
              else if (isBuiltin C sc f && decide (f = "enumerate")) = true then (cEnum w (cE n C sc fe w) es tg)
              else gd (w == .s || w == .c) ((cE n C sc fe w (.Call (.Name f q) es [] p)).map iSeq)) = some it at h
            split at h
            · rename_i hf
              rw [Bool.and_eq_true] at hf
              have ef := of_decide_eq_true hf.2
              subst ef
              obtain ⟨h1, h⟩ := gd_some h
              simp only [Bool.and_eq_true, decide_eq_true_eq] at h1
              obtain ⟨zs, h2, h3⟩ := Option.map_eq_some_iff.mp h
              subst h3
              exact z_irange o hf.1 h1.1.1 h1.1.2 h1.2 (z_args (.inr rfl) (fun e _ z => iE X sc [] .s e z o) h1.2 h2) (mapO_len h2)
            · split at h
              · rename_i hf
                rw [Bool.and_eq_true] at hf
                have ef := of_decide_eq_true hf.2
                subst ef
                unfold cZip at h
                split at h
                · obtain ⟨h1, h⟩ := gd_some h
                  simp only [Bool.and_eq_true] at h1
                  obtain ⟨x, h2, h⟩ := Option.bind_eq_some_iff.mp h
                  obtain ⟨y, h3, h4⟩ := Option.map_eq_some_iff.mp h
                  subst h4
                  exact z_izip o hf.1 h1.1.1 h1.1.2 (want_cs h1.2) (iE X sc fe w _ x o h2) (iE X sc fe w _ y o h3)
                · cases h
              · split at h
                · rename_i hf
                  rw [Bool.and_eq_true] at hf
                  have ef := of_decide_eq_true hf.2
                  subst ef
                  unfold cEnum at h
                  split at h
                  · obtain ⟨h1, h⟩ := gd_some h
                    simp only [Bool.and_eq_true] at h1
                    obtain ⟨x, h2, h3⟩ := Option.map_eq_some_iff.mp h
                    subst h3
                    exact z_ienum o hf.1 h1.1 (want_cs h1.2) (iE X sc fe w _ x o h2)
                  · cases h
                · refine gen ?_
                  have e1 : notSet (.Call (.Name f q) es [] p) = true := rfl
                  rw [e1, Bool.and_true]
                  exact h
          | cons _ _ => exact gen h
        | _ => exact gen h
      | _ => exact gen h
    · have gen : gd (plainTest e) (cE n C sc [] .s e) = some z → PT X e (zTT M z) := fun h => by
        obtain ⟨h1, h⟩ := gd_some h
        exact z_truthT o h1 (iE X sc [] .s e z o h)
      cases e with
      | UnaryOp op a p =>
        cases op with
        | Not =>
          obtain ⟨x, h2, h3⟩ := Option.map_eq_some_iff.mp h
          subst h3
          exact z_notT (iT X sc a x o h2)
        | _ => exact gen h
      | BoolOp op es p =>
        obtain ⟨zs, h2, h3⟩ := Option.bind_eq_some_iff.mp h
        exact (z_boolT (fun e _ z => iT X sc e z o) h2 h3).pt
      | Compare a ops bs p =>
        match ops, bs, h with
        | [op], [b], h =>
          obtain ⟨h1, h⟩ := gd_some h
          obtain ⟨x, h2, h⟩ := Option.bind_eq_some_iff.mp h
          obtain ⟨y, h3, h4⟩ := Option.map_eq_some_iff.mp h
          subst h4
          exact z_cmpT o (by simpa using h1) (iE X sc [] .s a x o h2) (iE X sc [] .s b y o h3)
        | [op, op2], [b, c], h =>
          obtain ⟨h1, h⟩ := gd_some h
          obtain ⟨x, h2, h⟩ := Option.bind_eq_some_iff.mp h
          obtain ⟨y, h3, h⟩ := Option.bind_eq_some_iff.mp h
          obtain ⟨q, h4, h5⟩ := Option.map_eq_some_iff.mp h
          subst h5
          exact z_chainT o (by simpa using h1) (iE X sc [] .s a x o h2) (iE X sc [] .s b y o h3) (iE X sc [] .s c q o h4)
      | _ => exact gen h
end Z
/-! Z, part JD: values all of whose objects are new. -/
namespace Z
open PySem PySem.Spec PyProof.Rows L2

def isDeepCall (C : CC) (sc : Scope) : Expr → Bool
  | .Call (.Name f _) _ [] _ => C.fn f && (C.fl f == .deep)
  | _ => false
/-- a value whose objects are all new -/
def cD : Nat → CC → Scope → List Fl → Expr → Option ZE
  | 0, _, _, _, _ => none
  | _ + 1, _, _, _, .Constant c _ _ => (cConst c).map eLit
  | n + 1, C, sc, fe, .List es _ => gd (decide (es.length ≤ 1000) && es.all notStar) ((mapO (cD n C sc fe) es).map eLst)
  | n + 1, C, sc, fe, .Tuple es _ _ => gd (decide (es.length ≤ 1000) && es.all notStar) ((mapO (cD n C sc fe) es).map eTup)
  | n + 1, C, sc, fe, .IfExp c a b _ => (cT n C sc c).bind fun x => (cD n C sc fe a).bind fun y => (cD n C sc fe b).map fun z => eIte x y z
  | n + 1, C, sc, fe, .ListComp elt [⟨tg, iter, ifs, 0⟩] scope _ =>
      gd (notSet iter && decide (ifs.length ≤ 1)) ((mapO (fun x => (ixOf x C.N).map fun i => (x, i)) (tgNames 9 tg)).bind fun own =>
        gd (blkC C.N sc scope own && own.all (fun p => locK (scope.names.lookup p.1))) ((cG 9 C scope tg).bind fun g => gd (g.2.all fun i => (own.map (·.2)).contains i) ((cI n C sc fe .c tg iter).bind fun it =>
          (mapO (cT n C (relS scope sc)) ifs).bind fun cs => (cD n C (relS scope sc) (setSh (setSh fe (own.map (·.2))) g.2) elt).map fun e => eComp (own.map (·.2)) g.1 it cs e)))
  | n + 1, C, sc, fe, .Call (.Name f p0) es [] p => if isDeepCall C sc (.Call (.Name f p0) es [] p) = true then gd (plainName f && glK (sc.names.lookup f) && es.all notStar) ((mapO (cE n C sc fe .s) es).map (eCall C.call f))
      else (cE n C sc fe .w (.Call (.Name f p0) es [] p)).map eFlat
  | n + 1, C, sc, fe, e => (cE n C sc fe .w e).map eFlat

section
variable {C : CC} {M : Mx} {X : Cx} {sc : Scope} {fe : List Fl}
/-- the addresses in use alone -/
theorem RepD.tight {H : Hp} {fp fq : List Addr} (hq : ∀ b ∈ fp, H b ≠ none → b ∈ fq) : (∀ (d : D) (v : V), RepD M H fp d v → RepD M H fq d v) ∧ (∀ (ds : List D) (vs : List V), RepDs M H fp ds vs → RepDs M H fq ds vs) := by
  have key : ∀ n : Nat, ∀ fp fq : List Addr, (∀ b ∈ fp, H b ≠ none → b ∈ fq) → (∀ (d : D) (v : V), sizeOf d < n → RepD M H fp d v → RepD M H fq d v) ∧ (∀ (ds : List D) (vs : List V), sizeOf ds < n → RepDs M H fp ds vs → RepDs M H fq ds vs) := by
    intro n
    induction n with
    | zero => exact fun fp fq hq => ⟨fun d v h => absurd h (Nat.not_lt_zero _), fun d v h => absurd h (Nat.not_lt_zero _)⟩
    | succ n ihn =>
      intro fp fq hq
      have ih := ihn fp fq hq
      have ihb : ∀ a, (∀ (ds : List D) (vs : List V), sizeOf ds < n → RepDs M H (but fp a) ds vs → RepDs M H (but fq a) ds vs) := fun a => (ihn (but fp a) (but fq a) fun b hb hn => mem_but.mpr ⟨hq b (mem_but.mp hb).1 hn, (mem_but.mp hb).2⟩).2
      refine ⟨fun d v hn h => ?_, fun ds vs hn h => ?_⟩
      · cases d with
        | non => simpa only [RepD] using h
        | bl _ => simpa only [RepD] using h
        | int _ => simpa only [RepD] using h
        | str _ => simpa only [RepD] using h
        | tup xs =>
          simp only [RepD] at h ⊢
          obtain ⟨a, vs, r, m, q, z⟩ := h
          exact ⟨a, vs, r, hq a m (by rw [q]; simp), q, ihb a xs vs (by simp at hn; omega) z⟩
        | lst xs =>
          simp only [RepD] at h ⊢
          obtain ⟨a, vs, r, m, q, z⟩ := h
          exact ⟨a, vs, r, hq a m (by rw [q]; simp), q, ihb a xs vs (by simp at hn; omega) z⟩
        | dic _ _ _ => simp only [RepD] at h
        | obj _ _ _ => simp only [RepD] at h
        | scr _ => simp only [RepD] at h
      · cases ds with
        | nil => simpa only [RepDs] using h
        | cons d ds =>
          simp only [RepDs] at h ⊢
          obtain ⟨v, r, rfl, h1, h2⟩ := h
          exact ⟨v, r, rfl, ih.1 d v (by simp at hn; omega) h1, ih.2 ds r (by simp at hn; omega) h2⟩
  exact ⟨fun d v => (key (sizeOf d + 1) fp fq hq).1 d v (Nat.lt_succ_self _), fun ds vs => (key (sizeOf ds + 1) fp fq hq).2 ds vs (Nat.lt_succ_self _)⟩
theorem inUse (H : Hp) (fp : List Addr) : ∃ fq : List Addr, (∀ b ∈ fp, H b ≠ none → b ∈ fq) ∧ (∀ b ∈ fq, b ∈ fp ∧ H b ≠ none) := by
  classical
  exact ⟨fp.filter fun b => decide (H b ≠ none), fun b hb hn => List.mem_filter.mpr ⟨hb, by simpa using hn⟩, fun b hb => by
    have := List.mem_filter.mp hb
    exact ⟨this.1, by simpa using this.2⟩⟩
theorem RepDs_len {H : Hp} {fp : List Addr} : ∀ {ds : List D} {vs : List V}, RepDs M H fp ds vs → ds.length = vs.length
  | [], _, h => by simp only [RepDs] at h; rw [h]; rfl
  | d :: ds, vs, h => by
    simp only [RepDs] at h
    obtain ⟨v, r, rfl, _, t⟩ := h
    rw [List.length_cons, List.length_cons, RepDs_len t]
/-- an own value without objects within is all new -/
theorem own_deep {H F : Hp} {d : D} {v : V} {fp : List Addr} (hf : flat d = true) (x : Val M H F .own d v fp) : Val M H F .deep d v fp := by
  cases d with
  | non => have x : Rep M F .non v := x; simp only [Rep] at x; simpa only [Val, RepD] using x
  | bl b => have x : Rep M F (.bl b) v := x; simp only [Rep] at x; simpa only [Val, RepD] using x
  | int b => have x : Rep M F (.int b) v := x; simp only [Rep] at x; simpa only [Val, RepD] using x
  | str b => have x : Rep M F (.str b) v := x; simp only [Rep] at x; simpa only [Val, RepD] using x
  | lst xs =>
    obtain ⟨a, vs, rfl, rfl, q, z⟩ := x
    have key : ∀ {xs : List D} {vs : List V}, xs.all isAtom = true → Reps M F xs vs → RepDs M H (but [a] a) xs vs := fun {xs} => by
      induction xs with
      | nil => intro vs _ h; simp only [Reps] at h; simpa only [RepDs] using h
      | cons d ds ih =>
        intro vs hf h
        rw [List.all_cons, Bool.and_eq_true] at hf
        simp only [Reps] at h
        obtain ⟨v, r, rfl, h1, h2⟩ := h
        refine RepDs.cons ?_ (ih hf.2 h2)
        cases d <;> first | (exact Bool.noConfusion hf.1) | (simp only [Rep] at h1; simpa only [RepD] using h1)
    show RepD M H [a] (.lst xs) (.ref a)
    simp only [RepD]
    exact ⟨a, vs, rfl, by simp, q, key hf z⟩
  | tup _ => exact Bool.noConfusion hf
  | dic _ _ _ => exact Bool.noConfusion hf
  | obj _ _ _ => exact Bool.noConfusion hf
  | scr _ => exact Bool.noConfusion hf
theorem d_flat {e : Expr} {z : ZE} (h : PE X e (zT M fe .w z)) : PE X e (zT M fe .d (eFlat z)) := PE.imp h fun σ H Q ⟨H0, F0, F, ρ, fps, d, s, e, k⟩ => by
  obtain ⟨d1, e1, e⟩ := R.bind_eq_ok e
  obtain ⟨c, e2⟩ := chk_ok e
  cases e2
  refine ⟨H0, F0, F, ρ, fps, d, s, e1, fun v H' F' g r => ?_⟩
  obtain ⟨fp, x, fr⟩ := r
  exact k v H' F' g ⟨fp, own_deep c x, fr⟩
/-- a row of new values -/
def zAd (M : Mx) (fe : List Fl) (zs : List ZE) : TA := fun σ H Q => ∃ H0 F0 F ρ fps ds, St M H0 F0 σ H F fe ρ fps ∧ eArgs zs ρ = .ok ds ∧ ∀ vs H' F' fp, Gr H F H' F' → RepDs M H' fp ds vs → (∀ b ∈ fp, H b = none ∧ F' b = none ∧ H' b ≠ none) → Q vs H'
theorem zT_goD {z : ZE} {H0 F0 H F : Hp} {σ : L2.St} {ρ : Env} {fps : Nat → List Addr} {d : D} {Q : VK} (s : St M H0 F0 σ H F fe ρ fps) (e : z ρ = .ok d) (k : ∀ v H' F' fp, Gr H F H' F' → St M H0 F0 σ H' F' fe ρ fps → RepD M H' fp d v → (∀ b ∈ fp, H b = none ∧ F' b = none ∧ H' b ≠ none) → Q v H') : zT M fe .d z σ H Q :=
  ⟨H0, F0, F, ρ, fps, d, s, e, fun v H' F' g ⟨fp, x, fr⟩ => by
    obtain ⟨fq, h1, h2⟩ := inUse H' fp
    exact k v H' F' fq g (s.grow g) ((RepD.tight h1).1 d v x) fun b hb => ⟨(fr b (h2 b hb).1).1, (fr b (h2 b hb).1).2, (h2 b hb).2⟩⟩
theorem d_args {f : Expr → Option ZE} : ∀ {es : List Expr} {zs : List ZE}, (∀ e ∈ es, ∀ z, f e = some z → PE X e (zT M fe .d z)) → es.all notStar = true → mapO f es = some zs → PA X es (zAd M fe zs)
  | [], zs, _, _, h => by
    cases h
    refine PA.imp pa_nil fun σ H Q ⟨H0, F0, F, ρ, fps, ds, s, e, k⟩ => ?_
    cases e
    exact k [] H F [] (.refl s.fh) (by simp only [RepDs]) fun b hb => (List.not_mem_nil hb).elim
  | e :: es, zs, hp, hn, h => by
    obtain ⟨z, h1, h⟩ := Option.bind_eq_some_iff.mp h
    obtain ⟨zr, h2, h3⟩ := Option.map_eq_some_iff.mp h
    subst h3
    rw [List.all_cons, Bool.and_eq_true] at hn
    have ih := d_args (fun e' he z => hp e' (List.mem_cons_of_mem _ he) z) hn.2 h2
    refine PA.imp (pa_cons (hp e List.mem_cons_self z h1) ih (star_cons hn.1)) fun σ H Q ⟨H0, F0, F, ρ, fps, ds, s, e, k⟩ => ?_
    obtain ⟨d, e1, e⟩ := R.bind_eq_ok e
    obtain ⟨dr, e2, e⟩ := R.bind_eq_ok e
    cases e
    refine zT_goD s e1 fun v H1 F1 fp1 g1 s1 r1 f1 => ⟨H0, F0, F1, ρ, fps, dr, s1, e2, fun vs H2 F2 fp2 g2 r2 f2 => ?_⟩
    refine k _ H2 F2 (fp1 ++ fp2) (g1.trans g2) (RepDs.cons (RepD.mono (fun b _ o e => g2.h b o e) (fun b hb => List.mem_append_left _ hb) d v r1) (RepDs.mono (fun b _ o e => e) (fun b hb => List.mem_append_right _ hb) dr vs r2)) fun b hb => ?_
    rcases List.mem_append.mp hb with hb | hb
    · obtain ⟨q1, q2, q3⟩ := f1 b hb
      exact ⟨q1, g2.off q2 q3, fun z => q3 (g2.h.free z)⟩
    · obtain ⟨q1, q2, q3⟩ := f2 b hb
      exact ⟨g1.h.free q1, q2, q3⟩
theorem d_list {es : List Expr} {zs : List ZE} {pos : Pos} (hl : es.length ≤ 1000) (hz : zs.length = es.length) (ha : PA X es (zAd M fe zs)) : PE X (.List es pos) (zT M fe .d (eLst zs)) := by
  refine PE.imp (pe_lst ha) fun σ H Q ⟨H0, F0, F, ρ, fps, d, s, e, k⟩ => ?_
  obtain ⟨ds, e1, e⟩ := R.bind_eq_ok e
  cases e
  refine ⟨H0, F0, F, ρ, fps, ds, s, e1, fun vs H1 F1 fp g1 r1 f1 => ⟨?_, fun p hp => ?_⟩⟩
  · rw [← RepDs_len r1, eArgs_len e1, hz]
    exact Nat.le_trans hl (by decide)
  · have g2 := Gr.newO (o := .lst vs) g1.fh hp
    refine k _ _ F1 (g1.trans g2) ⟨p :: fp, ?_, fun b hb => ?_⟩
    · show RepD M _ _ (.lst ds) (.ref p)
      simp only [RepD]
      exact ⟨p, vs, rfl, List.mem_cons_self, upd_same, RepDs.mono (fun b _ o e => g2.h b o e) (fun b hb => mem_but.mpr ⟨List.mem_cons_of_mem _ hb, fun z => (f1 b hb).2.2 (by rw [z]; exact hp)⟩) _ _ r1⟩
    · rcases List.mem_cons.mp hb with hb | hb
      · subst hb; exact ⟨g1.h.free hp, g1.fh.free hp⟩
      · exact ⟨(f1 b hb).1, (f1 b hb).2.1⟩
theorem d_tuple {es : List Expr} {zs : List ZE} {j : Nat} {pos : Pos} (hl : es.length ≤ 1000) (hz : zs.length = es.length) (ha : PA X es (zAd M fe zs)) : PE X (.Tuple es j pos) (zT M fe .d (eTup zs)) := by
  refine PE.imp (pe_tup ha) fun σ H Q ⟨H0, F0, F, ρ, fps, d, s, e, k⟩ => ?_
  obtain ⟨ds, e1, e⟩ := R.bind_eq_ok e
  cases e
  refine ⟨H0, F0, F, ρ, fps, ds, s, e1, fun vs H1 F1 fp g1 r1 f1 => ⟨?_, fun p hp => ?_⟩⟩
  · rw [← RepDs_len r1, eArgs_len e1, hz]
    exact Nat.le_trans hl (by decide)
  · have g2 := Gr.newO (o := .tup vs) g1.fh hp
    refine k _ _ F1 (g1.trans g2) ⟨p :: fp, ?_, fun b hb => ?_⟩
    · show RepD M _ _ (.tup ds) (.ref p)
      simp only [RepD]
      exact ⟨p, vs, rfl, List.mem_cons_self, upd_same, RepDs.mono (fun b _ o e => g2.h b o e) (fun b hb => mem_but.mpr ⟨List.mem_cons_of_mem _ hb, fun z => (f1 b hb).2.2 (by rw [z]; exact hp)⟩) _ _ r1⟩
    · rcases List.mem_cons.mp hb with hb | hb
      · subst hb; exact ⟨g1.h.free hp, g1.fh.free hp⟩
      · exact ⟨(f1 b hb).1, (f1 b hb).2.1⟩
theorem d_ite {a b c : Expr} {x y z : ZE} {pos : Pos} (hc : PT X c (zTT M x)) (ha : PE X a (zT M fe .d y)) (hb : PE X b (zT M fe .d z)) : PE X (.IfExp c a b pos) (zT M fe .d (eIte x y z)) := z_ite hc ha hb
theorem d_call {f : Str} {es : List Expr} {zs : List ZE} {p pos : Pos} (o : XOk C M X sc) (hf : C.fn f = true) (hd : C.fl f = .deep) (hp : plainName f = true) (hg : glK (sc.names.lookup f) = true) (hn : es.all notStar = true)
    (hz : zs.length = es.length) (ha : PA X es (zAw M fe .s zs)) : PE X (.Call (.Name f p) es [] pos) (zT M fe .d (eCall C.call f zs)) := by
  obtain ⟨fa, fd, ps, kk, F, hr, hm, hk, hb, hl⟩ := o.fn f hf
  have gl := glOf o hg
  obtain ⟨hdb, _⟩ := plain_parts hp
  rw [hd] at F
  have fin : ∀ {t : TA} σ H Q, (∀ σ H Q, zAw M fe .s zs σ H Q → t σ H Q) → zT M fe .d (eCall C.call f zs) σ H Q → tCall (spOf M .deep (C.call f) ps.length) [] E0 t σ H Q := fun {t} σ H Q ht ⟨H0, F0, F, ρ, fps, d, s, e, k⟩ => by
    obtain ⟨ds, e1, e⟩ := R.bind_eq_ok e
    refine ht σ H _ ⟨H0, F0, F, ρ, fps, ds, s, e1, fun vs H1 F1 g1 r1 => ?_⟩
    show spOf M .deep (C.call f) ps.length (vs ++ []) H1 Q E0
    rw [List.append_nil]
    exact ⟨ds, F1, d, hl ds d e, g1.fh, r1.reps, e, fun v H2 F2 fp g2 x fr => k v H2 F2 (g1.trans g2) ⟨fp, x, fun b hb => ⟨g1.h.free (fr b hb).1, (fr b hb).2⟩⟩⟩
  cases es with
  | nil => exact PE.imp (pe_call0 F (hr.mono (by omega)) gl hm hk hb .nil pass0 hdb) fun σ H Q z => fin σ H Q (fun σ H Q ⟨H0, F0, F, ρ, fps, ds, s, e, k⟩ => by
      cases zs with
      | nil => cases e; exact k [] H F (.refl s.fh) .nil
      | cons z zr => cases hz) z
  | cons e es =>
    rw [List.all_cons, Bool.and_eq_true] at hn
    exact PE.imp (pe_call F (hr.mono (by omega)) gl hm hk hb .nil pass0 ha hdb (star_cons hn.1) (star_any hn.2)) fun σ H Q z => fin σ H Q (fun _ _ _ z => z) z
/-- a comprehension whose items are all new -/
theorem comp_readD {vs : List Nat} {it : ZI} {g : ZG} {ss : List Nat} {cs : List ZE} {e : ZE} (hss : ∀ i ∈ ss, i ∈ vs) (σ : L2.St) (H : Hp) (Q : VK) (hz : zT M fe .d (eComp vs g it cs e) σ H Q) :
    tLc (zI M fe .c it) (zG M (setSh fe vs) g ss) (zTs M cs) (zT M (setSh (setSh fe vs) ss) .d e) vs σ H Q := by
  obtain ⟨H0, F0, F, ρ, fps, d, s, ev, k⟩ := hz
  obtain ⟨xs, e1, ev⟩ := R.bind_eq_ok ev
  obtain ⟨ys, e2, ev⟩ := R.bind_eq_ok ev
  cases ev
  refine ⟨H0, F0, F, ρ, fps, xs, s, e1, fun J H1 F1 g1 hY D hD => ?_⟩
  obtain ⟨hlen, hY⟩ := hY
  have hFD : F1 D = none := g1.fh.free hD
  let P : Nat → Hp → Prop := fun i Hc => ∃ Fc us acc rest fp, Gr H1 F1 Hc Fc ∧ Hc D = some (.lst us) ∧ Fc D = none ∧ RepDs M Hc fp acc us ∧ (∀ b ∈ fp, H1 b = none ∧ Fc b = none ∧ Hc b ≠ none ∧ b ≠ D) ∧ acc.length ≤ i ∧ compL (compF vs g cs e ρ) (xs.drop i) = .ok rest ∧ acc ++ rest = ys
  refine ⟨fun i m Hc => i ≤ xs.length ∧ m = xs.length - i ∧ P i Hc, ⟨xs.length, Nat.zero_le _, by omega, F1, [], [], ys, [], ?_, upd_same, hFD, by simp [RepDs], fun b hb => (List.not_mem_nil hb).elim, Nat.zero_le _, by rw [List.drop_zero]; exact e2, rfl⟩, ?_⟩
  · exact Gr.write (.refl g1.fh) hD hFD
  rintro i m Hc ⟨hi, rfl, Fc, us, acc, rest, fp, gc, hc, fc, za, fr, la, er, ea⟩
  obtain ⟨y1, y2⟩ := hY Hc Fc gc.h gc.f gc.fh i
  by_cases hlt : i < xs.length
  · obtain ⟨go, yld⟩ := y1 hlt
    refine .inr ⟨go, P (i + 1), fun H' p => ⟨xs.length - (i + 1), by omega, by omega, rfl, p⟩, fun x Hn hy => ?_⟩
    obtain ⟨dx, Fn, hx, gn, rx⟩ := yld x Hn hy
    have edr : xs.drop i = dx :: xs.drop (i + 1) := by
      rw [List.drop_eq_getElem_cons hlt]
      rw [List.getElem?_eq_getElem hlt] at hx
      cases hx
      rfl
    rw [edr] at er
    obtain ⟨ov, zs, f1, f2, f3⟩ := compL_cons er
    obtain ⟨ρ1, q1, f1⟩ := R.bind_eq_ok f1
    obtain ⟨t, q2, f1⟩ := R.bind_eq_ok f1
    obtain ⟨fps1, s1⟩ := (((s.grow g1).grow gc).grow gn).wiped vs
    refine ⟨H0, F0, Fn, killE vs ρ, fps1, dx, ρ1, s1, rx, q1, fun σ2 fps2 s2 w2 => ⟨(w2 vs hss).trans (wipe_twice fun _ z => z), H0, F0, Fn, _, ρ1, fps2, t, s2, q2, fun H3 g3 => ?_⟩⟩
    have gg : Gr H1 F1 H3 Fn := (gc.trans gn).trans g3
    have hD3 : H3 D = some (.lst us) := g3.h _ _ (gn.h _ _ hc)
    have hFn : Fn D = none := gn.off fc (by rw [hc]; simp)
    have fr3 : ∀ b ∈ fp, H1 b = none ∧ Fn b = none ∧ H3 b ≠ none ∧ b ≠ D := fun b hb => by
      obtain ⟨p1, p2, p3, p4⟩ := fr b hb
      exact ⟨p1, gn.off p2 p3, fun z => p3 (gn.h.free (g3.h.free z)), p4⟩
    have za3 : RepDs M H3 fp acc us := RepDs.mono (fun b _ o e => g3.h _ _ (gn.h _ _ e)) (fun _ z => z) _ _ za
    cases t with
    | true =>
      obtain ⟨yv, q3, f1⟩ := R.bind_eq_ok f1
      cases f1
      refine iteT (zT_goD (s2.grow g3) q3 fun v H4 F4 fp4 g4 s4 r4 fr4 => ⟨us, g4.h _ _ hD3, ?_, F4, us ++ [v], acc ++ [yv], zs, fp ++ fp4, ?_, upd_same, ?_, ?_, fun b hb => ?_, ?_, f2, ?_⟩)
      · rw [← RepDs_len za]; omega
      · exact (gg.trans g4).write hD (g4.off hFn (by rw [hD3]; simp))
      · exact g4.off hFn (by rw [hD3]; simp)
      · have nD : ∀ b ∈ fp4, b ≠ D := fun b hb z => by
          have := (fr4 b hb).1
          rw [z, hD3] at this
          cases this
        refine RepDs.append (RepDs.mono (fun b hb o e => ?_) (fun b hb => List.mem_append_left _ hb) _ _ za3) (RepDs.cons (RepD.mono (fun b hb o e => ?_) (fun b hb => List.mem_append_right _ hb) _ _ r4) (by simp only [RepDs]))
        · rw [upd_ne (fr b hb).2.2.2]; exact g4.h _ _ e
        · rw [upd_ne (nD b hb)]; exact e
      · rcases List.mem_append.mp hb with hb | hb
        · obtain ⟨p1, p2, p3, p4⟩ := fr3 b hb
          exact ⟨p1, g4.off p2 p3, by rw [upd_ne p4]; exact fun z => p3 (g4.h.free z), p4⟩
        · obtain ⟨p1, p2, p3⟩ := fr4 b hb
          have nD : b ≠ D := fun z => by rw [z, hD3] at p1; cases p1
          exact ⟨gg.h.free p1, p2, by rw [upd_ne nD]; exact p3, nD⟩
      · rw [List.length_append]; exact Nat.succ_le_succ la
      · rw [← ea, f3, List.append_assoc]; rfl
    | false =>
      cases f1
      exact iteF ⟨Fn, us, acc, zs, fp, gg, hD3, hFn, za3, fr3, Nat.le_succ_of_le la, f2, by rw [← ea, f3]⟩
  · have ei : i = xs.length := by omega
    subst ei
    rw [List.drop_length] at er
    cases er
    rw [List.append_nil] at ea
    subst ea
    refine .inl ⟨y2 (Nat.le_refl _), k _ Hc Fc (g1.trans gc) ⟨D :: fp, ?_, fun b hb => ?_⟩⟩
    · show RepD M Hc (D :: fp) (.lst acc) (.ref D)
      simp only [RepD]
      exact ⟨D, us, rfl, List.mem_cons_self, hc, RepDs.mono (fun b _ o e => e) (fun b hb => mem_but.mpr ⟨List.mem_cons_of_mem _ hb, (fr b hb).2.2.2⟩) _ _ za⟩
    · rcases List.mem_cons.mp hb with hb | hb
      · subst hb; exact ⟨g1.h.free hD, fc⟩
      · exact ⟨g1.h.free (fr b hb).1, (fr b hb).2.1⟩
end
/-- what a comprehension of new items is made of -/
theorem comp_partsD {C : CC} {M : Mx} {X : Cx} {sc : Scope} {fe : List Fl} {z : ZE} {n : Nat} {elt tg iter : Expr} {ifs : List Expr} {scope : Scope} {pos : Pos} (iD : ∀ (X : Cx) (sc : Scope) (fe : List Fl) (e : Expr) (z : ZE), XOk C M X sc → cD n C sc fe e = some z → PE X e (zT M fe .d z))
    (o : XOk C M X sc) (h : cD (n + 1) C sc fe (.ListComp elt [⟨tg, iter, ifs, 0⟩] scope pos) = some z) :
    ∃ (own : List (Str × Nat)) (it : ZI) (g : ZG) (ss : List Nat) (cs : List ZE) (ez : ZE), z = eComp (own.map (·.2)) g it cs ez ∧ PI X tg iter (zI M fe .c it) ∧ BlkOk X.N X.env.scope scope own ∧ (∀ i ∈ ss, i ∈ own.map (·.2)) ∧
    (∀ (s : Shared) (H : Hp) (C : Addr) (cl : List (Str × Addr)) (fp : List Addr), PG (X.blk s H scope (compEnvC scope cl C X.env) fp) tg (zG M (setSh fe (own.map (·.2))) g ss)) ∧
    (∀ (s : Shared) (H : Hp) (C : Addr) (cl : List (Str × Addr)) (fp : List Addr), PTs (X.blk s H scope (compEnvC scope cl C X.env) fp) ifs (zTs M cs)) ∧
    (∀ (s : Shared) (H : Hp) (C : Addr) (cl : List (Str × Addr)) (fp : List Addr), PE (X.blk s H scope (compEnvC scope cl C X.env) fp) elt (zT M (setSh (setSh fe (own.map (·.2))) ss) .d ez)) ∧ (∀ x, foldedSetIterable iter X.env x = pure x) := by
  obtain ⟨iE, iI, iT⟩ := sound C M n
  obtain ⟨h1, h⟩ := gd_some h
  obtain ⟨own, h2, h⟩ := Option.bind_eq_some_iff.mp h
  obtain ⟨h3, h⟩ := gd_some h
  obtain ⟨g, h4, h⟩ := Option.bind_eq_some_iff.mp h
  obtain ⟨h5, h⟩ := gd_some h
  obtain ⟨it, h6, h⟩ := Option.bind_eq_some_iff.mp h
  obtain ⟨cs, h7, h⟩ := Option.bind_eq_some_iff.mp h
  obtain ⟨ez, h8, h9⟩ := Option.map_eq_some_iff.mp h
  simp only [Bool.and_eq_true, decide_eq_true_eq] at h1 h3
  have ok : BlkOk X.N X.env.scope scope own := by
    rw [o.n, o.sc]
    exact blkOk_by h3.1
  exact ⟨own, it, g.1, g.2, cs, ez, h9.symm, iI X sc fe .c tg iter it o h6, ok, (fun i hi => by simpa using List.all_eq_true.mp h5 i hi),
    (fun s H Cc cl fp => z_tgt (o.blk s H scope cl Cc fp).n (o.blk s H scope cl Cc fp).nd (o.blk s H scope cl Cc fp).k (o.blk s H scope cl Cc fp).calm (LocOk.blk s H scope cl Cc fp) 9 tg g _ h4),
    (fun s H Cc cl fp => z_tests h1.2 (fun e z h => iT _ _ e z (o.blk s H scope cl Cc fp) h) h7),
    (fun s H Cc cl fp => iD _ _ _ elt ez (o.blk s H scope cl Cc fp) h8), notSet_folded h1.1⟩
theorem soundD (C : CC) (M : Mx) : ∀ (n : Nat) (X : Cx) (sc : Scope) (fe : List Fl) (e : Expr) (z : ZE), XOk C M X sc → cD n C sc fe e = some z → PE X e (zT M fe .d z) := by
  intro n
  induction n with
  | zero => intro X sc fe e z o h; cases h
  | succ n iD =>
    intro X sc fe e z o h
    have gen : (cE n C sc fe .w e).map eFlat = some z → PE X e (zT M fe .d z) := fun h => by
      obtain ⟨x, h1, h2⟩ := Option.map_eq_some_iff.mp h
      subst h2
      exact d_flat ((sound C M n).1 X sc fe .w e x o h1)
    cases e with
    | Constant c j p => exact z_const h
    | List es p =>
      obtain ⟨h1, h⟩ := gd_some h
      obtain ⟨zs, h2, h3⟩ := Option.map_eq_some_iff.mp h
      subst h3
      simp only [Bool.and_eq_true, decide_eq_true_eq] at h1
      exact d_list h1.1 (mapO_len h2) (d_args (fun e _ z => iD X sc fe e z o) h1.2 h2)
    | Tuple es j p =>
      obtain ⟨h1, h⟩ := gd_some h
      obtain ⟨zs, h2, h3⟩ := Option.map_eq_some_iff.mp h
      subst h3
      simp only [Bool.and_eq_true, decide_eq_true_eq] at h1
      exact d_tuple h1.1 (mapO_len h2) (d_args (fun e _ z => iD X sc fe e z o) h1.2 h2)
    | IfExp c a b p =>
      obtain ⟨x, h2, h⟩ := Option.bind_eq_some_iff.mp h
      obtain ⟨y, h3, h⟩ := Option.bind_eq_some_iff.mp h
      obtain ⟨q, h4, h5⟩ := Option.map_eq_some_iff.mp h
      subst h5
      exact d_ite ((sound C M n).2.2 X sc c x o h2) (iD X sc fe a y o h3) (iD X sc fe b q o h4)
    | Call f es ks p =>
      cases f with
      | Name f q =>
        cases ks with
        | nil =>
          change (if isDeepCall C sc (.Call (.Name f q) es [] p) = true then _ else _) = some z at h
          split at h
          · rename_i hc
            obtain ⟨h1, h⟩ := gd_some h
            obtain ⟨zs, h2, h3⟩ := Option.map_eq_some_iff.mp h
            subst h3
            unfold isDeepCall at hc
            simp only [Bool.and_eq_true, beq_iff_eq] at h1 hc
            exact d_call o hc.1 hc.2 h1.1.1 h1.1.2 h1.2 (mapO_len h2) (z_args (.inr rfl) (fun e _ z => (sound C M n).1 X sc fe .s e z o) h1.2 h2)
          · exact gen h
        | cons _ _ => exact gen h
      | _ => exact gen h
    | ListComp elt gs scope p =>
      match gs, h with
      | [⟨tg, iter, ifs, 0⟩], h =>
        obtain ⟨own, it, g, ss, cs, ez, e0, a1, a2, a3, a4, a5, a6, a7⟩ := comp_partsD iD o h
        subst e0
        exact PE.imp (pe_lc o.calm (by rw [o.n]; exact o.nd) a1 a2 a4 a5 a6 a7) (comp_readD a3)
      | [], h => exact gen h
      | ⟨_, _, _, .ofNat (_ + 1)⟩ :: _, h => exact gen h
      | ⟨_, _, _, .negSucc _⟩ :: _, h => exact gen h
      | ⟨_, _, _, 0⟩ :: _ :: _, h => exact gen h
    | _ => exact gen h
end Z
/-! Z, part K: the frame's state through statements. -/
namespace Z
open PySem PySem.Spec PyProof.Rows L2

theorem PS.imp {X : Cx} {e : Stmt} {t t' : TS} (h : PS X e t) (q : ∀ D σ H, t' D σ H → t D σ H) : PS X e t' := ⟨fun pins s σ H D I z => h.run pins s σ H D I (q _ _ _ z)⟩
theorem PSs.imp {X : Cx} {e : List Stmt} {t t' : TS} (h : PSs X e t) (q : ∀ D σ H, t' D σ H → t D σ H) : PSs X e t' := ⟨fun pins s σ H D I z => h.run pins s σ H D I (q _ _ _ z)⟩

/-- fe' owns less than fe -/
def Wk (fe' fe : List Fl) : Prop := ∀ i : Nat, fe'.getD i .sh = fe.getD i .sh ∨ fe'.getD i .sh = .sh
theorem Wk.refl (fe : List Fl) : Wk fe fe := fun i => .inl rfl
theorem Wk.trans {a b c : List Fl} (h : Wk a b) (q : Wk b c) : Wk a c := fun i => by
  rcases h i with h | h
  · rcases q i with q | q
    · exact .inl (h.trans q)
    · exact .inr (h.trans q)
  · exact .inr h
theorem wk_nil (fe : List Fl) : Wk [] fe := fun i => .inr (by simp)
theorem setSh_get (is : List Nat) : ∀ (fe : List Fl) (i : Nat), (setSh fe is).getD i .sh = if i ∈ is then .sh else fe.getD i .sh := by
  induction is with
  | nil => intro fe i; simp [setSh]
  | cons a is ih =>
    intro fe i
    have e : setSh fe (a :: is) = setSh (fe.set a .sh) is := rfl
    rw [e, ih]
    by_cases h : i ∈ is
    · rw [if_pos h, if_pos (List.mem_cons_of_mem _ h)]
    · rw [if_neg h]
      by_cases h2 : i = a
      · subst h2
        rw [if_pos List.mem_cons_self, List.getD_eq_getElem?_getD]
        by_cases hl : i < fe.length
        · rw [List.getElem?_set_self hl]; rfl
        · rw [List.getElem?_eq_none (by simpa using hl)]; rfl
      · rw [if_neg (by simp [h, h2])]
        exact getD_set h2
theorem wk_setSh (fe : List Fl) (is : List Nat) : Wk (setSh fe is) fe := fun i => by
  rw [setSh_get]
  by_cases h : i ∈ is
  · exact .inr (if_pos h)
  · exact .inl (if_neg h)
def meet1 (a b : Fl) : Fl := if a = b then a else .sh
def meet (a b : List Fl) : List Fl := List.zipWith meet1 a b
theorem meet_get (a b : List Fl) (i : Nat) : (meet a b).getD i .sh = meet1 (a.getD i .sh) (b.getD i .sh) := by
  unfold meet
  simp only [List.getD_eq_getElem?_getD, List.getElem?_zipWith]
  cases a[i]? with
  | none => cases b[i]? <;> simp [meet1] <;> (intro h; exact h.symm ▸ rfl)
  | some x =>
    cases b[i]? with
    | none => simp [meet1]; intro h; rw [h]
    | some y => rfl
theorem meet_left (a b : List Fl) : Wk (meet a b) a := fun i => by
  rw [meet_get]
  unfold meet1
  split
  · exact .inl rfl
  · exact .inr rfl
theorem meet_right (a b : List Fl) : Wk (meet a b) b := fun i => by
  rw [meet_get]
  unfold meet1
  split
  · rename_i h; exact .inl h
  · exact .inr rfl
/-- less is owned: what is given up goes into F -/
theorem St.weak {M : Mx} {H0 F0 H F : Hp} {σ : L2.St} {fe fe' : List Fl} {ρ : Env} {fps : Nat → List Addr} (s : St M H0 F0 σ H F fe ρ fps) (w : Wk fe' fe) : ∃ F' fps', St M H0 F0 σ H F' fe' ρ fps' ∧ Same F F' := by
  classical
  let gv : Nat → Prop := fun i => fe'.getD i .sh ≠ fe.getD i .sh
  let F' : Hp := fun b => if ∃ i, gv i ∧ b ∈ fps i then H b else F b
  have hin : ∀ {b}, (∃ i, gv i ∧ b ∈ fps i) → F' b = H b := fun {b} h => if_pos h
  have hout : ∀ {b}, ¬ (∃ i, gv i ∧ b ∈ fps i) → F' b = F b := fun {b} h => if_neg h
  have sm : Same F F' := fun b o e => by
    by_cases h : ∃ i, gv i ∧ b ∈ fps i
    · rw [hin h]; exact s.fh b o e
    · rw [hout h]; exact e
  refine ⟨F', fun i => if gv i then [] else fps i, ?_, sm⟩
  constructor
  case h0 => exact s.h0
  case f0 => exact s.f0.trans sm
  case fh =>
    intro b o e
    by_cases h : ∃ i, gv i ∧ b ∈ fps i
    · rw [hin h] at e; exact e
    · rw [hout h] at e; exact s.fh b o e
  case new =>
    intro b z
    by_cases h : ∃ i, gv i ∧ b ∈ fps i
    · obtain ⟨i, _, hb⟩ := h
      exact .inr (s.out i b hb).2.1
    · rw [hout h] at z; exact s.new b z
  case len => exact s.len
  case slot =>
    intro i d e
    obtain ⟨v, h1, h2⟩ := s.slot i d e
    refine ⟨v, h1, ?_⟩
    by_cases hg : gv i
    · rcases w i with q | q
      · exact absurd q hg
      · rw [if_pos hg, q]
        have r := Val.sh s.fh h2
        refine Rep.same (fun b o e => ?_) d v r
        by_cases hb : b ∈ fps i
        · rw [ext_at hb] at e
          rw [hin ⟨i, hg, hb⟩]
          exact e
        · rw [ext_off hb] at e
          exact sm b o e
    · rw [if_neg hg]
      have e2 : fe'.getD i .sh = fe.getD i .sh := by
        by_cases z : fe'.getD i .sh = fe.getD i .sh
        · exact z
        · exact absurd z hg
      exact (show Val M H F' (fe'.getD i .sh) d v (fps i) by rw [e2]; exact h2.grow (.refl _) sm)
  case out =>
    intro i b hb
    by_cases hg : gv i
    · rw [if_pos hg] at hb; cases hb
    · rw [if_neg hg] at hb
      obtain ⟨h1, h2, h3⟩ := s.out i b hb
      refine ⟨?_, h2, h3⟩
      rw [hout ?_]
      · exact h1
      · rintro ⟨j, hj, hbj⟩
        have := s.dis i j b hb hbj
        subst this
        exact hg hj
  case dis =>
    intro i j b hb hc
    by_cases hg : gv i
    · rw [if_pos hg] at hb; cases hb
    · by_cases hj : gv j
      · rw [if_pos hj] at hc; cases hc
      · rw [if_neg hg] at hb
        rw [if_neg hj] at hc
        exact s.dis i j b hb hc
section
variable {M : Mx} {H0 F0 H F : Hp} {σ : L2.St} {fe : List Fl} {ρ : Env} {fps : Nat → List Addr}
theorem killE_len : ∀ (ks : List Nat) (ρ : Env), (killE ks ρ).length = ρ.length
  | [], _ => rfl
  | k :: ks, ρ => (killE_len ks (ρ.set k none)).trans (List.length_set ..)
theorem killE_get : ∀ (ks : List Nat) (ρ : Env) {i : Nat} {d : D}, (killE ks ρ)[i]? = some (some d) → ρ[i]? = some (some d)
  | [], _, _, _, h => h
  | k :: ks, ρ, i, d, h => by
    have h1 := killE_get ks (ρ.set k none) h
    by_cases hi : i = k
    · subst hi
      by_cases hl : i < ρ.length
      · rw [List.getElem?_set_self hl] at h1; cases h1
      · rw [List.getElem?_eq_none (by simpa using hl)] at h1; cases h1
    · rw [List.getElem?_set_ne (Ne.symm hi)] at h1; exact h1
theorem St.kill (s : St M H0 F0 σ H F fe ρ fps) (ks : List Nat) : St M H0 F0 σ H F fe (killE ks ρ) fps :=
  ⟨s.h0, s.f0, s.fh, s.new, by rw [killE_len]; exact s.len, fun i d e => s.slot i d (killE_get ks ρ e), s.out, s.dis⟩
/-- the same state, seen from a later F -/
theorem St.from_ (s : St M H0 F0 σ H F fe ρ fps) : St M H0 F σ H F fe ρ fps := ⟨s.h0, .refl _, s.fh, fun b z => .inl z, s.len, s.slot, s.out, s.dis⟩
theorem St.back {H1 F1 : Hp} {σ1 : L2.St} {fe1 : List Fl} {ρ1 : Env} {fps1 : Nat → List Addr} (s : St M H0 F0 σ H F fe ρ fps) (t : St M H0 F σ1 H1 F1 fe1 ρ1 fps1) : St M H0 F0 σ1 H1 F1 fe1 ρ1 fps1 :=
  ⟨t.h0, s.f0.trans t.f0, t.fh, fun b z => (t.new b z).elim (s.new b) .inr, t.len, t.slot, t.out, t.dis⟩
theorem St.gr (s : St M H0 F0 σ H F fe ρ fps) : Gr H0 F0 H F := ⟨s.h0, s.f0, s.fh, s.new⟩
/-- an own value's addresses are in use -/
theorem Val.tight {d : D} {v : V} {fp : List Addr} (x : Val M H F .own d v fp) : ∃ fp', Val M H F .own d v fp' ∧ (∀ b ∈ fp', b ∈ fp) ∧ ∀ b ∈ fp', H b ≠ none := by
  cases d with
  | lst xs =>
    obtain ⟨a, vs, e, rfl, q, z⟩ := x
    exact ⟨[a], ⟨a, vs, e, rfl, q, z⟩, fun _ h => h, fun b hb => by
      have e : b = a := by simpa using hb
      rw [e, q]; simp⟩
  | dic t ks ds =>
    obtain ⟨a, us, e, rfl, q, z⟩ := x
    refine ⟨[a], ⟨a, us, e, rfl, q, z⟩, fun _ h => h, fun b hb => ?_⟩
    have e : b = a := by simpa using hb
    subst e
    obtain ⟨o, q⟩ := q.rd
    rw [q]; simp
  | obj c fs ds =>
    obtain ⟨a, C, dx, us, e, rfl, q, z⟩ := x
    exact ⟨[a], ⟨a, C, dx, us, e, rfl, q, z⟩, fun _ h => h, fun b hb => by
      have e : b = a := by simpa using hb
      rw [e, q]; simp⟩
  | non => exact ⟨[], x, fun _ h => (List.not_mem_nil h).elim, fun _ h => (List.not_mem_nil h).elim⟩
  | bl _ => exact ⟨[], x, fun _ h => (List.not_mem_nil h).elim, fun _ h => (List.not_mem_nil h).elim⟩
  | int _ => exact ⟨[], x, fun _ h => (List.not_mem_nil h).elim, fun _ h => (List.not_mem_nil h).elim⟩
  | str _ => exact ⟨[], x, fun _ h => (List.not_mem_nil h).elim, fun _ h => (List.not_mem_nil h).elim⟩
  | tup _ => exact ⟨[], x, fun _ h => (List.not_mem_nil h).elim, fun _ h => (List.not_mem_nil h).elim⟩
  | scr _ => exact ⟨[], x, fun _ h => (List.not_mem_nil h).elim, fun _ h => (List.not_mem_nil h).elim⟩
/-- a slot gets an own value -/
theorem St.putO {H1 F1 : Hp} {i : Nat} {d : D} {v : V} {fp : List Addr} (s0 : St M H0 F0 σ H1 F1 fe ρ fps) (g : Gr H1 F1 H F) (hi : i < fe.length) (x : Val M H F .own d v fp) (fr : Fresh H1 F fp) :
    ∃ fps', St M H0 F0 (σ.set i (some v)) H F (fe.set i .own) (ρ.set i (some d)) fps' := by
  have s := s0.grow g
  obtain ⟨fq, y, hs, hu⟩ := x.tight
  refine ⟨fun j => if j = i then fq else fps j, s.h0, s.f0, s.fh, s.new, by rw [List.length_set, List.length_set, s.len], fun j e h => ?_, fun j b hb => ?_, fun j k b hb hc => ?_⟩
  · by_cases hj : j = i
    · subst hj
      have hl : j < ρ.length := by
        obtain ⟨hl, _⟩ := List.getElem?_eq_some_iff.mp h
        simpa using hl
      rw [List.getElem?_set_self hl] at h
      cases h
      refine ⟨v, by rw [List.getElem?_set_self (by rw [← s.len]; exact hl)], ?_⟩
      rw [List.getD_eq_getElem?_getD, List.getElem?_set_self hi, if_pos rfl]
      exact y
    · rw [List.getElem?_set_ne (Ne.symm hj)] at h
      obtain ⟨u, h1, h2⟩ := s.slot j e h
      refine ⟨u, by rw [List.getElem?_set_ne (Ne.symm hj)]; exact h1, ?_⟩
      rw [getD_set hj, if_neg hj]
      exact h2
  · by_cases hj : j = i
    · rw [if_pos hj] at hb
      obtain ⟨h1, h2⟩ := fr b (hs b hb)
      exact ⟨h2, s0.h0.free h1, hu b hb⟩
    · rw [if_neg hj] at hb; exact s.out j b hb
  · have key : ∀ j b, b ∈ fq → b ∈ fps j → False := fun j b hb hc => (s0.out j b hc).2.2 (fr b (hs b hb)).1
    by_cases hj : j = i
    · by_cases hk : k = i
      · rw [hj, hk]
      · rw [if_pos hj] at hb
        rw [if_neg hk] at hc
        exact (key k b hb hc).elim
    · by_cases hk : k = i
      · rw [if_neg hj] at hb
        rw [if_pos hk] at hc
        exact (key j b hc hb).elim
      · rw [if_neg hj] at hb
        rw [if_neg hk] at hc
        exact s.dis j k b hb hc
/-- a slot's own value goes to another slot -/
theorem St.move {i j : Nat} {d : D} {v : V} (s : St M H0 F0 σ H F fe ρ fps) (hij : i ≠ j) (hi : i < fe.length) (hd : ρ[j]? = some (some d)) (hv : σ[j]? = some (some v)) :
    ∃ fps', St M H0 F0 (σ.set i (some v)) H F ((fe.set j .sh).set i (fe.getD j .sh)) ((ρ.set j none).set i (some d)) fps' := by
  obtain ⟨v', h1, h2⟩ := s.slot j d hd
  rw [hv] at h1
  cases h1
  have hjl : j < ρ.length := (List.getElem?_eq_some_iff.mp hd).1
  refine ⟨fun k => if k = i then fps j else if k = j then [] else fps k, s.h0, s.f0, s.fh, s.new, by rw [List.length_set, List.length_set, List.length_set, s.len], fun k e h => ?_, fun k b hb => ?_, fun k l b hb hc => ?_⟩
  · by_cases hk : k = i
    · subst hk
      have hl : k < ρ.length := by
        obtain ⟨hl, _⟩ := List.getElem?_eq_some_iff.mp h
        simpa using hl
      rw [List.getElem?_set_self (by simpa using hl)] at h
      cases h
      refine ⟨v, by rw [List.getElem?_set_self (by rw [← s.len]; exact hl)], ?_⟩
      rw [List.getD_eq_getElem?_getD, List.getElem?_set_self (by simpa using hi), if_pos rfl]
      exact h2
    · rw [List.getElem?_set_ne (Ne.symm hk)] at h
      by_cases hkj : k = j
      · subst hkj
        rw [List.getElem?_set_self hjl] at h
        cases h
      · rw [List.getElem?_set_ne (Ne.symm hkj)] at h
        obtain ⟨u, q1, q2⟩ := s.slot k e h
        refine ⟨u, by rw [List.getElem?_set_ne (Ne.symm hk)]; exact q1, ?_⟩
        rw [getD_set hk, getD_set hkj, if_neg hk, if_neg hkj]
        exact q2
  · by_cases hk : k = i
    · rw [if_pos hk] at hb; exact s.out j b hb
    · rw [if_neg hk] at hb
      by_cases hkj : k = j
      · rw [if_pos hkj] at hb; cases hb
      · rw [if_neg hkj] at hb; exact s.out k b hb
  · have key : ∀ k, k ≠ i → b ∈ (if k = i then fps j else if k = j then [] else fps k) → k ≠ j ∧ b ∈ fps k := fun k hk h => by
      rw [if_neg hk] at h
      by_cases hkj : k = j
      · rw [if_pos hkj] at h; cases h
      · rw [if_neg hkj] at h; exact ⟨hkj, h⟩
    by_cases hk : k = i
    · by_cases hl : l = i
      · rw [hk, hl]
      · have hb : b ∈ fps j := by simpa [hk] using hb
        obtain ⟨q1, q2⟩ := key l hl hc
        exact absurd (s.dis j l b hb q2).symm q1
    · obtain ⟨q1, q2⟩ := key k hk hb
      by_cases hl : l = i
      · have hc : b ∈ fps j := by simpa [hl] using hc
        exact absurd (s.dis k j b q2 hc) q1
      · obtain ⟨q3, q4⟩ := key l hl hc
        exact s.dis k l b q2 q4
/-- a write outside fp and F -/
theorem Val.upd {a : Addr} {o : HO} {fl : Fl} {d : D} {v : V} {fp : List Addr} (ha : a ∉ fp) (x : Val M H F fl d v fp) : Val M (upd H a o) F fl d v fp := by
  have ne : ∀ b ∈ fp, L2.upd H a o b = H b := fun b hb => upd_ne (fun z => ha (by rw [← z]; exact hb))
  cases fl with
  | sh => exact x
  | deep => exact RepD.mono (fun b hb o' e => by rw [ne b hb]; exact e) (fun _ z => z) d v x
  | me =>
    cases d with
    | obj c fs ds =>
      obtain ⟨b, C, dx, us, e, rfl, q, z⟩ := x
      exact ⟨b, C, dx, us, e, rfl, by rw [ne b (by simp)]; exact q, z⟩
    | _ => exact False.elim x
  | own =>
    cases d with
    | lst xs =>
      obtain ⟨b, vs, e, rfl, q, z⟩ := x
      exact ⟨b, vs, e, rfl, by rw [ne b (by simp)]; exact q, z⟩
    | dic t ks ds =>
      obtain ⟨b, us, e, rfl, q, z⟩ := x
      exact ⟨b, us, e, rfl, DicAt.at_ (ne b (by simp)).symm q, z⟩
    | obj c fs ds =>
      obtain ⟨b, C, dx, us, e, rfl, q, z⟩ := x
      exact ⟨b, C, dx, us, e, rfl, by rw [ne b (by simp)]; exact q, z⟩
    | non => exact x
    | bl _ => exact x
    | int _ => exact x
    | str _ => exact x
    | tup _ => exact x
    | scr _ => exact x
/-- a slot gets a value all of whose objects are new -/
theorem St.putD {H1 F1 : Hp} {i : Nat} {d : D} {v : V} {fp : List Addr} (s0 : St M H0 F0 σ H1 F1 fe ρ fps) (g : Gr H1 F1 H F) (hi : i < fe.length) (x : RepD M H fp d v) (fr : ∀ b ∈ fp, H1 b = none ∧ F b = none ∧ H b ≠ none) :
    ∃ fps', St M H0 F0 (σ.set i (some v)) H F (fe.set i .deep) (ρ.set i (some d)) fps' := by
  have s := s0.grow g
  refine ⟨fun j => if j = i then fp else fps j, s.h0, s.f0, s.fh, s.new, by rw [List.length_set, List.length_set, s.len], fun j e h => ?_, fun j b hb => ?_, fun j k b hb hc => ?_⟩
  · by_cases hj : j = i
    · subst hj
      have hl : j < ρ.length := by
        obtain ⟨hl, _⟩ := List.getElem?_eq_some_iff.mp h
        simpa using hl
      rw [List.getElem?_set_self hl] at h
      cases h
      refine ⟨v, by rw [List.getElem?_set_self (by rw [← s.len]; exact hl)], ?_⟩
      rw [List.getD_eq_getElem?_getD, List.getElem?_set_self hi, if_pos rfl]
      exact x
    · rw [List.getElem?_set_ne (Ne.symm hj)] at h
      obtain ⟨u, h1, h2⟩ := s.slot j e h
      refine ⟨u, by rw [List.getElem?_set_ne (Ne.symm hj)]; exact h1, ?_⟩
      rw [getD_set hj, if_neg hj]
      exact h2
  · by_cases hj : j = i
    · rw [if_pos hj] at hb
      obtain ⟨h1, h2, h3⟩ := fr b hb
      exact ⟨h2, s0.h0.free h1, h3⟩
    · rw [if_neg hj] at hb; exact s.out j b hb
  · have key : ∀ j b, b ∈ fp → b ∈ fps j → False := fun j b hb hc => (s0.out j b hc).2.2 (fr b hb).1
    by_cases hj : j = i
    · by_cases hk : k = i
      · rw [hj, hk]
      · rw [if_pos hj] at hb
        rw [if_neg hk] at hc
        exact (key k b hb hc).elim
    · by_cases hk : k = i
      · rw [if_neg hj] at hb
        rw [if_pos hk] at hc
        exact (key j b hc hb).elim
      · rw [if_neg hj] at hb
        rw [if_neg hk] at hc
        exact s.dis j k b hb hc
/-- a slot that holds a list of new objects gets one more -/
theorem St.appD {H1 F1 : Hp} {i : Nat} {xs : List D} {d : D} {y : V} {fp : List Addr} (s0 : St M H0 F0 σ H1 F1 fe ρ fps) (g : Gr H1 F1 H F) (hf : fe.getD i .sh = .deep) (hd : ρ[i]? = some (some (.lst xs))) (x : RepD M H fp d y) (fr : ∀ b ∈ fp, H1 b = none ∧ F b = none ∧ H b ≠ none) :
    ∃ a vs, σ[i]? = some (some (.ref a)) ∧ H1 a = some (.lst vs) ∧ H a = some (.lst vs) ∧ vs.length = xs.length ∧ ∃ fps', St M H0 F0 σ (upd H a (.lst (vs ++ [y]))) F fe (ρ.set i (some (.lst (xs ++ [d])))) fps' := by
  obtain ⟨v, h1, h2⟩ := s0.slot i _ hd
  rw [hf] at h2
  have h2 : RepD M H1 (fps i) (.lst xs) v := h2
  simp only [RepD] at h2
  obtain ⟨a, vs, rfl, ma, q, z⟩ := h2
  have hl : i < ρ.length := (List.getElem?_eq_some_iff.mp hd).1
  have ha0 := s0.out i a ma
  have s := s0.grow g
  have ha := s.out i a ma
  have nfp : a ∉ fp := fun h => ha0.2.2 (fr a h).1
  refine ⟨a, vs, h1, q, g.h _ _ q, (RepDs_len z).symm, fun j => if j = i then fps i ++ fp else fps j, fun b o e => ?_, s.f0, fun b o e => ?_, s.new, by rw [List.length_set]; exact s.len, fun j e h => ?_, fun j b hb => ?_, fun j k b hb hc => ?_⟩
  · rw [upd_ne (ne_of_none e ha.2.1)]; exact s.h0 b o e
  · rw [upd_ne (ne_of_none e ha.1)]; exact s.fh b o e
  · by_cases hj : j = i
    · subst hj
      rw [List.getElem?_set_self hl] at h
      cases h
      refine ⟨_, h1, ?_⟩
      rw [hf, if_pos rfl]
      show RepD M _ _ (.lst (xs ++ [d])) (.ref a)
      simp only [RepD]
      refine ⟨a, vs ++ [y], rfl, List.mem_append_left _ ma, upd_same, RepDs.append (RepDs.mono (fun b hb o e => ?_) (fun b hb => ?_) _ _ z) (RepDs.cons (RepD.mono (fun b hb o e => ?_) (fun b hb => ?_) _ _ x) (by simp only [RepDs]))⟩
      · rw [upd_ne (mem_but.mp hb).2]; exact g.h _ _ e
      · exact mem_but.mpr ⟨List.mem_append_left _ (mem_but.mp hb).1, (mem_but.mp hb).2⟩
      · rw [upd_ne (fun z => nfp (by rw [← z]; exact hb))]; exact e
      · exact mem_but.mpr ⟨List.mem_append_right _ hb, fun z => nfp (by rw [← z]; exact hb)⟩
    · rw [List.getElem?_set_ne (Ne.symm hj)] at h
      obtain ⟨u, q1, q2⟩ := s.slot j e h
      refine ⟨u, q1, ?_⟩
      rw [if_neg hj]
      exact q2.upd fun hb => hj (s.dis j i a hb ma)
  · have nn : ∀ b, H b ≠ none → L2.upd H a (.lst (vs ++ [y])) b ≠ none := fun b h => by
      by_cases hb : b = a
      · rw [hb, upd_same]; simp
      · rw [upd_ne hb]; exact h
    by_cases hj : j = i
    · rw [if_pos hj] at hb
      rcases List.mem_append.mp hb with hb | hb
      · obtain ⟨q1, q2, q3⟩ := s.out i b hb
        exact ⟨q1, q2, nn b q3⟩
      · obtain ⟨q1, q2, q3⟩ := fr b hb
        exact ⟨q2, s0.h0.free q1, nn b q3⟩
    · rw [if_neg hj] at hb
      obtain ⟨q1, q2, q3⟩ := s.out j b hb
      exact ⟨q1, q2, nn b q3⟩
  · have key : ∀ j b, b ∈ fp → b ∈ fps j → False := fun j b hb hc => (s0.out j b hc).2.2 (fr b hb).1
    have cut : ∀ j, b ∈ (if j = i then fps i ++ fp else fps j) → b ∈ fps j ∨ (j = i ∧ b ∈ fp) := fun j h => by
      by_cases hj : j = i
      · rw [if_pos hj] at h
        rcases List.mem_append.mp h with h | h
        · exact .inl (by rw [hj]; exact h)
        · exact .inr ⟨hj, h⟩
      · rw [if_neg hj] at h; exact .inl h
    rcases cut j hb with hb | ⟨hj, hb⟩
    · rcases cut k hc with hc | ⟨hk, hc⟩
      · exact s.dis j k b hb hc
      · exact (key j b hc hb).elim
    · rcases cut k hc with hc | ⟨hk, hc⟩
      · exact (key k b hb hc).elim
      · rw [hj, hk]
/-- a slot is forgotten, one of its own objects is changed -/
theorem St.spoil {i : Nat} {a : Addr} {o : HO} (s : St M H0 F0 σ H F fe ρ fps) (ma : a ∈ fps i) : St M H0 F0 σ (upd H a o) F fe (ρ.set i none) fps := by
  have ha := s.out i a ma
  refine ⟨fun b o e => ?_, s.f0, fun b o e => ?_, s.new, by rw [List.length_set]; exact s.len, fun j e h => ?_, fun j b hb => ?_, s.dis⟩
  · rw [upd_ne (ne_of_none e ha.2.1)]; exact s.h0 b o e
  · rw [upd_ne (ne_of_none e ha.1)]; exact s.fh b o e
  · by_cases hj : j = i
    · subst hj
      by_cases hl : j < ρ.length
      · rw [List.getElem?_set_self hl] at h; cases h
      · rw [List.getElem?_eq_none (by simpa using hl)] at h; cases h
    · rw [List.getElem?_set_ne (Ne.symm hj)] at h
      obtain ⟨u, q1, q2⟩ := s.slot j e h
      exact ⟨u, q1, q2.upd fun hb => hj (s.dis j i a hb ma)⟩
  · obtain ⟨q1, q2, q3⟩ := s.out j b hb
    refine ⟨q1, q2, ?_⟩
    by_cases hb : b = a
    · rw [hb, upd_same]; simp
    · rw [upd_ne hb]; exact q3
/-- an own list is rewritten -/
theorem St.wrL {i : Nat} {xs : List D} (s : St M H0 F0 σ H F fe ρ fps) (hf : fe.getD i .sh = .own) (hd : ρ[i]? = some (some (.lst xs))) :
    ∃ a vs, σ[i]? = some (some (.ref a)) ∧ H a = some (.lst vs) ∧ Reps M F xs vs ∧ (∀ (ys : List D) (us : List V), Reps M F ys us → St M H0 F0 σ (upd H a (.lst us)) F fe (ρ.set i (some (.lst ys))) fps) := by
  obtain ⟨v, h1, h2⟩ := s.slot i _ hd
  rw [hf] at h2
  obtain ⟨a, vs, rfl, hfp, q, z⟩ := h2
  have hl : i < ρ.length := (List.getElem?_eq_some_iff.mp hd).1
  have ha := s.out i a (by rw [hfp]; simp)
  refine ⟨a, vs, h1, q, z, fun ys us r => ⟨fun b o e => ?_, s.f0, fun b o e => ?_, s.new, by rw [List.length_set]; exact s.len, fun j e h => ?_, fun j b hb => ?_, s.dis⟩⟩
  · rw [upd_ne (ne_of_none e ha.2.1)]; exact s.h0 b o e
  · rw [upd_ne (ne_of_none e ha.1)]; exact s.fh b o e
  · by_cases hj : j = i
    · subst hj
      rw [List.getElem?_set_self hl] at h
      cases h
      refine ⟨_, h1, ?_⟩
      rw [hf]
      exact ⟨a, us, rfl, hfp, upd_same, r⟩
    · rw [List.getElem?_set_ne (Ne.symm hj)] at h
      obtain ⟨u, q1, q2⟩ := s.slot j e h
      exact ⟨u, q1, q2.upd fun hb => hj (s.dis j i a hb (by rw [hfp]; simp))⟩
  · obtain ⟨q1, q2, q3⟩ := s.out j b hb
    refine ⟨q1, q2, ?_⟩
    by_cases hb : b = a
    · rw [hb, upd_same]; simp
    · rw [upd_ne hb]; exact q3
end

/-! ### what a statement's reading is -/
def outOk (M : Mx) (H0 F0 : Hp) (fo co : Option (List Fl)) (fl : Fl) (D : Ends) : Out → Prop
  | .nx ρ => ∀ fe, fo = some fe → ∀ σ H F fps, St M H0 F0 σ H F fe ρ fps → D.nx σ H
  | .ct ρ => ∀ fe, co = some fe → ∀ σ H F fps, St M H0 F0 σ H F fe ρ fps → D.ct σ H
  | .rt d => ∀ v H F fp, Gr H0 F0 H F → Val M H F fl d v fp → Fresh H0 F fp → D.rt v H
  | .ex _ _ => False
  | .no => False
def zS (M : Mx) (fe : List Fl) (fo co : Option (List Fl)) (fl : Fl) (z : ZS) : TS := fun D σ H => ∃ H0 F0 F ρ fps, St M H0 F0 σ H F fe ρ fps ∧ outOk M H0 F0 fo co fl D (z ρ)
/-- b is a's join with something -/
def OWk (a b : Option (List Fl)) : Prop := ∀ fe, a = some fe → ∃ fe', b = some fe' ∧ Wk fe' fe
theorem OWk.refl (a : Option (List Fl)) : OWk a a := fun fe h => ⟨fe, h, .refl _⟩
def joinO : Option (List Fl) → Option (List Fl) → Option (List Fl)
  | none, b => b
  | some a, none => some a
  | some a, some b => some (meet a b)
theorem join_left (a b : Option (List Fl)) : OWk a (joinO a b) := fun fe h => by
  subst h
  cases b with
  | none => exact ⟨fe, rfl, .refl _⟩
  | some b => exact ⟨_, rfl, meet_left _ _⟩
theorem join_right (a b : Option (List Fl)) : OWk b (joinO a b) := fun fe h => by
  subst h
  cases a with
  | none => exact ⟨fe, rfl, .refl _⟩
  | some a => exact ⟨_, rfl, meet_right _ _⟩
section
variable {M : Mx} {H0 F0 H F : Hp} {σ : L2.St} {fe fe2 : List Fl} {fo co fo' co' : Option (List Fl)} {fl : Fl} {D : Ends} {o : Out} {z : ZS} {X : Cx} {st : Stmt}
theorem outOk.weak (h : outOk M H0 F0 fo' co' fl D o) (a : OWk fo fo') (b : OWk co co') : outOk M H0 F0 fo co fl D o := by
  cases o with
  | nx ρ =>
    intro fe e σ H F fps s
    obtain ⟨fe', e', w⟩ := a fe e
    obtain ⟨F', fps', s', _⟩ := s.weak w
    exact h fe' e' σ H F' fps' s'
  | ct ρ =>
    intro fe e σ H F fps s
    obtain ⟨fe', e', w⟩ := b fe e
    obtain ⟨F', fps', s', _⟩ := s.weak w
    exact h fe' e' σ H F' fps' s'
  | rt d => exact h
  | ex c d => exact h
  | no => exact h
theorem outOk.from_ {ρ : Env} {fps : Nat → List Addr} (s : St M H0 F0 σ H F fe ρ fps) (h : outOk M H0 F0 fo co fl D o) : outOk M H0 F fo co fl D o := by
  cases o with
  | nx ρ => exact fun fe e σ1 H1 F1 fps1 t => h fe e σ1 H1 F1 fps1 (s.back t)
  | ct ρ => exact fun fe e σ1 H1 F1 fps1 t => h fe e σ1 H1 F1 fps1 (s.back t)
  | rt d => exact fun v H1 F1 fp g x fr => h v H1 F1 fp ⟨g.h, s.f0.trans g.f, g.fh, fun b z => (g.new b z).elim (s.new b) .inr⟩ x fr
  | ex c d => exact h
  | no => exact h
/-- less owned at the start -/
theorem zS.pre (h : PS X st (zS M fe2 fo co fl z)) (w : Wk fe2 fe) : PS X st (zS M fe fo co fl z) := PS.imp h fun D σ H ⟨H0, F0, F, ρ, fps, s, q⟩ => by
  obtain ⟨F', fps', s', _⟩ := s.weak w
  exact ⟨H0, F0, F', ρ, fps', s', q⟩
end
end Z
/-! Z, part L: from the text's statements to functions. -/
namespace Z
open PySem PySem.Spec PyProof.Rows L2

/-- the names in an expression -/
def nmE : Nat → Expr → List Str
  | 0, _ => []
  | _ + 1, .Name x _ => [x]
  | n + 1, .List es _ => es.flatMap (nmE n)
  | n + 1, .Tuple es _ _ => es.flatMap (nmE n)
  | n + 1, .BinOp a _ b _ => nmE n a ++ nmE n b
  | n + 1, .UnaryOp _ a _ => nmE n a
  | n + 1, .Compare a _ bs _ => nmE n a ++ bs.flatMap (nmE n)
  | n + 1, .BoolOp _ es _ => es.flatMap (nmE n)
  | n + 1, .IfExp a b c _ => nmE n a ++ nmE n b ++ nmE n c
  | n + 1, .Subscript a b _ => nmE n a ++ nmE n b
  | n + 1, .Call f es _ _ => nmE n f ++ es.flatMap (nmE n)
  | n + 1, .Attribute a _ _ => nmE n a
  | n + 1, .DictComp k e gs _ _ => nmE n k ++ nmE n e ++ gs.flatMap (fun g => match g with | ⟨_, it, ifs, _⟩ => nmE n it ++ ifs.flatMap (nmE n))
  | n + 1, .ListComp e gs _ _ => nmE n e ++ gs.flatMap (fun g => match g with | ⟨_, it, ifs, _⟩ => nmE n it ++ ifs.flatMap (nmE n))
  | _ + 1, _ => []
def freeze (C : CC) (fe : List Fl) (e : Expr) : List Fl := setSh fe ((nmE 40 e).filterMap fun x => ixOf x C.N)
def eFuel : Nat := 60
/-- a shared value; where need be, what it names is given up -/
def cSh (C : CC) (sc : Scope) (fe : List Fl) (e : Expr) : Option (ZE × List Fl) :=
  match cE eFuel C sc fe .s e with
  | some z => some (z, fe)
  | none => (cE eFuel C sc (freeze C fe e) .s e).map fun z => (z, freeze C fe e)
/-- a value all of whose objects are new; where need be, what it names is given up -/
def cDeep (C : CC) (sc : Scope) (fe : List Fl) (e : Expr) : Option (ZE × List Fl) :=
  match cD eFuel C sc fe e with
  | some z => some (z, fe)
  | none => (cD eFuel C sc (freeze C fe e) e).map fun z => (z, freeze C fe e)
/-- an own value, else a shared one -/
def cOwn (C : CC) (sc : Scope) (fe : List Fl) (e : Expr) : Option (ZE × Wt × List Fl) :=
  match cE eFuel C sc fe .w e with
  | some z => some (z, .w, fe)
  | none => match cE eFuel C sc (freeze C fe e) .w e with
    | some z => some (z, .w, freeze C fe e)
    | none => (cSh C sc fe e).map fun p => (p.1, .s, p.2)
def cIter (C : CC) (sc : Scope) (fe : List Fl) (tg e : Expr) : Option (ZI × List Fl) :=
  match cI eFuel C sc fe .s tg e with
  | some z => some (z, fe)
  | none => (cI eFuel C sc (freeze C fe e) .s tg e).map fun z => (z, freeze C fe e)
def wFl : Wt → Fl
  | .w => .own
  | _ => .sh
abbrev OF := Option (List Fl)
abbrev ZR := ZS × OF × OF
/-- a value that may be stored under a name by the plain rule -/
def plainVal : Expr → Bool
  | .ListComp _ _ _ _ => false
  | .SetComp _ _ _ _ => false
  | .DictComp _ _ _ _ _ => false
  | _ => true
/-- a value that may be stored under the name x by the plain rule -/
def noSw (sc : Scope) (x : Str) (px : Pos) : Expr → Bool
  | .ListComp _ _ scope lp => !((sc.names.lookup x == some .local) && (px.line == lp.line) && !(scope.names.any fun (n, k) => n == x && (k == .local || k == .cell)))
  | .DictComp _ _ _ scope lp => !((sc.names.lookup x == some .local) && (px.line == lp.line) && !(scope.names.any fun (n, k) => n == x && (k == .local || k == .cell)))
  | .SetComp _ _ _ _ => false
  | _ => true
/-- a comprehension that is stored as it is built -/
def swapVal (sc : Scope) (x : Str) (px : Pos) : Expr → Bool
  | .ListComp _ [⟨_, _, _, 0⟩] scope lp => (sc.names.lookup x == some .local) && (px.line == lp.line) && !(scope.names.any fun (n, k) => n == x && (k == .local || k == .cell))
  | _ => false
def moveOf (C : CC) (sc : Scope) (fe : List Fl) (i : Nat) (pos : Pos) : Expr → Option Nat
  | .Name y _ => gd (plainName y && visK (sc.names.lookup y)) ((ixOf y C.N).bind fun j => gd ((C.kills pos).contains j && decide (i ≠ j)) (some j))
  | _ => none
def cSet (C : CC) (sc : Scope) (fe : List Fl) (x : Str) (px : Pos) (e : Expr) (pos : Pos) : Option ZR :=
  gd (locK (sc.names.lookup x)) ((ixOf x C.N).bind fun i => gd (decide (i < fe.length)) (
    match moveOf C sc fe i pos e with
    | some j => some (sMove i j, some ((fe.set j .sh).set i (fe.getD j .sh)), none)
    | none => if C.dp pos = true then gd (noSw sc x px e || swapVal sc x px e) ((cDeep C sc fe e).map fun p => (sSet i p.1, some (p.2.set i .deep), none)) else gd (noSw sc x px e || swapVal sc x px e) ((cOwn C sc fe e).map fun p => (sSet i p.1, some (p.2.2.set i (wFl p.2.1)), none))))
def notTuple : Expr → Bool
  | .Tuple _ _ _ => false
  | _ => true
/-- names stored from a tuple that is never made -/
def parB (sc : Scope) (line : Nat) : List Expr → Option (List Str)
  | [] => some []
  | .Name x p :: r => gd ((sc.names.lookup x == some .local) && (p.line == line)) ((parB sc line r).map (x :: ·))
  | _ => none
def cPar (C : CC) (sc : Scope) (fe : List Fl) (ts es : List Expr) : Option ZR :=
  (parB sc ((ts.head?.map (·.pos.line)).getD 0) ts).bind fun xs => gd ((ts.length == 2 || ts.length == 3) && (es.length == ts.length) && decide xs.Nodup && es.all notStar && !(es.all (foldedForSure 8)) && !(es.all (constantsAlone 8)))
    ((mapO (fun x => ixOf x C.N) xs).bind fun is =>
      match mapO (cE eFuel C sc fe .s) es with
      | some zs => some (sPar is zs, some (setSh fe is), none)
      | none => let f2 := es.foldl (freeze C) fe; (mapO (cE eFuel C sc f2 .s) es).map fun zs => (sPar is zs, some (setSh f2 is), none))
def cTup (C : CC) (sc : Scope) (fe : List Fl) (ts : List Expr) (k : Nat) (pt : Pos) : Expr → Option ZR
  | .Tuple es _ _ => cPar C sc fe ts es
  | e => gd (plainVal e) ((cG 9 C sc (.Tuple ts k pt)).bind fun g => (cSh C sc fe e).map fun p => (sUnp g.1 p.1, some (setSh p.2 g.2), none))
def augOp : Operator → Bool
  | .Add => true
  | .Sub => true
  | .Mult => true
  | _ => false
def cAug (C : CC) (sc : Scope) (fe : List Fl) (x : Str) (op : Operator) (e : Expr) : Option ZR :=
  gd (locK (sc.names.lookup x) && augOp op) ((ixOf x C.N).bind fun i => (cE eFuel C sc [] .s e).map fun z => (sAug op i z, some (fe.set i .sh), none))
def cMut (C : CC) (sc : Scope) (fe : List Fl) (x m : Str) (al cl : Nat) (e : Expr) : Option ZR :=
  gd (plainName x && visK (sc.names.lookup x) && (al == cl) && notStar e) ((ixOf x C.N).bind fun i =>
    if (decide (m = "append") && (fe.getD i .sh == .deep)) = true then (cDeep C sc fe e).bind fun p => gd (p.2.getD i .sh == .deep) (some (sApp i p.1, some p.2, none))
    else if m = "append" then (cSh C sc fe e).bind fun p => gd (p.2.getD i .sh == .own) (some (sApp i p.1, some p.2, none))
    else if m = "extend" then gd (fe.getD i .sh == .own) ((cE eFuel C sc fe .c e).map fun z => (sExt i z, some fe, none))
    else none)
def ownName (C : CC) (sc : Scope) (fe : List Fl) : Expr → Option Nat
  | .Name y _ => gd (plainName y && visK (sc.names.lookup y)) ((ixOf y C.N).bind fun j => gd (fe.getD j .sh == .own) (some j))
  | _ => none
def deepName (C : CC) (sc : Scope) (fe : List Fl) : Expr → Option Nat
  | .Name y _ => gd (plainName y && visK (sc.names.lookup y)) ((ixOf y C.N).bind fun j => gd (fe.getD j .sh == .deep) (some j))
  | _ => none
def cRet (C : CC) (sc : Scope) (fl : Fl) (fe : List Fl) (e : Expr) : Option ZS :=
  match fl with
  | .sh => (cSh C sc fe e).map fun p => sRet p.1
  | .own => match ownName C sc fe e with
    | some j => some (sRet (eVar j))
    | none => (cE eFuel C sc fe .w e).map sRet
  | .deep => match deepName C sc fe e with
    | some j => some (sRet (eVar j))
    | none => (cD eFuel C sc fe e).map sRet
  | .me => none
/-- y.pop(e) -/
def popOf : Expr → Option (Str × Expr)
  | .Call (.Attribute (.Name y _) m ap) [e] [] cp => gd (decide (m = "pop") && (ap.endLine == cp.line) && notStar e) (some (y, e))
  | _ => none
def cAppPop (C : CC) (sc : Scope) (fe : List Fl) (x m : Str) (al cl : Nat) (y : Str) (e : Expr) : Option ZR :=
  gd (plainName x && visK (sc.names.lookup x) && (al == cl) && plainName y && visK (sc.names.lookup y) && decide (m = "append")) ((ixOf x C.N).bind fun i => (ixOf y C.N).bind fun j =>
    gd (decide (i ≠ j) && (fe.getD i .sh == .own) && (fe.getD j .sh == .own)) ((cE eFuel C sc fe .s e).map fun z => (sAppPop i j z, some fe, none)))
/-- the way to a value within a slot's new objects -/
def cWay : Nat → CC → Scope → List Fl → Expr → Option (ZE × Nat)
  | 0, _, _, _, _ => none
  | _ + 1, C, sc, fe, .Name y _ => gd (plainName y && visK (sc.names.lookup y)) ((ixOf y C.N).bind fun j => gd (fe.getD j .sh == .deep) (some (eVar j, j)))
  | n + 1, C, sc, fe, .Subscript a i _ => gd (notSlice i) ((cWay n C sc fe a).bind fun p => (cE eFuel C sc [] .s i).map fun z => (eIx p.1 z, p.2))
  | _ + 1, _, _, _, _ => none
def wayBase : Expr → Bool
  | .Name _ _ => true
  | .Subscript _ _ _ => true
  | _ => false
def cSpoil (C : CC) (sc : Scope) (fe : List Fl) (r : Expr) (m : Str) (al cl : Nat) (e : Expr) : Option ZR :=
  gd ((al == cl) && notStar e && decide (m = "append") && wayBase r) ((cWay 9 C sc fe r).bind fun p => (cE eFuel C sc [] .s e).map fun z => (sSpoil p.2 p.1 z, some fe, none))
/-- x[k] = e -/
def cPut (C : CC) (sc : Scope) (fe : List Fl) (x : Str) (k e : Expr) : Option ZR :=
  gd (plainName x && visK (sc.names.lookup x) && notSlice k) ((ixOf x C.N).bind fun i => (cSh C sc fe e).bind fun p => gd (p.2.getD i .sh == .own) ((cE eFuel C sc p.2 .s k).map fun kz => (sPut i kz p.1, some p.2, none)))
/-- self.f = e -/
def cFld (C : CC) (sc : Scope) (fe : List Fl) (x f : Str) (e : Expr) : Option ZR :=
  gd (plainName x && visK (sc.names.lookup x) && C.fld f) ((ixOf x C.N).bind fun i => (cSh C sc fe e).bind fun p => gd (p.2.getD i .sh == .me) (some (sFld i f p.1, some p.2, none)))
def isCall : Expr → Bool
  | .Call _ _ _ _ => true
  | _ => false
/-- an expression as a statement -/
def cEx (C : CC) (sc : Scope) (fe : List Fl) (e : Expr) : Option ZR := gd (isCall e) ((cSh C sc fe e).map fun p => (sExpr p.1, some p.2, none))
/-- a statement without statements within -/
def cA (C : CC) (sc : Scope) (fl : Fl) (fe : List Fl) : Stmt → Option ZR
  | .Pass _ => some (sNil, some fe, none)
  | .Continue _ => some (sCont, none, some fe)
  | .Raise _ _ _ => some (sNever, none, none)
  | .Return none _ => gd (fl != .me) (some (sRetN, none, none))
  | .Return (some e) _ => (cRet C sc fl fe e).map fun z => (z, none, none)
  | .Assign [.Name x px] e pos => cSet C sc fe x px e pos
  | .Assign [.Tuple ts k pt] e _ => cTup C sc fe ts k pt e
  | .AugAssign (.Name x _) op e _ => cAug C sc fe x op e
  | .Assign [.Subscript (.Name x _) k _] e _ => cPut C sc fe x k e
  | .Assign [.Attribute (.Name x _) f _] e _ => cFld C sc fe x f e
  | .Expr (.Call (.Attribute (.Name x px) m ap) [e] [] cp) _ => if C.mt m = true then cEx C sc fe (.Call (.Attribute (.Name x px) m ap) [e] [] cp) else match popOf e with
    | some q => cAppPop C sc fe x m ap.endLine cp.line q.1 q.2
    | none => cMut C sc fe x m ap.endLine cp.line e
  | .Expr (.Call (.Attribute r m ap) [e] [] cp) _ => cSpoil C sc fe r m ap.endLine cp.line e
  | .Expr e _ => cEx C sc fe e
  | _ => none
def wkB (a b : List Fl) : Bool := (List.range a.length).all fun i => (a.getD i .sh == b.getD i .sh) || (a.getD i .sh == .sh)
def owkB (a : List Fl) : OF → Bool
  | none => true
  | some b => wkB a b
def meetO (a : List Fl) : OF → List Fl
  | none => a
  | some b => meet a b
/-- flags that a loop's body keeps -/
def fixL (f : List Fl → Option ZR) : Nat → List Fl → Option (List Fl × ZS)
  | 0, _ => none
  | k + 1, c => match f c with
    | none => none
    | some (z, fo, co) => if (owkB c fo && owkB c co) = true then some (c, z) else fixL f k (meetO (meetO c fo) co)
mutual
def cS : Nat → CC → Scope → Fl → List Fl → Stmt → Option ZR
  | 0, _, _, _, _, _ => none
  | n + 1, C, sc, fl, fe, .If c a b _ => (cT eFuel C sc c).bind fun t => (cSs n C sc fl fe a).bind fun p => (cSs n C sc fl fe b).map fun q => (sIf t p.1 q.1, joinO p.2.1 q.2.1, joinO p.2.2 q.2.2)
  | n + 1, C, sc, fl, fe, .For tg it body [] pos => gd (notSet it) ((cIter C sc fe tg it).bind fun p => (cG 9 C sc tg).bind fun g =>
      (fixL (fun c => cSs n C sc fl (setSh c g.2) body) 4 p.2).map fun q => (sFor (C.kills pos) g.1 p.1 q.2, some q.1, none))
  | n + 1, C, sc, fl, fe, .While c body [] pos => (cT eFuel C sc c).bind fun t =>
      (fixL (fun c => cSs n C sc fl c body) 4 fe).map fun q => (sWhile (C.kills pos) t q.2, some q.1, none)
  | _ + 1, C, sc, fl, fe, st => cA C sc fl fe st
def cSs : Nat → CC → Scope → Fl → List Fl → List Stmt → Option ZR
  | 0, _, _, _, _, _ => none
  | _ + 1, _, _, _, fe, [] => some (sNil, some fe, none)
  | n + 1, C, sc, fl, fe, st :: r => (cS n C sc fl fe st).bind fun p => match p.2.1 with
    | none => some (p.1, none, p.2.2)
    | some f2 => match r with
      | [] => some p
      | _ :: _ => (cSs n C sc fl f2 r).map fun q => (sSeq p.1 q.1, q.2.1, joinO p.2.2 q.2.2)
end
end Z
/-! Z, part M: statements are worth what they compile to: the single ones. -/
namespace Z
open PySem PySem.Spec PyProof.Rows L2

structure SOk (C : CC) (M : Mx) (X : Cx) (sc : Scope) : Prop extends XOk C M X sc where
  hp : PassesOwn (model X.prog X.w) X.A X.env X.xe
  fnT : ∀ x, X.fn x = true
  kind : X.env.scope.kind = .function

section
variable {C : CC} {M : Mx} {X : Cx} {sc : Scope} {fe fe2 : List Fl} {w : Wt} {fl : Fl} {e : Expr} {z : ZE}
theorem setSh_len (is : List Nat) : ∀ fe : List Fl, (setSh fe is).length = fe.length := by
  induction is with
  | nil => intro fe; rfl
  | cons a is ih => intro fe; exact (ih _).trans (List.length_set ..)
theorem sh_sound (o : XOk C M X sc) {p : ZE × List Fl} (h : cSh C sc fe e = some p) : PE X e (zT M p.2 .s p.1) ∧ Wk p.2 fe ∧ p.2.length = fe.length := by
  unfold cSh at h
  split at h
  · rename_i z hz
    cases h
    exact ⟨(sound C M _).1 X sc fe .s e z o hz, .refl _, rfl⟩
  · obtain ⟨z, h1, h2⟩ := Option.map_eq_some_iff.mp h
    subst h2
    exact ⟨(sound C M _).1 X sc _ .s e z o h1, wk_setSh _ _, setSh_len _ _⟩
theorem own_sound (o : XOk C M X sc) {p : ZE × Wt × List Fl} (h : cOwn C sc fe e = some p) : cE eFuel C sc p.2.2 p.2.1 e = some p.1 ∧ (p.2.1 = .w ∨ p.2.1 = .s) ∧ Wk p.2.2 fe ∧ p.2.2.length = fe.length := by
  unfold cOwn at h
  split at h
  · rename_i z hz
    cases h
    exact ⟨hz, .inl rfl, .refl _, rfl⟩
  split at h
  · rename_i z hz
    cases h
    exact ⟨hz, .inl rfl, wk_setSh _ _, setSh_len _ _⟩
  · obtain ⟨q, h1, h2⟩ := Option.map_eq_some_iff.mp h
    subst h2
    unfold cSh at h1
    split at h1
    · rename_i z hz
      cases h1
      exact ⟨hz, .inr rfl, .refl _, rfl⟩
    · obtain ⟨z, h3, h4⟩ := Option.map_eq_some_iff.mp h1
      subst h4
      exact ⟨h3, .inr rfl, wk_setSh _ _, setSh_len _ _⟩
theorem deep_sound (o : XOk C M X sc) {p : ZE × List Fl} (h : cDeep C sc fe e = some p) : cD eFuel C sc p.2 e = some p.1 ∧ Wk p.2 fe ∧ p.2.length = fe.length := by
  unfold cDeep at h
  split at h
  · rename_i z hz
    cases h
    exact ⟨hz, .refl _, rfl⟩
  · obtain ⟨z, h1, h2⟩ := Option.map_eq_some_iff.mp h
    subst h2
    exact ⟨h1, wk_setSh _ _, setSh_len _ _⟩
theorem iter_sound (o : XOk C M X sc) {tg : Expr} {p : ZI × List Fl} (h : cIter C sc fe tg e = some p) : PI X tg e (zI M p.2 .s p.1) ∧ Wk p.2 fe ∧ p.2.length = fe.length := by
  unfold cIter at h
  split at h
  · rename_i z hz
    cases h
    exact ⟨(sound C M _).2.1 X sc fe .s tg e z o hz, .refl _, rfl⟩
  · obtain ⟨z, h1, h2⟩ := Option.map_eq_some_iff.mp h
    subst h2
    exact ⟨(sound C M _).2.1 X sc _ .s tg e z o h1, wk_setSh _ _, setSh_len _ _⟩
theorem loc_of (o : XOk C M X sc) {x : Str} (h : locK (sc.names.lookup x) = true) : Loc X.env.scope x := by
  rw [o.sc]
  unfold locK at h
  split at h
  · rename_i q; exact .inl q
  · rename_i q; exact .inr q
  · exact Bool.noConfusion h
theorem vis_of (o : XOk C M X sc) {x : Str} (hv : visK (sc.names.lookup x) = true) : Vis X.env.scope x := by
  rw [o.sc]
  unfold Vis
  unfold visK at hv
  split at hv <;> first | (exact Bool.noConfusion hv) | (simp_all)
theorem nodup_of (o : XOk C M X sc) : X.N.Nodup := by rw [o.n]; exact o.nd
theorem at_of (o : XOk C M X sc) {x : Str} {i : Nat} (h : ixOf x C.N = some i) : X.N[i]? = some x := by rw [o.n]; exact ixOf_get h
/-- what a comprehension is made of -/
theorem comp_parts {n : Nat} {elt tg iter : Expr} {ifs : List Expr} {scope : Scope} {pos : Pos} (o : XOk C M X sc) (h : cE (n + 1) C sc fe w (.ListComp elt [⟨tg, iter, ifs, 0⟩] scope pos) = some z) :
    ∃ (own : List (Str × Nat)) (it : ZI) (g : ZG) (ss : List Nat) (cs : List ZE) (ez : ZE), z = eComp (own.map (·.2)) g it cs ez ∧ w ≠ .d ∧ PI X tg iter (zI M fe .c it) ∧ BlkOk X.N X.env.scope scope own ∧ (∀ i ∈ ss, i ∈ own.map (·.2)) ∧
    (∀ (s : Shared) (H : Hp) (C : Addr) (cl : List (Str × Addr)) (fp : List Addr), PG (X.blk s H scope (compEnvC scope cl C X.env) fp) tg (zG M (setSh fe (own.map (·.2))) g ss)) ∧
    (∀ (s : Shared) (H : Hp) (C : Addr) (cl : List (Str × Addr)) (fp : List Addr), PTs (X.blk s H scope (compEnvC scope cl C X.env) fp) ifs (zTs M cs)) ∧
    (∀ (s : Shared) (H : Hp) (C : Addr) (cl : List (Str × Addr)) (fp : List Addr), PE (X.blk s H scope (compEnvC scope cl C X.env) fp) elt (zT M (setSh (setSh fe (own.map (·.2))) ss) .s ez)) ∧ (∀ x, foldedSetIterable iter X.env x = pure x) := by
  obtain ⟨iE, iI, iT⟩ := sound C M n
  obtain ⟨h1, h⟩ := gd_some h
  obtain ⟨own, h2, h⟩ := Option.bind_eq_some_iff.mp h
  obtain ⟨h3, h⟩ := gd_some h
  obtain ⟨g, h4, h⟩ := Option.bind_eq_some_iff.mp h
  obtain ⟨h5, h⟩ := gd_some h
  obtain ⟨it, h6, h⟩ := Option.bind_eq_some_iff.mp h
  obtain ⟨cs, h7, h⟩ := Option.bind_eq_some_iff.mp h
  obtain ⟨ez, h8, h9⟩ := Option.map_eq_some_iff.mp h
  simp only [Bool.and_eq_true, decide_eq_true_eq] at h1 h3
  have ok : BlkOk X.N X.env.scope scope own := by
    rw [o.n, o.sc]
    exact blkOk_by h3.1
  exact ⟨own, it, g.1, g.2, cs, ez, h9.symm, want_nd h1.1.1, iI X sc fe .c tg iter it o h6, ok, (fun i hi => by simpa using List.all_eq_true.mp h5 i hi),
    (fun s H Cc cl fp => z_tgt (o.blk s H scope cl Cc fp).n (o.blk s H scope cl Cc fp).nd (o.blk s H scope cl Cc fp).k (o.blk s H scope cl Cc fp).calm (LocOk.blk s H scope cl Cc fp) 9 tg g _ h4),
    (fun s H Cc cl fp => z_tests h1.2 (fun e z h => iT _ _ e z (o.blk s H scope cl Cc fp) h) h7),
    (fun s H Cc cl fp => iE _ _ _ .s elt ez (o.blk s H scope cl Cc fp) h8), notSet_folded h1.1.2⟩
theorem set_read {i : Nat} (hw : w = .w ∨ w = .s) (hi : i < fe.length) (D : Ends) (σ : L2.St) (H : Hp) (h : zS M fe (some (fe.set i (wFl w))) none fl (sSet i z) D σ H) : zT M fe w z σ H (fun x H1 => gName i x σ H1 D.nx) := by
  obtain ⟨H0, F0, F, ρ, fps, s, q⟩ := h
  unfold sSet at q
  cases hz : z ρ with
  | no => rw [hz] at q; exact q.elim
  | ex c d => rw [hz] at q; exact q.elim
  | ok d =>
    rw [hz] at q
    refine ⟨H0, F0, F, ρ, fps, d, s, hz, fun v H' F' g r => ?_⟩
    rcases hw with rfl | rfl
    · obtain ⟨fp, x, fr⟩ := r
      obtain ⟨fps', s'⟩ := s.putO g hi x fr
      exact q _ rfl _ _ F' fps' s'
    · exact q _ rfl _ _ F' _ ((s.grow g).put r)
theorem set_readD {i : Nat} (hi : i < fe.length) (D : Ends) (σ : L2.St) (H : Hp) (h : zS M fe (some (fe.set i .deep)) none fl (sSet i z) D σ H) : zT M fe .d z σ H (fun x H1 => gName i x σ H1 D.nx) := by
  obtain ⟨H0, F0, F, ρ, fps, s, q⟩ := h
  unfold sSet at q
  cases hz : z ρ with
  | no => rw [hz] at q; exact q.elim
  | ex c d => rw [hz] at q; exact q.elim
  | ok d =>
    rw [hz] at q
    refine zT_goD s hz fun v H' F' fp g _ r fr => ?_
    obtain ⟨fps', s'⟩ := s.putD g hi r fr
    exact q _ rfl _ _ F' fps' s'
theorem look_ok {ρ : Env} {j : Nat} {d : D} (h : look ρ j = .ok d) : ρ[j]? = some (some d) := by
  unfold look at h
  split at h
  · rename_i q; cases h; exact q
  · cases h
theorem move_read {i j : Nat} (hij : i ≠ j) (hi : i < fe.length) (D : Ends) (σ : L2.St) (H : Hp) (h : zS M fe (some ((fe.set j .sh).set i (fe.getD j .sh))) none fl (sMove i j) D σ H) : ∃ v, σ[j]? = some (some v) ∧ D.nx (σ.set i (some v)) H := by
  obtain ⟨H0, F0, F, ρ, fps, s, q⟩ := h
  unfold sMove at q
  cases hz : look ρ j with
  | no => rw [hz] at q; exact q.elim
  | ex c d => rw [hz] at q; exact q.elim
  | ok d =>
    rw [hz] at q
    have hz := look_ok hz
    obtain ⟨v, hv, hx⟩ := s.slot j d hz
    obtain ⟨fps', s'⟩ := s.move hij hi hz hv
    exact ⟨v, hv, q _ rfl _ _ F fps' s'⟩
theorem noSw_ok {x : Str} {px : Pos} {e : Expr} {env : PySem.Env} {l : Nat} (hk : env.scope.kind = .function) (h : noSw env.scope x px e = true) : swapsWith e (some (.Name x px)) l env = pure false := by
  have hb : env.blockKind = .function := by unfold PySem.Env.blockKind; rw [hk]; rfl
  have go : ∀ (s : Scope) (p : Pos), (!((env.scope.names.lookup x == some .local) && (px.line == p.line) && !(s.names.any fun (n, k) => n == x && (k == .local || k == .cell)))) = true →
      (pure (env.blockKind == .function && env.kindOf x == some .local && px.line == p.line && !(s.names.any fun (n, k) => n == x && (k == .local || k == .cell))) : Sem Bool) = pure false := by
    intro s p hh
    have ky : env.kindOf x = env.scope.names.lookup x := rfl
    rw [hb, ky]
    congr 1
    cases q1 : (env.scope.names.lookup x == some .local) <;> cases q2 : (px.line == p.line) <;> cases q3 : (s.names.any fun (n, k) => n == x && (k == .local || k == .cell)) <;> simp_all
  cases e <;> first | rfl | (exact go _ _ h) | (exact Bool.noConfusion h)
theorem set_sound (o : SOk C M X sc) {x : Str} {px pos : Pos} {r : ZR} (h : cSet C sc fe x px e pos = some r) : PS X (.Assign [.Name x px] e pos) (zS M fe r.2.1 r.2.2 fl r.1) := by
  obtain ⟨hl, h⟩ := gd_some h
  obtain ⟨i, hi, h⟩ := Option.bind_eq_some_iff.mp h
  obtain ⟨hil, h⟩ := gd_some h
  have hil := of_decide_eq_true hil
  have lc := loc_of o.toXOk hl
  have ia := at_of o.toXOk hi
  split at h
  · rename_i j hm
    cases h
    unfold moveOf at hm
    split at hm
    · rename_i y q
      obtain ⟨h1, hm⟩ := gd_some hm
      obtain ⟨j', hj, hm⟩ := Option.bind_eq_some_iff.mp hm
      obtain ⟨h2, hm⟩ := gd_some hm
      cases hm
      rw [Bool.and_eq_true] at h1
      simp only [Bool.and_eq_true, decide_eq_true_eq] at h2
      obtain ⟨p1, p2⟩ := plain_parts h1.1
      refine PS.imp (ps_set (i := i) (nodup_of o.toXOk) ia lc (pe_var (i := j) (at_of o.toXOk hj) (vis_of o.toXOk h1.2) p1 (by
        have := h1.1
        unfold plainName at this
        simp only [Bool.and_eq_true, Bool.not_eq_true'] at this
        exact this.1.2)) rfl (.inl (o.fnT x))) fun D σ H z => move_read h2.2 hil D σ H z
    · cases hm
  · split at h
    · obtain ⟨hp, h⟩ := gd_some h
      obtain ⟨p, h1, h2⟩ := Option.map_eq_some_iff.mp h
      subst h2
      obtain ⟨h1, q3, q4⟩ := deep_sound o.toXOk h1
      have il : i < p.2.length := by rw [q4]; exact hil
      refine zS.pre ?_ q3
      rw [Bool.or_eq_true] at hp
      rcases hp with hp | hp
      · have pe := soundD C M _ X sc _ e _ o.toXOk h1
        exact PS.imp (ps_set (i := i) (nodup_of o.toXOk) ia lc pe (noSw_ok o.kind (by rw [o.sc]; exact hp)) (.inl (o.fnT x))) fun D σ H z => set_readD il D σ H z
      · unfold swapVal at hp
        split at hp
        · simp only [Bool.and_eq_true, beq_iff_eq, Bool.not_eq_true'] at hp
          obtain ⟨own, it, g, ss, cs, ez, e0, a1, a2, a3, a4, a5, a6, a7⟩ := comp_partsD (n := 59) (soundD C M 59) o.toXOk h1
          have nm : X.env.scope.names.lookup x = some .local := by rw [o.sc]; exact hp.1.1
          refine PS.imp (ps_setLc o.calm (nodup_of o.toXOk) ia nm (sw_true o.kind nm (by simpa using hp.1.2) hp.2) a1 a2 a4 a5 a6 a7) fun D σ H z => ?_
          have z := set_readD il D σ H z
          rw [e0] at z
          exact comp_readD a3 _ _ _ z
        · exact Bool.noConfusion hp
    obtain ⟨hp, h⟩ := gd_some h
    obtain ⟨p, h1, h2⟩ := Option.map_eq_some_iff.mp h
    subst h2
    obtain ⟨q1, q2, q3, q4⟩ := own_sound o.toXOk h1
    have il : i < p.2.2.length := by rw [q4]; exact hil
    refine zS.pre ?_ q3
    rw [Bool.or_eq_true] at hp
    rcases hp with hp | hp
    · have pe := (sound C M _).1 X sc _ _ e _ o.toXOk q1
      exact PS.imp (ps_set (i := i) (nodup_of o.toXOk) ia lc pe (noSw_ok o.kind (by rw [o.sc]; exact hp)) (.inl (o.fnT x))) fun D σ H z => set_read q2 il D σ H z
    · unfold swapVal at hp
      split at hp
      · simp only [Bool.and_eq_true, beq_iff_eq, Bool.not_eq_true'] at hp
        obtain ⟨own, it, g, ss, cs, ez, e0, hw, a1, a2, a3, a4, a5, a6, a7⟩ := comp_parts (n := 59) o.toXOk q1
        have nm : X.env.scope.names.lookup x = some .local := by rw [o.sc]; exact hp.1.1
        refine PS.imp (ps_setLc o.calm (nodup_of o.toXOk) ia nm (sw_true o.kind nm (by simpa using hp.1.2) hp.2) a1 a2 a4 a5 a6 a7) fun D σ H z => ?_
        have z := set_read q2 il D σ H z
        rw [e0] at z
        exact comp_read hw a3 _ _ _ z
      · exact Bool.noConfusion hp
end
end Z
/-! Z, part N: the other single statements. -/
namespace Z
open PySem PySem.Spec PyProof.Rows L2

section
variable {C : CC} {M : Mx} {X : Cx} {sc : Scope} {fe fe2 : List Fl} {w : Wt} {fl : Fl} {e : Expr} {z : ZE}
theorem locOk (o : SOk C M X sc) : LocOk sc X := fun x h => ⟨loc_of o.toXOk h, .inl (o.fnT x)⟩
theorem unp_read {g : ZG} {ss : List Nat} (D : Ends) (σ : L2.St) (H : Hp) (h : zS M fe (some (setSh fe ss)) none fl (sUnp g z) D σ H) : tAsg (zT M fe .s z) (zG M fe g ss) D σ H := by
  obtain ⟨H0, F0, F, ρ, fps, s, q⟩ := h
  unfold sUnp at q
  cases hz : z ρ with
  | no => rw [hz] at q; exact q.elim
  | ex c d => rw [hz] at q; exact q.elim
  | ok d =>
    rw [hz] at q
    rw [ofR_ok] at q
    cases hg : g d ρ with
    | no => rw [hg] at q; exact q.elim
    | ex c d => rw [hg] at q; exact q.elim
    | ok ρ' =>
      rw [hg] at q
      refine zT_go s hz fun v H1 F1 g1 s1 r1 => ⟨H0, F0, F1, ρ, fps, d, ρ', s1, r1, hg, fun σ' fps' s' _ => q _ rfl _ _ F1 fps' s'⟩
theorem par_read2 {i j : Nat} {zs : List ZE} (D : Ends) (σ : L2.St) (H : Hp) (hz : zs.length = 2) (h : zS M fe (some (setSh fe [i, j])) none fl (sPar [i, j] zs) D σ H) : tPar i j (zAw M fe .s zs) D σ H := by
  obtain ⟨H0, F0, F, ρ, fps, s, q⟩ := h
  unfold sPar at q
  cases he : eArgs zs ρ with
  | no => rw [he] at q; exact q.elim
  | ex c d => rw [he] at q; exact q.elim
  | ok ds =>
    rw [he] at q
    refine ⟨H0, F0, F, ρ, fps, ds, s, he, fun vs H1 F1 g1 r1 => ?_⟩
    have hl := eArgs_len he
    rw [hz] at hl
    match ds, hl, vs, r1 with
    | [d1, d2], _, _, .cons a (.cons b .nil) => exact ⟨_, _, rfl, q _ rfl _ _ F1 _ (((s.grow g1).put a).put b)⟩
theorem par_read3 {i j l : Nat} {zs : List ZE} (D : Ends) (σ : L2.St) (H : Hp) (hz : zs.length = 3) (h : zS M fe (some (setSh fe [i, j, l])) none fl (sPar [i, j, l] zs) D σ H) : tPar3 i j l (zAw M fe .s zs) D σ H := by
  obtain ⟨H0, F0, F, ρ, fps, s, q⟩ := h
  unfold sPar at q
  cases he : eArgs zs ρ with
  | no => rw [he] at q; exact q.elim
  | ex c d => rw [he] at q; exact q.elim
  | ok ds =>
    rw [he] at q
    refine ⟨H0, F0, F, ρ, fps, ds, s, he, fun vs H1 F1 g1 r1 => ?_⟩
    have hl := eArgs_len he
    rw [hz] at hl
    match ds, hl, vs, r1 with
    | [d1, d2, d3], _, _, .cons a (.cons b (.cons c .nil)) => exact ⟨_, _, _, rfl, q _ rfl _ _ F1 _ ((((s.grow g1).put a).put b).put c)⟩
theorem star_none : ∀ {es : List Expr}, es.all notStar = true → (es.any fun | .Starred .. => true | _ => false) = false
  | [], _ => rfl
  | e :: es, h => by
    rw [List.all_cons, Bool.and_eq_true] at h
    rw [List.any_cons, star_none h.2, Bool.or_false]
    cases e <;> first | rfl | (exact Bool.noConfusion h.1)
theorem parB_names {line : Nat} {env : PySem.Env} (he : env.scope = sc) : ∀ {ts : List Expr} {xs : List Str}, parB sc line ts = some xs →
    (ts.filterMap fun | .Name id pos => if env.kindOf id == some .local && pos.line == line then some id else none | _ => none) = xs ∧ xs.length = ts.length ∧ (∀ x ∈ xs, sc.names.lookup x = some .local) ∧ ∃ ps : List Pos, ts = List.zipWith (fun x p => Expr.Name x p) xs ps ∧ ps.length = xs.length
  | [], xs, h => by cases h; exact ⟨rfl, rfl, fun _ h => (List.not_mem_nil h).elim, [], rfl, rfl⟩
  | t :: ts, xs, h => by
    cases t with
    | Name x p =>
      obtain ⟨h1, h⟩ := gd_some h
      obtain ⟨xr, h2, h3⟩ := Option.map_eq_some_iff.mp h
      subst h3
      obtain ⟨i1, i2, i3, ps, i4, i5⟩ := parB_names he h2
      simp only [Bool.and_eq_true, beq_iff_eq] at h1
      have hk : env.kindOf x = some .local := by
        show env.scope.names.lookup x = _
        rw [he]; exact h1.1
      refine ⟨?_, by rw [List.length_cons, List.length_cons, i2], fun y hy => ?_, p :: ps, by rw [i4]; rfl, by rw [List.length_cons, List.length_cons, i5]⟩
      · rw [List.filterMap_cons]
        dsimp only
        rw [hk, if_pos (by simp [h1.2])]
        dsimp only
        rw [i1]
      · rcases List.mem_cons.mp hy with hy | hy
        · rw [hy]; exact h1.1
        · exact i3 y hy
    | _ => cases h
theorem dedup_len : ∀ {xs : List Str}, xs.Nodup → xs.eraseDups = xs
  | [], _ => rfl
  | x :: xs, h => by
    obtain ⟨h1, h2⟩ := List.nodup_cons.mp h
    rw [List.eraseDups_cons]
    have e : xs.filter (fun b => !b == x) = xs := List.filter_eq_self.mpr fun a ha => by
      have : a ≠ x := fun z => h1 (by rw [← z]; exact ha)
      simpa using this
    rw [e, dedup_len h2]
theorem swapped_of {ts es : List Expr} {k k2 : Nat} {pt pt2 : Pos} {env : PySem.Env} {xs : List Str} (hk : env.scope.kind = .function) (he : env.scope = sc) (hp : parB sc ((ts.head?.map (·.pos.line)).getD 0) ts = some xs)
    (hl : (ts.length == 2 || ts.length == 3) = true) (h2 : (es.length == ts.length) = true) (hn : xs.Nodup) (hs : es.all notStar = true) (hf : es.all (foldedForSure 8) = false) (hc : es.all (constantsAlone 8) = false) :
    swappedStores [.Tuple ts k pt] (.Tuple es k2 pt2) env = pure (some xs) := by
  obtain ⟨a, b, _, _⟩ := parB_names (env := env) he hp
  have hb : env.blockKind = .function := by unfold Env.blockKind; rw [hk]; rfl
  have h2 : es.length = ts.length := by simpa using h2
  unfold swappedStores
  dsimp only
  rw [hb, hl]
  have e1 : (!true || es.length != ts.length || ScopeKind.function != ScopeKind.function) = false := by rw [h2]; simp
  have e2 : (xs.length != ts.length || xs.eraseDups.length != xs.length) = false := by rw [dedup_len hn, b]; simp
  refine (if_neg (fun z => Bool.noConfusion (e1.symm.trans z))).trans ?_
  refine (if_neg (fun z => Bool.noConfusion ((star_none hs).symm.trans z))).trans ?_
  have go : ∀ ys : List Str, ys = xs → (if (ys.length != ts.length || ys.eraseDups.length != ys.length) = true then pure none else if es.all (foldedForSure 8) = true then pure none else if es.all (constantsAlone 8) = true then (do let _ ← (unsupported "assign.tuple-of-constant-expressions:order-of-the-stores" : Sem PUnit); pure (some ys)) else pure (some ys) : Sem (Option (List Str))) = pure (some xs) := fun ys hy => by
    subst hy
    rw [e2, hf, hc]
    rfl
  exact go _ a
end
end Z
/-! Z, part NA: stores into dicts, lists, new objects; expressions as statements. -/
namespace Z
open PySem PySem.Spec PyProof.Rows L2

section
variable {C : CC} {M : Mx} {X : Cx} {sc : Scope} {fe fe2 : List Fl} {w : Wt} {fl : Fl} {e : Expr} {z : ZE}
theorem outOk_ok {α : Type} {H0 F0 : Hp} {fo co : OF} {D : Ends} {r : R α} {f : α → Out} (h : outOk M H0 F0 fo co fl D (ofR r f)) : ∃ a, r = .ok a ∧ outOk M H0 F0 fo co fl D (f a) := by
  cases r with
  | ok a => exact ⟨a, rfl, h⟩
  | ex c d => exact h.elim
  | no => exact h.elim
/-- an own object is written -/
theorem St.wrA {H0 F0 H F : Hp} {σ : L2.St} {ρ : Env} {fps : Nat → List Addr} {i : Nat} {a : Addr} {ob : HO} {d : D} (s : St M H0 F0 σ H F fe ρ fps) (hl : i < ρ.length) (h1 : σ[i]? = some (some (.ref a))) (hfp : fps i = [a]) (x : Val M (upd H a ob) F (fe.getD i .sh) d (.ref a) [a]) :
    St M H0 F0 σ (upd H a ob) F fe (ρ.set i (some d)) fps := by
  have ha := s.out i a (by rw [hfp]; simp)
  refine ⟨fun b o e => ?_, s.f0, fun b o e => ?_, s.new, by rw [List.length_set]; exact s.len, fun j e h => ?_, fun j b hb => ?_, s.dis⟩
  · rw [upd_ne (ne_of_none e ha.2.1)]; exact s.h0 b o e
  · rw [upd_ne (ne_of_none e ha.1)]; exact s.fh b o e
  · by_cases hj : j = i
    · subst hj
      rw [List.getElem?_set_self hl] at h
      cases h
      refine ⟨_, h1, ?_⟩
      rw [hfp]
      exact x
    · rw [List.getElem?_set_ne (Ne.symm hj)] at h
      obtain ⟨u, q1, q2⟩ := s.slot j e h
      exact ⟨u, q1, q2.upd fun hb => hj (s.dis j i a hb (by rw [hfp]; simp))⟩
  · obtain ⟨q1, q2, q3⟩ := s.out j b hb
    refine ⟨q1, q2, ?_⟩
    by_cases hb : b = a
    · rw [hb, upd_same]; simp
    · rw [upd_ne hb]; exact q3
def rSetDic : TSet := fun o i v H Q => ∃ a H', o = .ref a ∧ DPut H a i v H' ∧ Q H'
theorem set_dic (hu : X.A.units + 1 < cLine) : PSet X rSetDic := by
  intro pins s σ H o i v ov iv u Q I ro ri rv h
  obtain ⟨a, H', rfl, g, q⟩ := h
  obtain rfl : ov = Value.ref a := ro
  exact d_setItem hu I g ri rv fun s' I' => ⟨H', I', q⟩
def rSetZ : TSet := fun o i v H Q => rSetL o i v H Q ∨ rSetDic o i v H Q
theorem set_z (hu : X.A.units + 1 < cLine) : PSet X rSetZ := by
  intro pins s σ H o i v ov iv u Q I ro ri rv h
  rcases h with h | h
  · exact set_list pins s σ H o i v ov iv u Q I ro ri rv h
  · exact set_dic hu pins s σ H o i v ov iv u Q I ro ri rv h
theorem put_read {i : Nat} {kz : ZE} (hf : fe.getD i .sh = .own) (D : Ends) (σ : L2.St) (H : Hp) (h : zS M fe (some fe) none fl (sPut i kz z) D σ H) :
    tAsg (zT M fe .s z) (gSub (tVar i) (zT M fe .s kz) rSetZ) D σ H := by
  obtain ⟨H0, F0, F, ρ, fps, s, q⟩ := h
  obtain ⟨d, hz, q⟩ := outOk_ok q
  obtain ⟨dx, hx, q⟩ := outOk_ok q
  obtain ⟨dk, hk, q⟩ := outOk_ok q
  obtain ⟨d2, hc, q⟩ := outOk_ok q
  have hx := look_ok hx
  have hl : i < ρ.length := (List.getElem?_eq_some_iff.mp hx).1
  refine zT_go s hz fun y H1 F1 g1 s1 r1 => ?_
  have r1 : Rep M F1 d y := r1
  obtain ⟨v, hv, _⟩ := s1.slot i _ hx
  refine ⟨v, hv, ?_⟩
  refine zT_go s1 hk fun yk H2 F2 g2 s2 rk => ?_
  have rk : Rep M F2 dk yk := rk
  obtain ⟨v', hv', x⟩ := s2.slot i _ hx
  rw [hv] at hv'
  cases hv'
  rw [hf] at x
  cases dx with
  | lst xs =>
    obtain ⟨a, us, rfl, hfp, hH, zz⟩ := x
    cases dk with
    | int n =>
      simp only [Rep] at rk
      subst rk
      have hc : (match ixN xs.length n with | some j => R.ok (Z.D.lst (xs.set j d)) | none => R.no) = R.ok d2 := hc
      split at hc
      · rename_i j hj
        cases hc
        exact .inl ⟨a, us, n, j, rfl, rfl, hH, by rw [← zz.len]; exact hj, q _ rfl _ _ F2 fps (s2.wrA hl hv hfp (by rw [hf]; exact ⟨a, _, rfl, rfl, upd_same, Reps.set j zz (Rep.same g2.f _ _ r1)⟩))⟩
      · cases hc
    | _ => cases hc
  | dic t ks ds =>
    obtain ⟨a, us, rfl, hfp, hH, zz⟩ := x
    obtain ⟨ks', ds', us', ob, rfl, p1, p2, p3⟩ := put_dic hH zz hc (Rep.same s2.fh _ _ rk) (Rep.same g2.f _ _ r1)
    exact .inr ⟨a, _, rfl, p1, q _ rfl _ _ F2 fps (s2.wrA hl hv hfp (by rw [hf]; exact ⟨a, us', rfl, rfl, p2, p3⟩))⟩
  | _ => cases hc
theorem putF_new {f : Str} {v : V} : ∀ {fs : List Str} {us : List V}, fs.length = us.length → fs.contains f = false → putF f v (fs.zip us) = (fs ++ [f]).zip (us ++ [v])
  | [], [], _, _ => rfl
  | [], _ :: _, h, _ => by simp at h
  | _ :: _, [], h, _ => by simp at h
  | g :: fs, u :: us, h, hc => by
    rw [List.contains_cons, Bool.or_eq_false_iff] at hc
    have ne : ¬ g = f := fun e => by have := hc.1; rw [e] at this; simp at this
    have e : putF f v ((g, u) :: fs.zip us) = if g = f then (g, v) :: fs.zip us else (g, u) :: putF f v (fs.zip us) := rfl
    rw [List.zip_cons_cons, e, if_neg ne, putF_new (by simpa using h) hc.2]
    rfl
theorem fld_read {i : Nat} {f : Str} (hcls : ∀ c C0, M.cn c = some C0 → Cls X.K C0) (hn : ∀ c C0, M.cn c = some C0 → NoAttr X.K C0 f) (hf : fe.getD i .sh = .me) (D : Ends) (σ : L2.St) (H : Hp) (h : zS M fe (some fe) none fl (sFld i f z) D σ H) :
    L2.sFld X.K (tVar i) (zT M fe .s z) f D σ H := by
  obtain ⟨H0, F0, F, ρ, fps, s, q⟩ := h
  obtain ⟨d, hz, q⟩ := outOk_ok q
  obtain ⟨dx, hx, q⟩ := outOk_ok q
  obtain ⟨d2, hc, q⟩ := outOk_ok q
  have hx := look_ok hx
  have hl : i < ρ.length := (List.getElem?_eq_some_iff.mp hx).1
  refine zT_go s hz fun y H1 F1 g1 s1 r1 => ?_
  obtain ⟨v, hv, x⟩ := s1.slot i _ hx
  rw [hf] at x
  refine ⟨v, hv, ?_⟩
  cases dx with
  | obj c fs ds =>
    obtain ⟨a, C0, ax, us, rfl, hfp, hH, hlen, hcn, zz, hme⟩ := x
    obtain ⟨c1, c2⟩ := chk_ok hc
    rw [Bool.and_eq_true, decide_eq_true_eq, Bool.not_eq_true'] at c1
    cases c2
    refine ⟨a, C0, ax, _, rfl, hH, hcls c C0 hcn, hn c C0 hcn, by rw [List.length_zip]; omega, ?_⟩
    rw [putF_new hlen c1.2]
    exact q _ rfl _ _ F1 fps (s1.wrA hl hv hfp (by rw [hf]; exact ⟨a, C0, ax, _, rfl, rfl, upd_same, by rw [List.length_append, List.length_append, hlen]; rfl, hcn, zz.append (Reps.cons r1 (by simp [Reps])), hme⟩))
  | _ => exact False.elim x
theorem expr_read (D : Ends) (σ : L2.St) (H : Hp) (h : zS M fe (some fe) none fl (sExpr z) D σ H) : tDrop (zT M fe .s z) D σ H := by
  obtain ⟨H0, F0, F, ρ, fps, s, q⟩ := h
  obtain ⟨d, hz, q⟩ := outOk_ok q
  exact zT_go s hz fun y H1 F1 g1 s1 r1 => q _ rfl _ _ F1 fps s1
end
end Z
/-! Z, part O: single statements, all. -/
namespace Z
open PySem PySem.Spec PyProof.Rows L2

section
variable {C : CC} {M : Mx} {X : Cx} {sc : Scope} {fe fe2 : List Fl} {w : Wt} {fl : Fl} {e : Expr} {z : ZE}
theorem plainVal_sw {o : Option Expr} {line : Nat} {env : PySem.Env} (h : plainVal e = true) : swapsWith e o line env = pure false := by
  cases e <;> first | rfl | (exact Bool.noConfusion h)
theorem foldl_freeze (C : CC) : ∀ (es : List Expr) (fe : List Fl), Wk (es.foldl (freeze C) fe) fe
  | [], fe => .refl _
  | e :: es, fe => (foldl_freeze C es (freeze C fe e)).trans (wk_setSh _ _)
theorem par_done (o : SOk C M X sc) {ts es : List Expr} {k k2 : Nat} {pt pt2 pos : Pos} {xs : List Str} {is : List Nat} {zs : List ZE} (hp : parB sc ((ts.head?.map (·.pos.line)).getD 0) ts = some xs)
    (hc : ((ts.length == 2 || ts.length == 3) && (es.length == ts.length) && decide xs.Nodup && es.all notStar && !(es.all (foldedForSure 8)) && !(es.all (constantsAlone 8))) = true)
    (hi : mapO (fun x => ixOf x C.N) xs = some is) (hz : mapO (cE eFuel C sc fe .s) es = some zs) : PS X (.Assign [.Tuple ts k pt] (.Tuple es k2 pt2) pos) (zS M fe (some (setSh fe is)) none fl (sPar is zs)) := by
  simp only [Bool.and_eq_true, Bool.not_eq_true', decide_eq_true_eq] at hc
  obtain ⟨⟨⟨⟨⟨c1, c2⟩, c3⟩, c4⟩, c5⟩, c6⟩ := hc
  have sw := swapped_of (k := k) (k2 := k2) (pt := pt) (pt2 := pt2) o.kind o.sc hp c1 c2 c3 c4 c5 c6
  obtain ⟨_, a2, a3, ps, a4, a5⟩ := parB_names (env := X.env) o.sc hp
  have pa := z_args (M := M) (X := X) (fe := fe) (w := .s) (.inr rfl) (fun e _ z => (sound C M eFuel).1 X sc fe .s e z o.toXOk) c4 hz
  have lz := mapO_len hz
  have li := mapO_len hi
  have e2 : es.length = ts.length := by simpa using c2
  have nm : ∀ x ∈ xs, X.env.scope.names.lookup x = some .local := fun x hx => by rw [o.sc]; exact a3 x hx
  have sole : swapsWithSole [.Tuple ts k pt] (.Tuple es k2 pt2) pos.line X.env = pure false := rfl
  have nd := nodup_of o.toXOk
  rw [Bool.or_eq_true, beq_iff_eq, beq_iff_eq] at c1
  rcases c1 with c1 | c1
  · match xs, ps, is, es, a2, a5, li, e2, a4 with
    | [x, y], [p, q], [i, j], [a, b], _, _, _, _, a4 =>
      subst a4
      obtain ⟨i', h1, hi⟩ := Option.bind_eq_some_iff.mp hi
      obtain ⟨is', hi, h2⟩ := Option.map_eq_some_iff.mp hi
      cases h2
      obtain ⟨j', h3, hi⟩ := Option.bind_eq_some_iff.mp hi
      obtain ⟨is'', hi, h4⟩ := Option.map_eq_some_iff.mp hi
      cases h4
      have ne : i ≠ j := fun z => by
        subst z
        have := (ixOf_get h1).symm.trans (ixOf_get h3)
        simp at this
        simp [this] at c3
      exact PS.imp (ps_par o.calm nd (at_of o.toXOk h1) (at_of o.toXOk h3) ne (nm x (by simp)) (nm y (by simp)) pa sw sole) fun D σ H z => par_read2 D σ H (by rw [lz]; rfl) z
    | [], _, _, _, a2, _, _, _, _ => rw [c1] at a2; simp at a2
    | [_], _, _, _, a2, _, _, _, _ => rw [c1] at a2; simp at a2
    | _ :: _ :: _ :: _, _, _, _, a2, _, _, _, _ => rw [c1] at a2; simp at a2
    | [_, _], [], _, _, _, a5, _, _, _ => simp at a5
    | [_, _], [_], _, _, _, a5, _, _, _ => simp at a5
    | [_, _], _ :: _ :: _ :: _, _, _, _, a5, _, _, _ => simp at a5
    | [_, _], [_, _], [], _, _, _, li, _, _ => simp at li
    | [_, _], [_, _], [_], _, _, _, li, _, _ => simp at li
    | [_, _], [_, _], _ :: _ :: _ :: _, _, _, _, li, _, _ => simp at li
    | [_, _], [_, _], [_, _], [], _, _, _, e2, _ => rw [c1] at e2; simp at e2
    | [_, _], [_, _], [_, _], [_], _, _, _, e2, _ => rw [c1] at e2; simp at e2
    | [_, _], [_, _], [_, _], _ :: _ :: _ :: _, _, _, _, e2, _ => rw [c1] at e2; simp at e2
  · match xs, ps, is, es, a2, a5, li, e2, a4 with
    | [x, y, u], [p, q, r], [i, j, l], [a, b, c], _, _, _, _, a4 =>
      subst a4
      obtain ⟨i', h1, hi⟩ := Option.bind_eq_some_iff.mp hi
      obtain ⟨is', hi, h2⟩ := Option.map_eq_some_iff.mp hi
      cases h2
      obtain ⟨j', h3, hi⟩ := Option.bind_eq_some_iff.mp hi
      obtain ⟨is'', hi, h4⟩ := Option.map_eq_some_iff.mp hi
      cases h4
      obtain ⟨l', h5, hi⟩ := Option.bind_eq_some_iff.mp hi
      obtain ⟨is''', hi, h6⟩ := Option.map_eq_some_iff.mp hi
      cases h6
      have ne : ∀ {i j : Nat} {x y : Str}, ixOf x C.N = some i → ixOf y C.N = some j → x ≠ y → i ≠ j := fun h1 h3 hn z => by
        subst z
        have := (ixOf_get h1).symm.trans (ixOf_get h3)
        simp at this
        exact hn this
      simp only [List.nodup_cons, List.mem_cons, List.not_mem_nil, or_false, not_or] at c3
      exact PS.imp (ps_par3 o.calm nd (at_of o.toXOk h1) (at_of o.toXOk h3) (at_of o.toXOk h5) (ne h1 h3 c3.1.1) (ne h1 h5 c3.1.2) (ne h3 h5 c3.2.1) (nm x (by simp)) (nm y (by simp)) (nm u (by simp)) pa sw sole) fun D σ H z => par_read3 D σ H (by rw [lz]; rfl) z
    | [], _, _, _, a2, _, _, _, _ => rw [c1] at a2; simp at a2
    | [_], _, _, _, a2, _, _, _, _ => rw [c1] at a2; simp at a2
    | [_, _], _, _, _, a2, _, _, _, _ => rw [c1] at a2; simp at a2
    | _ :: _ :: _ :: _ :: _, _, _, _, a2, _, _, _, _ => rw [c1] at a2; simp at a2
    | [_, _, _], [], _, _, _, a5, _, _, _ => simp at a5
    | [_, _, _], [_], _, _, _, a5, _, _, _ => simp at a5
    | [_, _, _], [_, _], _, _, _, a5, _, _, _ => simp at a5
    | [_, _, _], _ :: _ :: _ :: _ :: _, _, _, _, a5, _, _, _ => simp at a5
    | [_, _, _], [_, _, _], [], _, _, _, li, _, _ => simp at li
    | [_, _, _], [_, _, _], [_], _, _, _, li, _, _ => simp at li
    | [_, _, _], [_, _, _], [_, _], _, _, _, li, _, _ => simp at li
    | [_, _, _], [_, _, _], _ :: _ :: _ :: _ :: _, _, _, _, li, _, _ => simp at li
    | [_, _, _], [_, _, _], [_, _, _], [], _, _, _, e2, _ => rw [c1] at e2; simp at e2
    | [_, _, _], [_, _, _], [_, _, _], [_], _, _, _, e2, _ => rw [c1] at e2; simp at e2
    | [_, _, _], [_, _, _], [_, _, _], [_, _], _, _, _, e2, _ => rw [c1] at e2; simp at e2
    | [_, _, _], [_, _, _], [_, _, _], _ :: _ :: _ :: _ :: _, _, _, _, e2, _ => rw [c1] at e2; simp at e2
theorem tup_sound (o : SOk C M X sc) {ts : List Expr} {k : Nat} {pt pos : Pos} {r : ZR} (h : cTup C sc fe ts k pt e = some r) : PS X (.Assign [.Tuple ts k pt] e pos) (zS M fe r.2.1 r.2.2 fl r.1) := by
  have gen : (gd (plainVal e) ((cG 9 C sc (.Tuple ts k pt)).bind fun g => (cSh C sc fe e).map fun p => (sUnp g.1 p.1, some (setSh p.2 g.2), (none : OF)))) = some r → notTuple e = true → PS X (.Assign [.Tuple ts k pt] e pos) (zS M fe r.2.1 r.2.2 fl r.1) := fun h hn => by
    obtain ⟨h1, h⟩ := gd_some h
    obtain ⟨g, h2, h⟩ := Option.bind_eq_some_iff.mp h
    obtain ⟨p, h3, h4⟩ := Option.map_eq_some_iff.mp h
    subst h4
    obtain ⟨q1, q2, q3⟩ := sh_sound o.toXOk h3
    refine zS.pre ?_ q2
    have pg := z_tgt (M := M) o.n o.nd o.k o.calm (locOk o) 9 (.Tuple ts k pt) g p.2 h2
    exact PS.imp (ps_asg q1 pg (by cases e <;> first | rfl | (exact Bool.noConfusion h1)) (by cases e <;> first | rfl | (exact Bool.noConfusion hn)) rfl) fun D σ H z => unp_read D σ H z
  cases e with
  | Tuple es k2 pt2 =>
    obtain ⟨xs, h1, h⟩ := Option.bind_eq_some_iff.mp h
    obtain ⟨h2, h⟩ := gd_some h
    obtain ⟨is, h3, h⟩ := Option.bind_eq_some_iff.mp h
    split at h
    · rename_i zs hz
      cases h
      exact par_done o h1 h2 h3 hz
    · obtain ⟨zs, hz, h4⟩ := Option.map_eq_some_iff.mp h
      subst h4
      exact zS.pre (par_done o h1 h2 h3 hz) (foldl_freeze C es fe)
  | _ => exact gen h rfl
/-- op= of atoms -/
theorem aug_rule {op : Operator} (h : augOp op = true) : ∃ r : R2, OpR X (inplaceOp op) r ∧ ∀ (H F : Hp) (a b d : D) (x y : V) (Q : VK), isAtom a = true → isAtom b = true → binD op a b = .ok d → Rep M F a x → Rep M H b y → (∀ v, isAtom d = true → (∀ F, Rep M F d v) → Q v H) → r x y H Q := by
  cases op with
  | Add =>
    refine ⟨_, iop_add.or iop_add_str, fun H F a b d x y Q ha hb e ra rb k => ?_⟩
    cases a with
    | int i => cases b with
      | int j =>
        cases e
        simp only [Rep] at ra rb
        exact .inl ⟨i, j, ra, rb, k _ rfl fun F => by simp only [Rep]⟩
      | _ => cases e
    | str i => cases b with
      | str j =>
        obtain ⟨h1, h2⟩ := chk_ok e
        cases h2
        simp only [Rep] at ra rb
        exact .inr ⟨i, j, ra, rb, of_decide_eq_true h1, k _ rfl fun F => by simp only [Rep]⟩
      | _ => cases e
    | lst _ => exact Bool.noConfusion ha
    | tup _ => exact Bool.noConfusion ha
    | _ => cases e
  | Sub =>
    refine ⟨_, iop_sub, fun H F a b d x y Q ha hb e ra rb k => ?_⟩
    cases a with
    | int i => cases b with
      | int j =>
        cases e
        simp only [Rep] at ra rb
        exact ⟨i, j, ra, rb, k _ rfl fun F => by simp only [Rep]⟩
      | _ => cases e
    | _ => cases e
  | Mult =>
    refine ⟨_, iop_mul, fun H F a b d x y Q ha hb e ra rb k => ?_⟩
    cases a with
    | int i => cases b with
      | int j =>
        obtain ⟨h1, h2⟩ := chk_ok e
        cases h2
        simp only [Rep] at ra rb
        exact ⟨i, j, ra, rb, cmul_of (of_decide_eq_true h1), k _ rfl fun F => by simp only [Rep]⟩
      | _ => cases e
    | lst _ => exact Bool.noConfusion ha
    | _ => cases e
  | _ => exact Bool.noConfusion h
theorem atom_rep2 {H F : Hp} {fl : Fl} {d : D} {v : V} {fp : List Addr} (ha : isAtom d = true) (x : Val M H F fl d v fp) (K : Hp) : Rep M K d v := by
  cases fl with
  | sh => exact atom_rep ha x
  | own => cases d <;> first | (exact Bool.noConfusion ha) | (have x : Rep M F _ v := x; simpa only [Rep] using x)
  | deep => cases d <;> first | (exact Bool.noConfusion ha) | (have x : RepD M H fp _ v := x; simpa only [Rep, RepD] using x)
  | me => cases d <;> first | (exact Bool.noConfusion ha) | exact False.elim x
theorem aug_read {op : Operator} {r : R2} {i : Nat} (hr : ∀ (H F : Hp) (a b d : D) (x y : V) (Q : VK), isAtom a = true → isAtom b = true → binD op a b = .ok d → Rep M F a x → Rep M H b y → (∀ v, isAtom d = true → (∀ F, Rep M F d v) → Q v H) → r x y H Q)
    (D : Ends) (σ : L2.St) (H : Hp) (h : zS M fe (some (fe.set i .sh)) none fl (sAug op i z) D σ H) : tAug i (zT M [] .s z) r D σ H := by
  obtain ⟨H0, F0, F, ρ, fps, s, q⟩ := h
  obtain ⟨dx, hx, q⟩ := outOk_ok q
  obtain ⟨dy, hz, q⟩ := outOk_ok q
  obtain ⟨d, hc, q⟩ := outOk_ok q
  obtain ⟨c1, c2⟩ := chk_ok hc
  rw [Bool.and_eq_true] at c1
  obtain ⟨v, hv, xv⟩ := s.slot i dx (look_ok hx)
  refine ⟨v, hv, lend s hz fun u H1 g s1 r1 => ?_⟩
  exact hr H1 F dx dy d v u _ c1.1 c1.2 c2 (atom_rep2 c1.1 xv F) r1 fun v' ha rv => q _ rfl _ _ F _ (s1.put (rv F))
theorem app_read {i : Nat} (hf : fe.getD i .sh = .own) (D : Ends) (σ : L2.St) (H : Hp) (h : zS M fe (some fe) none fl (sApp i z) D σ H) :
    tBM M.K "list" rAppend (tVar i) (tCons (zT M fe .s z) tNil) σ H fun _ H1 => D.nx σ H1 := by
  obtain ⟨H0, F0, F, ρ, fps, s, q⟩ := h
  obtain ⟨d, hz, q⟩ := outOk_ok q
  obtain ⟨dx, hx, q⟩ := outOk_ok q
  obtain ⟨d2, hc, q⟩ := outOk_ok q
  cases dx with
  | lst xs =>
    obtain ⟨k1, k2⟩ := chk_ok hc
    cases k2
    obtain ⟨a, vs, ha, hH, zv, _⟩ := s.wrL hf (look_ok hx)
    refine ⟨_, ha, .inl ⟨rfl, _, SqL.of hH⟩, ?_⟩
    refine zT_go s hz fun y H1 F1 g1 s1 r1 => ?_
    obtain ⟨a', vs', ha', hH', zv', wr⟩ := s1.wrL hf (look_ok hx)
    rw [ha] at ha'
    cases ha'
    exact ⟨_, vs', y, rfl, rfl, hH', by rw [← zv'.len]; exact of_decide_eq_true k1, q _ rfl _ _ F1 _ (wr _ _ (zv'.append (Reps.cons r1 (by simp only [Reps]))))⟩
  | _ => cases hc
theorem app_readD {i : Nat} (hf : fe.getD i .sh = .deep) (D : Ends) (σ : L2.St) (H : Hp) (h : zS M fe (some fe) none fl (sApp i z) D σ H) :
    tBM M.K "list" rAppend (tVar i) (tCons (zT M fe .d z) tNil) σ H fun _ H1 => D.nx σ H1 := by
  obtain ⟨H0, F0, F, ρ, fps, s, q⟩ := h
  obtain ⟨d, hz, q⟩ := outOk_ok q
  obtain ⟨dx, hx, q⟩ := outOk_ok q
  obtain ⟨d2, hc, q⟩ := outOk_ok q
  cases dx with
  | lst xs =>
    obtain ⟨k1, k2⟩ := chk_ok hc
    cases k2
    obtain ⟨v, hv, xv⟩ := s.slot i _ (look_ok hx)
    rw [hf] at xv
    have xv : RepD M H (fps i) (.lst xs) v := xv
    simp only [RepD] at xv
    obtain ⟨a, vs, rfl, ma, qa, za⟩ := xv
    refine ⟨_, hv, .inl ⟨rfl, _, SqL.of qa⟩, ?_⟩
    refine zT_goD s hz fun y H1 F1 fp g1 s1 r1 f1 => ?_
    obtain ⟨a', vs', ha', _, hH', hl, fps', s'⟩ := s.appD (d := d) g1 hf (look_ok hx) r1 f1
    rw [hv] at ha'
    cases ha'
    exact ⟨_, vs', y, rfl, rfl, hH', by rw [hl]; exact of_decide_eq_true k1, q _ rfl _ _ F1 _ s'⟩
  | _ => cases hc
theorem seqIx {i : Int} {n : Nat} (h : 0 ≤ i) (hn : i.toNat < n) : seqIndex? i n = some i.toNat := by
  unfold seqIndex?
  have h1 : ¬ i < 0 := by omega
  simp [h1]
  omega
theorem popD_ok {x k : D} {p : D × D} (h : popD x k = .ok p) : ∃ xs i d, x = .lst xs ∧ k = .int i ∧ 0 ≤ i ∧ i < 16777216 ∧ xs[i.toNat]? = some d ∧ p = (d, .lst (xs.eraseIdx i.toNat)) := by
  cases x with
  | lst xs => cases k with
    | int i =>
      obtain ⟨c, h⟩ := chk_ok h
      have c : 0 ≤ i ∧ xs.length ≤ sizeLine := of_decide_eq_true c
      cases hx : xs[i.toNat]? with
      | none => rw [hx] at h; cases h
      | some d =>
        rw [hx] at h
        cases h
        have hlt : i.toNat < xs.length := (List.getElem?_eq_some_iff.mp hx).1
        have e := sizeLine_eq
        exact ⟨xs, i, d, rfl, rfl, c.1, by omega, hx, rfl⟩
    | _ => cases h
  | _ => cases h
theorem Reps.erase {H : Hp} : ∀ {ds : List D} {vs : List V} (i : Nat), Reps M H ds vs → Reps M H (ds.eraseIdx i) (vs.eraseIdx i)
  | [], _, i, h => by simp only [Reps] at h; subst h; simp [Reps]
  | d :: ds, vs, 0, h => by
    simp only [Reps] at h
    obtain ⟨v, r, rfl, q, z⟩ := h
    exact z
  | d :: ds, vs, i + 1, h => by
    simp only [Reps] at h
    obtain ⟨v, r, rfl, q, z⟩ := h
    exact Reps.cons q (Reps.erase i z)
theorem appPop_read {i j : Nat} (hij : i ≠ j) (hi : fe.getD i .sh = .own) (hj : fe.getD j .sh = .own) (D : Ends) (σ : L2.St) (H : Hp) (h : zS M fe (some fe) none fl (sAppPop i j z) D σ H) :
    tBM M.K "list" rAppend (tVar i) (tCons (tBM M.K "list" rPopAt (tVar j) (tCons (zT M fe .s z) tNil)) tNil) σ H fun _ H1 => D.nx σ H1 := by
  obtain ⟨H0, F0, F, ρ, fps, s, q⟩ := h
  obtain ⟨k, hz, q⟩ := outOk_ok q
  obtain ⟨dy, hy, q⟩ := outOk_ok q
  obtain ⟨p, hp, q⟩ := outOk_ok q
  obtain ⟨dx, hx, q⟩ := outOk_ok q
  obtain ⟨d2, hc, q⟩ := outOk_ok q
  obtain ⟨ys, n, d, rfl, rfl, n0, n1, hn, rfl⟩ := popD_ok hp
  cases dx with
  | lst xs =>
    obtain ⟨k1, k2⟩ := chk_ok hc
    cases k2
    obtain ⟨a, vs, ha, hH, zv, _⟩ := s.wrL hi (look_ok hx)
    obtain ⟨b, us, hb, hK, zu, _⟩ := s.wrL hj (look_ok hy)
    refine ⟨_, ha, .inl ⟨rfl, _, SqL.of hH⟩, _, hb, .inl ⟨rfl, _, SqL.of hK⟩, ?_⟩
    refine zT_go s hz fun kv H1 F1 g1 s1 r1 => ?_
    have r1 : Rep M F1 (.int n) kv := r1
    simp only [Rep] at r1
    subst r1
    obtain ⟨b', us', hb', hK', zu', wr⟩ := s1.wrL hj (look_ok hy)
    rw [hb] at hb'
    cases hb'
    obtain ⟨y, hy1, hy2⟩ := zu'.get hn
    have hlt : n.toNat < us'.length := (List.getElem?_eq_some_iff.mp hy1).1
    have s2 := wr _ _ (zu'.erase n.toNat)
    have hx2 : (ρ.set j (some (.lst (ys.eraseIdx n.toNat))))[i]? = some (some (.lst xs)) := by
      rw [List.getElem?_set_ne (Ne.symm hij)]
      exact look_ok hx
    obtain ⟨a', vs', ha', hH', zv', wr2⟩ := s2.wrL hi hx2
    rw [ha] at ha'
    cases ha'
    exact ⟨b, us', n, n.toNat, y, rfl, rfl, hK', by omega, by omega, seqIx n0 hlt, hy1, _, vs', y, rfl, rfl, hH', by rw [← zv'.len]; exact of_decide_eq_true k1, q _ rfl _ _ F1 _ (wr2 _ _ (zv'.append (Reps.cons hy2 (by simp only [Reps]))))⟩
  | _ => cases hc
theorem ext_read {i : Nat} (hf : fe.getD i .sh = .own) (D : Ends) (σ : L2.St) (H : Hp) (h : zS M fe (some fe) none fl (sExt i z) D σ H) :
    tBM M.K "list" rExtend (tVar i) (tCons (zT M fe .c z) tNil) σ H fun _ H1 => D.nx σ H1 := by
  obtain ⟨H0, F0, F, ρ, fps, s, q⟩ := h
  obtain ⟨d, hz, q⟩ := outOk_ok q
  obtain ⟨dx, hx, q⟩ := outOk_ok q
  obtain ⟨d2, hc, q⟩ := outOk_ok q
  cases dx with
  | lst xs => cases d with
    | lst ys =>
      obtain ⟨k1, k2⟩ := chk_ok hc
      cases k2
      obtain ⟨a, vs, ha, hH, zv, _⟩ := s.wrL hf (look_ok hx)
      refine ⟨_, ha, .inl ⟨rfl, _, SqL.of hH⟩, ?_⟩
      refine zT_go s hz fun y H1 F1 g1 s1 r1 => ?_
      obtain ⟨b, us, rfl, hb, zb⟩ := r1
      obtain ⟨a', vs', ha', hH', zv', wr⟩ := s1.wrL hf (look_ok hx)
      rw [ha] at ha'
      cases ha'
      exact ⟨_, b, vs', us, rfl, rfl, hH', hb, by rw [← zv'.len, ← zb.len]; exact of_decide_eq_true k1, q _ rfl _ _ F1 _ (wr _ _ (zv'.append zb))⟩
    | _ => cases hc
  | _ => cases hc
theorem aug_sound (o : SOk C M X sc) {x : Str} {p pos : Pos} {op : Operator} {r : ZR} (h : cAug C sc fe x op e = some r) : PS X (.AugAssign (.Name x p) op e pos) (zS M fe r.2.1 r.2.2 fl r.1) := by
  obtain ⟨h1, h⟩ := gd_some h
  obtain ⟨i, h2, h⟩ := Option.bind_eq_some_iff.mp h
  obtain ⟨z, h3, h4⟩ := Option.map_eq_some_iff.mp h
  subst h4
  rw [Bool.and_eq_true] at h1
  obtain ⟨r, ho, hr⟩ := aug_rule (M := M) (X := X) h1.2
  have pe := (sound C M _).1 X sc _ _ e _ o.toXOk h3
  exact PS.imp (ps_aug (nodup_of o.toXOk) (at_of o.toXOk h2) (loc_of o.toXOk h1.1) pe (ti := r) ho (.inl (o.fnT x))) fun D σ H z => aug_read hr D σ H z
theorem mut_few {cp : Pos} {env : PySem.Env} (hn : notStar e = true) : ((backTo cp (starEach [e] env)).all (fun x => !x.1) && (backToKw cp (keywordEach [] env)).all (fun x => x.1.isSome)
      && decide ([e].length + ([] : List Keyword).length + (if ([] : List Keyword).isEmpty then 0 else 1) < 30)) = true := by
  rw [star_cons hn]
  rfl
theorem mut_sound (o : SOk C M X sc) {x m : Str} {p ap cp pos : Pos} {r : ZR} (h : cMut C sc fe x m ap.endLine cp.line e = some r) : PS X (.Expr (.Call (.Attribute (.Name x p) m ap) [e] [] cp) pos) (zS M fe r.2.1 r.2.2 fl r.1) := by
  obtain ⟨h1, hb⟩ := gd_some h
  obtain ⟨i, h2, hc⟩ := Option.bind_eq_some_iff.mp hb
  simp only [Bool.and_eq_true] at h1
  obtain ⟨⟨⟨c1, c2⟩, c3⟩, c4⟩ := h1
  have cd : (x == ("__classdict__" : Str)) = false := by
    have := c1
    unfold plainName at this
    simp only [Bool.and_eq_true, Bool.not_eq_true'] at this
    exact this.1.2
  have pv := pe_var (pos := p) (i := i) (at_of o.toXOk h2) (vis_of o.toXOk c2) (plain_parts c1).1 cd
  clear h hb
  split at hc
  · rename_i em
    rw [Bool.and_eq_true, decide_eq_true_eq] at em
    obtain ⟨em, h4⟩ := em
    subst em
    obtain ⟨q, h3, hd⟩ := Option.bind_eq_some_iff.mp hc
    obtain ⟨h5, hd⟩ := gd_some hd
    cases hd
    have h5 : q.2.getD i .sh = .deep := by simpa using h5
    obtain ⟨q1, q2, q3⟩ := deep_sound o.toXOk h3
    refine zS.pre ?_ q2
    have pa := pa_cons (soundD C M _ X sc _ e _ o.toXOk q1) pa_nil (star_cons c4)
    exact PS.imp (ps_expr (pe_bm PySem.F.plainAttrs_list PySem.F.slot_list_append PySem.F.type_list_append mt_append pv pa rfl (mut_few c4) c3 (star_cons c4) rfl) rfl) fun D σ H z => by
      rw [o.k]
      exact app_readD h5 D σ H z
  split at hc
  · rename_i em
    subst em
    obtain ⟨q, h3, hd⟩ := Option.bind_eq_some_iff.mp hc
    obtain ⟨h4, hd⟩ := gd_some hd
    cases hd
    have h4 : q.2.getD i .sh = .own := by simpa using h4
    obtain ⟨q1, q2, q3⟩ := sh_sound o.toXOk h3
    refine zS.pre ?_ q2
    have pa := pa_cons q1 pa_nil (star_cons c4)
    exact PS.imp (ps_expr (pe_bm PySem.F.plainAttrs_list PySem.F.slot_list_append PySem.F.type_list_append mt_append pv pa rfl (mut_few c4) c3 (star_cons c4) rfl) rfl) fun D σ H z => by
      rw [o.k]
      exact app_read h4 D σ H z
  split at hc
  · rename_i em
    subst em
    obtain ⟨h4, hd⟩ := gd_some hc
    obtain ⟨z, h3, he⟩ := Option.map_eq_some_iff.mp hd
    cases he
    have h4 : fe.getD i .sh = .own := by simpa using h4
    have pa := pa_cons ((sound C M _).1 X sc _ _ e _ o.toXOk h3) pa_nil (star_cons c4)
    exact PS.imp (ps_expr (pe_bm PySem.F.plainAttrs_list PySem.F.slot_list_extend PySem.F.type_list_extend mt_extend pv pa rfl (mut_few c4) c3 (star_cons c4) rfl) rfl) fun D σ H z => by
      rw [o.k]
      exact ext_read h4 D σ H z
  · cases hc
theorem cd_of {x : Str} (h : plainName x = true) : (x == ("__classdict__" : Str)) = false := by
  unfold plainName at h
  simp only [Bool.and_eq_true, Bool.not_eq_true'] at h
  exact h.1.2
theorem popOf_ok {q : Str × Expr} (h : popOf e = some q) : ∃ p1 ap p2 : Pos, e = .Call (.Attribute (.Name q.1 p1) "pop" ap) [q.2] [] p2 ∧ (ap.endLine == p2.line) = true ∧ notStar q.2 = true := by
  unfold popOf at h
  split at h
  · obtain ⟨h1, h2⟩ := gd_some h
    cases h2
    simp only [Bool.and_eq_true, decide_eq_true_eq] at h1
    obtain ⟨⟨h1, h2⟩, h3⟩ := h1
    subst h1
    exact ⟨_, _, _, rfl, h2, h3⟩
  · cases h
theorem appPop_sound (o : SOk C M X sc) {x m y : Str} {p ap cp pos p1 ap2 p2 : Pos} {e2 : Expr} {r : ZR} (hl2 : (ap2.endLine == p2.line) = true) (hn2 : notStar e2 = true) (h : cAppPop C sc fe x m ap.endLine cp.line y e2 = some r) :
    PS X (.Expr (.Call (.Attribute (.Name x p) m ap) [.Call (.Attribute (.Name y p1) "pop" ap2) [e2] [] p2] [] cp) pos) (zS M fe r.2.1 r.2.2 fl r.1) := by
  obtain ⟨h1, hb⟩ := gd_some h
  obtain ⟨i, h2, hb⟩ := Option.bind_eq_some_iff.mp hb
  obtain ⟨j, h3, hb⟩ := Option.bind_eq_some_iff.mp hb
  obtain ⟨h4, hb⟩ := gd_some hb
  obtain ⟨z, h5, h6⟩ := Option.map_eq_some_iff.mp hb
  clear h
  simp only [Bool.and_eq_true, decide_eq_true_eq, beq_iff_eq] at h1 h4
  obtain ⟨⟨⟨⟨⟨c1, c2⟩, c3⟩, c4⟩, c5⟩, c6⟩ := h1
  subst c6
  cases h6
  have pv := pe_var (pos := p) (i := i) (at_of o.toXOk h2) (vis_of o.toXOk c2) (plain_parts c1).1 (cd_of c1)
  have pw := pe_var (pos := p1) (i := j) (at_of o.toXOk h3) (vis_of o.toXOk c5) (plain_parts c4).1 (cd_of c4)
  have pa2 := pa_cons ((sound C M _).1 X sc _ _ e2 _ o.toXOk h5) pa_nil (star_cons hn2)
  have pp := pe_bm PySem.F.plainAttrs_list PySem.F.slot_list_pop PySem.F.type_list_pop mt_popAt pw pa2 rfl (mut_few hn2) hl2 (star_cons hn2) rfl
  have pa := pa_cons pp pa_nil (star_cons rfl)
  exact PS.imp (ps_expr (pe_bm PySem.F.plainAttrs_list PySem.F.slot_list_append PySem.F.type_list_append mt_append pv pa rfl (mut_few rfl) (by simpa using c3) (star_cons rfl) rfl) rfl) fun D σ H z => by
    rw [o.k]
    exact appPop_read h4.1.1 h4.1.2 h4.2 D σ H z
theorem RepDs_get {H : Hp} {fp : List Addr} : ∀ {ds : List D} {vs : List V} {i : Nat} {d : D}, RepDs M H fp ds vs → ds[i]? = some d → ∃ v, vs[i]? = some v ∧ RepD M H fp d v
  | [], _, _, _, _, e => by simp at e
  | d :: ds, vs, 0, x, h, e => by
    simp only [RepDs] at h
    obtain ⟨v, r, rfl, q, z⟩ := h
    simp at e
    subst e
    exact ⟨v, rfl, q⟩
  | d :: ds, vs, i + 1, x, h, e => by
    simp only [RepDs] at h
    obtain ⟨v, r, rfl, q, z⟩ := h
    simp at e
    obtain ⟨w, h1, h2⟩ := RepDs_get z e
    exact ⟨w, by simpa using h1, h2⟩
theorem but_sub {fp : List Addr} {a : Addr} : ∀ b ∈ but fp a, b ∈ fp := fun b hb => (mem_but.mp hb).1
theorem ix_d {H : Hp} {fp : List Addr} {a b d : D} {x y : V} {Q : VK} (hK : X.K = M.K) (e : ixD a b = .ok d) (ra : RepD M H fp a x) (rb : Rep M H b y) (k : ∀ v, RepD M H fp d v → Q v H) : rIx X.K x y H Q := by
  cases b with
  | int i =>
    have e2 : y = .int i := by simpa only [Rep] using rb
    cases a with
    | lst xs =>
      subst e2
      simp only [RepD] at ra
      obtain ⟨l, vs, rfl, ml, q, z⟩ := ra
      simp only [ixD] at e
      split at e
      · rename_i d' hd
        cases e
        obtain ⟨j, h1, h2⟩ := atI_get hd
        obtain ⟨v, h3, h4⟩ := RepDs_get z h2
        exact .inl ⟨l, vs, i, v, rfl, rfl, .inl (.inl q), atI_of (by rw [← RepDs_len z]; exact h1) h3, k v (RepD.mono (fun _ _ _ e => e) but_sub _ _ h4)⟩
      · cases e
    | tup xs =>
      subst e2
      simp only [RepD] at ra
      obtain ⟨l, vs, rfl, ml, q, z⟩ := ra
      simp only [ixD] at e
      split at e
      · rename_i d' hd
        cases e
        obtain ⟨j, h1, h2⟩ := atI_get hd
        obtain ⟨v, h3, h4⟩ := RepDs_get z h2
        exact .inr (.inl ⟨l, vs, i, v, rfl, rfl, .inl (.inl q), atI_of (by rw [← RepDs_len z]; exact h1) h3, k v (RepD.mono (fun _ _ _ e => e) but_sub _ _ h4)⟩)
      · cases e
    | str z =>
      have e1 : x = .str z := by simpa only [RepD] using ra
      have ds : ∃ c, d = .str c := by
        obtain ⟨_, h2⟩ := chk_ok e
        split at h2
        · cases h2; exact ⟨_, rfl⟩
        · cases h2
      obtain ⟨c, rfl⟩ := ds
      exact ix_y (M := M) (F := H) hK (fun _ _ _ z => by cases z) (.refl _) e (show RepC M H H (.str z) x by simpa only [RepC, Rep] using e1) rb fun v r => k v (by simp only [Rep] at r; simpa only [RepD] using r)
    | scr ns => simp only [RepD] at ra
    | dic _ _ _ => simp only [RepD] at ra
    | _ => cases e
  | _ => cases a <;> first | (simp only [RepD] at ra; done) | cases e
/-- the way to what is new -/
def zW (M : Mx) (fe : List Fl) (p : ZE) (i : Nat) : TE := fun σ H Q => ∃ H0 F0 F ρ fps d, St M H0 F0 σ H F fe ρ fps ∧ p ρ = .ok d ∧ ∀ v H', Gr H F H' F → RepD M H' (fps i) d v → Q v H'
theorem way_sound (o : XOk C M X sc) : ∀ (n : Nat) (r : Expr) (p : ZE × Nat), cWay n C sc fe r = some p → fe.getD p.2 .sh = .deep ∧ PE X r (zW M fe p.1 p.2)
  | 0, r, p, h => by cases h
  | n + 1, r, p, h => by
    cases r with
    | Name y q =>
      obtain ⟨h1, h⟩ := gd_some h
      obtain ⟨j, h2, h⟩ := Option.bind_eq_some_iff.mp h
      obtain ⟨h3, h⟩ := gd_some h
      cases h
      rw [Bool.and_eq_true] at h1
      have h3 : fe.getD j .sh = .deep := by simpa using h3
      refine ⟨h3, PE.imp (pe_var (i := j) (at_of o h2) (vis_of o h1.2) (plain_parts h1.1).1 (cd_of h1.1)) fun σ H Q ⟨H0, F0, F, ρ, fps, d, s, e, k⟩ => ?_⟩
      obtain ⟨v, hv, x⟩ := s.slot j d (look_ok e)
      have h3 : fe.getD j .sh = .deep := h3
      rw [h3] at x
      exact ⟨v, hv, k v H (.refl s.fh) x⟩
    | Subscript a i q =>
      obtain ⟨h1, h⟩ := gd_some h
      obtain ⟨p', h2, h⟩ := Option.bind_eq_some_iff.mp h
      obtain ⟨z, h3, h4⟩ := Option.map_eq_some_iff.mp h
      subst h4
      obtain ⟨f1, f2⟩ := way_sound o n a p' h2
      refine ⟨f1, PE.imp (pe_ix ix_seq f2 ((sound C M _).1 X sc _ _ i _ o h3) (fun _ _ => by cases i <;> first | rfl | (exact Bool.noConfusion h1))) fun σ H Q ⟨H0, F0, F, ρ, fps, d, s, e, k⟩ => ?_⟩
      obtain ⟨d1, e1, e⟩ := R.bind_eq_ok e
      obtain ⟨d2, e2, e⟩ := R.bind_eq_ok e
      refine ⟨H0, F0, F, ρ, fps, d1, s, e1, fun v1 H1 g1 r1 => lend (s.grow g1) e2 fun v2 H2 g2 s2 r2 => ?_⟩
      exact ix_d o.k e (RepD.mono (fun b _ o e => g2.h b o e) (fun _ z => z) _ _ r1) r2 fun v r => k v _ (g1.trans g2) r
    | _ => cases h
theorem spoil_read {i : Nat} {p : ZE} (hf : fe.getD i .sh = .deep) (D : Ends) (σ : L2.St) (H : Hp) (h : zS M fe (some fe) none fl (sSpoil i p z) D σ H) :
    tBM M.K "list" rAppend (zW M fe p i) (tCons (zT M [] .s z) tNil) σ H fun _ H1 => D.nx σ H1 := by
  obtain ⟨H0, F0, F, ρ, fps, s, q⟩ := h
  obtain ⟨dx, hp, q⟩ := outOk_ok q
  obtain ⟨d, hz, q⟩ := outOk_ok q
  obtain ⟨d2, hc, qq⟩ := outOk_ok q
  cases dx with
  | lst xs =>
    obtain ⟨k1, k2⟩ := chk_ok hc
    refine ⟨H0, F0, F, ρ, fps, _, s, hp, fun v H1 g1 r1 => ?_⟩
    simp only [RepD] at r1
    obtain ⟨a, vs, rfl, ma, qa, za⟩ := r1
    refine ⟨.inl ⟨rfl, _, SqL.of qa⟩, ?_⟩
    refine lend (s.grow g1) hz fun y H2 g2 s2 r2 => ?_
    exact ⟨a, vs, y, rfl, rfl, g2.h _ _ qa, by rw [← RepDs_len za]; exact of_decide_eq_true k1, qq _ rfl _ _ F fps (s2.spoil ma)⟩
  | _ => cases hc
theorem spoil_sound (o : SOk C M X sc) {r0 : Expr} {m : Str} {ap cp pos : Pos} {r : ZR} (h : cSpoil C sc fe r0 m ap.endLine cp.line e = some r) : PS X (.Expr (.Call (.Attribute r0 m ap) [e] [] cp) pos) (zS M fe r.2.1 r.2.2 fl r.1) := by
  obtain ⟨h1, hb⟩ := gd_some h
  obtain ⟨p, h2, hb⟩ := Option.bind_eq_some_iff.mp hb
  obtain ⟨z, h3, h4⟩ := Option.map_eq_some_iff.mp hb
  clear h
  simp only [Bool.and_eq_true, decide_eq_true_eq] at h1
  obtain ⟨⟨⟨c1, c2⟩, c3⟩, c4⟩ := h1
  subst c3
  cases h4
  obtain ⟨f1, f2⟩ := way_sound (M := M) o.toXOk 9 r0 p h2
  have pa := pa_cons ((sound C M _).1 X sc _ _ e _ o.toXOk h3) pa_nil (star_cons c2)
  exact PS.imp (ps_expr (pe_bm PySem.F.plainAttrs_list PySem.F.slot_list_append PySem.F.type_list_append mt_append f2 pa (by cases r0 <;> first | rfl | (exact Bool.noConfusion c4)) (mut_few c2) c1 (star_cons c2) rfl) rfl) fun D σ H z => by
    rw [o.k]
    exact spoil_read f1 D σ H z
theorem ret_read (hw : (fl = .sh ∧ w = .s) ∨ (fl = .own ∧ w = .w) ∨ (fl = .deep ∧ w = .d)) (D : Ends) (σ : L2.St) (H : Hp) (h : zS M fe none none fl (sRet z) D σ H) : zT M fe w z σ H D.rt := by
  obtain ⟨H0, F0, F, ρ, fps, s, q⟩ := h
  obtain ⟨d, hz, q⟩ := outOk_ok q
  refine zT_go s hz fun v H1 F1 g1 s1 r1 => ?_
  rcases hw with ⟨rfl, rfl⟩ | ⟨rfl, rfl⟩ | ⟨rfl, rfl⟩
  · exact q v H1 F1 [] s1.gr r1 fun b hb => (List.not_mem_nil hb).elim
  · obtain ⟨fp, x, fr⟩ := r1
    exact q v H1 F1 fp s1.gr x fun b hb => ⟨s.h0.free (fr b hb).1, (fr b hb).2⟩
  · obtain ⟨fp, x, fr⟩ := r1
    exact q v H1 F1 fp s1.gr x fun b hb => ⟨s.h0.free (fr b hb).1, (fr b hb).2⟩
theorem ret_own {j : Nat} {fl : Fl} (_ : fl = .own ∨ fl = .deep) (hf : fe.getD j .sh = fl) (D : Ends) (σ : L2.St) (H : Hp) (h : zS M fe none none fl (sRet (eVar j)) D σ H) : tVar j σ H D.rt := by
  obtain ⟨H0, F0, F, ρ, fps, s, q⟩ := h
  obtain ⟨d, hz, q⟩ := outOk_ok q
  obtain ⟨v, hv, x⟩ := s.slot j d (look_ok hz)
  rw [hf] at x
  exact ⟨v, hv, q v H F (fps j) s.gr x fun b hb => ⟨(s.out j b hb).2.1, (s.out j b hb).1⟩⟩
theorem ret_sound (o : SOk C M X sc) {pos : Pos} {r : ZS} (h : cRet C sc fl fe e = some r) : PS X (.Return (some e) pos) (zS M fe none none fl r) := by
  cases fl with
  | sh =>
    obtain ⟨p, h1, h2⟩ := Option.map_eq_some_iff.mp h
    subst h2
    obtain ⟨q1, q2, q3⟩ := sh_sound o.toXOk h1
    exact zS.pre (PS.imp (ps_ret q1) fun D σ H z => ret_read (.inl ⟨rfl, rfl⟩) D σ H z) q2
  | own =>
    unfold cRet at h
    dsimp only at h
    split at h
    · rename_i j hj
      cases h
      cases e with
      | Name y q =>
        obtain ⟨h1, hj⟩ := gd_some hj
        obtain ⟨j', h2, hj⟩ := Option.bind_eq_some_iff.mp hj
        obtain ⟨h3, hj⟩ := gd_some hj
        cases hj
        rw [Bool.and_eq_true] at h1
        have cd : (y == ("__classdict__" : Str)) = false := by
          have := h1.1
          unfold plainName at this
          simp only [Bool.and_eq_true, Bool.not_eq_true'] at this
          exact this.1.2
        exact PS.imp (ps_ret (pe_var (i := j) (at_of o.toXOk h2) (vis_of o.toXOk h1.2) (plain_parts h1.1).1 cd)) fun D σ H z => ret_own (.inl rfl) (by simpa using h3) D σ H z
      | _ => cases hj
    · obtain ⟨z, h1, h2⟩ := Option.map_eq_some_iff.mp h
      subst h2
      exact PS.imp (ps_ret ((sound C M _).1 X sc _ _ e _ o.toXOk h1)) fun D σ H z => ret_read (.inr (.inl ⟨rfl, rfl⟩)) D σ H z
  | deep =>
    unfold cRet at h
    dsimp only at h
    split at h
    · rename_i j hj
      cases h
      cases e with
      | Name y q =>
        obtain ⟨h1, hj⟩ := gd_some hj
        obtain ⟨j', h2, hj⟩ := Option.bind_eq_some_iff.mp hj
        obtain ⟨h3, hj⟩ := gd_some hj
        cases hj
        rw [Bool.and_eq_true] at h1
        exact PS.imp (ps_ret (pe_var (i := j) (at_of o.toXOk h2) (vis_of o.toXOk h1.2) (plain_parts h1.1).1 (cd_of h1.1))) fun D σ H z => ret_own (.inr rfl) (by simpa using h3) D σ H z
      | _ => cases hj
    · obtain ⟨z, h1, h2⟩ := Option.map_eq_some_iff.mp h
      subst h2
      exact PS.imp (ps_ret (soundD C M _ X sc _ e _ o.toXOk h1)) fun D σ H z => ret_read (.inr (.inr ⟨rfl, rfl⟩)) D σ H z
  | me => cases h
theorem notSl_folded {k : Expr} (h : notSlice k = true) {X : Cx} {o : Expr} {pos : Pos} (v : Value) : assign (.Subscript o k pos) X.env v = (do
      let ov ← holding [v] (eval o X.env)
      let iv ← holding [v, ov] (eval k X.env)
      standAt pos
      holding [v, ov, iv] (setItem ov iv v)
      release [v, ov, iv] []) := by
  cases k <;> first | rfl | (exact Bool.noConfusion h)
theorem put_sound (o : SOk C M X sc) {x : Str} {k : Expr} {p q pos : Pos} {r : ZR} (h : cPut C sc fe x k e = some r) : PS X (.Assign [.Subscript (.Name x p) k q] e pos) (zS M fe r.2.1 r.2.2 fl r.1) := by
  obtain ⟨h1, hb⟩ := gd_some h
  obtain ⟨i, h2, hb⟩ := Option.bind_eq_some_iff.mp hb
  obtain ⟨pp, h3, hb⟩ := Option.bind_eq_some_iff.mp hb
  obtain ⟨h4, hb⟩ := gd_some hb
  obtain ⟨kz, h5, h6⟩ := Option.map_eq_some_iff.mp hb
  clear h
  subst h6
  simp only [Bool.and_eq_true] at h1
  obtain ⟨⟨c1, c2⟩, c3⟩ := h1
  have h4 : pp.2.getD i .sh = .own := by simpa using h4
  obtain ⟨q1, q2, q3⟩ := sh_sound o.toXOk h3
  refine zS.pre ?_ q2
  have pv := pe_var (pos := p) (i := i) (at_of o.toXOk h2) (vis_of o.toXOk c2) (plain_parts c1).1 (cd_of c1)
  have pk := (sound C M _).1 X sc _ _ k _ o.toXOk h5
  exact PS.imp (ps_asg q1 (pg_sub pv pk (set_z (by have := o.room; omega)) (fun v => notSl_folded c3 v)) (by cases e <;> rfl) (by cases e <;> rfl) rfl) fun D σ H z => put_read h4 D σ H z
theorem fld_sound (o : SOk C M X sc) {x f : Str} {p q pos : Pos} {r : ZR} (h : cFld C sc fe x f e = some r) : PS X (.Assign [.Attribute (.Name x p) f q] e pos) (zS M fe r.2.1 r.2.2 fl r.1) := by
  obtain ⟨h1, hb⟩ := gd_some h
  obtain ⟨i, h2, hb⟩ := Option.bind_eq_some_iff.mp hb
  obtain ⟨pp, h3, hb⟩ := Option.bind_eq_some_iff.mp hb
  obtain ⟨h4, hb⟩ := gd_some hb
  clear h
  cases hb
  simp only [Bool.and_eq_true] at h1
  obtain ⟨⟨c1, c2⟩, c3⟩ := h1
  have h4 : pp.2.getD i .sh = .me := by simpa using h4
  obtain ⟨q1, q2, q3⟩ := sh_sound o.toXOk h3
  refine zS.pre ?_ q2
  have pv := pe_var (pos := p) (i := i) (at_of o.toXOk h2) (vis_of o.toXOk c2) (plain_parts c1).1 (cd_of c1)
  exact PS.imp (ps_fld pv q1 (by cases e <;> rfl)) fun D σ H z => fld_read (fun c C0 e => (o.cls c C0 e).1) (fun c C0 e => (o.cls c C0 e).2 f c3) h4 D σ H z
theorem ex_sound (o : SOk C M X sc) {pos : Pos} {r : ZR} (h : cEx C sc fe e = some r) : PS X (.Expr e pos) (zS M fe r.2.1 r.2.2 fl r.1) := by
  obtain ⟨h1, hb⟩ := gd_some h
  obtain ⟨pp, h3, h4⟩ := Option.map_eq_some_iff.mp hb
  clear h
  subst h4
  obtain ⟨q1, q2, q3⟩ := sh_sound o.toXOk h3
  refine zS.pre ?_ q2
  exact PS.imp (ps_expr q1 (by cases e <;> first | rfl | (exact Bool.noConfusion h1))) fun D σ H z => expr_read D σ H z
theorem a_sound (o : SOk C M X sc) {st : Stmt} {r : ZR} (h : cA C sc fl fe st = some r) : PS X st (zS M fe r.2.1 r.2.2 fl r.1) := by
  unfold cA at h
  split at h
  · cases h
    exact PS.imp ps_pass fun D σ H ⟨H0, F0, F, ρ, fps, s, q⟩ => q _ rfl _ _ F _ s
  · cases h
    exact PS.imp ps_continue fun D σ H ⟨H0, F0, F, ρ, fps, s, q⟩ => q _ rfl _ _ F _ s
  · cases h
    exact PS.imp ps_never fun D σ H ⟨H0, F0, F, ρ, fps, s, q⟩ => q
  · obtain ⟨h1, h⟩ := gd_some h
    cases h
    exact PS.imp ps_retN fun D σ H ⟨H0, F0, F, ρ, fps, s, q⟩ => q .non H F [] s.gr (by cases fl <;> first | (exact absurd h1 (by decide)) | simp only [Val, Rep, RepD]) fun b hb => (List.not_mem_nil hb).elim
  · obtain ⟨z, h1, h2⟩ := Option.map_eq_some_iff.mp h
    subst h2
    exact ret_sound o h1
  · exact set_sound o h
  · exact tup_sound o h
  · exact aug_sound o h
  · exact put_sound o h
  · exact fld_sound o h
  · split at h
    · exact ex_sound o h
    split at h
    · rename_i q hq
      obtain ⟨p1, ap2, p2, rfl, l1, l2⟩ := popOf_ok hq
      exact appPop_sound o l1 l2 h
    · exact mut_sound o h
  · exact spoil_sound o h
  · exact ex_sound o h
  · cases h
end
end Z
/-! Z, part P: statements with statements within; defs. -/
namespace Z
open PySem PySem.Spec PyProof.Rows L2

section
variable {C : CC} {M : Mx} {X : Cx} {sc : Scope} {fe fe2 : List Fl} {w : Wt} {fl : Fl} {e : Expr} {z : ZE}
theorem wkB_ok {a b : List Fl} (h : wkB a b = true) : Wk a b := fun i => by
  unfold wkB at h
  by_cases hi : i < a.length
  · have := List.all_eq_true.mp h i (by simpa using hi)
    simpa using this
  · exact .inr (by rw [List.getD_eq_getElem?_getD, List.getElem?_eq_none (by omega)]; rfl)
theorem owkB_ok {a : List Fl} {b : OF} (h : owkB a b = true) : OWk b (some a) := fun f e => by
  subst e
  exact ⟨a, rfl, wkB_ok h⟩
theorem meetO_wk (a : List Fl) (b : OF) : Wk (meetO a b) a := by
  cases b with
  | none => exact .refl _
  | some b => exact meet_left _ _
theorem fix_ok {f : List Fl → Option ZR} : ∀ {k : Nat} {c : List Fl} {q : List Fl × ZS}, fixL f k c = some q → Wk q.1 c ∧ ∃ fo co, f q.1 = some (q.2, fo, co) ∧ OWk fo (some q.1) ∧ OWk co (some q.1)
  | 0, _, _, h => by cases h
  | k + 1, c, q, h => by
    unfold fixL at h
    split at h
    · cases h
    · rename_i z fo co hf
      split at h
      · rename_i hc
        cases h
        rw [Bool.and_eq_true] at hc
        exact ⟨.refl _, fo, co, hf, owkB_ok hc.1, owkB_ok hc.2⟩
      · obtain ⟨h1, h2⟩ := fix_ok h
        exact ⟨h1.trans ((meetO_wk _ _).trans (meetO_wk _ _)), h2⟩
/-- one behind the other -/
theorem seq_read {a b : ZS} {fo1 co1 fo2 co2 : OF} {f2 : List Fl} (hf : fo1 = some f2) {D : Ends} {σ : L2.St} {H : Hp} (h : zS M fe fo2 (joinO co1 co2) fl (sSeq a b) D σ H) :
    zS M fe fo1 co1 fl a { D with nx := fun σ' H' => zS M f2 fo2 co2 fl b D σ' H' } σ H := by
  obtain ⟨H0, F0, F, ρ, fps, s, q⟩ := h
  refine ⟨H0, F0, F, ρ, fps, s, ?_⟩
  unfold sSeq at q
  cases hz : a ρ with
  | nx ρ1 =>
    rw [hz] at q
    intro fe' e σ1 H1 F1 fps1 s1
    rw [hf] at e
    cases e
    exact ⟨H0, F0, F1, ρ1, fps1, s1, outOk.weak q (.refl _) (join_right _ _)⟩
  | ct ρ1 =>
    rw [hz] at q
    intro fe' e σ1 H1 F1 fps1 s1
    obtain ⟨fe2, e2, w⟩ := join_left co1 co2 fe' e
    obtain ⟨F2, fps2, s2, _⟩ := s1.weak w
    exact q fe2 e2 σ1 H1 F2 fps2 s2
  | rt d => rw [hz] at q; exact q
  | ex c d => rw [hz] at q; exact q
  | no => rw [hz] at q; exact q
theorem if_read {c : ZE} {a b : ZS} {fo1 co1 fo2 co2 : OF} (D : Ends) (σ : L2.St) (H : Hp) (h : zS M fe (joinO fo1 fo2) (joinO co1 co2) fl (sIf c a b) D σ H) :
    tIfS (zTT M c) (zS M fe fo1 co1 fl a) (zS M fe fo2 co2 fl b) D σ H := by
  obtain ⟨H0, F0, F, ρ, fps, s, q⟩ := h
  obtain ⟨d, hz, q⟩ := outOk_ok q
  obtain ⟨k, hk, q⟩ := outOk_ok q
  refine ⟨H0, F0, F, fe, ρ, fps, d, k, s, hz, hk, fun H1 g => ?_⟩
  cases k with
  | true => exact iteT ⟨H0, F0, F, ρ, fps, s.grow g, outOk.weak q (join_left _ _) (join_left _ _)⟩
  | false => exact iteF ⟨H0, F0, F, ρ, fps, s.grow g, outOk.weak q (join_right _ _) (join_right _ _)⟩
theorem forL_cons {α : Type} {kill : List Nat} {f : α → Env → Out} {x : α} {r : List α} {ρ : Env} : forL kill f (x :: r) ρ = match f x ρ with
    | .nx ρ' => forL kill f r (killE kill ρ')
    | .ct ρ' => forL kill f r (killE kill ρ')
    | o => o := rfl
/-- for -/
theorem for_read {kill : List Nat} {it : ZI} {g : ZG} {b : ZS} {c : List Fl} {ss : List Nat} {fo co : OF} (w : Wk c fe) (hfo : OWk fo (some c)) (hco : OWk co (some c)) (D : Ends) (σ : L2.St) (H : Hp) (h : zS M fe (some c) none fl (sFor kill g it b) D σ H) :
    tFor (zI M fe .s it) (zG M c g ss) (zS M (setSh c ss) fo co fl b) D σ H := by
  obtain ⟨H0, F0, F, ρ, fps, s, q⟩ := h
  obtain ⟨xs, hz, q⟩ := outOk_ok q
  refine ⟨H0, F0, F, ρ, fps, xs, s, hz, fun J H1 F1 g1 hY => ?_⟩
  obtain ⟨hlen, hY⟩ := hY
  obtain ⟨Fw, fpw, sw, smw⟩ := ((s.grow g1).kill kill).weak w
  have q := outOk.from_ sw q
  have sw0 := sw.from_
  generalize hbf : (fun x ρ' => ofR (g x ρ') b) = f at q
  refine ⟨fun i m σc Hc => i ≤ xs.length ∧ m = xs.length - i ∧ ∃ Fc ρc fpc, St M H0 Fw σc Hc Fc c ρc fpc ∧ outOk M H0 Fw (some c) none fl D (forL kill f (xs.drop i) ρc), ⟨xs.length, Nat.zero_le _, by omega, Fw, _, fpw, sw0, by rw [List.drop_zero]; exact q⟩, ?_⟩
  rintro i m σc Hc ⟨hi, rfl, Fc, ρc, fpc, sc', qc⟩
  have s1c : Same F1 Fc := smw.trans sc'.f0
  obtain ⟨y1, y2⟩ := hY Hc Fc (s1c.trans sc'.fh) s1c sc'.fh i
  by_cases hlt : i < xs.length
  · obtain ⟨go, yld⟩ := y1 hlt
    refine .inr ⟨go, fun σ' H' => ∃ F' ρ' fp', St M H0 Fw σ' H' F' c ρ' fp' ∧ outOk M H0 Fw (some c) none fl D (forL kill f (xs.drop (i + 1)) (killE kill ρ')), fun σ' H' ⟨F', ρ', fp', s', q'⟩ => ⟨xs.length - (i + 1), by omega, by omega, rfl, F', _, fp', s'.kill kill, q'⟩, fun x Hn hy => ?_⟩
    obtain ⟨dx, Fn, hx, gn, rx⟩ := yld x Hn hy
    have edr : xs.drop i = dx :: xs.drop (i + 1) := by
      rw [List.drop_eq_getElem_cons hlt]
      rw [List.getElem?_eq_getElem hlt] at hx
      cases hx
      rfl
    rw [edr, forL_cons] at qc
    subst hbf
    dsimp only at qc
    cases hg : g dx ρc with
    | no => rw [hg] at qc; exact qc.elim
    | ex c d => rw [hg] at qc; exact qc.elim
    | ok ρ1 =>
      rw [hg, ofR_ok] at qc
      refine ⟨H0, Fw, Fn, ρc, fpc, dx, ρ1, sc'.grow gn, rx, hg, fun σ2 fp2 s2 _ => ⟨H0, Fw, Fn, ρ1, fp2, s2, ?_⟩⟩
      cases hb : b ρ1 with
      | nx ρ2 =>
        rw [hb] at qc
        intro fe' e σ3 H3 F3 fp3 s3
        obtain ⟨f3, e3, w3⟩ := hfo fe' e
        cases e3
        obtain ⟨F4, fp4, s4, _⟩ := s3.weak w3
        exact ⟨F4, ρ2, fp4, s4, qc⟩
      | ct ρ2 =>
        rw [hb] at qc
        intro fe' e σ3 H3 F3 fp3 s3
        obtain ⟨f3, e3, w3⟩ := hco fe' e
        cases e3
        obtain ⟨F4, fp4, s4, _⟩ := s3.weak w3
        exact ⟨F4, ρ2, fp4, s4, qc⟩
      | rt d => rw [hb] at qc; exact qc
      | ex c d => rw [hb] at qc; exact qc
      | no => rw [hb] at qc; exact qc
  · have ei : i = xs.length := by omega
    subst ei
    rw [List.drop_length] at qc
    exact .inl ⟨y2 (Nat.le_refl _), qc c rfl σc Hc Fc fpc sc'⟩
/-- while -/
theorem while_read {kill : List Nat} {t : ZE} {b : ZS} {c : List Fl} {fo co : OF} (w : Wk c fe) (hfo : OWk fo (some c)) (hco : OWk co (some c)) (D : Ends) (σ : L2.St) (H : Hp) (h : zS M fe (some c) none fl (sWhile kill t b) D σ H) :
    tWhile (zTT M t) (zS M c fo co fl b) D σ H := by
  obtain ⟨H0, F0, F, ρ, fps, s, q⟩ := h
  obtain ⟨Fw, fpw, sw, smw⟩ := (s.kill kill).weak w
  refine ⟨fun m σc Hc => ∃ Fc ρc fpc, St M H0 F0 σc Hc Fc c ρc fpc ∧ outOk M H0 F0 (some c) none fl D (whileL kill t b m ρc), ⟨wFuel, Fw, _, fpw, sw, q⟩, ?_⟩
  rintro m σc Hc ⟨Fc, ρc, fpc, sc', qc⟩
  cases m with
  | zero => exact qc.elim
  | succ m =>
    obtain ⟨d, hz, qc⟩ := outOk_ok qc
    obtain ⟨k, hk, qc⟩ := outOk_ok qc
    refine ⟨H0, F0, Fc, c, ρc, fpc, d, k, sc', hz, hk, fun H1 g1 => ?_⟩
    have s1 := sc'.grow g1
    cases k with
    | false => exact iteF (qc c rfl σc H1 Fc fpc s1)
    | true =>
      refine iteT ⟨fun σ' H' => ∃ F' ρ' fp', St M H0 F0 σ' H' F' c ρ' fp' ∧ outOk M H0 F0 (some c) none fl D (whileL kill t b m (killE kill ρ')), fun σ' H' ⟨F', ρ', fp', s', q'⟩ => ⟨m, Nat.lt_succ_self m, F', _, fp', s'.kill kill, q'⟩, H0, F0, Fc, ρc, fpc, s1, ?_⟩
      have qc : outOk M H0 F0 (some c) none fl D (match b ρc with
        | .nx ρ' => whileL kill t b m (killE kill ρ')
        | .ct ρ' => whileL kill t b m (killE kill ρ')
        | o => o) := qc
      cases hb : b ρc with
      | nx ρ2 =>
        rw [hb] at qc
        intro fe' e σ3 H3 F3 fp3 s3
        obtain ⟨f3, e3, w3⟩ := hfo fe' e
        cases e3
        obtain ⟨F4, fp4, s4, _⟩ := s3.weak w3
        exact ⟨F4, ρ2, fp4, s4, qc⟩
      | ct ρ2 =>
        rw [hb] at qc
        intro fe' e σ3 H3 F3 fp3 s3
        obtain ⟨f3, e3, w3⟩ := hco fe' e
        cases e3
        obtain ⟨F4, fp4, s4, _⟩ := s3.weak w3
        exact ⟨F4, ρ2, fp4, s4, qc⟩
      | rt d => rw [hb] at qc; exact qc
      | ex c d => rw [hb] at qc; exact qc
      | no => rw [hb] at qc; exact qc
end
theorem s_sound {C : CC} {M : Mx} {X : Cx} {sc : Scope} {fl : Fl} (o : SOk C M X sc) : ∀ n : Nat,
    (∀ (fe : List Fl) (st : Stmt) (r : ZR), cS n C sc fl fe st = some r → PS X st (zS M fe r.2.1 r.2.2 fl r.1)) ∧
    (∀ (fe : List Fl) (st : List Stmt) (r : ZR), cSs n C sc fl fe st = some r → PSs X st (zS M fe r.2.1 r.2.2 fl r.1)) := by
  intro n
  induction n with
  | zero => exact ⟨fun fe st r h => (by cases h), fun fe st r h => (by cases h)⟩
  | succ n ih =>
    obtain ⟨iS, iL⟩ := ih
    refine ⟨fun fe st r h => ?_, fun fe st r h => ?_⟩
    · cases st with
      | If c a b pos =>
        obtain ⟨t, h1, h⟩ := Option.bind_eq_some_iff.mp h
        obtain ⟨p, h2, h⟩ := Option.bind_eq_some_iff.mp h
        obtain ⟨q, h3, h4⟩ := Option.map_eq_some_iff.mp h
        subst h4
        exact PS.imp (ps_if ((sound C M _).2.2 X sc c t o.toXOk h1) (iL fe a p h2) (iL fe b q h3)) fun D σ H z => if_read D σ H z
      | For tg it body orelse pos =>
        cases orelse with
        | cons _ _ => exact a_sound o h
        | nil =>
          obtain ⟨h0, h⟩ := gd_some h
          obtain ⟨p, h1, h⟩ := Option.bind_eq_some_iff.mp h
          obtain ⟨g, h2, h⟩ := Option.bind_eq_some_iff.mp h
          obtain ⟨q, h3, h4⟩ := Option.map_eq_some_iff.mp h
          subst h4
          obtain ⟨q1, q2, q3⟩ := iter_sound o.toXOk h1
          obtain ⟨f1, fo, co, f2, f3, f4⟩ := fix_ok h3
          refine zS.pre ?_ q2
          have pg := z_tgt (M := M) o.n o.nd o.k o.calm (locOk o) 9 tg g q.1 h2
          exact PS.imp (ps_for o.hp o.calm q1 pg (iL _ body _ f2) (notSet_folded h0)) fun D σ H z => for_read f1 f3 f4 D σ H z
      | While c body orelse pos =>
        cases orelse with
        | cons _ _ => exact a_sound o h
        | nil =>
          obtain ⟨t, h1, h⟩ := Option.bind_eq_some_iff.mp h
          obtain ⟨q, h3, h4⟩ := Option.map_eq_some_iff.mp h
          subst h4
          obtain ⟨f1, fo, co, f2, f3, f4⟩ := fix_ok h3
          exact PS.imp (ps_while o.hp ((sound C M _).2.2 X sc c t o.toXOk h1) (iL _ body _ f2)) fun D σ H z => while_read f1 f3 f4 D σ H z
      | _ => exact a_sound o h
    · cases st with
      | nil =>
        cases h
        exact PSs.imp pss_nil fun D σ H ⟨H0, F0, F, ρ, fps, s, q⟩ => q _ rfl _ _ F _ s
      | cons st rest =>
        obtain ⟨p, h1, h⟩ := Option.bind_eq_some_iff.mp h
        have p1 := iS fe st p h1
        split at h
        · rename_i hn
          cases h
          refine PSs.imp (pss_cons p1 pss_never) fun D σ H ⟨H0, F0, F, ρ, fps, s, q⟩ => ⟨H0, F0, F, ρ, fps, s, ?_⟩
          cases hz : p.1 ρ with
          | nx ρ1 => intro fe' e; rw [hn] at e; cases e
          | ct ρ1 => rw [hz] at q; exact q
          | rt d => rw [hz] at q; exact q
          | ex c d => rw [hz] at q; exact q
          | no => rw [hz] at q; exact q
        · rename_i f2 hf
          cases rest with
          | nil => cases h; exact pss_one p1
          | cons st2 rest =>
            obtain ⟨q, h2, h3⟩ := Option.map_eq_some_iff.mp h
            subst h3
            exact PSs.imp (pss_cons p1 (iL f2 _ q h2)) fun D σ H z => seq_read hf z

/-! ### defs -/
theorem begin_len {nn : Nat} {ds : List D} (h : ds.length ≤ nn) : (begin_ nn ds).length = nn := by
  unfold begin_
  rw [List.length_append, List.length_map, List.length_replicate]
  omega
theorem start_len {N : List Str} {vs : List V} (h : vs.length ≤ N.length) : (L2.start N vs).length = N.length := by
  unfold L2.start
  rw [List.length_append, List.length_map, List.length_replicate]
  omega
theorem st_begin {M : Mx} {H F : Hp} {N : List Str} {ds : List D} {vs : List V} (h : Same F H) (r : Reps M F ds vs) (hl : ds.length ≤ N.length) : St M H F (L2.start N vs) H F (List.replicate N.length .sh) (begin_ N.length ds) (fun _ => []) where
  h0 := .refl _
  f0 := .refl _
  fh := h
  new := fun b z => .inl z
  len := by rw [begin_len hl, start_len (by rw [← r.len]; exact hl)]
  slot := fun i d e => by
    have hi : i < ds.length := by
      by_cases q : i < ds.length
      · exact q
      · unfold begin_ at e
        rw [List.getElem?_append_right (by rw [List.length_map]; omega), List.getElem?_replicate] at e
        split at e <;> cases e
    unfold begin_ at e
    rw [List.getElem?_append_left (by rw [List.length_map]; exact hi), List.getElem?_map, List.getElem?_eq_getElem hi] at e
    cases e
    obtain ⟨v, h1, h2⟩ := r.get (List.getElem?_eq_getElem hi)
    refine ⟨v, ?_, ?_⟩
    · unfold L2.start
      rw [List.getElem?_append_left (by rw [List.length_map, ← r.len]; exact hi), List.getElem?_map, h1]
      rfl
    · have e : (List.replicate N.length Fl.sh).getD i .sh = .sh := by
        rw [List.getD_eq_getElem?_getD, List.getElem?_replicate]
        split <;> rfl
      rw [e]
      exact h2
  out := fun i b hb => (List.not_mem_nil hb).elim
  dis := fun i j b hb => (List.not_mem_nil hb).elim
end Z
/-! Z, part Q: the text's defs keep what they are worth. -/
namespace Z
open PySem PySem.Spec PyProof.Rows L2

/-! ### the object under construction does not matter to what a heap bears -/
section
variable {K : PySem.W.Frag} {cn : Str → Option Addr} {m1 m2 : V}
mutual
theorem Rep.me {H : Hp} : ∀ (d : D) (v : V), Rep ⟨K, cn, m1⟩ H d v → Rep ⟨K, cn, m2⟩ H d v
  | .non, _, h => by simpa only [Rep] using h
  | .bl _, _, h => by simpa only [Rep] using h
  | .int _, _, h => by simpa only [Rep] using h
  | .str _, _, h => by simpa only [Rep] using h
  | .tup xs, v, h => by
    simp only [Rep] at h ⊢
    obtain ⟨a, vs, r, q, z⟩ := h
    exact ⟨a, vs, r, q, Reps.me xs vs z⟩
  | .lst xs, v, h => by
    simp only [Rep] at h ⊢
    obtain ⟨a, vs, r, q, z⟩ := h
    exact ⟨a, vs, r, q, Reps.me xs vs z⟩
  | .dic t ks ds, v, h => by
    simp only [Rep] at h ⊢
    obtain ⟨a, us, r, q, z⟩ := h
    exact ⟨a, us, r, q, Reps.me ds us z⟩
  | .obj c fs ds, v, h => by
    simp only [Rep] at h ⊢
    obtain ⟨a, C, dx, us, r, q, l, c, z⟩ := h
    exact ⟨a, C, dx, us, r, q, l, c, Reps.me ds us z⟩
  | .scr ns, v, h => by
    simp only [Rep] at h ⊢
    exact h
theorem Reps.me {H : Hp} : ∀ (ds : List D) (vs : List V), Reps ⟨K, cn, m1⟩ H ds vs → Reps ⟨K, cn, m2⟩ H ds vs
  | [], _, h => by simpa only [Reps] using h
  | d :: ds, vs, h => by
    simp only [Reps] at h ⊢
    obtain ⟨v, r, q, h1, h2⟩ := h
    exact ⟨v, r, q, Rep.me d v h1, Reps.me ds r h2⟩
end
end
/-- a def of the text, with what it is worth -/
structure DZ where
  d : He.DefD
  key : Str
  N : List Str
  ps : List Str
  fl : Fl
  kills : List (Pos × List Nat)
  dps : List (Nat × Nat)
  dts : List (Nat × Nat)
  fd : Fd
/-- the text: its defs, constants, classes, fields' names -/
structure TX where
  L : List DZ
  cs : List (Str × D)
  cls : List Str
  flds : List Str
def conOf (l : List (Str × D)) : Str → Option D := fun x => l.lookup x
def findD (x : Str) : List DZ → Option DZ
  | [] => none
  | z :: r => if z.key = x then some z else findD x r
theorem findD_some {x : Str} : ∀ {L : List DZ} {z : DZ}, findD x L = some z → z ∈ L ∧ z.key = x
  | [], _, h => by cases h
  | y :: r, z, h => by
    unfold findD at h
    split at h
    · rename_i e; cases h; exact ⟨List.mem_cons_self, e⟩
    · obtain ⟨h1, h2⟩ := findD_some h; exact ⟨List.mem_cons_of_mem _ h1, h2⟩
def tabOf (L : List DZ) : Str → Option Fd := fun x => (findD x L).map (·.fd)
def flOf (L : List DZ) : Str → Fl := fun x => match findD x L with
  | some z => z.fl
  | none => .sh
def isFn (z : DZ) : Bool := match z.d.at_.2 with
  | none => true
  | some _ => false
def isMt (m : Str) (z : DZ) : Bool := match z.d.at_.2 with
  | none => false
  | some n => decide (n = m)
def mflOf (L : List DZ) : Str → Fl := fun m => match L.find? (isMt m) with
  | some z => z.fl
  | none => .sh
def killAt (p : Pos) : List (Pos × List Nat) → List Nat
  | [] => []
  | q :: r => if (q.1.line == p.line && q.1.col == p.col) = true then q.2 else killAt p r
def ini : Str := "__init__"
def ccOf (T : TX) (z : DZ) (call : Call) : CC :=
  { N := z.N, con := conOf T.cs, fn := fun x => match findD x T.L with | some y => isFn y | none => false, fl := flOf T.L, call := call, kills := fun p => killAt p z.kills, dp := fun p => z.dps.any fun q => q.1 == p.line && q.2 == p.col,
    mt := fun m => decide (m ≠ ini) && T.L.any (isMt m), mfl := mflOf T.L, cl := fun x => T.cls.contains x && (findD (keyOf x ini) T.L).isSome, fld := fun f => T.flds.contains f, dt := fun p => z.dts.any fun q => q.1 == p.line && q.2 == p.col }
def sFuel : Nat := 80
def flags0 (z : DZ) : List Fl := match z.fd.ini with
  | none => List.replicate z.N.length .sh
  | some _ => .me :: List.replicate (z.N.length - 1) .sh
def endFl (z : DZ) : OF → Bool
  | none => true
  | some fe => match z.fd.ini with
    | none => true
    | some _ => fe.getD 0 .sh == .me
/-- what the text's tree says is what was written down -/
def Comp (T : TX) (z : DZ) : Prop := ∀ call : Call, (cSs sFuel (ccOf T z call) z.d.scope (if z.fd.ini.isSome = true then .sh else z.fl) (flags0 z) z.d.body).map (fun r => (r.1, endFl z r.2.1)) = some (z.fd.body call, true)
structure Side (z : DZ) : Prop where
  np : z.fd.np = z.ps.length
  nn : z.fd.nn = z.N.length
  le : z.ps.length ≤ z.N.length
  sc : FnScope z.N z.ps z.d.scope
  nm : z.fl ≠ .me
def cnOf (K : PySem.W.Frag) (cls : List Str) : Str → Option Addr := fun c => if cls.contains c = true then some (He.ga K c) else none
/-- what is known of the text's module -/
structure TxtOk (K : PySem.W.Frag) (mg : Str → Option Value) (T : TX) (fa : DZ → Addr × FuncData) : Prop where
  dup : ∀ z ∈ T.L, findD z.key T.L = some z
  fn : ∀ z ∈ T.L, FunD K z.d.name z.d.qual z.d.params z.d.body z.d.scope [] [] (fa z).1 (fa z).2 ∧ Binds K (fa z).2 z.ps []
  glo : ∀ z ∈ T.L, isFn z = true → mg z.key = some (.ref (fa z).1) ∧ z.fd.ini = none
  met : ∀ z ∈ T.L, ∀ c m, c ∈ T.cls → m ≠ ini → T.L.any (isMt m) = true → z.key = keyOf c m → Meth K (He.ga K c) m (fa z).1 ∧ z.fl = mflOf T.L m ∧ z.fd.ini = none
  init : ∀ z ∈ T.L, ∀ c, c ∈ T.cls → z.key = keyOf c ini → Mk K (He.ga K c) (fa z).1 ∧ mg c = some (.ref (He.ga K c)) ∧ z.fd.ini = some c ∧ z.fl = .own
  cls : ∀ c, c ∈ T.cls → Cls K (He.ga K c) ∧ ∀ f, f ∈ T.flds → NoAttr K (He.ga K c) f
  ini_ : ∀ z ∈ T.L, ∀ c, z.fd.ini = some c → c ∈ T.cls ∧ z.fl = .own
  comp : ∀ z ∈ T.L, Comp T z ∧ Side z
  con : ∀ x d, conOf T.cs x = some d → isAtom d = true ∧ ∃ v u, mg x = some u ∧ RelV v u ∧ ∀ M F, Rep M F d v
  free : ∀ x, x ∈ bltNames → mg x = none
theorem runFd_ok {call : Call} {f : Fd} {ds : List D} {r : D} (hi : f.ini = none) (h : runFd call f ds = .ok r) : ds.length = f.np ∧ endD (f.body call (begin_ f.nn ds)) = .ok r := by
  unfold runFd at h
  rw [hi] at h
  obtain ⟨h1, h2⟩ := chk_ok h
  exact ⟨by simpa using h1, h2⟩
theorem runFd_ini {call : Call} {f : Fd} {ds : List D} {r : D} {c : Str} (hi : f.ini = some c) (h : runFd call f ds = .ok r) : ds.length + 1 = f.np ∧ endI (f.body call (begin_ f.nn (.obj c [] [] :: ds))) = .ok r := by
  unfold runFd at h
  rw [hi] at h
  obtain ⟨h1, h2⟩ := chk_ok h
  exact ⟨by simpa using h1, h2⟩
theorem run_fd {L : List DZ} {n : Nat} {x : Str} {ds : List D} {r : D} (h : run (tabOf L) n x ds = .ok r) : ∃ m z, n = m + 1 ∧ findD x L = some z ∧ runFd (run (tabOf L) m) z.fd ds = .ok r := by
  cases n with
  | zero => cases h
  | succ n =>
    unfold run tabOf at h
    cases hz : findD x L with
    | none => rw [hz] at h; cases h
    | some z => rw [hz] at h; exact ⟨n, z, rfl, rfl, h⟩
def LenIs (z : DZ) (ds : List D) : Prop := match z.fd.ini with
  | none => ds.length = z.ps.length
  | some _ => ds.length + 1 = z.ps.length
theorem run_len {L : List DZ} {n : Nat} {x : Str} {z : DZ} (hz : findD x L = some z) (hs : Side z) {ds : List D} {r : D} (h : run (tabOf L) n x ds = .ok r) : LenIs z ds := by
  obtain ⟨m, y, rfl, hy, h⟩ := run_fd h
  rw [hz] at hy
  cases hy
  unfold LenIs
  cases hi : z.fd.ini with
  | none => exact (runFd_ok hi h).1.trans hs.np
  | some c => exact (runFd_ini hi h).1.trans hs.np
/-- what a def promises -/
def spZ (K : PySem.W.Frag) (cls : List Str) (mm : List D → R D) (z : DZ) (me : V) : Sp := match z.fd.ini with
  | none => spOf ⟨K, cnOf K cls, me⟩ z.fl mm z.ps.length
  | some c => spMk ⟨K, cnOf K cls, me⟩ (He.ga K c) z.fl mm z.ps.length
theorem spZ_len {K : PySem.W.Frag} {cls : List Str} {mm : List D → R D} {z : DZ} {me : V} : ∀ vs H Q E, spZ K cls mm z me vs H Q E → vs.length = z.ps.length := by
  intro vs H Q E h
  unfold spZ at h
  cases hi : z.fd.ini with
  | none =>
    rw [hi] at h
    obtain ⟨ds, F, r, h1, h2, h3, h4, h5⟩ := h
    rw [← h1, h3.len]
  | some c =>
    rw [hi] at h
    obtain ⟨a, dx, us, ds, F, H1, d, rfl, h2, h3, h4, h5, h6, h7, h8, h9⟩ := h
    rw [← h6, h8.len]
    rfl
section
variable {P : Program} {w : World} {K : PySem.W.Frag} {mg : Str → Option Value} {base : Heap} {T : TX} {fa : DZ → Addr × FuncData}
theorem mem_cn {c : Str} {C0 : Addr} (h : cnOf K T.cls c = some C0) : c ∈ T.cls ∧ C0 = He.ga K c := by
  unfold cnOf at h
  split at h
  · rename_i hc
    cases h
    exact ⟨by simpa using hc, rfl⟩
  · cases h
theorem sok_of (t : TxtOk K mg T fa) {n : Nat} (ih : ∀ (z : DZ), z ∈ T.L → ∀ me, FnOk P w K mg base CX0 (3 * n) (fa z).1 (fa z).2 z.ps (spZ K T.cls (run (tabOf T.L) n z.key) z me)) {z : DZ} (hs : Side z) {me : V} {cdv : Value} {A : Around} {outer : List PySem.Env} {s : Shared} {H : Hp} {E : XK} (hr : Room (3 * n + 2) (A.deeper (envOfC z.d.qual z.d.scope s.heap.objs.size (fa z).1 cdv))) :
    SOk (ccOf T z (run (tabOf T.L) n)) ⟨K, cnOf K T.cls, me⟩ (cxOf CX0 P w K mg base z.N z.d.qual z.d.scope (fa z).1 cdv A outer s H E).nox z.d.scope where
  n := rfl
  nd := hs.sc.nd
  sc := rfl
  k := rfl
  calm := rfl
  room := by have := hr.un; show (A.deeper _).units + 160 < cLine; omega
  free := t.free
  con := fun x d h => by
    obtain ⟨a, v, u, b, c, q⟩ := t.con x d h
    exact ⟨a, v, u, b, c, q _⟩
  fn := fun x h => by
    have h : (match findD x T.L with | some y => isFn y | none => false) = true := h
    cases hy : findD x T.L with
    | none => rw [hy] at h; cases h
    | some y =>
      rw [hy] at h
      obtain ⟨h6, h7⟩ := findD_some hy
      obtain ⟨G, gb⟩ := t.fn y h6
      obtain ⟨gm, gi⟩ := t.glo y h6 h
      have e : (ccOf T z (run (tabOf T.L) n)).fl x = y.fl := by show flOf T.L x = _; unfold flOf; rw [hy]
      rw [e]
      subst h7
      have F := ih y h6 me
      unfold spZ at F
      rw [gi] at F
      refine ⟨(fa y).1, (fa y).2, y.ps, 3 * n, F, hr, gm, G.kp, gb, fun ds d hd => ?_⟩
      have := run_len hy (t.comp y h6).2 hd
      unfold LenIs at this
      rw [gi] at this
      exact this
  cls := fun c C0 h => by
    obtain ⟨h1, rfl⟩ := mem_cn h
    obtain ⟨h2, h3⟩ := t.cls c h1
    exact ⟨h2, fun f hf => h3 f (by have hf : T.flds.contains f = true := hf; simpa using hf)⟩
  mt := fun m hm c C0 ds d hc he => by
    obtain ⟨h1, rfl⟩ := mem_cn hc
    have hm2 : (decide (m ≠ ini) && T.L.any (isMt m)) = true := hm
    rw [Bool.and_eq_true, decide_eq_true_eq] at hm2
    obtain ⟨hm3, hm4⟩ := hm2
    have he : run (tabOf T.L) n (keyOf c m) ds = .ok d := he
    obtain ⟨k, y, rfl, hy, hf⟩ := run_fd he
    obtain ⟨h6, h7⟩ := findD_some hy
    obtain ⟨G, gb⟩ := t.fn y h6
    obtain ⟨gm, gf, gi⟩ := t.met y h6 c m h1 hm3 hm4 h7
    have F := ih y h6 me
    unfold spZ at F
    rw [gi] at F
    have hl := run_len hy (t.comp y h6).2 he
    unfold LenIs at hl
    rw [gi] at hl
    refine ⟨y.ps.length, hl, (fa y).1, (fa y).2, y.ps, 3 * (k + 1), ?_, hr.mono (by omega), (t.cls c h1).1, gm, gb⟩
    have e : (ccOf T z (run (tabOf T.L) (k + 1))).mfl m = y.fl := gf.symm
    rw [e]
    rw [h7] at F
    exact F
  mak := fun x hx => by
    have hx : (T.cls.contains x && (findD (keyOf x ini) T.L).isSome) = true := hx
    rw [Bool.and_eq_true] at hx
    obtain ⟨y, hy⟩ := Option.isSome_iff_exists.mp hx.2
    obtain ⟨h6, h7⟩ := findD_some hy
    obtain ⟨G, gb⟩ := t.fn y h6
    obtain ⟨g1, g2, g3, g4⟩ := t.init y h6 x (by simpa using hx.1) h7
    have F := ih y h6 me
    unfold spZ at F
    rw [g3] at F
    refine ⟨He.ga K x, (fa y).1, (fa y).2, y.ps, 3 * n, ?_, hr.mono (by omega), g1, g2, gb, fun ds d hd => ?_⟩
    · have e : (ccOf T z (run (tabOf T.L) n)).fl (keyOf x ini) = y.fl := by show flOf T.L _ = _; unfold flOf; rw [hy]
      have e2 : (keyOf x "__init__" : Str) = keyOf x ini := rfl
      rw [e2, e]
      rw [h7] at F
      exact F
    · have := run_len hy (t.comp y h6).2 hd
      unfold LenIs at this
      rw [g3] at this
      exact this
  hp := PassesOwn.never
  fnT := fun _ => rfl
  kind := hs.sc.kind
theorem run_ok (t : TxtOk K mg T fa) : ∀ (n : Nat) (z : DZ), z ∈ T.L → ∀ me,
    FnOk P w K mg base CX0 (3 * n) (fa z).1 (fa z).2 z.ps (spZ K T.cls (run (tabOf T.L) n z.key) z me) := by
  intro n
  induction n with
  | zero =>
    refine fun z hz me => ⟨spZ_len, fun A outer s H args us vs Q E hr e0 hb r h => ?_⟩
    unfold spZ at h
    cases hi : z.fd.ini with
    | none => rw [hi] at h; obtain ⟨ds, F, r, h1, h2, h3, h4, h5⟩ := h; cases h4
    | some c => rw [hi] at h; obtain ⟨a, dx, us, ds, F, H1, d, h1, h2, h3, h4, h5, h6, h7, h8, h9, h10⟩ := h; cases h9
  | succ n ih =>
    intro z hz me
    obtain ⟨F, hb⟩ := t.fn z hz
    obtain ⟨hc, hs⟩ := t.comp z hz
    refine F.ok (k := 3 * n + 2) hs.sc spZ_len fun cdv A outer s H vs Q E hr hsp => ?_
    obtain ⟨⟨bz, fo, co⟩, hcs, hbz⟩ := Option.map_eq_some_iff.mp (hc (run (tabOf T.L) n))
    simp only [Prod.mk.injEq] at hbz
    obtain ⟨hbz, hend⟩ := hbz
    subst hbz
    have hrun : ∀ ds, run (tabOf T.L) (n + 1) z.key ds = runFd (run (tabOf T.L) n) z.fd ds := fun ds => by
      show (match tabOf T.L z.key with | some fd => runFd (run (tabOf T.L) n) fd ds | none => R.no) = _
      unfold tabOf
      rw [t.dup z hz]
      rfl
    unfold spZ at hsp
    cases hi : z.fd.ini with
    | none =>
      rw [hi] at hsp
      obtain ⟨ds, F0, r, h1, h2, h3, h4, h5⟩ := hsp
      have o := sok_of (me := me) (cdv := cdv) (A := A) (outer := outer) (s := s) (H := H) (E := E) t ih hs hr
      have fl0 : flags0 z = List.replicate z.N.length .sh := by unfold flags0; rw [hi]
      have ei : (if z.fd.ini.isSome = true then Fl.sh else z.fl) = z.fl := by rw [hi]; rfl
      rw [fl0, ei] at hcs
      have pb := (s_sound o sFuel).2 _ _ _ hcs
      refine ⟨_, PSs.nox pb, H, F0, F0, begin_ z.N.length ds, fun _ => [], st_begin h2 h3 (by rw [h1]; exact hs.le), ?_⟩
      rw [hrun] at h4
      obtain ⟨_, h6⟩ := runFd_ok hi h4
      rw [hs.nn] at h6
      show outOk _ H F0 fo co z.fl _ (z.fd.body (run (tabOf T.L) n) (begin_ z.N.length ds))
      cases ho : z.fd.body (run (tabOf T.L) n) (begin_ z.N.length ds) with
      | nx ρ =>
        rw [ho] at h6
        cases h6
        intro fe e σ H' F' fps s'
        have nm := hs.nm
        exact h5 .non H' F' [] s'.gr (by cases hz : z.fl <;> first | (exact absurd hz nm) | simp only [Val, Rep, RepD]) fun b hb => (List.not_mem_nil hb).elim
      | ct ρ => rw [ho] at h6; cases h6
      | rt d =>
        rw [ho] at h6
        cases h6
        exact fun v H' F' fp g x fr => h5 v H' F' fp g x fr
      | ex c d => rw [ho] at h6; cases h6
      | no => rw [ho] at h6; cases h6
    | some c =>
      rw [hi] at hsp
      obtain ⟨a, dx, us, ds, F0, H1, d, rfl, rfl, n1, n2, n3, h1, h2, h3, h4, h5⟩ := hsp
      obtain ⟨hcl, hfl⟩ := t.ini_ z hz c hi
      have o := sok_of (me := .ref a) (cdv := cdv) (A := A) (outer := outer) (s := s) (H := upd (upd H1 dx (.own a)) a (.ins (He.ga K c) dx [])) (E := E) t ih hs hr
      have fl0 : flags0 z = .me :: List.replicate (z.N.length - 1) .sh := by unfold flags0; rw [hi]
      have ei : (if z.fd.ini.isSome = true then Fl.sh else z.fl) = .sh := by rw [hi]; rfl
      rw [fl0, ei] at hcs
      have pb := (s_sound o sFuel).2 _ _ _ hcs
      have hle := hs.le
      have hcn : cnOf K T.cls c = some (He.ga K c) := by unfold cnOf; rw [if_pos (by simpa using hcl)]
      have sub : Same H1 (upd (upd H1 dx (.own a)) a (.ins (He.ga K c) dx [])) := fun b o e => by rw [upd_ne (ne_of_none e n1), upd_ne (ne_of_none e n2)]; exact e
      have st : St ⟨K, cnOf K T.cls, .ref a⟩ H1 F0 (L2.start z.N (.ref a :: us)) (upd (upd H1 dx (.own a)) a (.ins (He.ga K c) dx [])) F0 (.me :: List.replicate (z.N.length - 1) .sh) (begin_ z.N.length (.obj c [] [] :: ds)) (fun i => if i = 0 then [a] else []) := by
        refine ⟨sub, .refl _, h2.trans sub, fun b z => .inl z, ?_, fun i d e => ?_, fun i b hb => ?_, fun i j b hb hc => ?_⟩
        · rw [begin_len (by rw [List.length_cons]; omega), start_len (by rw [List.length_cons, ← h3.len]; omega)]
        · have hi : i < (D.obj c [] [] :: ds).length := by
            by_cases q : i < (D.obj c [] [] :: ds).length
            · exact q
            · unfold begin_ at e
              rw [List.getElem?_append_right (by rw [List.length_map]; omega), List.getElem?_replicate] at e
              split at e <;> cases e
          unfold begin_ at e
          rw [List.getElem?_append_left (by rw [List.length_map]; exact hi), List.getElem?_map, List.getElem?_eq_getElem hi] at e
          cases i with
          | zero =>
            cases e
            exact ⟨.ref a, by unfold L2.start; rfl, a, He.ga K c, dx, [], rfl, rfl, upd_same, rfl, hcn, by simp [Reps], rfl⟩
          | succ i =>
            cases e
            have hi' : i < ds.length := by simpa using hi
            obtain ⟨v, q1, q2⟩ := h3.get (List.getElem?_eq_getElem hi')
            have hu : i < us.length := by rw [← h3.len]; exact hi'
            refine ⟨v, ?_, ?_⟩
            · unfold L2.start
              rw [List.getElem?_append_left (by rw [List.length_map, List.length_cons]; omega), List.getElem?_map, List.getElem?_cons_succ, q1]
              rfl
            · have e : (Fl.me :: List.replicate (z.N.length - 1) Fl.sh).getD (i + 1) .sh = .sh := by
                rw [List.getD_eq_getElem?_getD, List.getElem?_cons_succ, List.getElem?_replicate]
                split <;> rfl
              rw [e]
              exact Rep.me _ _ q2
        · by_cases hi : i = 0
          · rw [if_pos hi] at hb
            have eb : b = a := by simpa using hb
            subst eb
            exact ⟨h2.free n1, n1, by rw [upd_same]; simp⟩
          · rw [if_neg hi] at hb; exact (List.not_mem_nil hb).elim
        · by_cases hi : i = 0
          · by_cases hj : j = 0
            · rw [hi, hj]
            · rw [if_neg hj] at hc; exact (List.not_mem_nil hc).elim
          · rw [if_neg hi] at hb; exact (List.not_mem_nil hb).elim
      refine ⟨_, PSs.nox pb, H1, F0, F0, begin_ z.N.length (.obj c [] [] :: ds), _, st, ?_⟩
      rw [hrun] at h4
      obtain ⟨_, h6⟩ := runFd_ini hi h4
      rw [hs.nn] at h6
      show outOk _ H1 F0 fo co .sh _ (z.fd.body (run (tabOf T.L) n) (begin_ z.N.length (.obj c [] [] :: ds)))
      cases ho : z.fd.body (run (tabOf T.L) n) (begin_ z.N.length (.obj c [] [] :: ds)) with
      | nx ρ =>
        rw [ho] at h6
        have h6 : look ρ 0 = .ok d := h6
        intro fe e σ H' F' fps s'
        obtain ⟨v, q1, q2⟩ := s'.slot 0 d (look_ok h6)
        subst e
        have hm : fe.getD 0 .sh = .me := by
          unfold endFl at hend
          rw [hi] at hend
          simpa using hend
        rw [hm] at q2
        cases d with
        | obj c' fs' ds' =>
          obtain ⟨a', C', dx', us', e1, e2, e3, e4, e5, e6, e7⟩ := q2
          have e7 : v = .ref a := e7
          rw [e1] at e7
          cases e7
          refine h5 H' F' [a] s'.gr ?_ fun b hb => ?_
          · rw [hfl]
            exact ⟨a, C', dx', us', rfl, rfl, e3, e4, e5, Reps.me _ _ e6⟩
          · have eb : b = a := by simpa using hb
            subst eb
            have := s'.out 0 b (by rw [e2]; simp)
            exact ⟨this.2.1, this.1⟩
        | _ => exact False.elim q2
      | ct ρ => rw [ho] at h6; cases h6
      | rt d => rw [ho] at h6; cases h6
      | ex c d => rw [ho] at h6; cases h6
      | no => rw [ho] at h6; cases h6
end
end Z
/-! Z, part T: from the head's facts to the text. -/
namespace Z
open PySem PySem.Spec PyProof.Rows L2

def conFa (p : Str × D) : He.Fa := match p.2 with
  | .str z => .str p.1 z
  | .int i => .int p.1 i
  | _ => .glo p.1
def defFa (z : DZ) : He.Fa := match z.d.at_ with
  | (x, none) => .glo x
  | (c, some m) => if m = ini then .mkr c else .meth c m
def factsOf (T : TX) : List He.Fa := T.L.map defFa ++ (bltNames.map .free ++ (T.cs.map conFa ++ (T.cls.map .cls ++ (T.cls.map .glo ++ T.cls.flatMap fun c => T.flds.map fun f => .noat c f))))
def BindOk (z : DZ) : Prop := ∀ (kV doc pm : Value) (an : Option Addr) (cdv ct : Value) (us : List Value), us.length = z.ps.length → bindArgs (PySem.W.fnOf z.d.name z.d.qual z.d.params z.d.body z.d.scope .none kV doc pm an cdv ct) ⟨us, []⟩ = pure (z.ps.zip us)
structure OneOk (T : TX) (z : DZ) : Prop where
  comp : Comp T z
  side : Side z
  bind : BindOk z
  dfl : z.d.dfl = [] ∧ z.d.kwd = []
/-- keys say where a def stands -/
def keysB (T : TX) : Bool := T.L.all fun z => match z.d.at_ with
  | (x, none) => decide (z.key = x) && !z.fd.ini.isSome && T.cls.all fun c => !decide (z.key = keyOf c ini) && T.L.all fun y => match y.d.at_.2 with
      | some m => !decide (z.key = keyOf c m)
      | none => true
  | (x, some n) => decide (z.key = keyOf x n) && T.cls.contains x && (if n = ini then decide (z.fd.ini = some x) && decide (z.fl = .own) else !z.fd.ini.isSome && decide (z.fl = mflOf T.L n)) && T.cls.all fun c => (decide (c = x) || !decide (z.key = keyOf c ini)) && (decide (n = ini) || !decide (z.key = keyOf c ini)) && T.L.all fun y => match y.d.at_.2 with
      | some m => !decide (z.key = keyOf c m) || (decide (c = x) && decide (m = n))
      | none => true
structure TextL (T : TX) : Prop where
  nd : (T.L.map (·.key)).Nodup
  ok : ∀ z ∈ T.L, OneOk T z
  atoms : ∀ p ∈ T.cs, (match p.2 with | .str _ => true | .int _ => true | _ => false) = true
  keys : keysB T = true
theorem allC {α : Type} {P : α → Prop} {a : α} {r : List α} (h : P a) (t : ∀ x ∈ r, P x) : ∀ x ∈ a :: r, P x := fun x hx => by
  rcases List.mem_cons.mp hx with e | e
  · rw [e]; exact h
  · exact t x e
theorem allN {α : Type} {P : α → Prop} : ∀ x ∈ ([] : List α), P x := fun _ h => (List.not_mem_nil h).elim
theorem findD_of : ∀ {L : List DZ}, (L.map (·.key)).Nodup → ∀ z ∈ L, findD z.key L = some z
  | [], _, z, h => (List.not_mem_nil h).elim
  | y :: r, nd, z, h => by
    rw [List.map_cons, List.nodup_cons] at nd
    unfold findD
    rcases List.mem_cons.mp h with e | e
    · rw [e, if_pos rfl]
    · have ne : y.key ≠ z.key := fun q => nd.1 (by rw [q]; exact List.mem_map.mpr ⟨z, e, rfl⟩)
      rw [if_neg ne]
      exact findD_of nd.2 z e
theorem txt_of {K : PySem.W.Frag} {h : Heap} {mg : Str → Option Value} {T : TX} (t : TextL T) (X : K.In h) (G : h.Ns mainGlobals mg) (c : He.SaysD (factsOf T) (T.L.map (·.d)) K) : ∃ fa : DZ → Addr × FuncData, TxtOk K mg T fa := by
  have fact : ∀ f ∈ factsOf T, f.ok K = true := fun f hf => by
    obtain ⟨i, hi⟩ := List.mem_iff_getElem?.mp hf
    exact c.fact i hi
  have fdef : ∀ z ∈ T.L, (defFa z).ok K = true := fun z hz => fact _ (List.mem_append_left _ (List.mem_map.mpr ⟨z, hz, rfl⟩))
  have ffree : ∀ x ∈ bltNames, (He.Fa.free x).ok K = true := fun x hx => fact _ (List.mem_append_right _ (List.mem_append_left _ (List.mem_map.mpr ⟨x, hx, rfl⟩)))
  have fcon : ∀ p ∈ T.cs, (conFa p).ok K = true := fun p hp => fact _ (List.mem_append_right _ (List.mem_append_right _ (List.mem_append_left _ (List.mem_map.mpr ⟨p, hp, rfl⟩))))
  have fcls : ∀ x ∈ T.cls, (He.Fa.cls x).ok K = true := fun x hx => fact _ (List.mem_append_right _ (List.mem_append_right _ (List.mem_append_right _ (List.mem_append_left _ (List.mem_map.mpr ⟨x, hx, rfl⟩)))))
  have fglo : ∀ x ∈ T.cls, (He.Fa.glo x).ok K = true := fun x hx => fact _ (List.mem_append_right _ (List.mem_append_right _ (List.mem_append_right _ (List.mem_append_right _ (List.mem_append_left _ (List.mem_map.mpr ⟨x, hx, rfl⟩))))))
  have fnoat : ∀ x ∈ T.cls, ∀ f ∈ T.flds, (He.Fa.noat x f).ok K = true := fun x hx f hf => fact _ (List.mem_append_right _ (List.mem_append_right _ (List.mem_append_right _ (List.mem_append_right _ (List.mem_append_right _ (List.mem_flatMap.mpr ⟨x, hx, List.mem_map.mpr ⟨f, hf, rfl⟩⟩))))))
  have keys : ∀ z ∈ T.L, _ := List.all_eq_true.mp t.keys
  have fn : ∀ z ∈ T.L, ∃ fd, FunD K z.d.name z.d.qual z.d.params z.d.body z.d.scope [] [] (He.fAd K z.d.at_) fd := fun z hz => by
    obtain ⟨i, hi⟩ := List.mem_iff_getElem?.mp hz
    obtain ⟨fd, F⟩ := c.def_ i (d := z.d) (by rw [List.getElem?_map, hi]; rfl)
    have o := t.ok z hz
    have e1 : z.d.dvs K = [] := by unfold He.DefD.dvs; rw [o.dfl.1]; rfl
    have e2 : z.d.kws K = [] := by unfold He.DefD.kws; rw [o.dfl.2]; rfl
    rw [e1, e2] at F
    exact ⟨fd, F⟩
  refine ⟨fun z => (He.fAd K z.d.at_, match K.lookup (He.fAd K z.d.at_) with | some ⟨_, _, .func fd, _⟩ => fd | _ => default), ⟨findD_of t.nd, fun z hz => ?_, fun z hz hf => ?_, fun z hz x m hx hm ha hk => ?_, fun z hz x hx hk => ?_, fun x hx => ⟨He.cls_ok (fcls x hx), fun f hf => He.noat_ok (fnoat x hx f hf)⟩, fun z hz x hi => ?_, fun z hz => ⟨(t.ok z hz).comp, (t.ok z hz).side⟩, fun x d hx => ?_, fun x hx => ?_⟩⟩
  · obtain ⟨fd, F⟩ := fn z hz
    have e : (match K.lookup (He.fAd K z.d.at_) with | some ⟨_, _, .func fd, _⟩ => fd | _ => default) = fd := by
      obtain ⟨oc, od, dV, kV, doc, pm, an, cdv, ct, osl, h1, h2, _⟩ := F.ex
      rw [h2]
    refine ⟨?_, ?_⟩
    · show FunD K _ _ _ _ _ [] [] _ (match K.lookup (He.fAd K z.d.at_) with | some ⟨_, _, .func fd, _⟩ => fd | _ => default)
      rw [e]; exact F
    · show Binds K (match K.lookup (He.fAd K z.d.at_) with | some ⟨_, _, .func fd, _⟩ => fd | _ => default) z.ps []
      rw [e]
      exact F.bindsN fun kV doc pm an cdv ct us hl => (t.ok z hz).bind kV doc pm an cdv ct us hl
  · have kz := keys z hz
    have fz := fdef z hz
    unfold defFa at fz
    unfold isFn at hf
    generalize hat : z.d.at_ = at_ at kz fz hf
    obtain ⟨x, o⟩ := at_
    cases o with
    | some _ => cases hf
    | none =>
      simp only [Bool.and_eq_true, decide_eq_true_eq] at kz
      refine ⟨?_, ?_⟩
      · rw [kz.1.1]
        have := He.glo_ok X G fz
        rw [this]
        simp only [hat]
        rfl
      · have := kz.1.2
        cases hi : z.fd.ini with
        | none => rfl
        | some _ => rw [hi] at this; simp at this
  · have kz := keys z hz
    have fz := fdef z hz
    unfold defFa at fz
    obtain ⟨y, hy, hym⟩ := List.any_eq_true.mp ha
    have hy2 : y.d.at_.2 = some m := by
      unfold isMt at hym
      split at hym
      · cases hym
      · rename_i n hn
        have := of_decide_eq_true hym
        rw [hn, this]
    generalize hat : z.d.at_ = at_ at kz fz
    obtain ⟨x', o⟩ := at_
    cases o with
    | none =>
      simp only [Bool.and_eq_true, List.all_eq_true] at kz
      have k2 := (kz.2 x hx).2 y hy
      rw [hy2] at k2
      simp [hk] at k2
    | some n =>
      simp only [Bool.and_eq_true, List.all_eq_true] at kz
      have k2 := (kz.2 x hx).2 y hy
      rw [hy2] at k2
      simp only [hk, decide_true, Bool.not_true, Bool.false_or, Bool.and_eq_true, decide_eq_true_eq] at k2
      obtain ⟨rfl, rfl⟩ := k2
      have fz : (if m = ini then He.Fa.mkr x else He.Fa.meth x m).ok K = true := fz
      rw [if_neg hm] at fz
      have k3 := kz.1.2
      rw [if_neg hm] at k3
      simp only [Bool.and_eq_true, decide_eq_true_eq] at k3
      refine ⟨?_, k3.2, ?_⟩
      · simp only [hat]
        exact He.meth_ok fz
      · have := k3.1
        cases hi : z.fd.ini with
        | none => rfl
        | some _ => rw [hi] at this; simp at this
  · have kz := keys z hz
    have fz := fdef z hz
    unfold defFa at fz
    generalize hat : z.d.at_ = at_ at kz fz
    obtain ⟨x', o⟩ := at_
    cases o with
    | none =>
      simp only [Bool.and_eq_true, List.all_eq_true] at kz
      have k2 := (kz.2 x hx).1
      simp [hk] at k2
    | some n =>
      simp only [Bool.and_eq_true, List.all_eq_true] at kz
      have k2 := (kz.2 x hx).1
      simp only [hk, decide_true, Bool.not_true, Bool.or_false, decide_eq_true_eq] at k2
      obtain ⟨rfl, rfl⟩ := k2
      have fz : (if ini = ini then He.Fa.mkr x else He.Fa.meth x ini).ok K = true := fz
      rw [if_pos rfl] at fz
      have k3 := kz.1.2
      rw [if_pos rfl] at k3
      simp only [Bool.and_eq_true, decide_eq_true_eq] at k3
      refine ⟨?_, He.glo_ok X G (fglo x hx), k3.1, k3.2⟩
      simp only [hat]
      exact He.mkr_ok fz
  · have kz := keys z hz
    generalize hat : z.d.at_ = at_ at kz
    obtain ⟨x', o⟩ := at_
    cases o with
    | none =>
      simp only [Bool.and_eq_true] at kz
      have := kz.1.2
      rw [hi] at this
      simp at this
    | some n =>
      simp only [Bool.and_eq_true] at kz
      have k3 := kz.1.2
      split at k3
      · simp only [Bool.and_eq_true, decide_eq_true_eq] at k3
        have e := k3.1
        rw [hi] at e
        cases e
        exact ⟨by simpa using kz.1.1.2, k3.2⟩
      · simp only [Bool.and_eq_true] at k3
        have := k3.1
        rw [hi] at this
        simp at this
  · have hm : (x, d) ∈ T.cs := PySem.mem_of_lookup hx
    have f := fcon _ hm
    have a := t.atoms _ hm
    cases d with
    | str z =>
      obtain ⟨tk, e⟩ := He.str_ok X G (x := x) (z := z) f
      exact ⟨rfl, .str z, _, e, ⟨tk, rfl⟩, fun M F => by simp only [Rep]⟩
    | int i =>
      obtain ⟨tk, e⟩ := He.int_ok X G (x := x) (i := i) f
      exact ⟨rfl, .int i, _, e, ⟨tk, rfl⟩, fun M F => by simp only [Rep]⟩
    | _ => cases a
  · exact He.free_ok X G (ffree x hx)
/-- a law whose own def gives True at every script keeps its promise -/
theorem law_facts {P : Program} {w : World} {K : PySem.W.Frag} {h : Heap} {mg : Str → Option Value} {f : Addr} {T : TX} {n : Nat} {z : DZ} (t : TextL T) (hz : z ∈ T.L) (hk : z.key = "law") (hn : z.d.name = "law") (hf : isFn z = true) (hp : z.ps = [("script" : Str)])
    (X : K.In h) (G : h.Ns mainGlobals mg) (hfa : mg ("law" : Str) = some (.ref f)) (c : He.SaysD (factsOf T) (T.L.map (·.d)) K) :
    ∃ fd : FuncData, (∀ (s : Shared) (v : Value), BindsTo s fd ⟨[v], []⟩ [("script", v)]) ∧ ∀ base : Heap, K.In base → base.Ns mainGlobals mg → FnOk P w K mg base CX0 (3 * n) f fd ["script"] (spOf ⟨K, cnOf K T.cls, .non⟩ z.fl (run (tabOf T.L) n "law") 1) := by
  obtain ⟨fa, Tx⟩ := txt_of t X G c
  obtain ⟨F, hb⟩ := Tx.fn z hz
  obtain ⟨hm, hi⟩ := Tx.glo z hz hf
  rw [hk] at hm
  rw [hn] at F
  have e := hfa.symm.trans hm
  cases e
  have o := t.ok z hz
  have b := FunD.bindsA (ps := ["script"]) F fun kV doc pm an cdv ct us hl => by
    have := o.bind kV doc pm an cdv ct us (by rw [hp]; exact hl)
    rw [hp, hn] at this
    exact this
  refine ⟨_, fun s v => b s [v] rfl, fun base hkk hg => ?_⟩
  have := run_ok (P := P) (w := w) (K := K) (mg := mg) (base := base) Tx n z hz .non
  unfold spZ at this
  rw [hp, hk, hi] at this
  exact this
theorem law_sp {K : PySem.W.Frag} {cn : Str → Option Addr} {L : List DZ} {n : Nat} {fl : Fl} {ns : List Int} {a : Addr} {H : Hp} (hS : SqL K H a (ns.map V.int)) (hr : run (tabOf L) n "law" [.scr ns] = .ok (.bl true)) :
    spOf ⟨K, cn, .non⟩ fl (run (tabOf L) n "law") 1 [.ref a] H (fun v _ => v = .bl true) (fun _ _ _ => False) := by
  refine ⟨[.scr ns], H, .bl true, rfl, .refl _, Reps.cons (by simp only [Rep]; exact ⟨a, rfl, hS⟩) (by simp only [Reps]), hr, fun v H' F' fp g x fr => ?_⟩
  cases fl with
  | sh => have x : Rep ⟨K, cn, .non⟩ F' (.bl true) v := x; simpa only [Rep] using x
  | own => have x : Rep ⟨K, cn, .non⟩ F' (.bl true) v := x; simpa only [Rep] using x
  | deep => have x : RepD ⟨K, cn, .non⟩ H' fp (.bl true) v := x; simpa only [RepD] using x
  | me => exact False.elim x
end Z
/-! Z, part U: plain facts of the combinators, of data that stand for plain values. -/
namespace Z
open PySem PySem.Spec PyProof.Rows

/-! ### plain values as data -/
class En (α : Type) where
  en : α → D
  dep : Nat
  pl : ∀ a, (toPy (en a)).plain = true
  dp : ∀ a, (toPy (en a)).depth ≤ dep
  inj : ∀ a b, PyData.eqv (toPy (en a)) (toPy (en b)) = true ↔ a = b
open En (en)
instance : En Int where
  en := .int
  dep := 0
  pl := fun a => rfl
  dp := fun a => by simp [toPy, PyData.depth]
  inj := fun a b => by simp [toPy, PyData.eqv]
instance : En Bool where
  en := .bl
  dep := 0
  pl := fun a => rfl
  dp := fun a => by simp [toPy, PyData.depth]
  inj := fun a b => by simp [toPy, PyData.eqv]
instance : En Str where
  en := .str
  dep := 0
  pl := fun a => rfl
  dp := fun a => by simp [toPy, PyData.depth]
  inj := fun a b => by simp [toPy, PyData.eqv]
theorem plainAll_map {α : Type} [En α] : ∀ xs : List α, PyData.plainAll (toPys (xs.map en)) = true
  | [] => rfl
  | x :: xs => by simp only [List.map_cons, toPys, PyData.plainAll, En.pl, plainAll_map xs, Bool.and_self]
theorem depthAll_map {α : Type} [En α] : ∀ xs : List α, PyData.depthAll (toPys (xs.map en)) ≤ En.dep α
  | [] => by simp [toPys, PyData.depthAll]
  | x :: xs => by
    have h1 := En.dp x
    have h2 := depthAll_map xs
    simp only [List.map_cons, toPys, PyData.depthAll]
    omega
theorem eqvAll_map {α : Type} [En α] : ∀ xs ys : List α, PyData.eqvAll (toPys (xs.map en)) (toPys (ys.map en)) = true ↔ xs = ys
  | [], [] => by simp [toPys, PyData.eqvAll]
  | [], y :: ys => by simp [toPys, PyData.eqvAll]
  | x :: xs, [] => by simp [toPys, PyData.eqvAll]
  | x :: xs, y :: ys => by simp only [List.map_cons, toPys, PyData.eqvAll, Bool.and_eq_true, En.inj, eqvAll_map xs ys, List.cons.injEq]
instance {α : Type} [En α] : En (List α) where
  en := fun xs => .lst (xs.map en)
  dep := En.dep α + 1
  pl := fun xs => by simp only [toPy, PyData.plain, plainAll_map]
  dp := fun xs => by
    have := depthAll_map xs
    simp only [toPy, PyData.depth]
    omega
  inj := fun xs ys => by simp only [toPy, PyData.eqv, eqvAll_map]
instance {α β : Type} [En α] [En β] : En (α × β) where
  en := fun p => .tup [en p.1, en p.2]
  dep := max (En.dep α) (En.dep β) + 1
  pl := fun p => by simp only [toPy, toPys, PyData.plain, PyData.plainAll, En.pl, Bool.and_self]
  dp := fun p => by
    have h1 := En.dp p.1
    have h2 := En.dp p.2
    simp only [toPy, toPys, PyData.depth, PyData.depthAll]
    omega
  inj := fun p q => by simp only [toPy, toPys, PyData.eqv, PyData.eqvAll, Bool.and_eq_true, En.inj, and_true, Prod.ext_iff]
section
variable {α : Type} [En α] [DecidableEq α]
theorem en_list (xs : List α) : (en xs : D) = .lst (xs.map en) := rfl
theorem fine_en (h : En.dep α ≤ 100) (a : α) : fine (en a) = true := by
  unfold fine
  rw [En.pl, Bool.true_and, decide_eq_true_eq]
  exact Nat.le_trans (En.dp a) h
theorem eqv_en (a b : α) : eqv (en a) (en b) = decide (a = b) := by
  unfold eqv
  rw [Bool.eq_iff_iff, En.inj, decide_eq_true_eq]
theorem eqD_en (h : En.dep α ≤ 100) (a b : α) : eqD (en a) (en b) = .ok (decide (a = b)) := by
  unfold eqD
  rw [fine_en h, fine_en h, eqv_en]
  rfl
theorem inD_en (h : En.dep α ≤ 99) (x : α) (xs : List α) : inD (en x) (.lst (xs.map en)) = .ok (decide (x ∈ xs)) := by
  have h1 : fine (en x) = true := fine_en (by omega) x
  have h2 : fine (.lst (xs.map en)) = true := fine_en (α := List α) (by show En.dep α + 1 ≤ 100; omega) xs
  show chk (fine (en x) && fine (.lst (xs.map en))) (.ok ((xs.map en).any fun y => eqv y (en x))) = _
  rw [h1, h2, Bool.true_and, chk_true]
  congr 1
  rw [Bool.eq_iff_iff, List.any_map, List.any_eq_true, decide_eq_true_eq]
  constructor
  · rintro ⟨y, hy, e⟩
    simp only [Function.comp, eqv_en, decide_eq_true_eq] at e
    rw [← e]; exact hy
  · intro hx
    exact ⟨x, hx, by simp [Function.comp, eqv_en]⟩
theorem eqv_sym_none (a : α) (h : ∀ a : α, PyData.eqv (toPy (en a)) .none = false) : eqv (en a) .non = false := h a
end

/-! ### texts -/
def tx (l : List Nat) : Str := ⟨l.toArray⟩
theorem tx_len (l : List Nat) : (tx l).length = l.length := by show l.toArray.size = _; simp
theorem tx_app (a b : List Nat) : tx a ++ tx b = tx (a ++ b) := by
  show (⟨a.toArray ++ b.toArray⟩ : Str) = ⟨(a ++ b).toArray⟩
  simp
theorem tx_cps (l : List Nat) : (tx l).cps.toList = l := by
  show l.toArray.toList = l
  simp
theorem tx_inj {a b : List Nat} : tx a = tx b ↔ a = b := by
  constructor
  · intro h
    rw [← tx_cps a, ← tx_cps b, h]
  · intro h; rw [h]
theorem tx_of (s : Str) : tx s.cps.toList = s := by
  cases s
  show (⟨_⟩ : Str) = _
  simp

/-! ### steps -/
theorem run_at {T : Str → Option Fd} {n : Nat} {f : Str} {fd : Fd} {ds : List D} (h : T f = some fd) : run T (n + 1) f ds = runFd (run T n) fd ds := by
  show (match T f with | some fd => runFd (run T n) fd ds | none => R.no) = _
  rw [h]
@[simp] theorem sSeq_nx {a b : ZS} {ρ ρ' : Env} (h : a ρ = .nx ρ') : sSeq a b ρ = b ρ' := by unfold sSeq; rw [h]
theorem sSeq_rt {a b : ZS} {ρ : Env} {d : D} (h : a ρ = .rt d) : sSeq a b ρ = .rt d := by unfold sSeq; rw [h]
/-- a for whose body always goes on: the state is a function of what was walked -/
theorem forL_fold {α β : Type} {kill : List Nat} {f : α → Env → Out} (E : β → Env) (g : β → α → β) : ∀ (xs : List α) (b : β), (∀ b x, x ∈ xs → ∃ ρ, (f x (E b) = .nx ρ ∨ f x (E b) = .ct ρ) ∧ killE kill ρ = E (g b x)) → forL kill f xs (E b) = .nx (E (xs.foldl g b))
  | [], b, _ => rfl
  | x :: xs, b, h => by
    obtain ⟨ρ, h1, h2⟩ := h b x List.mem_cons_self
    rw [List.foldl_cons]
    have ih := forL_fold E g xs (g b x) fun b y hy => h b y (List.mem_cons_of_mem _ hy)
    show (match f x (E b) with | .nx ρ' => forL kill f xs (killE kill ρ') | .ct ρ' => forL kill f xs (killE kill ρ') | o => o) = _
    rcases h1 with h1 | h1 <;> rw [h1] <;> (dsimp only; rw [h2]; exact ih)
/-- a for whose body changes nothing, or returns -/
theorem forL_find {α : Type} {kill : List Nat} {f : α → Env → Out} {ρ : Env} (p : α → Option D) : ∀ (xs : List α), (∀ x, x ∈ xs → match p x with | some d => f x ρ = .rt d | none => ∃ ρ', (f x ρ = .nx ρ' ∨ f x ρ = .ct ρ') ∧ killE kill ρ' = ρ) →
    forL kill f xs ρ = match xs.findSome? p with | some d => .rt d | none => .nx ρ
  | [], _ => rfl
  | x :: xs, h => by
    have h1 := h x List.mem_cons_self
    have ih := forL_find p xs fun y hy => h y (List.mem_cons_of_mem _ hy)
    show (match f x ρ with | .nx ρ' => forL kill f xs (killE kill ρ') | .ct ρ' => forL kill f xs (killE kill ρ') | o => o) = _
    rw [List.findSome?_cons]
    cases hp : p x with
    | some d => rw [hp] at h1; dsimp only at h1; rw [h1]
    | none =>
      rw [hp] at h1
      obtain ⟨ρ', h2, h3⟩ := h1
      rcases h2 with h2 | h2 <;> rw [h2] <;> (dsimp only; rw [h3]; exact ih)
/-- a comprehension, item by item -/
theorem compL_map {α : Type} {f : α → R (Option D)} {g : α → Option D} : ∀ (xs : List α), (∀ x, x ∈ xs → f x = .ok (g x)) → compL f xs = .ok (xs.filterMap g)
  | [], _ => rfl
  | x :: xs, h => by
    unfold compL
    rw [h x List.mem_cons_self, compL_map xs fun y hy => h y (List.mem_cons_of_mem _ hy)]
    simp only [R.bind_ok, List.filterMap_cons]
    cases g x <;> rfl
theorem mapR_ok {α β : Type} {f : α → R β} {g : α → β} : ∀ (xs : List α), (∀ x, x ∈ xs → f x = .ok (g x)) → mapR f xs = .ok (xs.map g)
  | [], _ => rfl
  | x :: xs, h => by
    unfold mapR
    rw [h x List.mem_cons_self, mapR_ok xs fun y hy => h y (List.mem_cons_of_mem _ hy)]
    rfl
theorem boolsOf_map : ∀ bs : List Bool, boolsOf (bs.map .bl) = .ok bs
  | [] => rfl
  | b :: bs => by unfold boolsOf; rw [List.map_cons]; simp only [boolsOf_map bs, R.bind_ok]
theorem intsOf_map : ∀ bs : List Int, intsOf (bs.map .int) = .ok bs
  | [] => rfl
  | b :: bs => by unfold intsOf; rw [List.map_cons]; simp only [intsOf_map bs, R.bind_ok]
/-- a for by a word of the state -/
theorem forL_inv {α : Type} {kill : List Nat} {f : α → Env → Out} (P : Nat → Env → Prop) : ∀ (xs : List α) (i : Nat) (ρ : Env), P i ρ → (∀ j x ρ, xs[j]? = some x → P (i + j) ρ → ∃ ρ', (f x ρ = .nx ρ' ∨ f x ρ = .ct ρ') ∧ P (i + j + 1) (killE kill ρ')) → ∃ ρ', forL kill f xs ρ = .nx ρ' ∧ P (i + xs.length) ρ'
  | [], i, ρ, h, _ => ⟨ρ, rfl, h⟩
  | x :: xs, i, ρ, h, st => by
    obtain ⟨ρ1, h1, h2⟩ := st 0 x ρ rfl h
    obtain ⟨ρ2, h3, h4⟩ := forL_inv P xs (i + 1) (killE kill ρ1) h2 fun j y ρ hy hp => by
      have e : i + 1 + j = i + (j + 1) := by omega
      rw [e] at hp ⊢
      exact st (j + 1) y ρ (by simpa using hy) hp
    refine ⟨ρ2, ?_, by rw [List.length_cons]; have e : i + (xs.length + 1) = i + 1 + xs.length := by omega
                       rw [e]; exact h4⟩
    show (match f x ρ with | .nx ρ' => forL kill f xs (killE kill ρ') | .ct ρ' => forL kill f xs (killE kill ρ') | o => o) = _
    rcases h1 with h1 | h1 <;> rw [h1] <;> exact h3

/-! ### one step, for the simplifier -/
section
variable {ρ : Env} {a b c : ZE} {i j : Nat} {d x y : D} {op op2 : CmpOp}
@[simp] theorem q_var : eVar i ρ = look ρ i := rfl
@[simp] theorem q_look : look ρ i = match ρ[i]? with | some (some d) => R.ok d | _ => R.no := rfl
@[simp] theorem q_lit : eLit d ρ = .ok d := rfl
@[simp] theorem q_args0 : eArgs [] ρ = .ok [] := rfl
@[simp] theorem q_args {z : ZE} {zs : List ZE} : eArgs (z :: zs) ρ = (z ρ).bind fun d => (eArgs zs ρ).bind fun ds => .ok (d :: ds) := rfl
@[simp] theorem q_lst {zs : List ZE} : eLst zs ρ = (eArgs zs ρ).bind fun ds => .ok (.lst ds) := rfl
@[simp] theorem q_tup {zs : List ZE} : eTup zs ρ = (eArgs zs ρ).bind fun ds => .ok (.tup ds) := rfl
@[simp] theorem q_bin {o : Operator} : eBin o a b ρ = (a ρ).bind fun x => (b ρ).bind fun y => binD o x y := rfl
@[simp] theorem q_neg : eNeg a ρ = (a ρ).bind negD := rfl
@[simp] theorem q_not : eNot a ρ = (a ρ).bind fun x => (truD x).bind fun b => .ok (.bl (!b)) := rfl
@[simp] theorem q_cmp : eCmp op a b ρ = (a ρ).bind fun x => (b ρ).bind fun y => (cmpD op x y).bind fun k => .ok (.bl k) := rfl
@[simp] theorem q_cmp2 : eCmp2 op op2 a b c ρ = (a ρ).bind fun x => (b ρ).bind fun y => (cmpD op x y).bind fun k => if k = true then (c ρ).bind fun z => (cmpD op2 y z).bind fun k2 => .ok (.bl k2) else .ok (.bl false) := rfl
@[simp] theorem q_and : eAnd a b ρ = (a ρ).bind fun x => (truD x).bind fun k => if k = true then b ρ else .ok x := rfl
@[simp] theorem q_or : eOr a b ρ = (a ρ).bind fun x => (truD x).bind fun k => if k = true then .ok x else b ρ := rfl
@[simp] theorem q_ite : eIte c a b ρ = (c ρ).bind fun x => (truD x).bind fun k => if k = true then a ρ else b ρ := rfl
@[simp] theorem q_ix : eIx a b ρ = (a ρ).bind fun x => (b ρ).bind fun y => ixD x y := rfl
@[simp] theorem q_part0 : ePart none ρ = .ok none := rfl
@[simp] theorem q_part : ePart (some a) ρ = (a ρ).bind fun d => match d with | .int i => .ok (some i) | _ => .no := rfl
@[simp] theorem q_cut {l h : Option ZE} : eCut a l h ρ = (a ρ).bind fun x => (ePart l ρ).bind fun l => (ePart h ρ).bind fun h => cutD x l h := rfl
@[simp] theorem q_blt {f : Blt} {zs : List ZE} : eBlt f zs ρ = (eArgs zs ρ).bind fun ds => bltD f ds := rfl
@[simp] theorem q_isi {t : String} : eIsi a t ρ = (a ρ).bind fun x => isiD x t := rfl
@[simp] theorem q_call {call : Call} {f : Str} {zs : List ZE} : eCall call f zs ρ = (eArgs zs ρ).bind fun ds => call f ds := rfl
@[simp] theorem q_sortK {call : Call} {f : Str} : eSortK call f a ρ = (a ρ).bind fun x => sortKD call f x := rfl
@[simp] theorem q_flat : eFlat a ρ = (a ρ).bind fun d => chk (flat d) (.ok d) := rfl
@[simp] theorem q_iseq : iSeq a ρ = (a ρ).bind seqD := rfl
@[simp] theorem q_irange {zs : List ZE} : iRange zs ρ = (eArgs zs ρ).bind rangeD := rfl
@[simp] theorem q_izip : iZip a b ρ = (a ρ).bind fun x => (b ρ).bind fun y => zipD x y := rfl
@[simp] theorem q_ienum : iEnum a ρ = (a ρ).bind enumD := rfl
@[simp] theorem q_gN : gN i d ρ = .ok (ρ.set i (some d)) := rfl
@[simp] theorem q_gT {gs : List ZG} {ds : List D} : gT gs (.tup ds) ρ = gEach gs ds ρ := rfl
@[simp] theorem q_gE0 : gEach [] [] ρ = .ok ρ := rfl
@[simp] theorem q_gE {g : ZG} {gs : List ZG} {ds : List D} : gEach (g :: gs) (d :: ds) ρ = (g d ρ).bind fun ρ1 => gEach gs ds ρ1 := rfl
@[simp] theorem q_kill0 : killE [] ρ = ρ := rfl
@[simp] theorem q_kill {ks : List Nat} : killE (i :: ks) ρ = killE ks (ρ.set i none) := rfl
@[simp] theorem q_nil : sNil ρ = .nx ρ := rfl
@[simp] theorem q_seq {s t : ZS} : sSeq s t ρ = match s ρ with | .nx ρ' => t ρ' | o => o := rfl
@[simp] theorem q_set : sSet i a ρ = ofR (a ρ) fun d => .nx (ρ.set i (some d)) := rfl
@[simp] theorem q_move : sMove i j ρ = ofR (look ρ j) fun d => .nx ((ρ.set j none).set i (some d)) := rfl
@[simp] theorem q_unp {g : ZG} : sUnp g a ρ = ofR (a ρ) fun d => ofR (g d ρ) .nx := rfl
@[simp] theorem q_par {is : List Nat} {zs : List ZE} : sPar is zs ρ = ofR (eArgs zs ρ) fun ds => .nx ((is.zip ds).foldl (fun r p => r.set p.1 (some p.2)) ρ) := rfl
@[simp] theorem q_aug {o : Operator} : sAug o i a ρ = ofR (look ρ i) fun x => ofR (a ρ) fun y => ofR (chk (isAtom x && isAtom y) (binD o x y)) fun z => .nx (ρ.set i (some z)) := rfl
@[simp] theorem q_step {l h : Option ZE} {z : ZE} : eStep a l h z ρ = (a ρ).bind fun x => (ePart l ρ).bind fun l => (ePart h ρ).bind fun h => (ePart (some z) ρ).bind fun s => stepD x l h s := rfl
@[simp] theorem q_ret : sRet a ρ = ofR (a ρ) .rt := rfl
@[simp] theorem q_retN : sRetN ρ = .rt .non := rfl
@[simp] theorem q_if {s t : ZS} : sIf c s t ρ = ofR (c ρ) fun x => ofR (truD x) fun k => if k = true then s ρ else t ρ := rfl
@[simp] theorem q_cont : sCont ρ = .ct ρ := rfl
@[simp] theorem q_app : sApp i a ρ = ofR (a ρ) fun d => ofR (look ρ i) fun x => ofR (appD x d) fun z => .nx (ρ.set i (some z)) := rfl
@[simp] theorem q_ext : sExt i a ρ = ofR (a ρ) fun d => ofR (look ρ i) fun x => ofR (extD x d) fun z => .nx (ρ.set i (some z)) := rfl
@[simp] theorem q_appPop : sAppPop i j a ρ = ofR (a ρ) fun k => ofR (look ρ j) fun y => ofR (popD y k) fun p => ofR (look ρ i) fun x => ofR (appD x p.1) fun z => .nx ((ρ.set j (some p.2)).set i (some z)) := rfl
@[simp] theorem q_spoil : sSpoil i a b ρ = ofR (a ρ) fun x => ofR (b ρ) fun d => ofR (appD x d) fun _ => .nx (ρ.set i none) := rfl
@[simp] theorem q_tests0 : tests [] ρ = .ok true := rfl
@[simp] theorem q_tests {cs : List ZE} : tests (c :: cs) ρ = (c ρ).bind fun x => (truD x).bind fun k => if k = true then tests cs ρ else .ok false := rfl
@[simp] theorem q_compF {own : List Nat} {g : ZG} {cs : List ZE} : compF own g cs a ρ x = (g x (killE own ρ)).bind fun ρ1 => (tests cs ρ1).bind fun k => if k = true then (a ρ1).bind fun y => .ok (some y) else .ok none := rfl
theorem q_comp {own : List Nat} {g : ZG} {it : ZI} {cs : List ZE} : eComp own g it cs a ρ = (it ρ).bind fun xs => (compL (compF own g cs a ρ) xs).bind fun ys => .ok (.lst ys) := rfl
theorem q_for {kl : List Nat} {g : ZG} {it : ZI} {s : ZS} : sFor kl g it s ρ = ofR (it ρ) fun xs => forL kl (fun x ρ' => ofR (g x ρ') s) xs (killE kl ρ) := rfl
@[simp] theorem q_end_rt : endD (.rt d) = .ok d := rfl
@[simp] theorem q_end_nx : endD (.nx ρ) = .ok .non := rfl
end
/-! ### operators on data that are there -/
section
variable {i j : Int} {x y : Str} {xs ys : List D}
@[simp] theorem b_add : binD .Add (.int i) (.int j) = .ok (.int (i + j)) := rfl
@[simp] theorem b_sub : binD .Sub (.int i) (.int j) = .ok (.int (i - j)) := rfl
theorem b_mul (h : i.natAbs < 2 ^ 64 ∨ j.natAbs < 2 ^ 64) : binD .Mult (.int i) (.int j) = .ok (.int (i * j)) := by
  show chk (decide _) _ = _
  rw [decide_eq_true h]; rfl
theorem b_div (h : 0 < j ∧ j < 1073741824) : binD .FloorDiv (.int i) (.int j) = .ok (.int (i / j)) := by
  show chk (decide _) _ = _
  rw [decide_eq_true h]; rfl
theorem b_mod (h : 0 < j) : binD .Mod (.int i) (.int j) = .ok (.int (i % j)) := by
  show chk (decide _) _ = _
  rw [decide_eq_true h]; rfl
theorem b_pow (h : 0 ≤ j ∧ j ≤ 1000000 ∧ i.natAbs < 2 ^ 64) : binD .Pow (.int i) (.int j) = .ok (.int (i ^ j.toNat)) := by
  show chk (decide _) _ = _
  rw [decide_eq_true h]; rfl
theorem b_adds (h : x.length + y.length ≤ sizeLine) : binD .Add (.str x) (.str y) = .ok (.str (x ++ y)) := by
  show chk (decide _) _ = _
  rw [decide_eq_true h]; rfl
theorem b_addl (h : xs.length + ys.length ≤ sizeLine) : binD .Add (.lst xs) (.lst ys) = .ok (.lst (xs ++ ys)) := by
  show chk (decide _) _ = _
  rw [decide_eq_true h]; rfl
@[simp] theorem c_lt : cmpD .Lt (.int i) (.int j) = .ok (decide (i < j)) := rfl
@[simp] theorem c_le : cmpD .LtE (.int i) (.int j) = .ok (decide (i ≤ j)) := rfl
@[simp] theorem c_gt : cmpD .Gt (.int i) (.int j) = .ok (decide (j < i)) := rfl
@[simp] theorem c_ge : cmpD .GtE (.int i) (.int j) = .ok (decide (j ≤ i)) := rfl
@[simp] theorem c_eq {a b : D} : cmpD .Eq a b = eqD a b := rfl
@[simp] theorem c_ne {a b : D} : cmpD .NotEq a b = notR (eqD a b) := rfl
@[simp] theorem c_in {a b : D} : cmpD .In a b = inD a b := rfl
@[simp] theorem c_nin {a b : D} : cmpD .NotIn a b = notR (inD a b) := rfl
@[simp] theorem c_is {a : D} : cmpD .Is a .non = .ok (isNone a) := by cases a <;> rfl
@[simp] theorem c_isb {a b : Bool} : cmpD .Is (.bl a) (.bl b) = .ok (decide (a = b)) := rfl
@[simp] theorem c_isnb {a b : Bool} : cmpD .IsNot (.bl a) (.bl b) = .ok (!decide (a = b)) := rfl
@[simp] theorem c_isn {a : D} : cmpD .IsNot a .non = .ok (!isNone a) := by cases a <;> rfl
@[simp] theorem n_ok {b : Bool} : notR (.ok b) = .ok (!b) := rfl
@[simp] theorem t_bl {b : Bool} : truD (.bl b) = .ok b := rfl
@[simp] theorem t_lst : truD (.lst xs) = .ok (!xs.isEmpty) := rfl
@[simp] theorem f_len : bltD .len [.lst xs] = .ok (.int xs.length) := rfl
@[simp] theorem f_lenS {ns : List Int} : bltD .len [.scr ns] = .ok (.int ns.length) := rfl
@[simp] theorem f_int : bltD .int [.int i] = .ok (.int i) := rfl
@[simp] theorem f_intb {b : Bool} : bltD .int [.bl b] = .ok (.int (if b then 1 else 0)) := rfl
@[simp] theorem f_list : bltD .list [.lst xs] = .ok (.lst xs) := rfl
@[simp] theorem f_all {bs : List Bool} : bltD .all [.lst (bs.map .bl)] = .ok (.bl (bs.all id)) := by show (boolsOf _).bind _ = _; rw [boolsOf_map]; rfl
@[simp] theorem f_any {bs : List Bool} : bltD .any [.lst (bs.map .bl)] = .ok (.bl (bs.any id)) := by show (boolsOf _).bind _ = _; rw [boolsOf_map]; rfl
@[simp] theorem f_sum {bs : List Int} : bltD .sum [.lst (bs.map .int)] = .ok (.int bs.sum) := by show (intsOf _).bind _ = _; rw [intsOf_map]; rfl
theorem f_app {d : D} (h : xs.length < sizeLine) : appD (.lst xs) d = .ok (.lst (xs ++ [d])) := by
  show chk (decide _) _ = _
  rw [decide_eq_true h]; rfl
theorem f_range {n : Nat} (h : n ≤ 16000000) : rangeD [.int n] = .ok ((List.range n).map fun (k : Nat) => .int k) := by
  show chk (decide _) _ = _
  rw [decide_eq_true (by omega)]; rfl
theorem sizeLine_big : 16777216 ≤ sizeLine := by rw [sizeLine_eq]; exact Nat.le_refl _
end
end Z
/-! Z, part V: what many laws' own helpers give, in plain words. -/
namespace Z
open PySem PySem.Spec PyProof.Rows
open En (en)

/-- the numbers drawn from one of the script's -/
def zNumbersB : ZS := (sIf (eCmp .GtE (eVar 3) (eBin .Pow (eLit (.int 10)) (eLit (.int 18)))) (sSeq (sApp 4 (eBin .Mod (eVar 3) (eLit (.int 1009)))) (sSet 3 (eBin .FloorDiv (eVar 3) (eLit (.int 1009))))) (sSeq (sSet 6 (eBin .Mod (eBin .Add (eBin .Add (eBin .Mult (eVar 3) (eLit (.int 48271))) (eBin .Mult (eBin .Add (eVar 5) (eLit (.int 1))) (eLit (.int 69621)))) (eBin .Mult (eVar 1) (eLit (.int 4001)))) (eLit (.int 2147483647)))) (sSeq (sSet 6 (eBin .Mod (eBin .Add (eBin .Mult (eVar 6) (eVar 6)) (eBin .Mult (eLit (.int 16807)) (eBin .Add (eVar 5) (eLit (.int 3))))) (eLit (.int 2147483629)))) (sApp 4 (eBin .Mod (eBin .FloorDiv (eVar 6) (eLit (.int 7))) (eLit (.int 1009)))))))
def zNumbers : ZS := (sSeq (sSet 3 (eBin .Mult (eLit (.int 1000003)) (eBin .Add (eVar 1) (eLit (.int 1))))) (sSeq (sIf (eCmp .Lt (eVar 1) (eBlt .len [(eVar 0)])) (sSet 3 (eBlt .int [(eIx (eVar 0) (eVar 1))])) sNil) (sSeq (sIf (eCmp .Lt (eVar 3) (eLit (.int 0))) (sSet 3 (eBin .Sub (eLit (.int 1)) (eBin .Mult (eLit (.int 2)) (eVar 3)))) sNil) (sSeq (sSet 4 (eLst [])) (sSeq (sFor [5, 6] (gN 5) (iRange [(eVar 2)]) zNumbersB) (sRet (eVar 4)))))))
theorem numbers_body (scr : D) (at_ : Int) (cnt : D) (c : Int) (xs : List Int) (k : Nat) (hc : 0 ≤ c) (hl : xs.length = k) (hk : k ≤ 1000000) (hb : ∀ x ∈ xs, 0 ≤ x ∧ x < 1009) : ∃ (c' : Int) (x : Int) (m : Option D), 0 ≤ c' ∧ 0 ≤ x ∧ x < 1009 ∧
    zNumbersB [some scr, some (.int at_), some cnt, some (.int c), some (.lst (xs.map .int)), some (.int k), none] = .nx [some scr, some (.int at_), some cnt, some (.int c'), some (.lst ((xs ++ [x]).map .int)), some (.int k), m] := by
  have big := sizeLine_big
  have la : ∀ d : D, appD (.lst (xs.map .int)) d = .ok (.lst (xs.map .int ++ [d])) := fun d => f_app (by rw [List.length_map]; omega)
  by_cases h : 1000000000000000000 ≤ c
  · refine ⟨c / 1009, c % 1009, none, by omega, by omega, by omega, ?_⟩
    simp [zNumbersB, b_pow, b_mod, b_div, la, h]
  · refine ⟨c, ((((c * 48271 + (k + 1) * 69621 + at_ * 4001) % 2147483647) * ((c * 48271 + (k + 1) * 69621 + at_ * 4001) % 2147483647) + 16807 * (k + 3)) % 2147483629) / 7 % 1009, some (.int ((((c * 48271 + (k + 1) * 69621 + at_ * 4001) % 2147483647) * ((c * 48271 + (k + 1) * 69621 + at_ * 4001) % 2147483647) + 16807 * (k + 3)) % 2147483629)), hc, by omega, by omega, ?_⟩
    have m1 : binD .Mult (.int c) (.int 48271) = .ok (.int (c * 48271)) := b_mul (.inr (by decide))
    have m2 : binD .Mult (.int (k + 1)) (.int 69621) = .ok (.int ((k + 1) * 69621)) := b_mul (.inr (by decide))
    have m3 : binD .Mult (.int at_) (.int 4001) = .ok (.int (at_ * 4001)) := b_mul (.inr (by decide))
    have m4 : binD .Mult (.int 16807) (.int (k + 3)) = .ok (.int (16807 * (k + 3))) := b_mul (.inl (by decide))
    have m5 : ∀ z : Int, binD .Mult (.int (z % 2147483647)) (.int (z % 2147483647)) = .ok (.int (z % 2147483647 * (z % 2147483647))) := fun z => b_mul (.inl (by omega))
    simp [zNumbersB, b_pow, b_mod, b_div, la, h, m1, m2, m3, m4, m5]
theorem sFor_inv {kl : List Nat} {g : ZG} {it : ZI} {b : ZS} {ρ0 : Env} {xs : List D} (hit : it ρ0 = .ok xs) (P : Nat → Env → Prop) (h0 : P 0 (killE kl ρ0)) (st : ∀ j x ρ, xs[j]? = some x → P j ρ → ∃ ρ1 ρ', g x ρ = .ok ρ1 ∧ (b ρ1 = .nx ρ' ∨ b ρ1 = .ct ρ') ∧ P (j + 1) (killE kl ρ')) :
    ∃ ρ', sFor kl g it b ρ0 = .nx ρ' ∧ P xs.length ρ' := by
  obtain ⟨ρ', h1, h2⟩ := forL_inv (f := fun x ρ' => ofR (g x ρ') b) (kill := kl) P xs 0 (killE kl ρ0) h0 fun j x ρ hx hp => by
    rw [Nat.zero_add] at hp ⊢
    obtain ⟨ρ1, ρ', e1, e2, e3⟩ := st j x ρ hx hp
    exact ⟨ρ', by rw [e1]; exact e2, e3⟩
  rw [Nat.zero_add] at h2
  exact ⟨ρ', by rw [q_for, hit]; exact h1, h2⟩
theorem range_at {n j : Nat} {x : D} (h : ((List.range n).map fun (k : Nat) => D.int k)[j]? = some x) : j < n ∧ x = .int j := by
  have hj : j < n := by
    have := (List.getElem?_eq_some_iff.mp h).1
    simpa using this
  rw [List.getElem?_map, List.getElem?_range hj] at h
  exact ⟨hj, (Option.some.inj h).symm⟩
theorem numbers_ok (ns : List Int) (a n : Nat) (hn : n ≤ 1000000) : ∃ xs : List Int, endD (zNumbers [some (.scr ns), some (.int a), some (.int n), none, none, none, none]) = .ok (.lst (xs.map .int)) ∧ xs.length = n ∧ ∀ x ∈ xs, 0 ≤ x ∧ x < 1009 := by
  have key : ∀ c0 : Int, 0 ≤ c0 → ∃ (c : Int) (xs : List Int), sFor [5, 6] (gN 5) (iRange [(eVar 2)]) zNumbersB [some (.scr ns), some (.int a), some (.int n), some (.int c0), some (.lst []), none, none] = .nx [some (.scr ns), some (.int a), some (.int n), some (.int c), some (.lst (xs.map .int)), none, none] ∧ xs.length = n ∧ ∀ x ∈ xs, 0 ≤ x ∧ x < 1009 := fun c0 h0 => by
    let P : Nat → Env → Prop := fun i ρ => ∃ (c : Int) (xs : List Int), ρ = [some (.scr ns), some (.int a), some (.int n), some (.int c), some (.lst (xs.map .int)), none, none] ∧ 0 ≤ c ∧ xs.length = i ∧ ∀ x ∈ xs, 0 ≤ x ∧ x < 1009
    obtain ⟨ρ', h1, c, xs, e, _, h4, h5⟩ := sFor_inv (kl := [5, 6]) (g := gN 5) (it := iRange [(eVar 2)]) (b := zNumbersB) (ρ0 := [some (.scr ns), some (.int a), some (.int n), some (.int c0), some (.lst []), none, none]) (xs := (List.range n).map fun (k : Nat) => .int k) (by simp [f_range (n := n) (by omega)])
      P ⟨c0, [], by simp, h0, rfl, fun x hx => (List.not_mem_nil hx).elim⟩ (by
        rintro j x ρ hx ⟨c, xs, rfl, hc, hl, hb⟩
        obtain ⟨hj, rfl⟩ := range_at hx
        obtain ⟨c', x, m, h1, h2, h3, h4⟩ := numbers_body (.scr ns) a (.int n) c xs j hc hl (by omega) hb
        refine ⟨_, _, rfl, .inl (by simpa using h4), c', xs ++ [x], by simp, h1, by simp [hl], fun y hy => ?_⟩
        rcases List.mem_append.mp hy with hy | hy
        · exact hb y hy
        · have : y = x := by simpa using hy
          rw [this]; exact ⟨h2, h3⟩)
    subst e
    exact ⟨c, xs, h1, by simpa using h4, h5⟩
  have m1 : binD .Mult (.int 1000003) (.int (a + 1)) = .ok (.int (1000003 * (a + 1))) := b_mul (.inl (by decide))
  have m2 : ∀ z : Int, binD .Mult (.int 2) (.int z) = .ok (.int (2 * z)) := fun z => b_mul (.inl (by decide))
  have fin : ∀ cell : Int, ∃ c0, 0 ≤ c0 ∧ (if cell < 0 then 1 - 2 * cell else cell) = c0 := fun cell => ⟨_, by split <;> omega, rfl⟩
  by_cases h : a < ns.length
  · obtain ⟨c0, h0, e0⟩ := fin ns[a]
    obtain ⟨c, xs, h1, h2, h3⟩ := key c0 h0
    refine ⟨xs, ?_, h2, h3⟩
    have ix : ixD (.scr ns) (.int a) = .ok (.int ns[a]) := by
      have : L2.atI ns (a : Int) = some ns[a] := L2.atI_nat (List.getElem?_eq_getElem h)
      simp [ixD, this]
    by_cases hneg : ns[a] < 0
    · rw [if_pos hneg] at e0
      simp [zNumbers, m1, m2, h, ix, hneg, e0, h1]
    · rw [if_neg hneg] at e0
      subst e0
      simp [zNumbers, m1, m2, h, ix, hneg, h1]
  · obtain ⟨c, xs, h1, h2, h3⟩ := key (1000003 * (a + 1)) (by omega)
    refine ⟨xs, ?_, h2, h3⟩
    have hneg : ¬ (1000003 * ((a : Int) + 1) < 0) := by omega
    simp [zNumbers, m1, m2, h, hneg, h1]
end Z
/-! Z, part W: the names that many laws draw. -/
namespace Z
open PySem PySem.Spec PyProof.Rows
open En (en)

theorem ix_tx {l : List Nat} {i c : Nat} (h : l[i]? = some c) (hl : l.length ≤ 16777216) : ixD (.str (tx l)) (.int i) = .ok (.str (tx [c])) := by
  have h1 : L2.atI l (i : Int) = some c := L2.atI_nat h
  show chk (decide ((tx l).length ≤ sizeLine)) (match L2.atI l (i : Int) with | some c => R.ok (D.str ⟨#[c]⟩) | none => R.no) = _
  have h2 : decide ((tx l).length ≤ sizeLine) = true := decide_eq_true (by rw [tx_len]; exact Nat.le_trans hl sizeLine_big)
  rw [h2, h1]
  rfl
theorem ix_txl {l : List Nat} {c : Nat} (hl : (l ++ [c]).length ≤ 16777216) : ixD (.str (tx (l ++ [c]))) (.int (-1)) = .ok (.str (tx [c])) := by
  have h1 : L2.atI (l ++ [c]) (-1) = some c := L2.atI_last l c
  show chk (decide ((tx (l ++ [c])).length ≤ sizeLine)) (match L2.atI (l ++ [c]) (-1) with | some c => R.ok (D.str ⟨#[c]⟩) | none => R.no) = _
  have h2 : decide ((tx (l ++ [c])).length ≤ sizeLine) = true := decide_eq_true (by rw [tx_len]; exact Nat.le_trans hl sizeLine_big)
  rw [h2, h1]
  rfl
theorem ix_lst {xs : List D} {i : Nat} {d : D} (h : xs[i]? = some d) : ixD (.lst xs) (.int i) = .ok d := by
  have h1 : L2.atI xs (i : Int) = some d := L2.atI_nat h
  show (match L2.atI xs (i : Int) with | some d => R.ok d | none => R.no) = _
  rw [h1]
theorem ix_lstl {xs : List D} {d : D} : ixD (.lst (xs ++ [d])) (.int (-1)) = .ok d := by
  have h1 : L2.atI (xs ++ [d]) (-1) = some d := L2.atI_last xs d
  show (match L2.atI (xs ++ [d]) (-1) with | some d => R.ok d | none => R.no) = _
  rw [h1]
theorem cut_tx1 {l : List Nat} (hl : l.length ≤ 16777216) : cutD (.str (tx l)) (some 1) none = .ok (.str (tx (l.drop 1))) := by
  have h2 : decide ((tx l).length ≤ sizeLine) = true := decide_eq_true (by rw [tx_len]; exact Nat.le_trans hl sizeLine_big)
  show chk (decide ((tx l).length ≤ sizeLine)) (R.ok (D.str (L2.cutS (tx l) (some 1) none))) = _
  rw [h2]
  have e : L2.cutS (tx l) (some 1) none = tx (l.drop 1) := by
    unfold L2.cutS
    rw [tx_len]
    have e1 : HT.sIx l.length 0 (some 1) = min 1 l.length := HT.sIx_nat l.length 0 1
    rw [e1, HT.sIx_none]
    show tx ((l.drop (min 1 l.length)).take (l.length - min 1 l.length)) = tx (l.drop 1)
    cases l with
    | nil => rfl
    | cons c r =>
      have e2 : min 1 (c :: r).length = 1 := by simp
      rw [e2]
      simp
  rw [e]
  rfl
theorem len_tx {l : List Nat} (hl : l.length ≤ 16777216) : bltD .len [.str (tx l)] = .ok (.int l.length) := by
  have h2 : decide ((tx l).length ≤ sizeLine) = true := decide_eq_true (by rw [tx_len]; exact Nat.le_trans hl sizeLine_big)
  show chk (decide ((tx l).length ≤ sizeLine)) (R.ok (D.int (tx l).length)) = _
  rw [h2, tx_len]
  rfl
theorem add_tx {a b : List Nat} (h : a.length + b.length ≤ 16777216) : binD .Add (.str (tx a)) (.str (tx b)) = .ok (.str (tx (a ++ b))) := by
  rw [b_adds (by rw [tx_len, tx_len]; exact Nat.le_trans h sizeLine_big), tx_app]

def al : List Nat := (List.range 26).map (97 + ·)
def alnum : List Nat := al ++ (List.range 10).map (48 + ·)
theorem lit_al : (("abcdefghijklmnopqrstuvwxyz" : String) : Str) = tx al := by decide +kernel
theorem lit_num : (("0123456789" : String) : Str) = tx ((List.range 10).map (48 + ·)) := by decide +kernel
theorem al_at {i : Nat} (h : i < 26) : al[i]? = some (97 + i) := by unfold al; rw [List.getElem?_map, List.getElem?_range h]; rfl
theorem al_len : al.length = 26 := by decide
theorem alnum_len : alnum.length = 36 := by decide
/-- a sign of a name -/
def sgn (c : Nat) : Prop := (97 ≤ c ∧ c ≤ 122) ∨ (48 ≤ c ∧ c ≤ 57)
theorem alnum_at {i : Nat} (h : i < 36) : ∃ c, alnum[i]? = some c ∧ sgn c := by
  unfold alnum
  by_cases h2 : i < 26
  · exact ⟨97 + i, by rw [List.getElem?_append_left (by rw [al_len]; exact h2)]; exact al_at h2, .inl ⟨by omega, by omega⟩⟩
  · refine ⟨48 + (i - 26), ?_, .inr ⟨by omega, by omega⟩⟩
    rw [List.getElem?_append_right (by rw [al_len]; omega), al_len, List.getElem?_map, List.getElem?_range (by omega)]
    rfl
/-- a name: up to 12 signs, the first a letter -/
structure Nm (l : List Nat) : Prop where
  head : ∃ c r, l = c :: r ∧ 97 ≤ c ∧ c ≤ 122
  len : l.length ≤ 12
  all : ∀ c ∈ l, sgn c
def zNameB : ZS := (sSeq (sSet 2 (eBin .Mod (eBin .Add (eBin .Add (eBin .Add (eBin .Mult (eVar 2) (eLit (.int 8191))) (eVar 0)) (eBin .Mult (eVar 6) (eLit (.int 77)))) (eLit (.int 5))) (eLit (.int 1000003)))) (sSet 5 (eBin .Add (eVar 5) (eIx (eVar 4) (eBin .Mod (eVar 2) (eLit (.int 36)))))))
def zName : ZS := (sSeq (sSet 3 (eLit (.str "abcdefghijklmnopqrstuvwxyz"))) (sSeq (sSet 4 (eBin .Add (eVar 3) (eLit (.str "0123456789")))) (sSeq (sSet 5 (eIx (eVar 3) (eBin .Mod (eVar 0) (eLit (.int 26))))) (sSeq (sFor [6] (gN 6) (iRange [(eBin .Mod (eVar 1) (eLit (.int 12)))]) zNameB) (sRet (eVar 5))))))
theorem name_body (f s m k : Nat) (l : List Nat) (hl : l.length ≤ 100) : ∃ m' c : Nat, sgn c ∧ zNameB [some (.int f), some (.int s), some (.int m), some (.str (tx al)), some (.str (tx alnum)), some (.str (tx l)), some (.int k)] =
    .nx [some (.int f), some (.int s), some (.int m'), some (.str (tx al)), some (.str (tx alnum)), some (.str (tx (l ++ [c]))), some (.int k)] := by
  have e1 : ((m : Int) * 8191 + f + k * 77 + 5) % 1000003 = (((m * 8191 + f + k * 77 + 5) % 1000003 : Nat) : Int) := by omega
  generalize hm : (m * 8191 + f + k * 77 + 5) % 1000003 = m' at e1
  obtain ⟨q, e2, hq⟩ : ∃ q : Nat, (m' : Int) % 36 = (q : Int) ∧ q < 36 := ⟨m' % 36, by omega, by omega⟩
  obtain ⟨c, hc1, hc2⟩ := alnum_at hq
  refine ⟨m', c, hc2, ?_⟩
  have m1 : binD .Mult (.int m) (.int 8191) = .ok (.int (m * 8191)) := b_mul (.inr (by decide))
  have m2 : binD .Mult (.int k) (.int 77) = .ok (.int (k * 77)) := b_mul (.inr (by decide))
  have i1 := ix_tx hc1 (by rw [alnum_len]; omega)
  have a1 := add_tx (a := l) (b := [c]) (by simp; omega)
  simp [zNameB, m1, m2, b_mod, e1, e2, i1, a1]
theorem lit_app : tx al ++ tx ((List.range 10).map (48 + ·)) = tx alnum := by rw [tx_app]; rfl
theorem name_ok (f s m : Nat) : ∃ l, endD (zName [some (.int f), some (.int s), some (.int m), none, none, none, none]) = .ok (.str (tx l)) ∧ Nm l := by
  let P : Nat → Env → Prop := fun i ρ => ∃ (m : Nat) (l : List Nat), ρ = [some (.int f), some (.int s), some (.int m), some (.str (tx al)), some (.str (tx alnum)), some (.str (tx l)), none] ∧ l.length = i + 1 ∧ (∃ c r, l = c :: r ∧ 97 ≤ c ∧ c ≤ 122) ∧ ∀ c ∈ l, sgn c
  obtain ⟨sn, hn, hs⟩ : ∃ q : Nat, (s : Int) % 12 = (q : Int) ∧ q < 12 := ⟨s % 12, by omega, by omega⟩
  obtain ⟨fn, hf, hfl⟩ : ∃ q : Nat, (f : Int) % 26 = (q : Int) ∧ q < 26 := ⟨f % 26, by omega, by omega⟩
  have hc : al[fn]? = some (97 + fn) := al_at hfl
  obtain ⟨ρ', h1, m', l, e, h2, h3, h4⟩ := sFor_inv (kl := [6]) (g := gN 6) (it := iRange [(eBin .Mod (eVar 1) (eLit (.int 12)))]) (b := zNameB) (ρ0 := [some (.int f), some (.int s), some (.int m), some (.str (tx al)), some (.str (tx alnum)), some (.str (tx [97 + fn])), none]) (xs := (List.range sn).map fun (k : Nat) => .int k)
    (by simp [b_mod, hn, f_range (n := sn) (by omega)]) P ⟨m, [97 + fn], by simp, rfl, ⟨_, _, rfl, by omega, by omega⟩, fun c hc => by
      have : c = 97 + fn := by simpa using hc
      exact .inl ⟨by omega, by omega⟩⟩ (by
      rintro j x ρ hx ⟨m, l, rfl, h2, ⟨c0, r, h3, h5, h6⟩, h4⟩
      obtain ⟨hj, rfl⟩ := range_at hx
      obtain ⟨m', c, h7, h8⟩ := name_body f s m j l (by omega)
      refine ⟨_, _, rfl, .inl (by simpa using h8), m', l ++ [c], by simp, by simp [h2], ⟨c0, r ++ [c], by rw [h3]; rfl, h5, h6⟩, fun d hd => ?_⟩
      rcases List.mem_append.mp hd with hd | hd
      · exact h4 d hd
      · have : d = c := by simpa using hd
        rw [this]; exact h7)
  subst e
  have hl : l.length ≤ 12 := by
    rw [List.length_map, List.length_range] at h2
    omega
  refine ⟨l, ?_, ⟨h3, hl, h4⟩⟩
  have i1 := ix_tx hc (by rw [al_len]; omega)
  have a1 : binD .Add (.str (tx al)) (.str (tx ((List.range 10).map (48 + ·)))) = .ok (.str (tx alnum)) := by rw [b_adds (by rw [tx_len, tx_len]; exact Nat.le_trans (by decide) sizeLine_big), lit_app]
  simp [zName, lit_al, lit_num, a1, b_mod, hf, i1, h1]

/-! ### names, one not like another -/
theorem pigeon {α : Type} [DecidableEq α] : ∀ {xs ys : List α}, xs.Nodup → (∀ x ∈ xs, x ∈ ys) → xs.length ≤ ys.length
  | [], _, _, _ => Nat.zero_le _
  | x :: xs, ys, nd, h => by
    rw [List.nodup_cons] at nd
    have hx := h x List.mem_cons_self
    have ih := pigeon (xs := xs) (ys := ys.erase x) nd.2 fun y hy => by
      have ne : y ≠ x := fun e => nd.1 (by rw [← e]; exact hy)
      exact (List.mem_erase_of_ne ne).mpr (h y (List.mem_cons_of_mem _ hy))
    rw [List.length_erase_of_mem hx] at ih
    have : 0 < ys.length := List.length_pos_of_mem hx
    rw [List.length_cons]
    omega
/-- the first sign is changed while the name is there already -/
def nmIter (fs : List (List Nat)) (one : Nat) (l : List Nat) : Nat → List Nat
  | 0 => l
  | i + 1 => if nmIter fs one l i ∈ fs then (97 + (one + i) % 26) :: (nmIter fs one l i).drop 1 else nmIter fs one l i
theorem nmIter_nm {fs : List (List Nat)} {one : Nat} {l : List Nat} (h : Nm l) : ∀ i, Nm (nmIter fs one l i) ∧ (nmIter fs one l i).drop 1 = l.drop 1
  | 0 => ⟨h, rfl⟩
  | i + 1 => by
    obtain ⟨h1, h2⟩ := nmIter_nm h i
    unfold nmIter
    split
    · obtain ⟨c, r, e, _⟩ := h1.head
      refine ⟨⟨⟨_, _, rfl, by omega, by omega⟩, ?_, fun d hd => ?_⟩, by simpa using h2⟩
      · have := h1.len
        rw [e] at this ⊢
        simpa using this
      · rcases List.mem_cons.mp hd with hd | hd
        · exact .inl ⟨by omega, by omega⟩
        · exact h1.all d (List.mem_of_mem_drop hd)
    · exact ⟨h1, h2⟩
theorem nmIter_stay {fs : List (List Nat)} {one : Nat} {l : List Nat} {i : Nat} (h : nmIter fs one l i ∉ fs) : ∀ k, nmIter fs one l (i + k) = nmIter fs one l i
  | 0 => rfl
  | k + 1 => by
    have ih := nmIter_stay h k
    show (if nmIter fs one l (i + k) ∈ fs then _ else nmIter fs one l (i + k)) = _
    rw [ih, if_neg h]
theorem nmIter_new {fs : List (List Nat)} {one : Nat} {l : List Nat} (hf : fs.length < 26) : nmIter fs one l 26 ∉ fs := fun bad => by
  have all : ∀ i, i ≤ 26 → nmIter fs one l i ∈ fs := fun i hi => by
    by_cases h : nmIter fs one l i ∈ fs
    · exact h
    · have := nmIter_stay h (26 - i)
      rw [show i + (26 - i) = 26 by omega] at this
      rw [this] at bad
      exact absurd bad h
  have form : ∀ i, i < 26 → nmIter fs one l (i + 1) = (97 + (one + i) % 26) :: l.drop 1 := fun i => by
    induction i with
    | zero => intro hi; show (if nmIter fs one l 0 ∈ fs then _ else _) = _; rw [if_pos (all 0 (by omega))]; rfl
    | succ i ih =>
      intro hi
      show (if nmIter fs one l (i + 1) ∈ fs then _ else _) = _
      rw [if_pos (all (i + 1) (by omega)), ih (by omega)]
      rfl
  have := pigeon (xs := (List.range 26).map fun i => nmIter fs one l (i + 1)) (ys := fs) (by
    rw [List.nodup_iff_pairwise_ne, List.pairwise_map]
    refine List.Pairwise.imp_of_mem ?_ (List.nodup_range (n := 26))
    intro a b ha hb hne e
    rw [List.mem_range] at ha hb
    rw [form a ha, form b hb] at e
    have e := (List.cons.inj e).1
    omega) (fun x hx => by
    obtain ⟨i, hi, rfl⟩ := List.mem_map.mp hx
    rw [List.mem_range] at hi
    exact all (i + 1) (by omega))
  rw [List.length_map, List.length_range] at this
  omega
end Z
/-! Z, part X: lists of names. -/
namespace Z
open PySem PySem.Spec PyProof.Rows
open En (en)

def dtx (l : List Nat) : D := .str (tx l)
theorem in_tx (l : List Nat) (fs : List (List Nat)) : inD (.str (tx l)) (.lst (fs.map dtx)) = .ok (decide (l ∈ fs)) := by
  have h := inD_en (α := Str) (by show (0 : Nat) ≤ 99; omega) (tx l) (fs.map tx)
  rw [List.map_map] at h
  have e : (tx l ∈ fs.map tx) ↔ l ∈ fs := by
    constructor
    · intro h
      obtain ⟨m, h1, h2⟩ := List.mem_map.mp h
      rw [tx_inj] at h2
      rw [← h2]; exact h1
    · intro h; exact List.mem_map.mpr ⟨l, h, rfl⟩
  rw [decide_eq_decide.mpr e] at h
  exact h
def zNamesI : ZS := (sIf (eCmp .In (eVar 5) (eVar 3)) (sSet 5 (eBin .Add (eIx (eVar 2) (eBin .Mod (eBin .Add (eVar 7) (eVar 6)) (eLit (.int 26)))) (eCut (eVar 5) (some (eLit (.int 1))) none))) sNil)
def zNamesB (call : Call) : ZS := (sSeq (sPar [7, 8, 9] [(eIx (eVar 0) (eBin .Mult (eLit (.int 3)) (eVar 4))), (eIx (eVar 0) (eBin .Add (eBin .Mult (eLit (.int 3)) (eVar 4)) (eLit (.int 1)))), (eIx (eVar 0) (eBin .Add (eBin .Mult (eLit (.int 3)) (eVar 4)) (eLit (.int 2))))]) (sSeq (sSet 5 (eCall call "_law_name" [(eVar 7), (eVar 8), (eVar 9)])) (sSeq (sIf (eAnd (eCmp .Gt (eVar 4) (eLit (.int 0))) (eAnd (eCmp .Eq (eBin .Mod (eVar 9) (eLit (.int 3))) (eLit (.int 0))) (eCmp .Lt (eBlt .len [(eIx (eVar 3) (eNeg (eLit (.int 1))))]) (eLit (.int 12))))) (sSet 5 (eBin .Add (eIx (eVar 3) (eNeg (eLit (.int 1)))) (eIx (eVar 5) (eNeg (eLit (.int 1)))))) sNil) (sSeq (sFor [6] (gN 6) (iRange [(eLit (.int 26))]) zNamesI) (sApp 3 (eVar 5))))))
def zNames (call : Call) : ZS := (sSeq (sSet 2 (eLit (.str "abcdefghijklmnopqrstuvwxyz"))) (sSeq (sSet 3 (eLst [])) (sSeq (sFor [4, 5, 6, 7, 8, 9] (gN 4) (iRange [(eVar 1)]) (zNamesB call)) (sRet (eVar 3)))))
section
variable {nums cnt : D} {fs : List (List Nat)} {k one : Nat} {size mix : D} {l : List Nat}
theorem namesI_ok {st : Nat} (h : Nm l) : zNamesI [some nums, some cnt, some (.str (tx al)), some (.lst (fs.map dtx)), some (.int k), some (.str (tx l)), some (.int st), some (.int one), some size, some mix] =
    .nx [some nums, some cnt, some (.str (tx al)), some (.lst (fs.map dtx)), some (.int k), some (.str (tx (if l ∈ fs then (97 + (one + st) % 26) :: l.drop 1 else l))), some (.int st), some (.int one), some size, some mix] := by
  have hl := h.len
  have i0 := in_tx l fs
  by_cases hm : l ∈ fs
  · obtain ⟨q, e, hq, eq⟩ : ∃ q : Nat, ((one : Int) + st) % 26 = (q : Int) ∧ q < 26 ∧ (one + st) % 26 = q := ⟨(one + st) % 26, by omega, by omega, rfl⟩
    have i1 := ix_tx (al_at hq) (by rw [al_len]; omega)
    have c1 := cut_tx1 (l := l) (by omega)
    have a1 := add_tx (a := [97 + q]) (b := l.drop 1) (by simp; omega)
    simp [zNamesI, i0, hm, b_mod, e, i1, c1, a1, eq, -List.drop_one]
  · simp [zNamesI, i0, hm]
theorem namesI_loop (h : Nm l) : sFor [6] (gN 6) (iRange [(eLit (.int 26))]) zNamesI [some nums, some cnt, some (.str (tx al)), some (.lst (fs.map dtx)), some (.int k), some (.str (tx l)), none, some (.int one), some size, some mix] =
    .nx [some nums, some cnt, some (.str (tx al)), some (.lst (fs.map dtx)), some (.int k), some (.str (tx (nmIter fs one l 26))), none, some (.int one), some size, some mix] := by
  let E : Nat → Env := fun i => [some nums, some cnt, some (.str (tx al)), some (.lst (fs.map dtx)), some (.int k), some (.str (tx (nmIter fs one l i))), none, some (.int one), some size, some mix]
  obtain ⟨ρ', h1, h2⟩ := sFor_inv (kl := [6]) (g := gN 6) (it := iRange [(eLit (.int 26))]) (b := zNamesI) (ρ0 := E 0) (xs := (List.range 26).map fun (k : Nat) => .int k) (f_range (n := 26) (by omega)) (fun i ρ => ρ = E i) rfl (by
    rintro j x ρ hx rfl
    obtain ⟨hj, rfl⟩ := range_at hx
    exact ⟨_, _, rfl, .inl (namesI_ok (nmIter_nm h j).1), rfl⟩)
  rw [List.length_map, List.length_range] at h2
  rw [h2] at h1
  exact h1
end
/-- the numbers, as they are read -/
def dns (ns : List Nat) : D := .lst (ns.map fun (n : Nat) => .int n)
theorem ix_ns {ns : List Nat} {i : Int} {j : Nat} (hi : i = j) (h : j < ns.length) : ixD (dns ns) (.int i) = .ok (.int (ns[j] : Nat)) := by
  subst hi
  exact ix_lst (by rw [List.getElem?_map, List.getElem?_eq_getElem h]; rfl)
theorem snoc_of {α : Type} : ∀ {l : List α}, l ≠ [] → ∃ r z, l = r ++ [z]
  | [], h => absurd rfl h
  | [x], _ => ⟨[], x, rfl⟩
  | x :: y :: l, _ => by
    obtain ⟨r, z, e⟩ := snoc_of (l := y :: l) (by simp)
    exact ⟨x :: r, z, by rw [e]; rfl⟩
theorem names_body (call : Call) (hcall : ∀ f s m : Nat, ∃ l, call "_law_name" [.int f, .int s, .int m] = .ok (.str (tx l)) ∧ Nm l) {ns : List Nat} {cnt : D} {fs : List (List Nat)} {k : Nat} (hk : fs.length = k) (h26 : k < 26) (hn : 3 * k + 2 < ns.length) (hf : ∀ l ∈ fs, Nm l) :
    ∃ (l : List Nat) (a b c d e : Option D), Nm l ∧ l ∉ fs ∧ zNamesB call [some (dns ns), some cnt, some (.str (tx al)), some (.lst (fs.map dtx)), some (.int k), none, none, none, none, none] =
      .nx [some (dns ns), some cnt, some (.str (tx al)), some (.lst ((fs ++ [l]).map dtx)), some (.int k), a, b, c, d, e] := by
  have m1 : binD .Mult (.int 3) (.int k) = .ok (.int (3 * k)) := b_mul (.inl (by decide))
  have i0 := ix_ns (ns := ns) (i := 3 * (k : Int)) (j := 3 * k) (by omega) (by omega)
  have i1 := ix_ns (ns := ns) (i := 3 * (k : Int) + 1) (j := 3 * k + 1) (by omega) (by omega)
  have i2 := ix_ns (ns := ns) (i := 3 * (k : Int) + 2) (j := 3 * k + 2) (by omega) (by omega)
  generalize ns[3 * k] = n0 at i0
  generalize ns[3 * k + 1] = n1 at i1
  generalize ns[3 * k + 2] = n2 at i2
  obtain ⟨l0, c0, hl0⟩ := hcall n0 n1 n2
  have big := sizeLine_big
  have ap : ∀ d : D, appD (.lst (fs.map dtx)) d = .ok (.lst (fs.map dtx ++ [d])) := fun d => f_app (by rw [List.length_map]; omega)
  have fin : ∀ l1 : List Nat, Nm l1 → ∃ l, Nm l ∧ l ∉ fs ∧ sSeq (sFor [6] (gN 6) (iRange [(eLit (.int 26))]) zNamesI) (sApp 3 (eVar 5)) [some (dns ns), some cnt, some (.str (tx al)), some (.lst (fs.map dtx)), some (.int k), some (.str (tx l1)), none, some (.int n0), some (.int n1), some (.int n2)] =
      .nx [some (dns ns), some cnt, some (.str (tx al)), some (.lst ((fs ++ [l]).map dtx)), some (.int k), some (.str (tx l)), none, some (.int n0), some (.int n1), some (.int n2)] := fun l1 h1 => by
    refine ⟨nmIter fs n0 l1 26, (nmIter_nm h1 26).1, nmIter_new (by omega), ?_⟩
    have lp := namesI_loop (nums := dns ns) (cnt := cnt) (fs := fs) (k := k) (one := n0) (size := .int n1) (mix := .int n2) h1
    simp [lp, ap, dtx]
  have pre : ∀ (o : Out) (h : (sSeq (sIf (eAnd (eCmp .Gt (eVar 4) (eLit (.int 0))) (eAnd (eCmp .Eq (eBin .Mod (eVar 9) (eLit (.int 3))) (eLit (.int 0))) (eCmp .Lt (eBlt .len [(eIx (eVar 3) (eNeg (eLit (.int 1))))]) (eLit (.int 12))))) (sSet 5 (eBin .Add (eIx (eVar 3) (eNeg (eLit (.int 1)))) (eIx (eVar 5) (eNeg (eLit (.int 1)))))) sNil) (sSeq (sFor [6] (gN 6) (iRange [(eLit (.int 26))]) zNamesI) (sApp 3 (eVar 5)))) [some (dns ns), some cnt, some (.str (tx al)), some (.lst (fs.map dtx)), some (.int k), some (.str (tx l0)), none, some (.int n0), some (.int n1), some (.int n2)] = o),
      zNamesB call [some (dns ns), some cnt, some (.str (tx al)), some (.lst (fs.map dtx)), some (.int k), none, none, none, none, none] = o := fun o h => by
    rw [← h]
    simp [zNamesB, m1, i0, i1, i2, c0, -q_if]
  have go : ∀ l1, Nm l1 → (sIf (eAnd (eCmp .Gt (eVar 4) (eLit (.int 0))) (eAnd (eCmp .Eq (eBin .Mod (eVar 9) (eLit (.int 3))) (eLit (.int 0))) (eCmp .Lt (eBlt .len [(eIx (eVar 3) (eNeg (eLit (.int 1))))]) (eLit (.int 12))))) (sSet 5 (eBin .Add (eIx (eVar 3) (eNeg (eLit (.int 1)))) (eIx (eVar 5) (eNeg (eLit (.int 1)))))) sNil) [some (dns ns), some cnt, some (.str (tx al)), some (.lst (fs.map dtx)), some (.int k), some (.str (tx l0)), none, some (.int n0), some (.int n1), some (.int n2)]
      = .nx [some (dns ns), some cnt, some (.str (tx al)), some (.lst (fs.map dtx)), some (.int k), some (.str (tx l1)), none, some (.int n0), some (.int n1), some (.int n2)] →
      ∃ (l : List Nat) (a b c d e : Option D), Nm l ∧ l ∉ fs ∧ zNamesB call [some (dns ns), some cnt, some (.str (tx al)), some (.lst (fs.map dtx)), some (.int k), none, none, none, none, none] =
      .nx [some (dns ns), some cnt, some (.str (tx al)), some (.lst ((fs ++ [l]).map dtx)), some (.int k), a, b, c, d, e] := fun l1 h1 h2 => by
    obtain ⟨l, h3, h4, h5⟩ := fin l1 h1
    refine ⟨l, some (.str (tx l)), none, some (.int n0), some (.int n1), some (.int n2), h3, h4, pre _ ?_⟩
    rw [sSeq_nx h2]
    exact h5
  by_cases hk0 : k = 0
  · refine go l0 hl0 ?_
    simp [hk0]
  · obtain ⟨fs', lst, efs⟩ : ∃ fs' lst, fs = fs' ++ [lst] := snoc_of (by intro z; rw [z] at hk; exact hk0 hk.symm)
    have hl := hf lst (by rw [efs]; simp)
    have ix : ixD (.lst (fs.map dtx)) (.int (-1)) = .ok (.str (tx lst)) := by
      rw [efs, List.map_append]
      exact ix_lstl
    have ln := len_tx (l := lst) (by have := hl.len; omega)
    have kp : 0 < k := by omega
    have e00 : eqD (.int 0) (.int 0) = .ok true := eqD_en (α := Int) (by show (0 : Nat) ≤ 100; omega) 0 0
    have mm : binD .Mod (.int n2) (.int 3) = .ok (.int ((n2 : Int) % 3)) := b_mod (by omega)
    have ee : eqD (.int ((n2 : Int) % 3)) (.int 0) = .ok (decide ((n2 : Int) % 3 = 0)) := eqD_en (α := Int) (by show (0 : Nat) ≤ 100; omega) _ _
    by_cases h3 : (n2 : Int) % 3 = 0
    · by_cases h12 : (lst.length : Int) < 12
      · obtain ⟨c, r, e0, _⟩ := hl0.head
        obtain ⟨r', z, e1⟩ : ∃ r' z, l0 = r' ++ [z] := snoc_of (by rw [e0]; simp)
        have iz : ixD (.str (tx l0)) (.int (-1)) = .ok (.str (tx [z])) := by
          have := hl0.len
          rw [e1] at this ⊢
          exact ix_txl (by omega)
        have aa := add_tx (a := lst) (b := [z]) (by simp; omega)
        refine go (lst ++ [z]) ⟨?_, ?_, fun d hd => ?_⟩ ?_
        · obtain ⟨c, r, e, h⟩ := hl.head
          exact ⟨c, r ++ [z], by rw [e]; rfl, h⟩
        · rw [List.length_append]; simp; omega
        · rcases List.mem_append.mp hd with hd | hd
          · exact hl.all d hd
          · exact hl0.all d (by rw [e1]; exact List.mem_append_right _ hd)
        · simp [kp, mm, ee, e00, h3, negD, ix, ln, h12, iz, aa]
      · refine go l0 hl0 ?_
        simp [kp, mm, ee, e00, h3, negD, ix, ln, h12]
    · refine go l0 hl0 ?_
      simp [kp, mm, ee, h3]
theorem names_ok (call : Call) (hcall : ∀ f s m : Nat, ∃ l, call "_law_name" [.int f, .int s, .int m] = .ok (.str (tx l)) ∧ Nm l) {ns : List Nat} {n : Nat} (hn : n ≤ 25) (hl : 3 * n ≤ ns.length) :
    ∃ fs : List (List Nat), endD (zNames call [some (dns ns), some (.int n), none, none, none, none, none, none, none, none]) = .ok (.lst (fs.map dtx)) ∧ fs.length = n ∧ (∀ l ∈ fs, Nm l) ∧ fs.Nodup := by
  obtain ⟨ρ', h1, fs, e, h2, h3, h4⟩ := sFor_inv (kl := [4, 5, 6, 7, 8, 9]) (g := gN 4) (it := iRange [(eVar 1)]) (b := zNamesB call) (ρ0 := [some (dns ns), some (.int n), some (.str (tx al)), some (.lst []), none, none, none, none, none, none]) (xs := (List.range n).map fun (k : Nat) => .int k) (by simp [f_range (n := n) (by omega)])
    (fun i ρ => ∃ fs : List (List Nat), ρ = [some (dns ns), some (.int n), some (.str (tx al)), some (.lst (fs.map dtx)), none, none, none, none, none, none] ∧ fs.length = i ∧ (∀ l ∈ fs, Nm l) ∧ fs.Nodup) ⟨[], by simp, rfl, fun l h => (List.not_mem_nil h).elim, List.nodup_nil⟩ (by
      rintro j x ρ hx ⟨fs, rfl, h2, h3, h4⟩
      obtain ⟨hj, rfl⟩ := range_at hx
      obtain ⟨l, a, b, c, d, e, h5, h6, h7⟩ := names_body call hcall (ns := ns) (k := j) (cnt := .int n) h2 (by omega) (by omega) h3
      refine ⟨_, _, rfl, .inl (by simpa using h7), fs ++ [l], by simp, by simp [h2], fun m hm => ?_, ?_⟩
      · rcases List.mem_append.mp hm with hm | hm
        · exact h3 m hm
        · have : m = l := by simpa using hm
          rw [this]; exact h5
      · rw [List.nodup_append]
        refine ⟨h4, by simp, fun a ha b hb => ?_⟩
        have : b = l := by simpa using hb
        rw [this]
        exact fun z => h6 (by rw [← z]; exact ha))
  subst e
  refine ⟨fs, ?_, by simpa using h2, h3, h4⟩
  simp [zNames, lit_al, h1]
end Z
/-! Z, part Y: rows of verdicts, made; what laws say of them. -/
namespace Z
open PySem PySem.Spec PyProof.Rows
open En (en)

def dview (v : List (List Nat)) : D := .lst (v.map dtx)
def drows (rs : List (List (List Nat))) : D := .lst (rs.map dview)
theorem en_view (v : List (List Nat)) : en (v.map tx) = dview v := by
  show D.lst ((v.map tx).map D.str) = _
  rw [List.map_map]; rfl
theorem en_rows (rs : List (List (List Nat))) : en (rs.map fun v => v.map tx) = drows rs := by
  show D.lst ((rs.map fun v => v.map tx).map en) = _
  rw [List.map_map]
  unfold drows
  congr 1
  exact List.map_congr_left fun v _ => en_view v
theorem map_inj {α β : Type} {f : α → β} (h : ∀ a b, f a = f b → a = b) : ∀ {xs ys : List α}, xs.map f = ys.map f → xs = ys
  | [], [], _ => rfl
  | [], _ :: _, e => by simp at e
  | _ :: _, [], e => by simp at e
  | x :: xs, y :: ys, e => by
    rw [List.map_cons, List.map_cons, List.cons.injEq] at e
    rw [h _ _ e.1, map_inj h e.2]
theorem eq_tx (a b : List Nat) : eqD (.str (tx a)) (.str (tx b)) = .ok (decide (a = b)) := by
  have h := eqD_en (α := Str) (by show (0 : Nat) ≤ 100; omega) (tx a) (tx b)
  rw [decide_eq_decide.mpr (tx_inj (a := a) (b := b))] at h
  exact h
theorem eq_view (a b : List (List Nat)) : eqD (dview a) (dview b) = .ok (decide (a = b)) := by
  have h := eqD_en (α := List Str) (by show (0 : Nat) + 1 ≤ 100; omega) (a.map tx) (b.map tx)
  rw [en_view, en_view] at h
  rw [h]
  congr 1
  rw [decide_eq_decide]
  exact ⟨fun e => map_inj (fun _ _ => tx_inj.mp) e, fun e => by rw [e]⟩
theorem eq_rows (a b : List (List (List Nat))) : eqD (drows a) (drows b) = .ok (decide (a = b)) := by
  have h := eqD_en (α := List (List Str)) (by show (0 : Nat) + 1 + 1 ≤ 100; omega) (a.map fun v => v.map tx) (b.map fun v => v.map tx)
  rw [en_rows, en_rows] at h
  rw [h]
  congr 1
  rw [decide_eq_decide]
  exact ⟨fun e => map_inj (fun _ _ e => map_inj (fun _ _ => tx_inj.mp) e) e, fun e => by rw [e]⟩
theorem in_view (l : List Nat) (v : List (List Nat)) : inD (.str (tx l)) (dview v) = .ok (decide (l ∈ v)) := in_tx l v
/-- the opposite of a plain verdict -/
def bang (l : List Nat) : List Nat := 33 :: l
theorem lit_bang : (("!" : String) : Str) = tx [33] := by decide +kernel
def grow (found : List (List (List Nat))) (x : List Nat) : List (List (List Nat)) := found.flatMap fun r => [r ++ [x], r ++ [bang x]]
def rowsOf (is : List (List Nat)) : List (List (List Nat)) := is.foldl grow [[]]
theorem grow_len (found : List (List (List Nat))) (x : List Nat) : (grow found x).length = 2 * found.length := by
  unfold grow
  induction found with
  | nil => rfl
  | cons r rs ih => rw [List.flatMap_cons, List.length_append, ih]; simp; omega
theorem grow_each {found : List (List (List Nat))} {x : List Nat} {n : Nat} (h : ∀ r ∈ found, r.length = n) : ∀ r ∈ grow found x, r.length = n + 1 := fun r hr => by
  unfold grow at hr
  obtain ⟨r0, h0, h1⟩ := List.mem_flatMap.mp hr
  have := h r0 h0
  rcases List.mem_cons.mp h1 with h1 | h1
  · rw [h1]; simp [this]
  · have h1 : r = r0 ++ [bang x] := by simpa using h1
    rw [h1]; simp [this]
theorem add_bang {x : List Nat} (h : x.length ≤ 1000000) : binD .Add (.str (tx [33])) (.str (tx x)) = .ok (.str (tx (bang x))) := add_tx (a := [33]) (b := x) (by simp; omega)
theorem add_view {a b : List (List Nat)} (h : a.length + b.length ≤ 16777216) : binD .Add (dview a) (dview b) = .ok (dview (a ++ b)) := by
  unfold dview
  rw [b_addl (by rw [List.length_map, List.length_map]; exact Nat.le_trans h sizeLine_big), List.map_append]
theorem add_rows {a b : List (List (List Nat))} (h : a.length + b.length ≤ 16777216) : binD .Add (drows a) (drows b) = .ok (drows (a ++ b)) := by
  unfold drows
  rw [b_addl (by rw [List.length_map, List.length_map]; exact Nat.le_trans h sizeLine_big), List.map_append]
theorem view1 (l : List Nat) : D.lst [.str (tx l)] = dview [l] := rfl
theorem rows2 (a b : List (List Nat)) : D.lst [dview a, dview b] = drows [a, b] := rfl
/-- walks over lists of plain things -/
theorem sFor_typed {α : Type} {kl : List Nat} {g : ZG} {it : ZI} {b : ZS} {ρ0 : Env} {as : List α} {en : α → D} (hit : it ρ0 = .ok (as.map en)) (P : Nat → Env → Prop) (h0 : P 0 (killE kl ρ0)) (st : ∀ j a ρ, as[j]? = some a → P j ρ → ∃ ρ1 ρ', g (en a) ρ = .ok ρ1 ∧ (b ρ1 = .nx ρ' ∨ b ρ1 = .ct ρ') ∧ P (j + 1) (killE kl ρ')) :
    ∃ ρ', sFor kl g it b ρ0 = .nx ρ' ∧ P as.length ρ' := by
  obtain ⟨ρ', h1, h2⟩ := sFor_inv hit P h0 fun j x ρ hx hp => by
    rw [List.getElem?_map] at hx
    obtain ⟨a, ha, rfl⟩ := Option.map_eq_some_iff.mp hx
    exact st j a ρ ha hp
  rw [List.length_map] at h2
  exact ⟨ρ', h1, h2⟩
theorem take_snoc {α : Type} {l : List α} {j : Nat} {a : α} (h : l[j]? = some a) : l.take (j + 1) = l.take j ++ [a] := by rw [List.take_add_one, h]; rfl

def zRowsI : ZS := (sSet 3 (eBin .Add (eVar 3) (eLst [(eBin .Add (eVar 4) (eLst [(eVar 2)])), (eBin .Add (eVar 4) (eLst [(eBin .Add (eLit (.str "!")) (eVar 2))]))])))
def zRowsB : ZS := (sSeq (sSet 3 (eLst [])) (sSeq (sFor [4] (gN 4) (iSeq (eVar 1)) zRowsI) (sMove 1 3)))
def zRows : ZS := (sSeq (sSet 1 (eLst [(eLst [])])) (sSeq (sFor [2, 3, 4] (gN 2) (iSeq (eVar 0)) zRowsB) (sRet (eVar 1))))
theorem seq_view (v : List (List Nat)) : seqD (dview v) = .ok (v.map dtx) := rfl
theorem seq_rows (v : List (List (List Nat))) : seqD (drows v) = .ok (v.map dview) := rfl
theorem rows_inner {iss : D} {found : List (List (List Nat))} {x : List Nat} (hx : x.length ≤ 1000) (hf : found.length ≤ 1000000) (hr : ∀ r ∈ found, r.length ≤ 1000) :
    sFor [4] (gN 4) (iSeq (eVar 1)) zRowsI [some iss, some (drows found), some (.str (tx x)), some (.lst []), none] = .nx [some iss, some (drows found), some (.str (tx x)), some (drows (grow found x)), none] := by
  obtain ⟨ρ', h1, h2⟩ := sFor_typed (kl := [4]) (g := gN 4) (it := iSeq (eVar 1)) (b := zRowsI) (ρ0 := [some iss, some (drows found), some (.str (tx x)), some (.lst []), none]) (as := found) (en := dview) (by simp [seq_rows])
    (fun j ρ => ρ = [some iss, some (drows found), some (.str (tx x)), some (drows (grow (found.take j) x)), none]) (by simp [grow, drows]) (by
      rintro j r ρ hj rfl
      have hr' := hr r (List.mem_of_getElem? hj)
      have hj' : j < found.length := (List.getElem?_eq_some_iff.mp hj).1
      have g1 := grow_len (found.take j) x
      rw [List.length_take] at g1
      have a1 := add_view (a := r) (b := [x]) (by simp; omega)
      have a2 := add_bang (x := x) (by omega)
      have a3 := add_view (a := r) (b := [bang x]) (by simp; omega)
      have a4 := add_rows (a := grow (found.take j) x) (b := [r ++ [x], r ++ [bang x]]) (by simp; omega)
      have e : grow (found.take (j + 1)) x = grow (found.take j) x ++ [r ++ [x], r ++ [bang x]] := by
        rw [take_snoc hj]; unfold grow; rw [List.flatMap_append]; simp
      refine ⟨_, _, rfl, .inl (?_ : _ = Out.nx [some iss, some (drows found), some (.str (tx x)), some (drows (grow (found.take (j + 1)) x)), some (dview r)]), rfl⟩
      rw [e]
      simp [zRowsI, lit_bang, a2, view1, a1, a3, rows2, a4])
  subst h2
  rw [h1, List.take_length]
theorem rowsOf_snoc (is : List (List Nat)) (x : List Nat) : rowsOf (is ++ [x]) = grow (rowsOf is) x := by unfold rowsOf; rw [List.foldl_append]; rfl
theorem rows_take (is : List (List Nat)) : ∀ j, j ≤ is.length → (rowsOf (is.take j)).length = 2 ^ j ∧ ∀ r ∈ rowsOf (is.take j), r.length = j
  | 0, _ => ⟨rfl, fun r hr => by
      have : r = [] := by simpa [rowsOf] using hr
      rw [this]; rfl⟩
  | j + 1, h => by
    obtain ⟨h1, h2⟩ := rows_take is j (by omega)
    have e : is.take (j + 1) = is.take j ++ [is[j]] := take_snoc (List.getElem?_eq_getElem (by omega))
    rw [e, rowsOf_snoc]
    exact ⟨by rw [grow_len, h1, Nat.pow_succ]; omega, grow_each h2⟩
theorem rows_step {is : List (List Nat)} {j : Nat} {x : List Nat} (hn : is.length ≤ 16) (hi : ∀ l ∈ is, l.length ≤ 1000) (hj : is[j]? = some x) : zRowsB [some (dview is), some (drows (rowsOf (is.take j))), some (.str (tx x)), none, none] = .nx [some (dview is), some (drows (rowsOf (is.take (j + 1)))), some (.str (tx x)), none, none] := by
  have hj' : j < is.length := (List.getElem?_eq_some_iff.mp hj).1
  obtain ⟨h1, h2⟩ := rows_take is j (by omega)
  have hp : 2 ^ j ≤ 2 ^ 16 := Nat.pow_le_pow_right (by omega) (by omega)
  have lp := rows_inner (iss := dview is) (found := rowsOf (is.take j)) (hi x (List.mem_of_getElem? hj)) (by omega) (fun r hr => by rw [h2 r hr]; omega)
  rw [take_snoc hj, rowsOf_snoc]
  simp [zRowsB, lp]
theorem rows_ok {is : List (List Nat)} (hn : is.length ≤ 16) (hi : ∀ l ∈ is, l.length ≤ 1000) : endD (zRows [some (dview is), none, none, none, none]) = .ok (drows (rowsOf is)) := by
  obtain ⟨ρ', h1, h2⟩ := sFor_typed (kl := [2, 3, 4]) (g := gN 2) (it := iSeq (eVar 0)) (b := zRowsB) (ρ0 := [some (dview is), some (drows [[]]), none, none, none]) (as := is) (en := dtx) (by simp [seq_view])
    (fun j ρ => ρ = [some (dview is), some (drows (rowsOf (is.take j))), none, none, none]) rfl (by
      rintro j x ρ hj rfl
      exact ⟨_, _, rfl, .inl (rows_step hn hi hj), rfl⟩)
  subst h2
  rw [List.take_length] at h1
  have e : D.lst [D.lst []] = drows [[]] := rfl
  simp [zRows, e, h1]
/-! the same by new lists alone -/
def zRowsDI : ZS := (sSeq (sApp 3 (eFlat (eBin .Add (eVar 4) (eLst [(eVar 2)])))) (sApp 3 (eFlat (eBin .Add (eVar 4) (eLst [(eBin .Add (eLit (.str "!")) (eVar 2))])))))
def zRowsDB : ZS := (sSeq (sSet 3 (eLst [])) (sSeq (sFor [4] (gN 4) (iSeq (eVar 1)) zRowsDI) (sMove 1 3)))
def zRowsD : ZS := (sSeq (sSet 1 (eLst [(eLst [])])) (sSeq (sFor [2, 3, 4] (gN 2) (iSeq (eVar 0)) zRowsDB) (sRet (eVar 1))))
theorem flat_view (v : List (List Nat)) : flat (dview v) = true := by
  show (v.map dtx).all isAtom = true
  rw [List.all_map, List.all_eq_true]
  intro l _
  rfl
theorem app_rows {a : List (List (List Nat))} {r : List (List Nat)} (h : a.length < 16777216) : appD (drows a) (dview r) = .ok (drows (a ++ [r])) := by
  unfold drows
  rw [f_app (by rw [List.length_map]; exact Nat.lt_of_lt_of_le h sizeLine_big), List.map_append]
  rfl
theorem rowsD_inner {iss : D} {found : List (List (List Nat))} {x : List Nat} (hx : x.length ≤ 1000) (hf : found.length ≤ 1000000) (hr : ∀ r ∈ found, r.length ≤ 1000) :
    sFor [4] (gN 4) (iSeq (eVar 1)) zRowsDI [some iss, some (drows found), some (.str (tx x)), some (.lst []), none] = .nx [some iss, some (drows found), some (.str (tx x)), some (drows (grow found x)), none] := by
  obtain ⟨ρ', h1, h2⟩ := sFor_typed (kl := [4]) (g := gN 4) (it := iSeq (eVar 1)) (b := zRowsDI) (ρ0 := [some iss, some (drows found), some (.str (tx x)), some (.lst []), none]) (as := found) (en := dview) (by simp [seq_rows])
    (fun j ρ => ρ = [some iss, some (drows found), some (.str (tx x)), some (drows (grow (found.take j) x)), none]) (by simp [grow, drows]) (by
      rintro j r ρ hj rfl
      have hr' := hr r (List.mem_of_getElem? hj)
      have hj' : j < found.length := (List.getElem?_eq_some_iff.mp hj).1
      have g1 := grow_len (found.take j) x
      rw [List.length_take] at g1
      have a1 := add_view (a := r) (b := [x]) (by simp; omega)
      have a2 := add_bang (x := x) (by omega)
      have a3 := add_view (a := r) (b := [bang x]) (by simp; omega)
      have a4 := app_rows (a := grow (found.take j) x) (r := r ++ [x]) (by omega)
      have a5 := app_rows (a := grow (found.take j) x ++ [r ++ [x]]) (r := r ++ [bang x]) (by simp; omega)
      have e : grow (found.take (j + 1)) x = (grow (found.take j) x ++ [r ++ [x]]) ++ [r ++ [bang x]] := by
        rw [take_snoc hj]; unfold grow; rw [List.flatMap_append]; simp
      refine ⟨_, _, rfl, .inl (?_ : _ = Out.nx [some iss, some (drows found), some (.str (tx x)), some (drows (grow (found.take (j + 1)) x)), some (dview r)]), rfl⟩
      rw [e]
      simp [zRowsDI, lit_bang, a2, view1, a1, a3, flat_view, a4, a5, -List.append_assoc])
  subst h2
  rw [h1, List.take_length]
theorem rowsD_step {is : List (List Nat)} {j : Nat} {x : List Nat} (hn : is.length ≤ 16) (hi : ∀ l ∈ is, l.length ≤ 1000) (hj : is[j]? = some x) : zRowsDB [some (dview is), some (drows (rowsOf (is.take j))), some (.str (tx x)), none, none] = .nx [some (dview is), some (drows (rowsOf (is.take (j + 1)))), some (.str (tx x)), none, none] := by
  have hj' : j < is.length := (List.getElem?_eq_some_iff.mp hj).1
  obtain ⟨h1, h2⟩ := rows_take is j (by omega)
  have hp : 2 ^ j ≤ 2 ^ 16 := Nat.pow_le_pow_right (by omega) (by omega)
  have lp := rowsD_inner (iss := dview is) (found := rowsOf (is.take j)) (hi x (List.mem_of_getElem? hj)) (by omega) (fun r hr => by rw [h2 r hr]; omega)
  rw [take_snoc hj, rowsOf_snoc]
  simp [zRowsDB, lp]
theorem rowsD_ok {is : List (List Nat)} (hn : is.length ≤ 16) (hi : ∀ l ∈ is, l.length ≤ 1000) : endD (zRowsD [some (dview is), none, none, none, none]) = .ok (drows (rowsOf is)) := by
  obtain ⟨ρ', h1, h2⟩ := sFor_typed (kl := [2, 3, 4]) (g := gN 2) (it := iSeq (eVar 0)) (b := zRowsDB) (ρ0 := [some (dview is), some (drows [[]]), none, none, none]) (as := is) (en := dtx) (by simp [seq_view])
    (fun j ρ => ρ = [some (dview is), some (drows (rowsOf (is.take j))), none, none, none]) rfl (by
      rintro j x ρ hj rfl
      exact ⟨_, _, rfl, .inl (rowsD_step hn hi hj), rfl⟩)
  subst h2
  rw [List.take_length] at h1
  have e : D.lst [D.lst []] = drows [[]] := rfl
  simp [zRowsD, e, h1]
end Z
/-! Z, part YS: sorting, in plain words. -/
namespace Z
open PySem PySem.Spec PyProof.Rows

abbrev kle {β : Type} (k : β → PyData) : β → β → Bool := PySem.W.dataLe false k
theorem kle_def {β : Type} (k : β → PyData) (a b : β) : kle k a b = !PySem.W.dataLt (k b) (k a) := rfl
theorem kle_trans' {β : Type} (k : β → PyData) (a b c : β) (h1 : kle k a b = true) (h2 : kle k b c = true) : kle k a c = true := (PySem.W.sortLe_total (listOrd itemOrd) false fun b => PySem.W.keyToks (k b)).trans a b c h1 h2
theorem kle_total' {β : Type} (k : β → PyData) (a b : β) : (kle k a b || kle k b a) = true := by
  rw [Bool.or_eq_true]
  exact (PySem.W.sortLe_total (listOrd itemOrd) false fun b => PySem.W.keyToks (k b)).total a b
theorem kle_antisymm' {β : Type} (k : β → PyData) (a b : β) (h1 : kle k a b = true) (h2 : kle k b a = true) : PySem.W.keyToks (k a) = PySem.W.keyToks (k b) := by
  rw [kle_def, Bool.not_eq_true'] at h1 h2
  exact (listOrd itemOrd).total _ _ h2 h1
theorem kle_of_lt {β : Type} (k : β → PyData) {a b : β} (h : PySem.W.dataLt (k a) (k b) = true) : kle k a b = true := by
  rw [kle_def, Bool.not_eq_true']
  cases h2 : PySem.W.dataLt (k b) (k a) with
  | false => rfl
  | true =>
    have h3 := (listOrd itemOrd).trans _ _ _ h h2
    rw [(listOrd itemOrd).irrefl] at h3
    exact absurd h3 (by simp)
theorem lt_of_kle {β : Type} (k : β → PyData) {a b : β} (h : kle k a b = true) (ne : PySem.W.keyToks (k a) ≠ PySem.W.keyToks (k b)) : PySem.W.dataLt (k a) (k b) = true := by
  rw [kle_def, Bool.not_eq_true'] at h
  cases h2 : PySem.W.dataLt (k a) (k b) with
  | true => rfl
  | false => exact absurd ((listOrd itemOrd).total _ _ h2 h) ne
/-- what is sorted is known by its order -/
theorem sort_is {β : Type} (k : β → PyData) {l t : List β} (hp : l.Perm t) (ht : t.Pairwise fun a b => kle k a b = true) (hinj : ∀ a ∈ t, ∀ b ∈ t, PySem.W.keyToks (k a) = PySem.W.keyToks (k b) → a = b) : l.mergeSort (kle k) = t := by
  have p1 := List.mergeSort_perm l (kle k)
  have p2 := p1.trans hp
  refine List.Perm.eq_of_pairwise (le := fun a b => kle k a b = true) (fun a b ha hb h1 h2 => ?_) (List.pairwise_mergeSort (kle_trans' k) (kle_total' k) l) ht p2
  exact hinj a (p2.mem_iff.mp ha) b hb (kle_antisymm' k a b h1 h2)
/-! names -/
def kstr (l : List Nat) : PyData := .str (tx l)
theorem kstr_toks (l : List Nat) : PySem.W.keyToks (kstr l) = [.inr l] := by
  unfold kstr
  simp only [PySem.W.keyToks, tx_cps]
theorem kstr_inj {a b : List Nat} (h : PySem.W.keyToks (kstr a) = PySem.W.keyToks (kstr b)) : a = b := by
  rw [kstr_toks, kstr_toks] at h
  simpa using h
def sortN (fs : List (List Nat)) : List (List Nat) := fs.mergeSort (kle kstr)
theorem sortN_perm (fs : List (List Nat)) : (sortN fs).Perm fs := List.mergeSort_perm _ _
def nlt (a b : List Nat) : Prop := PySem.W.dataLt (kstr a) (kstr b) = true
theorem sortN_lt {fs : List (List Nat)} (h : fs.Nodup) : (sortN fs).Pairwise nlt := by
  have h1 : (sortN fs).Pairwise fun a b => kle kstr a b = true := List.pairwise_mergeSort (kle_trans' kstr) (kle_total' kstr) fs
  have h2 : (sortN fs).Nodup := (sortN_perm fs).nodup_iff.mpr h
  rw [List.nodup_iff_pairwise_ne] at h2
  exact (h1.and h2).imp fun ⟨p, q⟩ => lt_of_kle kstr p fun e => q (kstr_inj e)
theorem sorts_str (a b : List Nat) : sorts (dtx a) (dtx b) = true := by
  unfold sorts fine dtx
  simp [toPy, PySem.W.alike, PyData.plain, PyData.depth]
theorem sorted_names (fs : List (List Nat)) : bltD .sorted [dview fs] = .ok (dview (sortN fs)) := by
  show chk (sortable (fs.map dtx)) (R.ok (D.lst (sortL (fs.map dtx)))) = _
  have h1 : sortable (fs.map dtx) = true := by
    unfold sortable allAlike
    rw [Bool.and_eq_true, Bool.or_eq_true]
    refine ⟨?_, .inl ?_⟩
    · rw [List.all_map, List.all_eq_true]
      intro a _
      rw [Function.comp, List.all_map, List.all_eq_true]
      intro b _
      exact sorts_str a b
    · rw [List.all_map, List.all_eq_true]
      intro a _
      rfl
  rw [h1, chk_true]
  unfold sortL dview sortN
  rw [← List.map_mergeSort (r := kle kstr) (f := dtx) fun a _ b _ => rfl]
end Z
/-! the text's shared defs, as functions (printed by libgen.py) -/
namespace Lb
open PySem PySem.Spec PyProof.Rows Z
variable {T : Str → Option Fd}
def b_is_yes (call : Call) : ZS := (sRet (eCmp .NotEq (eIx (eVar 0) (eLit (.int 0))) (eLit (.str "!"))))
class C_is_yes (T : Str → Option Fd) : Prop where
  s_is_yes : T "is_yes" = some ⟨1, 1, b_is_yes, none⟩
theorem r_is_yes [h : C_is_yes T] (n : Nat) (x0 : D) : run T (n + 1) "is_yes" [x0] = endD (b_is_yes (run T n) [some x0]) := (run_at h.s_is_yes).trans rfl
def b_issue_of (call : Call) : ZS := (sSeq (sIf (eCall call "is_yes" [(eVar 0)]) (sRet (eVar 0)) sNil) (sRet (eCut (eVar 0) (some (eLit (.int 1))) none)))
class C_issue_of (T : Str → Option Fd) : Prop extends C_is_yes T where
  s_issue_of : T "issue_of" = some ⟨1, 1, b_issue_of, none⟩
theorem r_issue_of [h : C_issue_of T] (n : Nat) (x0 : D) : run T (n + 1) "issue_of" [x0] = endD (b_issue_of (run T n) [some x0]) := (run_at h.s_issue_of).trans rfl
def b_opposite (call : Call) : ZS := (sSeq (sIf (eCall call "is_yes" [(eVar 0)]) (sRet (eBin .Add (eLit (.str "!")) (eVar 0))) sNil) (sRet (eCut (eVar 0) (some (eLit (.int 1))) none)))
class C_opposite (T : Str → Option Fd) : Prop extends C_is_yes T where
  s_opposite : T "opposite" = some ⟨1, 1, b_opposite, none⟩
theorem r_opposite [h : C_opposite T] (n : Nat) (x0 : D) : run T (n + 1) "opposite" [x0] = endD (b_opposite (run T n) [some x0]) := (run_at h.s_opposite).trans rfl
def b_place_of (call : Call) : ZS := (sRet (eTup [(eCall call "issue_of" [(eVar 0)]), (eNot (eCall call "is_yes" [(eVar 0)]))]))
class C_place_of (T : Str → Option Fd) : Prop extends C_is_yes T, C_issue_of T where
  s_place_of : T "place_of" = some ⟨1, 1, b_place_of, none⟩
theorem r_place_of [h : C_place_of T] (n : Nat) (x0 : D) : run T (n + 1) "place_of" [x0] = endD (b_place_of (run T n) [some x0]) := (run_at h.s_place_of).trans rfl
def b_order_of (call : Call) : ZS := (sRet (eComp [1] (gN 1) (iSeq (eVar 0)) [] (eCall call "place_of" [(eVar 1)])))
class C_order_of (T : Str → Option Fd) : Prop extends C_place_of T where
  s_order_of : T "order_of" = some ⟨1, 2, b_order_of, none⟩
theorem r_order_of [h : C_order_of T] (n : Nat) (x0 : D) : run T (n + 1) "order_of" [x0] = endD (b_order_of (run T n) [some x0, none]) := (run_at h.s_order_of).trans rfl
def b_sorted_view (call : Call) : ZS := (sRet (eSortK call "place_of" (eVar 0)))
class C_sorted_view (T : Str → Option Fd) : Prop extends C_place_of T where
  s_sorted_view : T "sorted_view" = some ⟨1, 1, b_sorted_view, none⟩
theorem r_sorted_view [h : C_sorted_view T] (n : Nat) (x0 : D) : run T (n + 1) "sorted_view" [x0] = endD (b_sorted_view (run T n) [some x0]) := (run_at h.s_sorted_view).trans rfl
def b_sorted_views (call : Call) : ZS := (sRet (eSortK call "order_of" (eVar 0)))
class C_sorted_views (T : Str → Option Fd) : Prop extends C_order_of T where
  s_sorted_views : T "sorted_views" = some ⟨1, 1, b_sorted_views, none⟩
theorem r_sorted_views [h : C_sorted_views T] (n : Nat) (x0 : D) : run T (n + 1) "sorted_views" [x0] = endD (b_sorted_views (run T n) [some x0]) := (run_at h.s_sorted_views).trans rfl
def b_holds (call : Call) : ZS := (sRet (eBlt .all [(eComp [2] (gN 2) (iSeq (eVar 1)) [] (eCmp .In (eVar 2) (eVar 0)))]))
class C_holds (T : Str → Option Fd) : Prop where
  s_holds : T "holds" = some ⟨2, 3, b_holds, none⟩
theorem r_holds [h : C_holds T] (n : Nat) (x0 x1 : D) : run T (n + 1) "holds" [x0, x1] = endD (b_holds (run T n) [some x0, some x1, none]) := (run_at h.s_holds).trans rfl
def f_verdict_on_1 (call : Call) : ZS := (sIf (eCmp .Eq (eCall call "issue_of" [(eVar 2)]) (eVar 1)) (sRet (eVar 2)) sNil)
def b_verdict_on (call : Call) : ZS := (sSeq (sFor [2] (gN 2) (iSeq (eVar 0)) (f_verdict_on_1 call)) (sRet (eLit .non)))
class C_verdict_on (T : Str → Option Fd) : Prop extends C_issue_of T where
  s_verdict_on : T "verdict_on" = some ⟨2, 3, b_verdict_on, none⟩
theorem r_verdict_on [h : C_verdict_on T] (n : Nat) (x0 x1 : D) : run T (n + 1) "verdict_on" [x0, x1] = endD (b_verdict_on (run T n) [some x0, some x1, none]) := (run_at h.s_verdict_on).trans rfl
def f_both_verdicts_1 (call : Call) : ZS := (sExt 1 (eLst [(eVar 2), (eBin .Add (eLit (.str "!")) (eVar 2))]))
def b_both_verdicts (call : Call) : ZS := (sSeq (sSet 1 (eLst [])) (sSeq (sFor [2] (gN 2) (iSeq (eVar 0)) (f_both_verdicts_1 call)) (sRet (eVar 1))))
class C_both_verdicts (T : Str → Option Fd) : Prop where
  s_both_verdicts : T "both_verdicts" = some ⟨1, 3, b_both_verdicts, none⟩
theorem r_both_verdicts [h : C_both_verdicts T] (n : Nat) (x0 : D) : run T (n + 1) "both_verdicts" [x0] = endD (b_both_verdicts (run T n) [some x0, none, none]) := (run_at h.s_both_verdicts).trans rfl
def f_all_views_2 (call : Call) : ZS := (sSeq (sApp 3 (eBin .Add (eVar 4) (eTup [(eVar 2)]))) (sApp 3 (eBin .Add (eVar 4) (eTup [(eBin .Add (eLit (.str "!")) (eVar 2))]))))
def f_all_views_1 (call : Call) : ZS := (sSeq (sSet 3 (eBlt .list [(eVar 1)])) (sSeq (sFor [4] (gN 4) (iSeq (eVar 1)) (f_all_views_2 call)) (sMove 1 3)))
def b_all_views (call : Call) : ZS := (sSeq (sSet 1 (eLst [(eTup [])])) (sSeq (sFor [2, 3, 4] (gN 2) (iSeq (eVar 0)) (f_all_views_1 call)) (sRet (eVar 1))))
class C_all_views (T : Str → Option Fd) : Prop where
  s_all_views : T "all_views" = some ⟨1, 5, b_all_views, none⟩
theorem r_all_views [h : C_all_views T] (n : Nat) (x0 : D) : run T (n + 1) "all_views" [x0] = endD (b_all_views (run T n) [some x0, none, none, none, none]) := (run_at h.s_all_views).trans rfl
def f_parts_of_view_1 (call : Call) : ZS := (sExt 1 (eComp [3] (gN 3) (iSeq (eVar 1)) [] (eBin .Add (eVar 3) (eTup [(eVar 2)]))))
def b_parts_of_view (call : Call) : ZS := (sSeq (sSet 1 (eLst [(eTup [])])) (sSeq (sFor [2, 3] (gN 2) (iSeq (eVar 0)) (f_parts_of_view_1 call)) (sRet (eVar 1))))
class C_parts_of_view (T : Str → Option Fd) : Prop where
  s_parts_of_view : T "parts_of_view" = some ⟨1, 4, b_parts_of_view, none⟩
theorem r_parts_of_view [h : C_parts_of_view T] (n : Nat) (x0 : D) : run T (n + 1) "parts_of_view" [x0] = endD (b_parts_of_view (run T n) [some x0, none, none, none]) := (run_at h.s_parts_of_view).trans rfl
def b_views_one_less (call : Call) : ZS := (sRet (eComp [1] (gN 1) (iRange [(eBlt .len [(eVar 0)])]) [] (eBlt .tuple [(eBin .Add (eCut (eVar 0) none (some (eVar 1))) (eCut (eVar 0) (some (eBin .Add (eVar 1) (eLit (.int 1)))) none))])))
class C_views_one_less (T : Str → Option Fd) : Prop where
  s_views_one_less : T "views_one_less" = some ⟨1, 2, b_views_one_less, none⟩
theorem r_views_one_less [h : C_views_one_less T] (n : Nat) (x0 : D) : run T (n + 1) "views_one_less" [x0] = endD (b_views_one_less (run T n) [some x0, none]) := (run_at h.s_views_one_less).trans rfl
def b_Agenda_hangs (call : Call) : ZS := (sRet (eCmp .In (eBlt .tuple [(eVar 1)]) (eFld (eVar 0) "_hanging")))
class C_Agenda_hangs (T : Str → Option Fd) : Prop where
  s_Agenda_hangs : T "Agenda.hangs" = some ⟨2, 2, b_Agenda_hangs, none⟩
theorem r_Agenda_hangs [h : C_Agenda_hangs T] (n : Nat) (x0 x1 : D) : run T (n + 1) "Agenda.hangs" [x0, x1] = endD (b_Agenda_hangs (run T n) [some x0, some x1]) := (run_at h.s_Agenda_hangs).trans rfl
def b_hangs_together (call : Call) : ZS := (sRet (eMeth call (eVar 0) "hangs" [(eVar 1)]))
class C_hangs_together (T : Str → Option Fd) : Prop extends C_Agenda_hangs T where
  s_hangs_together : T "hangs_together" = some ⟨2, 2, b_hangs_together, none⟩
theorem r_hangs_together [h : C_hangs_together T] (n : Nat) (x0 x1 : D) : run T (n + 1) "hangs_together" [x0, x1] = endD (b_hangs_together (run T n) [some x0, some x1]) := (run_at h.s_hangs_together).trans rfl
def b_Agenda_opinions (call : Call) : ZS := (sRet (eComp [1] (gN 1) (iSeq (eFld (eVar 0) "_opinions")) [] (eBlt .list [(eVar 1)])))
class C_Agenda_opinions (T : Str → Option Fd) : Prop where
  s_Agenda_opinions : T "Agenda.opinions" = some ⟨1, 2, b_Agenda_opinions, none⟩
theorem r_Agenda_opinions [h : C_Agenda_opinions T] (n : Nat) (x0 : D) : run T (n + 1) "Agenda.opinions" [x0] = endD (b_Agenda_opinions (run T n) [some x0, none]) := (run_at h.s_Agenda_opinions).trans rfl
def b_opinions_with (call : Call) : ZS := (sRet (eComp [2] (gN 2) (iSeq (eMeth call (eVar 0) "opinions" [])) [(eCall call "holds" [(eVar 2), (eVar 1)])] (eVar 2)))
class C_opinions_with (T : Str → Option Fd) : Prop extends C_Agenda_opinions T, C_holds T where
  s_opinions_with : T "opinions_with" = some ⟨2, 3, b_opinions_with, none⟩
theorem r_opinions_with [h : C_opinions_with T] (n : Nat) (x0 x1 : D) : run T (n + 1) "opinions_with" [x0, x1] = endD (b_opinions_with (run T n) [some x0, some x1, none]) := (run_at h.s_opinions_with).trans rfl
def b_with_verdict (call : Call) : ZS := (sRet (eCall call "sorted_view" [(eBin .Add (eVar 0) (eLst [(eVar 1)]))]))
class C_with_verdict (T : Str → Option Fd) : Prop extends C_sorted_view T where
  s_with_verdict : T "with_verdict" = some ⟨2, 2, b_with_verdict, none⟩
theorem r_with_verdict [h : C_with_verdict T] (n : Nat) (x0 x1 : D) : run T (n + 1) "with_verdict" [x0, x1] = endD (b_with_verdict (run T n) [some x0, some x1]) := (run_at h.s_with_verdict).trans rfl
def b_settles (call : Call) : ZS := (sSeq (sSet 3 (eCall call "verdict_on" [(eVar 1), (eCall call "issue_of" [(eVar 2)])])) (sSeq (sIf (eCmp .IsNot (eVar 3) (eLit .non)) (sRet (eCmp .Eq (eVar 3) (eVar 2))) sNil) (sRet (eNot (eMeth call (eVar 0) "hangs" [(eCall call "with_verdict" [(eVar 1), (eCall call "opposite" [(eVar 2)])])])))))
class C_settles (T : Str → Option Fd) : Prop extends C_Agenda_hangs T, C_issue_of T, C_opposite T, C_verdict_on T, C_with_verdict T where
  s_settles : T "settles" = some ⟨3, 4, b_settles, none⟩
theorem r_settles [h : C_settles T] (n : Nat) (x0 x1 x2 : D) : run T (n + 1) "settles" [x0, x1, x2] = endD (b_settles (run T n) [some x0, some x1, some x2, none]) := (run_at h.s_settles).trans rfl
def b_Agenda_verdicts (call : Call) : ZS := (sRet (eCall call "both_verdicts" [(eFld (eVar 0) "_issues")]))
class C_Agenda_verdicts (T : Str → Option Fd) : Prop extends C_both_verdicts T where
  s_Agenda_verdicts : T "Agenda.verdicts" = some ⟨1, 1, b_Agenda_verdicts, none⟩
theorem r_Agenda_verdicts [h : C_Agenda_verdicts T] (n : Nat) (x0 : D) : run T (n + 1) "Agenda.verdicts" [x0] = endD (b_Agenda_verdicts (run T n) [some x0]) := (run_at h.s_Agenda_verdicts).trans rfl
def b_settled (call : Call) : ZS := (sRet (eComp [2] (gN 2) (iSeq (eMeth call (eVar 0) "verdicts" [])) [(eCall call "settles" [(eVar 0), (eVar 1), (eVar 2)])] (eVar 2)))
class C_settled (T : Str → Option Fd) : Prop extends C_Agenda_verdicts T, C_settles T where
  s_settled : T "settled" = some ⟨2, 3, b_settled, none⟩
theorem r_settled [h : C_settled T] (n : Nat) (x0 x1 : D) : run T (n + 1) "settled" [x0, x1] = endD (b_settled (run T n) [some x0, some x1, none]) := (run_at h.s_settled).trans rfl
def b_has_name_signs (call : Call) : ZS := (sSeq (sIf (eCmp .NotIn (eIx (eVar 0) (eLit (.int 0))) (eLit (.str "abcdefghijklmnopqrstuvwxyz"))) (sRet (eLit (.bl false))) sNil) (sRet (eBlt .all [(eComp [1] (gN 1) (iSeq (eVar 0)) [] (eOr (eCmp .In (eVar 1) (eLit (.str "abcdefghijklmnopqrstuvwxyz"))) (eCmp .In (eVar 1) (eLit (.str "0123456789")))))])))
class C_has_name_signs (T : Str → Option Fd) : Prop where
  s_has_name_signs : T "has_name_signs" = some ⟨1, 2, b_has_name_signs, none⟩
theorem r_has_name_signs [h : C_has_name_signs T] (n : Nat) (x0 : D) : run T (n + 1) "has_name_signs" [x0] = endD (b_has_name_signs (run T n) [some x0, none]) := (run_at h.s_has_name_signs).trans rfl
def b_is_name (call : Call) : ZS := (sSeq (sIf (eNot (eIsi (eVar 0) "str")) (sRet (eLit (.bl false))) sNil) (sSeq (sIf (eNot (eCmp2 .LtE .LtE (eLit (.int 1)) (eBlt .len [(eVar 0)]) (eLit (.int 12)))) (sRet (eLit (.bl false))) sNil) (sRet (eCall call "has_name_signs" [(eVar 0)]))))
class C_is_name (T : Str → Option Fd) : Prop extends C_has_name_signs T where
  s_is_name : T "is_name" = some ⟨1, 1, b_is_name, none⟩
theorem r_is_name [h : C_is_name T] (n : Nat) (x0 : D) : run T (n + 1) "is_name" [x0] = endD (b_is_name (run T n) [some x0]) := (run_at h.s_is_name).trans rfl
def b_is_ascending (call : Call) : ZS := (sRet (eBlt .all [(eComp [1, 2] (gT [(gN 1), (gN 2)]) (iZip (eVar 0) (eCut (eVar 0) (some (eLit (.int 1))) none)) [] (eCmp .Lt (eVar 1) (eVar 2)))]))
class C_is_ascending (T : Str → Option Fd) : Prop where
  s_is_ascending : T "is_ascending" = some ⟨1, 3, b_is_ascending, none⟩
theorem r_is_ascending [h : C_is_ascending T] (n : Nat) (x0 : D) : run T (n + 1) "is_ascending" [x0] = endD (b_is_ascending (run T n) [some x0, none, none]) := (run_at h.s_is_ascending).trans rfl
def b_are_names (call : Call) : ZS := (sSeq (sIf (eOr (eNot (eIsi (eVar 0) "list")) (eNot (eBlt .all [(eComp [1] (gN 1) (iSeq (eVar 0)) [] (eCall call "is_name" [(eVar 1)]))]))) (sRet (eLit (.bl false))) sNil) (sRet (eCall call "is_ascending" [(eVar 0)])))
class C_are_names (T : Str → Option Fd) : Prop extends C_is_ascending T, C_is_name T where
  s_are_names : T "are_names" = some ⟨1, 2, b_are_names, none⟩
theorem r_are_names [h : C_are_names T] (n : Nat) (x0 : D) : run T (n + 1) "are_names" [x0] = endD (b_are_names (run T n) [some x0, none]) := (run_at h.s_are_names).trans rfl
def b_are_some_names (call : Call) : ZS := (sRet (eAnd (eCall call "are_names" [(eVar 0)]) (eCmp2 .LtE .LtE (eLit (.int 1)) (eBlt .len [(eVar 0)]) (eVar 1))))
class C_are_some_names (T : Str → Option Fd) : Prop extends C_are_names T where
  s_are_some_names : T "are_some_names" = some ⟨2, 2, b_are_some_names, none⟩
theorem r_are_some_names [h : C_are_some_names T] (n : Nat) (x0 x1 : D) : run T (n + 1) "are_some_names" [x0, x1] = endD (b_are_some_names (run T n) [some x0, some x1]) := (run_at h.s_are_some_names).trans rfl
def b_are_issues (call : Call) : ZS := (sRet (eCall call "are_some_names" [(eVar 0), (eLit (.int 6))]))
class C_are_issues (T : Str → Option Fd) : Prop extends C_are_some_names T where
  s_are_issues : T "are_issues" = some ⟨1, 1, b_are_issues, none⟩
theorem r_are_issues [h : C_are_issues T] (n : Nat) (x0 : D) : run T (n + 1) "are_issues" [x0] = endD (b_are_issues (run T n) [some x0]) := (run_at h.s_are_issues).trans rfl
def b_is_verdict (call : Call) : ZS := (sSeq (sIf (eOr (eNot (eIsi (eVar 1) "str")) (eNot (eVar 1))) (sRet (eLit (.bl false))) sNil) (sRet (eCmp .In (eCall call "issue_of" [(eVar 1)]) (eVar 0))))
class C_is_verdict (T : Str → Option Fd) : Prop extends C_issue_of T where
  s_is_verdict : T "is_verdict" = some ⟨2, 2, b_is_verdict, none⟩
theorem r_is_verdict [h : C_is_verdict T] (n : Nat) (x0 x1 : D) : run T (n + 1) "is_verdict" [x0, x1] = endD (b_is_verdict (run T n) [some x0, some x1]) := (run_at h.s_is_verdict).trans rfl
def b_is_view_of (call : Call) : ZS := (sSeq (sIf (eOr (eNot (eIsi (eVar 1) "list")) (eNot (eBlt .all [(eComp [2] (gN 2) (iSeq (eVar 1)) [] (eCall call "is_verdict" [(eVar 0), (eVar 2)]))]))) (sRet (eLit (.bl false))) sNil) (sRet (eCall call "is_ascending" [(eComp [2] (gN 2) (iSeq (eVar 1)) [] (eCall call "issue_of" [(eVar 2)]))])))
class C_is_view_of (T : Str → Option Fd) : Prop extends C_is_ascending T, C_is_verdict T, C_issue_of T where
  s_is_view_of : T "is_view_of" = some ⟨2, 3, b_is_view_of, none⟩
theorem r_is_view_of [h : C_is_view_of T] (n : Nat) (x0 x1 : D) : run T (n + 1) "is_view_of" [x0, x1] = endD (b_is_view_of (run T n) [some x0, some x1, none]) := (run_at h.s_is_view_of).trans rfl
def b_is_row_of (call : Call) : ZS := (sRet (eAnd (eCall call "is_view_of" [(eVar 0), (eVar 1)]) (eCmp .Eq (eBlt .len [(eVar 1)]) (eBlt .len [(eVar 0)]))))
class C_is_row_of (T : Str → Option Fd) : Prop extends C_is_view_of T where
  s_is_row_of : T "is_row_of" = some ⟨2, 2, b_is_row_of, none⟩
theorem r_is_row_of [h : C_is_row_of T] (n : Nat) (x0 x1 : D) : run T (n + 1) "is_row_of" [x0, x1] = endD (b_is_row_of (run T n) [some x0, some x1]) := (run_at h.s_is_row_of).trans rfl
def f_check_agenda_1 (call : Call) : ZS := (sSeq (sIf (eOr (eNot (eCall call "is_row_of" [(eVar 0), (eVar 4)])) (eNot (eCmp .Lt (eVar 2) (eCall call "order_of" [(eVar 4)])))) sNever sNil) (sSet 2 (eCall call "order_of" [(eVar 4)])))
def b_check_agenda (call : Call) : ZS := (sSeq (sIf (eNot (eCall call "are_issues" [(eVar 0)])) sNever sNil) (sSeq (sIf (eNot (eVar 1)) sNever sNil) (sSeq (sSet 2 (eLst [])) (sFor [3, 4] (gT [(gN 3), (gN 4)]) (iEnum (eVar 1)) (f_check_agenda_1 call)))))
class C_check_agenda (T : Str → Option Fd) : Prop extends C_are_issues T, C_is_row_of T, C_order_of T where
  s_check_agenda : T "check_agenda" = some ⟨2, 5, b_check_agenda, none⟩
theorem r_check_agenda [h : C_check_agenda T] (n : Nat) (x0 x1 : D) : run T (n + 1) "check_agenda" [x0, x1] = endD (b_check_agenda (run T n) [some x0, some x1, none, none, none]) := (run_at h.s_check_agenda).trans rfl
def f_hanging_views_2 (call : Call) : ZS := (sPut 1 (eVar 3) (eLit (.bl true)))
def f_hanging_views_1 (call : Call) : ZS := (sFor [3] (gN 3) (iSeq (eCall call "parts_of_view" [(eVar 2)])) (f_hanging_views_2 call))
def b_hanging_views (call : Call) : ZS := (sSeq (sSet 1 (eDic true)) (sSeq (sFor [2, 3] (gN 2) (iSeq (eVar 0)) (f_hanging_views_1 call)) (sRet (eVar 1))))
class C_hanging_views (T : Str → Option Fd) : Prop extends C_parts_of_view T where
  s_hanging_views : T "hanging_views" = some ⟨1, 4, b_hanging_views, none⟩
theorem r_hanging_views [h : C_hanging_views T] (n : Nat) (x0 : D) : run T (n + 1) "hanging_views" [x0] = endD (b_hanging_views (run T n) [some x0, none, none, none]) := (run_at h.s_hanging_views).trans rfl
def f_least_ones_1 (call : Call) : ZS := (sIf (eAnd (eCmp .NotIn (eVar 3) (eVar 1)) (eBlt .all [(eComp [4] (gN 4) (iSeq (eCall call "views_one_less" [(eVar 3)])) [] (eCmp .In (eVar 4) (eVar 1)))])) (sApp 2 (eBlt .list [(eVar 3)])) sNil)
def b_least_ones (call : Call) : ZS := (sSeq (sSet 2 (eLst [])) (sSeq (sFor [3, 4] (gN 3) (iSeq (eCall call "all_views" [(eVar 0)])) (f_least_ones_1 call)) (sRet (eCall call "sorted_views" [(eVar 2)]))))
class C_least_ones (T : Str → Option Fd) : Prop extends C_all_views T, C_sorted_views T, C_views_one_less T where
  s_least_ones : T "least_ones" = some ⟨2, 5, b_least_ones, none⟩
theorem r_least_ones [h : C_least_ones T] (n : Nat) (x0 x1 : D) : run T (n + 1) "least_ones" [x0, x1] = endD (b_least_ones (run T n) [some x0, some x1, none, none, none]) := (run_at h.s_least_ones).trans rfl
def b_Agenda___init__ (call : Call) : ZS := (sSeq (sExpr (eCall call "check_agenda" [(eVar 1), (eVar 2)])) (sSeq (sFld 0 "_issues" (eBlt .list [(eVar 1)])) (sSeq (sFld 0 "_opinions" (eComp [3] (gN 3) (iSeq (eVar 2)) [] (eBlt .list [(eVar 3)]))) (sSeq (sFld 0 "_hanging" (eCall call "hanging_views" [(eVar 2)])) (sFld 0 "_least" (eCall call "least_ones" [(eVar 1), (eFld (eVar 0) "_hanging")]))))))
class C_Agenda___init__ (T : Str → Option Fd) : Prop extends C_check_agenda T, C_hanging_views T, C_least_ones T where
  s_Agenda___init__ : T "Agenda.__init__" = some ⟨3, 4, b_Agenda___init__, some "Agenda"⟩
theorem r_Agenda___init__ [h : C_Agenda___init__ T] (n : Nat) (x0 x1 : D) : run T (n + 1) "Agenda.__init__" [x0, x1] = endI (b_Agenda___init__ (run T n) [some (.obj "Agenda" [] []), some x0, some x1, none]) := (run_at h.s_Agenda___init__).trans rfl
def b_Agenda_issues (call : Call) : ZS := (sRet (eBlt .list [(eFld (eVar 0) "_issues")]))
class C_Agenda_issues (T : Str → Option Fd) : Prop where
  s_Agenda_issues : T "Agenda.issues" = some ⟨1, 1, b_Agenda_issues, none⟩
theorem r_Agenda_issues [h : C_Agenda_issues T] (n : Nat) (x0 : D) : run T (n + 1) "Agenda.issues" [x0] = endD (b_Agenda_issues (run T n) [some x0]) := (run_at h.s_Agenda_issues).trans rfl
def b_Agenda_least (call : Call) : ZS := (sRet (eComp [1] (gN 1) (iSeq (eFld (eVar 0) "_least")) [] (eBlt .list [(eVar 1)])))
class C_Agenda_least (T : Str → Option Fd) : Prop where
  s_Agenda_least : T "Agenda.least" = some ⟨1, 2, b_Agenda_least, none⟩
theorem r_Agenda_least [h : C_Agenda_least T] (n : Nat) (x0 : D) : run T (n + 1) "Agenda.least" [x0] = endD (b_Agenda_least (run T n) [some x0, none]) := (run_at h.s_Agenda_least).trans rfl
def f__law_numbers_1 (call : Call) : ZS := (sIf (eCmp .GtE (eVar 3) (eBin .Pow (eLit (.int 10)) (eLit (.int 18)))) (sSeq (sApp 4 (eBin .Mod (eVar 3) (eLit (.int 1009)))) (sSet 3 (eBin .FloorDiv (eVar 3) (eLit (.int 1009))))) (sSeq (sSet 6 (eBin .Mod (eBin .Add (eBin .Add (eBin .Mult (eVar 3) (eLit (.int 48271))) (eBin .Mult (eBin .Add (eVar 5) (eLit (.int 1))) (eLit (.int 69621)))) (eBin .Mult (eVar 1) (eLit (.int 4001)))) (eLit (.int 2147483647)))) (sSeq (sSet 6 (eBin .Mod (eBin .Add (eBin .Mult (eVar 6) (eVar 6)) (eBin .Mult (eLit (.int 16807)) (eBin .Add (eVar 5) (eLit (.int 3))))) (eLit (.int 2147483629)))) (sApp 4 (eBin .Mod (eBin .FloorDiv (eVar 6) (eLit (.int 7))) (eLit (.int 1009)))))))
def b__law_numbers (call : Call) : ZS := (sSeq (sSet 3 (eBin .Mult (eLit (.int 1000003)) (eBin .Add (eVar 1) (eLit (.int 1))))) (sSeq (sIf (eCmp .Lt (eVar 1) (eBlt .len [(eVar 0)])) (sSet 3 (eBlt .int [(eIx (eVar 0) (eVar 1))])) sNil) (sSeq (sIf (eCmp .Lt (eVar 3) (eLit (.int 0))) (sSet 3 (eBin .Sub (eLit (.int 1)) (eBin .Mult (eLit (.int 2)) (eVar 3)))) sNil) (sSeq (sSet 4 (eLst [])) (sSeq (sFor [5, 6] (gN 5) (iRange [(eVar 2)]) (f__law_numbers_1 call)) (sRet (eVar 4)))))))
class C__law_numbers (T : Str → Option Fd) : Prop where
  s__law_numbers : T "_law_numbers" = some ⟨3, 7, b__law_numbers, none⟩
theorem r__law_numbers [h : C__law_numbers T] (n : Nat) (x0 x1 x2 : D) : run T (n + 1) "_law_numbers" [x0, x1, x2] = endD (b__law_numbers (run T n) [some x0, some x1, some x2, none, none, none, none]) := (run_at h.s__law_numbers).trans rfl
def f__law_name_1 (call : Call) : ZS := (sSeq (sSet 2 (eBin .Mod (eBin .Add (eBin .Add (eBin .Add (eBin .Mult (eVar 2) (eLit (.int 8191))) (eVar 0)) (eBin .Mult (eVar 6) (eLit (.int 77)))) (eLit (.int 5))) (eLit (.int 1000003)))) (sSet 5 (eBin .Add (eVar 5) (eIx (eVar 4) (eBin .Mod (eVar 2) (eLit (.int 36)))))))
def b__law_name (call : Call) : ZS := (sSeq (sSet 3 (eLit (.str "abcdefghijklmnopqrstuvwxyz"))) (sSeq (sSet 4 (eBin .Add (eVar 3) (eLit (.str "0123456789")))) (sSeq (sSet 5 (eIx (eVar 3) (eBin .Mod (eVar 0) (eLit (.int 26))))) (sSeq (sFor [6] (gN 6) (iRange [(eBin .Mod (eVar 1) (eLit (.int 12)))]) (f__law_name_1 call)) (sRet (eVar 5))))))
class C__law_name (T : Str → Option Fd) : Prop where
  s__law_name : T "_law_name" = some ⟨3, 7, b__law_name, none⟩
theorem r__law_name [h : C__law_name T] (n : Nat) (x0 x1 x2 : D) : run T (n + 1) "_law_name" [x0, x1, x2] = endD (b__law_name (run T n) [some x0, some x1, some x2, none, none, none, none]) := (run_at h.s__law_name).trans rfl
def f__law_names_2 (call : Call) : ZS := (sIf (eCmp .In (eVar 5) (eVar 3)) (sSet 5 (eBin .Add (eIx (eVar 2) (eBin .Mod (eBin .Add (eVar 7) (eVar 6)) (eLit (.int 26)))) (eCut (eVar 5) (some (eLit (.int 1))) none))) sNil)
def f__law_names_1 (call : Call) : ZS := (sSeq (sPar [7, 8, 9] [(eIx (eVar 0) (eBin .Mult (eLit (.int 3)) (eVar 4))), (eIx (eVar 0) (eBin .Add (eBin .Mult (eLit (.int 3)) (eVar 4)) (eLit (.int 1)))), (eIx (eVar 0) (eBin .Add (eBin .Mult (eLit (.int 3)) (eVar 4)) (eLit (.int 2))))]) (sSeq (sSet 5 (eCall call "_law_name" [(eVar 7), (eVar 8), (eVar 9)])) (sSeq (sIf (eAnd (eCmp .Gt (eVar 4) (eLit (.int 0))) (eAnd (eCmp .Eq (eBin .Mod (eVar 9) (eLit (.int 3))) (eLit (.int 0))) (eCmp .Lt (eBlt .len [(eIx (eVar 3) (eNeg (eLit (.int 1))))]) (eLit (.int 12))))) (sSet 5 (eBin .Add (eIx (eVar 3) (eNeg (eLit (.int 1)))) (eIx (eVar 5) (eNeg (eLit (.int 1)))))) sNil) (sSeq (sFor [6] (gN 6) (iRange [(eLit (.int 26))]) (f__law_names_2 call)) (sApp 3 (eVar 5))))))
def b__law_names (call : Call) : ZS := (sSeq (sSet 2 (eLit (.str "abcdefghijklmnopqrstuvwxyz"))) (sSeq (sSet 3 (eLst [])) (sSeq (sFor [4, 5, 6, 7, 8, 9] (gN 4) (iRange [(eVar 1)]) (f__law_names_1 call)) (sRet (eVar 3)))))
class C__law_names (T : Str → Option Fd) : Prop extends C__law_name T where
  s__law_names : T "_law_names" = some ⟨2, 10, b__law_names, none⟩
theorem r__law_names [h : C__law_names T] (n : Nat) (x0 x1 : D) : run T (n + 1) "_law_names" [x0, x1] = endD (b__law_names (run T n) [some x0, some x1, none, none, none, none, none, none, none, none]) := (run_at h.s__law_names).trans rfl
def b__law_issue (call : Call) : ZS := (sSeq (sIf (eCmp .Eq (eIx (eVar 0) (eLit (.int 0))) (eLit (.str "!"))) (sRet (eCut (eVar 0) (some (eLit (.int 1))) none)) sNil) (sRet (eVar 0)))
class C__law_issue (T : Str → Option Fd) : Prop where
  s__law_issue : T "_law_issue" = some ⟨1, 1, b__law_issue, none⟩
theorem r__law_issue [h : C__law_issue T] (n : Nat) (x0 : D) : run T (n + 1) "_law_issue" [x0] = endD (b__law_issue (run T n) [some x0]) := (run_at h.s__law_issue).trans rfl
def b__law_opposite (call : Call) : ZS := (sSeq (sIf (eCmp .Eq (eIx (eVar 0) (eLit (.int 0))) (eLit (.str "!"))) (sRet (eCut (eVar 0) (some (eLit (.int 1))) none)) sNil) (sRet (eBin .Add (eLit (.str "!")) (eVar 0))))
class C__law_opposite (T : Str → Option Fd) : Prop where
  s__law_opposite : T "_law_opposite" = some ⟨1, 1, b__law_opposite, none⟩
theorem r__law_opposite [h : C__law_opposite T] (n : Nat) (x0 : D) : run T (n + 1) "_law_opposite" [x0] = endD (b__law_opposite (run T n) [some x0]) := (run_at h.s__law_opposite).trans rfl
def b__law_view (call : Call) : ZS := (sRet (eComp [1] (gN 1) (iSeq (eBlt .sorted [(eComp [2] (gN 2) (iSeq (eVar 0)) [] (eTup [(eCall call "_law_issue" [(eVar 2)]), (eBlt .int [(eCmp .Eq (eIx (eVar 2) (eLit (.int 0))) (eLit (.str "!")))]), (eVar 2)]))])) [] (eIx (eVar 1) (eLit (.int 2)))))
class C__law_view (T : Str → Option Fd) : Prop extends C__law_issue T where
  s__law_view : T "_law_view" = some ⟨1, 3, b__law_view, none⟩
theorem r__law_view [h : C__law_view T] (n : Nat) (x0 : D) : run T (n + 1) "_law_view" [x0] = endD (b__law_view (run T n) [some x0, none, none]) := (run_at h.s__law_view).trans rfl
def f__law_rows_2 (call : Call) : ZS := (sSet 3 (eBin .Add (eVar 3) (eLst [(eBin .Add (eVar 4) (eLst [(eVar 2)])), (eBin .Add (eVar 4) (eLst [(eBin .Add (eLit (.str "!")) (eVar 2))]))])))
def f__law_rows_1 (call : Call) : ZS := (sSeq (sSet 3 (eLst [])) (sSeq (sFor [4] (gN 4) (iSeq (eVar 1)) (f__law_rows_2 call)) (sMove 1 3)))
def b__law_rows (call : Call) : ZS := (sSeq (sSet 1 (eLst [(eLst [])])) (sSeq (sFor [2, 3, 4] (gN 2) (iSeq (eVar 0)) (f__law_rows_1 call)) (sRet (eVar 1))))
class C__law_rows (T : Str → Option Fd) : Prop where
  s__law_rows : T "_law_rows" = some ⟨1, 5, b__law_rows, none⟩
theorem r__law_rows [h : C__law_rows T] (n : Nat) (x0 : D) : run T (n + 1) "_law_rows" [x0] = endD (b__law_rows (run T n) [some x0, none, none, none, none]) := (run_at h.s__law_rows).trans rfl
def b__law_has (call : Call) : ZS := (sRet (eCmp .Eq (eComp [2] (gN 2) (iSeq (eVar 1)) [(eCmp .NotIn (eVar 2) (eVar 0))] (eVar 2)) (eLst [])))
class C__law_has (T : Str → Option Fd) : Prop where
  s__law_has : T "_law_has" = some ⟨2, 3, b__law_has, none⟩
theorem r__law_has [h : C__law_has T] (n : Nat) (x0 x1 : D) : run T (n + 1) "_law_has" [x0, x1] = endD (b__law_has (run T n) [some x0, some x1, none]) := (run_at h.s__law_has).trans rfl
def f__law_agenda_1 (call : Call) : ZS := (sSeq (sSet 11 (eBin .Add (eLit (.int 1)) (eBin .Mod (eIx (eVar 3) (eBin .Add (eLit (.int 3)) (eVar 10))) (eLit (.int 3))))) (sApp 9 (eComp [13] (gN 13) (iRange [(eVar 11)]) [] (eIx (eLst [(eIx (eVar 4) (eBin .Mod (eBin .Add (eIx (eVar 6) (eBin .Add (eBin .Mult (eLit (.int 5)) (eVar 10)) (eVar 13))) (eVar 13)) (eBlt .len [(eVar 4)]))), (eBin .Add (eLit (.str "!")) (eIx (eVar 4) (eBin .Mod (eBin .Add (eIx (eVar 6) (eBin .Add (eBin .Mult (eLit (.int 5)) (eVar 10)) (eVar 13))) (eVar 13)) (eBlt .len [(eVar 4)]))))]) (eBin .Mod (eIx (eVar 6) (eBin .Add (eBin .Add (eLit (.int 20)) (eBin .Mult (eLit (.int 5)) (eVar 10))) (eVar 13))) (eLit (.int 2)))))))
def b__law_agenda (call : Call) : ZS := (sSeq (sSet 3 (eCall call "_law_numbers" [(eVar 0), (eVar 1), (eLit (.int 20))])) (sSeq (sSet 4 (eBlt .sorted [(eCall call "_law_names" [(eCall call "_law_numbers" [(eVar 0), (eBin .Add (eVar 1) (eLit (.int 1))), (eLit (.int 18))]), (eBin .Add (eLit (.int 1)) (eBin .Mod (eIx (eVar 3) (eLit (.int 0))) (eVar 2)))])])) (sSeq (sSet 5 (eCall call "_law_rows" [(eVar 4)])) (sSeq (sSet 6 (eCall call "_law_numbers" [(eVar 0), (eBin .Add (eVar 1) (eLit (.int 2))), (eLit (.int 64))])) (sSeq (sSet 7 (eBin .Mod (eIx (eVar 3) (eLit (.int 1))) (eLit (.int 6)))) (sSeq (sSet 8 (eComp [10] (gN 10) (iRange [(eBlt .len [(eVar 5)])]) [(eCmp .Eq (eBin .Mod (eIx (eVar 6) (eVar 10)) (eIx (eLst [(eLit (.int 2)), (eLit (.int 5)), (eLit (.int 7)), (eLit (.int 2)), (eLit (.int 1)), (eLit (.int 9))]) (eVar 7))) (eLit (.int 0)))] (eIx (eVar 5) (eVar 10)))) (sSeq (sIf (eCmp .Eq (eVar 7) (eLit (.int 2))) (sSet 8 (eComp [10] (gN 10) (iRange [(eBlt .len [(eVar 5)])]) [(eCmp .Gt (eBin .Mod (eIx (eVar 6) (eVar 10)) (eLit (.int 7))) (eLit (.int 0)))] (eIx (eVar 5) (eVar 10)))) sNil) (sSeq (sIf (eCmp .Eq (eVar 7) (eLit (.int 3))) (sSeq (sSet 9 (eLst [])) (sSeq (sFor [10, 11, 13] (gN 10) (iRange [(eBin .Add (eLit (.int 1)) (eBin .Mod (eIx (eVar 3) (eLit (.int 2))) (eLit (.int 4))))]) (f__law_agenda_1 call)) (sSet 8 (eComp [12] (gN 12) (iSeq (eVar 5)) [(eCmp .Eq (eComp [14] (gN 14) (iSeq (eVar 9)) [(eCall call "_law_has" [(eVar 12), (eVar 14)])] (eVar 14)) (eLst []))] (eVar 12))))) sNil) (sSeq (sIf (eCmp .Eq (eVar 8) (eLst [])) (sSet 8 (eLst [(eIx (eVar 5) (eBin .Mod (eIx (eVar 6) (eLit (.int 0))) (eBlt .len [(eVar 5)])))])) sNil) (sRet (eTup [(eVar 4), (eVar 8)])))))))))))
class C__law_agenda (T : Str → Option Fd) : Prop extends C__law_has T, C__law_names T, C__law_numbers T, C__law_rows T where
  s__law_agenda : T "_law_agenda" = some ⟨3, 15, b__law_agenda, none⟩
theorem r__law_agenda [h : C__law_agenda T] (n : Nat) (x0 x1 x2 : D) : run T (n + 1) "_law_agenda" [x0, x1, x2] = endD (b__law_agenda (run T n) [some x0, some x1, some x2, none, none, none, none, none, none, none, none, none, none, none, none]) := (run_at h.s__law_agenda).trans rfl
def b__law_copied (call : Call) : ZS := (sRet (eComp [1] (gN 1) (iSeq (eVar 0)) [] (eBlt .list [(eVar 1)])))
class C__law_copied (T : Str → Option Fd) : Prop where
  s__law_copied : T "_law_copied" = some ⟨1, 2, b__law_copied, none⟩
theorem r__law_copied [h : C__law_copied T] (n : Nat) (x0 : D) : run T (n + 1) "_law_copied" [x0] = endD (b__law_copied (run T n) [some x0, none]) := (run_at h.s__law_copied).trans rfl
def f__law_due_2 (call : Call) : ZS := (sIf (eCmp .Eq (eComp [7] (gN 7) (iSeq (eVar 3)) [(eCmp .NotIn (eVar 6) (eVar 7))] (eVar 7)) (eLst [])) (sApp 4 (eVar 6)) sNil)
def f__law_due_1 (call : Call) : ZS := (sFor [6, 7] (gN 6) (iSeq (eLst [(eVar 5), (eBin .Add (eLit (.str "!")) (eVar 5))])) (f__law_due_2 call))
def b__law_due (call : Call) : ZS := (sSeq (sSet 3 (eComp [7] (gN 7) (iSeq (eVar 1)) [(eCall call "_law_has" [(eVar 7), (eVar 2)])] (eVar 7))) (sSeq (sSet 4 (eLst [])) (sSeq (sFor [5, 6, 7] (gN 5) (iSeq (eVar 0)) (f__law_due_1 call)) (sRet (eVar 4)))))
class C__law_due (T : Str → Option Fd) : Prop extends C__law_has T where
  s__law_due : T "_law_due" = some ⟨3, 8, b__law_due, none⟩
theorem r__law_due [h : C__law_due T] (n : Nat) (x0 x1 x2 : D) : run T (n + 1) "_law_due" [x0, x1, x2] = endD (b__law_due (run T n) [some x0, some x1, some x2, none, none, none, none, none]) := (run_at h.s__law_due).trans rfl
end Lb
/-! the text's shared defs, as functions (printed by libgen.py) -/
namespace Lb
open PySem PySem.Spec PyProof.Rows Z
variable {T : Str → Option Fd}
def b_Agenda_is_row (call : Call) : ZS := (sRet (eCall call "is_row_of" [(eFld (eVar 0) "_issues"), (eVar 1)]))
class C_Agenda_is_row (T : Str → Option Fd) : Prop extends C_is_row_of T where
  s_Agenda_is_row : T "Agenda.is_row" = some ⟨2, 2, b_Agenda_is_row, none⟩
theorem r_Agenda_is_row [h : C_Agenda_is_row T] (n : Nat) (x0 x1 : D) : run T (n + 1) "Agenda.is_row" [x0, x1] = endD (b_Agenda_is_row (run T n) [some x0, some x1]) := (run_at h.s_Agenda_is_row).trans rfl
def b_Agenda_is_opinion (call : Call) : ZS := (sRet (eAnd (eMeth call (eVar 0) "is_row" [(eVar 1)]) (eMeth call (eVar 0) "hangs" [(eVar 1)])))
class C_Agenda_is_opinion (T : Str → Option Fd) : Prop extends C_Agenda_hangs T, C_Agenda_is_row T where
  s_Agenda_is_opinion : T "Agenda.is_opinion" = some ⟨2, 2, b_Agenda_is_opinion, none⟩
theorem r_Agenda_is_opinion [h : C_Agenda_is_opinion T] (n : Nat) (x0 x1 : D) : run T (n + 1) "Agenda.is_opinion" [x0, x1] = endD (b_Agenda_is_opinion (run T n) [some x0, some x1]) := (run_at h.s_Agenda_is_opinion).trans rfl
def b_is_seat (call : Call) : ZS := (sSeq (sIf (eOr (eNot (eIsi (eVar 1) "tuple")) (eCmp .NotEq (eBlt .len [(eVar 1)]) (eLit (.int 2)))) (sRet (eLit (.bl false))) sNil) (sRet (eAnd (eCall call "is_name" [(eIx (eVar 1) (eLit (.int 0)))]) (eMeth call (eVar 0) "is_opinion" [(eIx (eVar 1) (eLit (.int 1)))]))))
class C_is_seat (T : Str → Option Fd) : Prop extends C_Agenda_is_opinion T, C_is_name T where
  s_is_seat : T "is_seat" = some ⟨2, 2, b_is_seat, none⟩
theorem r_is_seat [h : C_is_seat T] (n : Nat) (x0 x1 : D) : run T (n + 1) "is_seat" [x0, x1] = endD (b_is_seat (run T n) [some x0, some x1]) := (run_at h.s_is_seat).trans rfl
def f_check_panel_1 (call : Call) : ZS := (sSeq (sIf (eOr (eNot (eCall call "is_seat" [(eVar 0), (eVar 4)])) (eNot (eCmp .Lt (eVar 2) (eIx (eVar 4) (eLit (.int 0)))))) sNever sNil) (sSet 2 (eIx (eVar 4) (eLit (.int 0)))))
def b_check_panel (call : Call) : ZS := (sSeq (sIf (eNot (eCmp2 .LtE .LtE (eLit (.int 1)) (eBlt .len [(eVar 1)]) (eLit (.int 12)))) sNever sNil) (sSeq (sSet 2 (eLit (.str ""))) (sFor [3, 4] (gT [(gN 3), (gN 4)]) (iEnum (eVar 1)) (f_check_panel_1 call))))
class C_check_panel (T : Str → Option Fd) : Prop extends C_is_seat T where
  s_check_panel : T "check_panel" = some ⟨2, 5, b_check_panel, none⟩
theorem r_check_panel [h : C_check_panel T] (n : Nat) (x0 x1 : D) : run T (n + 1) "check_panel" [x0, x1] = endD (b_check_panel (run T n) [some x0, some x1, none, none, none]) := (run_at h.s_check_panel).trans rfl
def b_supporters (call : Call) : ZS := (sRet (eComp [2, 3] (gT [(gN 2), (gN 3)]) (iSeq (eVar 0)) [(eCmp .In (eVar 1) (eVar 3))] (eVar 2)))
class C_supporters (T : Str → Option Fd) : Prop where
  s_supporters : T "supporters" = some ⟨2, 4, b_supporters, none⟩
theorem r_supporters [h : C_supporters T] (n : Nat) (x0 x1 : D) : run T (n + 1) "supporters" [x0, x1] = endD (b_supporters (run T n) [some x0, some x1, none, none]) := (run_at h.s_supporters).trans rfl
def b_count (call : Call) : ZS := (sRet (eBlt .len [(eCall call "supporters" [(eVar 0), (eVar 1)])]))
class C_count (T : Str → Option Fd) : Prop extends C_supporters T where
  s_count : T "count" = some ⟨2, 2, b_count, none⟩
theorem r_count [h : C_count T] (n : Nat) (x0 x1 : D) : run T (n + 1) "count" [x0, x1] = endD (b_count (run T n) [some x0, some x1]) := (run_at h.s_count).trans rfl
def b_is_more_than_half (call : Call) : ZS := (sRet (eCmp .Gt (eBin .Mult (eLit (.int 2)) (eCall call "count" [(eVar 0), (eVar 1)])) (eBlt .len [(eVar 0)])))
class C_is_more_than_half (T : Str → Option Fd) : Prop extends C_count T where
  s_is_more_than_half : T "is_more_than_half" = some ⟨2, 2, b_is_more_than_half, none⟩
theorem r_is_more_than_half [h : C_is_more_than_half T] (n : Nat) (x0 x1 : D) : run T (n + 1) "is_more_than_half" [x0, x1] = endD (b_is_more_than_half (run T n) [some x0, some x1]) := (run_at h.s_is_more_than_half).trans rfl
def b_majority_of (call : Call) : ZS := (sRet (eComp [2] (gN 2) (iSeq (eMeth call (eVar 0) "verdicts" [])) [(eCall call "is_more_than_half" [(eVar 1), (eVar 2)])] (eVar 2)))
class C_majority_of (T : Str → Option Fd) : Prop extends C_Agenda_verdicts T, C_is_more_than_half T where
  s_majority_of : T "majority_of" = some ⟨2, 3, b_majority_of, none⟩
theorem r_majority_of [h : C_majority_of T] (n : Nat) (x0 x1 : D) : run T (n + 1) "majority_of" [x0, x1] = endD (b_majority_of (run T n) [some x0, some x1, none]) := (run_at h.s_majority_of).trans rfl
def b_majority (call : Call) : ZS := (sSeq (sExpr (eCall call "check_panel" [(eVar 0), (eVar 1)])) (sRet (eCall call "majority_of" [(eVar 0), (eVar 1)])))
class C_majority (T : Str → Option Fd) : Prop extends C_check_panel T, C_majority_of T where
  s_majority : T "majority" = some ⟨2, 2, b_majority, none⟩
theorem r_majority [h : C_majority T] (n : Nat) (x0 x1 : D) : run T (n + 1) "majority" [x0, x1] = endD (b_majority (run T n) [some x0, some x1]) := (run_at h.s_majority).trans rfl
def b_to_add (call : Call) : ZS := (sRet (eBlt .max [(eLit (.int 0)), (eBin .Add (eBin .Sub (eBlt .len [(eVar 0)]) (eBin .Mult (eLit (.int 2)) (eCall call "count" [(eVar 0), (eVar 1)]))) (eLit (.int 1)))]))
class C_to_add (T : Str → Option Fd) : Prop extends C_count T where
  s_to_add : T "to_add" = some ⟨2, 2, b_to_add, none⟩
theorem r_to_add [h : C_to_add T] (n : Nat) (x0 x1 : D) : run T (n + 1) "to_add" [x0, x1] = endD (b_to_add (run T n) [some x0, some x1]) := (run_at h.s_to_add).trans rfl
def b_changes_between (call : Call) : ZS := (sRet (eComp [2, 3, 4, 5] (gT [(gT [(gN 2), (gN 3)]), (gT [(gN 4), (gN 5)])]) (iZip (eVar 0) (eVar 1)) [(eCmp .NotEq (eVar 3) (eVar 5))] (eVar 2)))
class C_changes_between (T : Str → Option Fd) : Prop where
  s_changes_between : T "changes_between" = some ⟨2, 6, b_changes_between, none⟩
theorem r_changes_between [h : C_changes_between T] (n : Nat) (x0 x1 : D) : run T (n + 1) "changes_between" [x0, x1] = endD (b_changes_between (run T n) [some x0, some x1, none, none, none, none]) := (run_at h.s_changes_between).trans rfl
def b__law_is_integer (call : Call) : ZS := (sRet (eAnd (eIsi (eVar 0) "int") (eNot (eIsi (eVar 0) "bool"))))
class C__law_is_integer (T : Str → Option Fd) : Prop where
  s__law_is_integer : T "_law_is_integer" = some ⟨1, 1, b__law_is_integer, none⟩
theorem r__law_is_integer [h : C__law_is_integer T] (n : Nat) (x0 : D) : run T (n + 1) "_law_is_integer" [x0] = endD (b__law_is_integer (run T n) [some x0]) := (run_at h.s__law_is_integer).trans rfl
def b__law_holds (call : Call) : ZS := (sRet (eCmp .Eq (eComp [2] (gN 2) (iSeq (eVar 1)) [(eCmp .NotIn (eVar 2) (eVar 0))] (eVar 2)) (eLst [])))
class C__law_holds (T : Str → Option Fd) : Prop where
  s__law_holds : T "_law_holds" = some ⟨2, 3, b__law_holds, none⟩
theorem r__law_holds [h : C__law_holds T] (n : Nat) (x0 x1 : D) : run T (n + 1) "_law_holds" [x0, x1] = endD (b__law_holds (run T n) [some x0, some x1, none]) := (run_at h.s__law_holds).trans rfl
def f__law_agenda_v2_1 (call : Call) : ZS := (sApp 4 (eBin .Add (eBin .Add (eCut (eLit (.str "mm")) none (some (eBin .Mod (eIx (eVar 3) (eLit (.int 1))) (eLit (.int 3))))) (eIx (eLit (.str "abcdef")) (eVar 5))) (eIx (eLst [(eLit (.str "")), (eBlt .str [(eIx (eVar 3) (eBin .Add (eLit (.int 2)) (eVar 5)))])]) (eBin .Mod (eBin .FloorDiv (eIx (eVar 3) (eLit (.int 8))) (eBin .Add (eVar 5) (eLit (.int 1)))) (eLit (.int 2))))))
def b__law_agenda_v2 (call : Call) : ZS := (sSeq (sSet 3 (eCall call "_law_numbers" [(eVar 0), (eVar 1), (eLit (.int 14))])) (sSeq (sSet 4 (eLst [])) (sSeq (sFor [5] (gN 5) (iRange [(eBin .Add (eLit (.int 1)) (eBin .Mod (eIx (eVar 3) (eLit (.int 0))) (eVar 2)))]) (f__law_agenda_v2_1 call)) (sSeq (sSet 6 (eCall call "_law_rows" [(eVar 4)])) (sSeq (sSet 7 (eCall call "_law_numbers" [(eVar 0), (eBin .Add (eVar 1) (eLit (.int 1))), (eLit (.int 32))])) (sSeq (sSet 8 (eBin .Mod (eIx (eVar 3) (eLit (.int 9))) (eLit (.int 6)))) (sSeq (sSet 9 (eComp [5] (gN 5) (iRange [(eBlt .len [(eVar 6)])]) [(eCmp .Lt (eBin .Mod (eBin .Add (eIx (eVar 7) (eBin .Mod (eVar 5) (eLit (.int 32)))) (eBin .Mult (eBin .FloorDiv (eVar 5) (eLit (.int 32))) (eLit (.int 5)))) (eLit (.int 8))) (eBin .Add (eLit (.int 2)) (eBin .Mod (eIx (eVar 3) (eLit (.int 10))) (eLit (.int 6)))))] (eIx (eVar 6) (eVar 5)))) (sSeq (sIf (eCmp .Eq (eVar 8) (eLit (.int 0))) (sSet 9 (eComp [12] (gN 12) (iSeq (eVar 6)) [(eCmp .Eq (eBin .Mod (eBlt .len [(eComp [13] (gN 13) (iSeq (eVar 12)) [(eCmp .NotEq (eIx (eVar 13) (eLit (.int 0))) (eLit (.str "!")))] (eVar 13))]) (eLit (.int 2))) (eBin .Mod (eIx (eVar 3) (eLit (.int 11))) (eLit (.int 2))))] (eVar 12))) sNil) (sSeq (sIf (eCmp .Eq (eVar 8) (eLit (.int 1))) (sSeq (sSet 10 (eComp [5] (gN 5) (iRange [(eBlt .len [(eVar 4)])]) [(eCmp .Gt (eBin .Mod (eIx (eVar 7) (eBin .Add (eLit (.int 1)) (eVar 5))) (eLit (.int 3))) (eLit (.int 0)))] (eIx (eIx (eVar 6) (eBin .Mod (eIx (eVar 7) (eLit (.int 0))) (eBlt .len [(eVar 6)]))) (eVar 5)))) (sSeq (sSet 11 (eComp [5] (gN 5) (iRange [(eBlt .len [(eVar 4)])]) [(eCmp .Eq (eBin .Mod (eIx (eVar 7) (eBin .Add (eLit (.int 8)) (eVar 5))) (eLit (.int 2))) (eLit (.int 0)))] (eIx (eIx (eVar 6) (eBin .Mod (eIx (eVar 7) (eLit (.int 7))) (eBlt .len [(eVar 6)]))) (eVar 5)))) (sSet 9 (eComp [12] (gN 12) (iSeq (eVar 6)) [(eAnd (eCmp .NotEq (eVar 10) (eLst [])) (eAnd (eNot (eCall call "_law_holds" [(eVar 12), (eVar 10)])) (eOr (eCmp .Eq (eVar 11) (eLst [])) (eNot (eCall call "_law_holds" [(eVar 12), (eVar 11)])))))] (eVar 12))))) sNil) (sSeq (sIf (eCmp .Eq (eVar 8) (eLit (.int 2))) (sSeq (sSet 9 (eComp [5] (gN 5) (iRange [(eBin .Add (eLit (.int 1)) (eBin .Mod (eIx (eVar 3) (eLit (.int 12))) (eLit (.int 6))))]) [] (eIx (eVar 6) (eBin .Mod (eIx (eVar 7) (eVar 5)) (eBlt .len [(eVar 6)]))))) (sSet 9 (eComp [12] (gN 12) (iSeq (eVar 6)) [(eCmp .In (eVar 12) (eVar 9))] (eVar 12)))) sNil) (sSeq (sIf (eCmp .Eq (eVar 9) (eLst [])) (sSet 9 (eLst [(eIx (eVar 6) (eBin .Mod (eIx (eVar 3) (eLit (.int 13))) (eBlt .len [(eVar 6)])))])) sNil) (sRet (eTup [(eVar 4), (eVar 9)])))))))))))))
class C__law_agenda_v2 (T : Str → Option Fd) : Prop extends C__law_holds T, C__law_numbers T, C__law_rows T where
  s__law_agenda_v2 : T "_law_agenda" = some ⟨3, 14, b__law_agenda_v2, none⟩
theorem r__law_agenda_v2 [h : C__law_agenda_v2 T] (n : Nat) (x0 x1 x2 : D) : run T (n + 1) "_law_agenda" [x0, x1, x2] = endD (b__law_agenda_v2 (run T n) [some x0, some x1, some x2, none, none, none, none, none, none, none, none, none, none, none]) := (run_at h.s__law_agenda_v2).trans rfl
def f__law_panel_1 (call : Call) : ZS := (sSeq (sSet 7 (eIx (eVar 4) (eBin .Add (eLit (.int 2)) (eVar 6)))) (sSeq (sIf (eCmp .Eq (eBin .Mod (eIx (eVar 4) (eLit (.int 1))) (eLit (.int 3))) (eLit (.int 0))) (sSet 7 (eIx (eVar 4) (eBin .Add (eLit (.int 2)) (eBin .Mod (eVar 7) (eLit (.int 3)))))) sNil) (sSeq (sSet 8 (eBin .Add (eIx (eLit (.str "abcdefghijkl")) (eVar 6)) (eIx (eLst [(eLit (.str "")), (eBlt .str [(eIx (eVar 4) (eBin .Add (eLit (.int 15)) (eVar 6)))])]) (eBin .Mod (eBin .FloorDiv (eIx (eVar 4) (eLit (.int 14))) (eBin .Add (eVar 6) (eLit (.int 1)))) (eLit (.int 2)))))) (sApp 5 (eTup [(eVar 8), (eBlt .list [(eIx (eVar 2) (eBin .Mod (eVar 7) (eBlt .len [(eVar 2)])))])])))))
def b__law_panel (call : Call) : ZS := (sSeq (sSet 4 (eCall call "_law_numbers" [(eVar 0), (eVar 1), (eLit (.int 28))])) (sSeq (sSet 5 (eLst [])) (sSeq (sFor [6, 7, 8] (gN 6) (iRange [(eBin .Add (eLit (.int 1)) (eBin .Mod (eIx (eVar 4) (eLit (.int 0))) (eVar 3)))]) (f__law_panel_1 call)) (sRet (eVar 5)))))
class C__law_panel (T : Str → Option Fd) : Prop extends C__law_numbers T where
  s__law_panel : T "_law_panel" = some ⟨4, 9, b__law_panel, none⟩
theorem r__law_panel [h : C__law_panel T] (n : Nat) (x0 x1 x2 x3 : D) : run T (n + 1) "_law_panel" [x0, x1, x2, x3] = endD (b__law_panel (run T n) [some x0, some x1, some x2, some x3, none, none, none, none, none]) := (run_at h.s__law_panel).trans rfl
def b__law_copied_panel (call : Call) : ZS := (sRet (eComp [1, 2] (gT [(gN 1), (gN 2)]) (iSeq (eVar 0)) [] (eTup [(eVar 1), (eBlt .list [(eVar 2)])])))
class C__law_copied_panel (T : Str → Option Fd) : Prop where
  s__law_copied_panel : T "_law_copied_panel" = some ⟨1, 3, b__law_copied_panel, none⟩
theorem r__law_copied_panel [h : C__law_copied_panel T] (n : Nat) (x0 : D) : run T (n + 1) "_law_copied_panel" [x0] = endD (b__law_copied_panel (run T n) [some x0, none, none]) := (run_at h.s__law_copied_panel).trans rfl
def f__law_added_1 (call : Call) : ZS := (sIf (eCmp .Gt (eBin .Mult (eLit (.int 2)) (eBin .Add (eVar 0) (eVar 2))) (eBin .Add (eVar 1) (eVar 2))) (sRet (eVar 2)) sNil)
def b__law_added (call : Call) : ZS := (sSeq (sFor [2] (gN 2) (iRange [(eLit (.int 20))]) (f__law_added_1 call)) (sRet (eLit .non)))
class C__law_added (T : Str → Option Fd) : Prop where
  s__law_added : T "_law_added" = some ⟨2, 3, b__law_added, none⟩
theorem r__law_added [h : C__law_added T] (n : Nat) (x0 x1 : D) : run T (n + 1) "_law_added" [x0, x1] = endD (b__law_added (run T n) [some x0, some x1, none]) := (run_at h.s__law_added).trans rfl
def b__law_verdict_right (call : Call) : ZS := (sSeq (sSet 4 (eBlt .len [(eComp [12, 10] (gT [(gN 12), (gN 10)]) (iSeq (eVar 2)) [(eCmp .In (eVar 3) (eVar 10))] (eVar 12))])) (sSeq (sSet 5 (eCall call "_law_added" [(eVar 4), (eBlt .len [(eVar 2)])])) (sSeq (sSet 6 (eCall call "_law_copied_panel" [(eVar 2)])) (sSeq (sSet 7 (eCall call "to_add" [(eVar 6), (eVar 3)])) (sSeq (sIf (eOr (eNot (eCall call "_law_is_integer" [(eVar 7)])) (eOr (eCmp .NotEq (eVar 7) (eVar 5)) (eCmp .NotEq (eVar 6) (eVar 2)))) (sRet (eLit (.bl false))) sNil) (sSeq (sSet 8 (eComp [10] (gN 10) (iSeq (eVar 1)) [(eCmp .In (eVar 3) (eVar 10))] (eVar 10))) (sSeq (sIf (eOr (eCmp .Eq (eVar 8) (eLst [])) (eCmp .Gt (eBin .Add (eBlt .len [(eVar 2)]) (eVar 5)) (eLit (.int 12)))) (sRet (eLit (.bl true))) sNil) (sSeq (sSet 9 (eBin .Add (eVar 2) (eComp [11] (gN 11) (iRange [(eVar 5)]) [] (eTup [(eBin .Add (eLit (.str "z")) (eIx (eLit (.str "abcdefghijkl")) (eVar 11))), (eIx (eVar 8) (eLit (.int 0)))])))) (sSeq (sIf (eCmp .NotIn (eVar 3) (eCall call "majority" [(eVar 0), (eVar 9)])) (sRet (eLit (.bl false))) sNil) (sRet (eOr (eCmp .Eq (eVar 5) (eLit (.int 0))) (eCmp .NotIn (eVar 3) (eCall call "majority" [(eVar 0), (eCut (eVar 9) none (some (eNeg (eLit (.int 1)))))])))))))))))))
class C__law_verdict_right (T : Str → Option Fd) : Prop extends C__law_added T, C__law_copied_panel T, C__law_is_integer T, C_majority T, C_to_add T where
  s__law_verdict_right : T "_law_verdict_right" = some ⟨4, 13, b__law_verdict_right, none⟩
theorem r__law_verdict_right [h : C__law_verdict_right T] (n : Nat) (x0 x1 x2 x3 : D) : run T (n + 1) "_law_verdict_right" [x0, x1, x2, x3] = endD (b__law_verdict_right (run T n) [some x0, some x1, some x2, some x3, none, none, none, none, none, none, none, none, none]) := (run_at h.s__law_verdict_right).trans rfl
end Lb
/-! the text's shared defs, as functions (printed by libgen.py) -/
namespace Lb
open PySem PySem.Spec PyProof.Rows Z
variable {T : Str → Option Fd}
def b_is_thing (call : Call) : ZS := (sRet (eAnd (eIsi (eVar 0) "str") (eAnd (eCmp .Eq (eBlt .len [(eVar 0)]) (eLit (.int 1))) (eCmp .In (eVar 0) (eLit (.str "abcdefghijklmnopqrstuvwxyz"))))))
class C_is_thing (T : Str → Option Fd) : Prop where
  s_is_thing : T "is_thing" = some ⟨1, 1, b_is_thing, none⟩
theorem rb_is_thing (c : Call) (b : Call → ZS) (x0 : D) : runFd c ⟨1, 1, b, none⟩ [x0] = endD (b c [some x0]) := rfl
theorem r_is_thing [h : C_is_thing T] (n : Nat) (x0 : D) : run T (n + 1) "is_thing" [x0] = endD (b_is_thing (run T n) [some x0]) := (run_at h.s_is_thing).trans (rb_is_thing _ _ _)
def b_are_things (call : Call) : ZS := (sSeq (sIf (eOr (eNot (eIsi (eVar 0) "list")) (eNot (eCmp2 .LtE .LtE (eLit (.int 2)) (eBlt .len [(eVar 0)]) (eLit (.int 4))))) (sRet (eLit (.bl false))) sNil) (sSeq (sIf (eNot (eBlt .all [(eComp [1] (gN 1) (iSeq (eVar 0)) [] (eCall call "is_thing" [(eVar 1)]))])) (sRet (eLit (.bl false))) sNil) (sRet (eBlt .all [(eComp [2, 3] (gT [(gN 2), (gN 3)]) (iZip (eVar 0) (eCut (eVar 0) (some (eLit (.int 1))) none)) [] (eCmp .Lt (eVar 2) (eVar 3)))]))))
class C_are_things (T : Str → Option Fd) : Prop extends C_is_thing T where
  s_are_things : T "are_things" = some ⟨1, 4, b_are_things, none⟩
theorem rb_are_things (c : Call) (b : Call → ZS) (x0 : D) : runFd c ⟨1, 4, b, none⟩ [x0] = endD (b c [some x0, none, none, none]) := rfl
theorem r_are_things [h : C_are_things T] (n : Nat) (x0 : D) : run T (n + 1) "are_things" [x0] = endD (b_are_things (run T n) [some x0, none, none, none]) := (run_at h.s_are_things).trans (rb_are_things _ _ _)
def f_pairs_of_1 (call : Call) : ZS := (sExt 1 (eComp [4] (gN 4) (iSeq (eCut (eVar 0) (some (eBin .Add (eVar 2) (eLit (.int 1)))) none)) [] (eTup [(eVar 3), (eVar 4)])))
def b_pairs_of (call : Call) : ZS := (sSeq (sSet 1 (eLst [])) (sSeq (sFor [2, 3, 4] (gT [(gN 2), (gN 3)]) (iEnum (eVar 0)) (f_pairs_of_1 call)) (sRet (eVar 1))))
class C_pairs_of (T : Str → Option Fd) : Prop where
  s_pairs_of : T "pairs_of" = some ⟨1, 5, b_pairs_of, none⟩
theorem rb_pairs_of (c : Call) (b : Call → ZS) (x0 : D) : runFd c ⟨1, 5, b, none⟩ [x0] = endD (b c [some x0, none, none, none, none]) := rfl
theorem r_pairs_of [h : C_pairs_of T] (n : Nat) (x0 : D) : run T (n + 1) "pairs_of" [x0] = endD (b_pairs_of (run T n) [some x0, none, none, none, none]) := (run_at h.s_pairs_of).trans (rb_pairs_of _ _ _)
def f_threes_of_1 (call : Call) : ZS := (sExt 1 (eComp [4, 5] (gT [(gN 4), (gN 5)]) (iSeq (eCall call "pairs_of" [(eCut (eVar 0) (some (eBin .Add (eVar 2) (eLit (.int 1)))) none)])) [] (eTup [(eVar 3), (eVar 4), (eVar 5)])))
def b_threes_of (call : Call) : ZS := (sSeq (sSet 1 (eLst [])) (sSeq (sFor [2, 3, 4, 5] (gT [(gN 2), (gN 3)]) (iEnum (eVar 0)) (f_threes_of_1 call)) (sRet (eVar 1))))
class C_threes_of (T : Str → Option Fd) : Prop extends C_pairs_of T where
  s_threes_of : T "threes_of" = some ⟨1, 6, b_threes_of, none⟩
theorem rb_threes_of (c : Call) (b : Call → ZS) (x0 : D) : runFd c ⟨1, 6, b, none⟩ [x0] = endD (b c [some x0, none, none, none, none, none]) := rfl
theorem r_threes_of [h : C_threes_of T] (n : Nat) (x0 : D) : run T (n + 1) "threes_of" [x0] = endD (b_threes_of (run T n) [some x0, none, none, none, none, none]) := (run_at h.s_threes_of).trans (rb_threes_of _ _ _)
def b_is_ahead (call : Call) : ZS := (sRet (eCmp .Lt (eMt .index (eVar 0) (eVar 1)) (eMt .index (eVar 0) (eVar 2))))
class C_is_ahead (T : Str → Option Fd) : Prop where
  s_is_ahead : T "is_ahead" = some ⟨3, 3, b_is_ahead, none⟩
theorem rb_is_ahead (c : Call) (b : Call → ZS) (x0 x1 x2 : D) : runFd c ⟨3, 3, b, none⟩ [x0, x1, x2] = endD (b c [some x0, some x1, some x2]) := rfl
theorem r_is_ahead [h : C_is_ahead T] (n : Nat) (x0 x1 x2 : D) : run T (n + 1) "is_ahead" [x0, x1, x2] = endD (b_is_ahead (run T n) [some x0, some x1, some x2]) := (run_at h.s_is_ahead).trans (rb_is_ahead _ _ _ _ _)
def b_is_ranking (call : Call) : ZS := (sSeq (sIf (eOr (eNot (eIsi (eVar 1) "list")) (eNot (eBlt .all [(eComp [2] (gN 2) (iSeq (eVar 1)) [] (eIsi (eVar 2) "str"))]))) (sRet (eLit (.bl false))) sNil) (sRet (eCmp .Eq (eBlt .sorted [(eVar 1)]) (eVar 0))))
class C_is_ranking (T : Str → Option Fd) : Prop where
  s_is_ranking : T "is_ranking" = some ⟨2, 3, b_is_ranking, none⟩
theorem rb_is_ranking (c : Call) (b : Call → ZS) (x0 x1 : D) : runFd c ⟨2, 3, b, none⟩ [x0, x1] = endD (b c [some x0, some x1, none]) := rfl
theorem r_is_ranking [h : C_is_ranking T] (n : Nat) (x0 x1 : D) : run T (n + 1) "is_ranking" [x0, x1] = endD (b_is_ranking (run T n) [some x0, some x1, none]) := (run_at h.s_is_ranking).trans (rb_is_ranking _ _ _ _)
def f_orders_of_2 (call : Call) : ZS := (sExt 3 (eComp [5] (gN 5) (iRange [(eBin .Add (eBlt .len [(eVar 4)]) (eLit (.int 1)))]) [] (eBin .Add (eBin .Add (eCut (eVar 4) none (some (eVar 5))) (eLst [(eVar 2)])) (eCut (eVar 4) (some (eVar 5)) none))))
def f_orders_of_1 (call : Call) : ZS := (sSeq (sSet 3 (eLst [])) (sSeq (sFor [4, 5] (gN 4) (iSeq (eVar 1)) (f_orders_of_2 call)) (sMove 1 3)))
def b_orders_of (call : Call) : ZS := (sSeq (sSet 1 (eLst [(eLst [])])) (sSeq (sFor [2, 3, 4, 5] (gN 2) (iSeq (eVar 0)) (f_orders_of_1 call)) (sRet (eBlt .sorted [(eVar 1)]))))
class C_orders_of (T : Str → Option Fd) : Prop where
  s_orders_of : T "orders_of" = some ⟨1, 6, b_orders_of, none⟩
theorem rb_orders_of (c : Call) (b : Call → ZS) (x0 : D) : runFd c ⟨1, 6, b, none⟩ [x0] = endD (b c [some x0, none, none, none, none, none]) := rfl
theorem r_orders_of [h : C_orders_of T] (n : Nat) (x0 : D) : run T (n + 1) "orders_of" [x0] = endD (b_orders_of (run T n) [some x0, none, none, none, none, none]) := (run_at h.s_orders_of).trans (rb_orders_of _ _ _)
def b_middle_is_last (call : Call) : ZS := (sSeq (sUnp (gT [(gN 2), (gN 3), (gN 4)]) (eVar 1)) (sRet (eAnd (eCall call "is_ahead" [(eVar 0), (eVar 2), (eVar 3)]) (eCall call "is_ahead" [(eVar 0), (eVar 4), (eVar 3)]))))
class C_middle_is_last (T : Str → Option Fd) : Prop extends C_is_ahead T where
  s_middle_is_last : T "middle_is_last" = some ⟨2, 5, b_middle_is_last, none⟩
theorem rb_middle_is_last (c : Call) (b : Call → ZS) (x0 x1 : D) : runFd c ⟨2, 5, b, none⟩ [x0, x1] = endD (b c [some x0, some x1, none, none, none]) := rfl
theorem r_middle_is_last [h : C_middle_is_last T] (n : Nat) (x0 x1 : D) : run T (n + 1) "middle_is_last" [x0, x1] = endD (b_middle_is_last (run T n) [some x0, some x1, none, none, none]) := (run_at h.s_middle_is_last).trans (rb_middle_is_last _ _ _ _)
def f_first_three_off_1 (call : Call) : ZS := (sIf (eCall call "middle_is_last" [(eVar 0), (eVar 2)]) (sRet (eVar 2)) sNil)
def b_first_three_off (call : Call) : ZS := (sSeq (sFor [2] (gN 2) (iSeq (eCall call "threes_of" [(eVar 1)])) (f_first_three_off_1 call)) (sRet (eLit .non)))
class C_first_three_off (T : Str → Option Fd) : Prop extends C_middle_is_last T, C_threes_of T where
  s_first_three_off : T "first_three_off" = some ⟨2, 3, b_first_three_off, none⟩
theorem rb_first_three_off (c : Call) (b : Call → ZS) (x0 x1 : D) : runFd c ⟨2, 3, b, none⟩ [x0, x1] = endD (b c [some x0, some x1, none]) := rfl
theorem r_first_three_off [h : C_first_three_off T] (n : Nat) (x0 x1 : D) : run T (n + 1) "first_three_off" [x0, x1] = endD (b_first_three_off (run T n) [some x0, some x1, none]) := (run_at h.s_first_three_off).trans (rb_first_three_off _ _ _ _)
def f_first_ballot_off_1 (call : Call) : ZS := (sSeq (sSet 4 (eCall call "first_three_off" [(eVar 3), (eVar 1)])) (sIf (eCmp .IsNot (eVar 4) (eLit .non)) (sRet (eBin .Add (eTup [(eVar 2)]) (eVar 4))) sNil))
def b_first_ballot_off (call : Call) : ZS := (sSeq (sFor [2, 3, 4] (gT [(gN 2), (gN 3)]) (iEnum (eVar 0)) (f_first_ballot_off_1 call)) (sRet (eLit .non)))
class C_first_ballot_off (T : Str → Option Fd) : Prop extends C_first_three_off T where
  s_first_ballot_off : T "first_ballot_off" = some ⟨2, 5, b_first_ballot_off, none⟩
theorem rb_first_ballot_off (c : Call) (b : Call → ZS) (x0 x1 : D) : runFd c ⟨2, 5, b, none⟩ [x0, x1] = endD (b c [some x0, some x1, none, none, none]) := rfl
theorem r_first_ballot_off [h : C_first_ballot_off T] (n : Nat) (x0 x1 : D) : run T (n + 1) "first_ballot_off" [x0, x1] = endD (b_first_ballot_off (run T n) [some x0, some x1, none, none, none]) := (run_at h.s_first_ballot_off).trans (rb_first_ballot_off _ _ _ _)
def b_are_in_line (call : Call) : ZS := (sRet (eCmp .Is (eCall call "first_ballot_off" [(eVar 0), (eVar 1)]) (eLit .non)))
class C_are_in_line (T : Str → Option Fd) : Prop extends C_first_ballot_off T where
  s_are_in_line : T "are_in_line" = some ⟨2, 2, b_are_in_line, none⟩
theorem rb_are_in_line (c : Call) (b : Call → ZS) (x0 x1 : D) : runFd c ⟨2, 2, b, none⟩ [x0, x1] = endD (b c [some x0, some x1]) := rfl
theorem r_are_in_line [h : C_are_in_line T] (n : Nat) (x0 x1 : D) : run T (n + 1) "are_in_line" [x0, x1] = endD (b_are_in_line (run T n) [some x0, some x1]) := (run_at h.s_are_in_line).trans (rb_are_in_line _ _ _ _)
def f_first_line_1 (call : Call) : ZS := (sIf (eCall call "are_in_line" [(eVar 1), (eVar 2)]) (sRet (eVar 2)) sNil)
def b_first_line (call : Call) : ZS := (sSeq (sFor [2] (gN 2) (iSeq (eCall call "orders_of" [(eVar 0)])) (f_first_line_1 call)) (sRet (eLit .non)))
class C_first_line (T : Str → Option Fd) : Prop extends C_are_in_line T, C_orders_of T where
  s_first_line : T "first_line" = some ⟨2, 3, b_first_line, none⟩
theorem rb_first_line (c : Call) (b : Call → ZS) (x0 x1 : D) : runFd c ⟨2, 3, b, none⟩ [x0, x1] = endD (b c [some x0, some x1, none]) := rfl
theorem r_first_line [h : C_first_line T] (n : Nat) (x0 x1 : D) : run T (n + 1) "first_line" [x0, x1] = endD (b_first_line (run T n) [some x0, some x1, none]) := (run_at h.s_first_line).trans (rb_first_line _ _ _ _)
def b_check_things (call : Call) : ZS := (sIf (eNot (eCall call "are_things" [(eVar 0)])) sNever sNil)
class C_check_things (T : Str → Option Fd) : Prop extends C_are_things T where
  s_check_things : T "check_things" = some ⟨1, 1, b_check_things, none⟩
theorem rb_check_things (c : Call) (b : Call → ZS) (x0 : D) : runFd c ⟨1, 1, b, none⟩ [x0] = endD (b c [some x0]) := rfl
theorem r_check_things [h : C_check_things T] (n : Nat) (x0 : D) : run T (n + 1) "check_things" [x0] = endD (b_check_things (run T n) [some x0]) := (run_at h.s_check_things).trans (rb_check_things _ _ _)
def f_check_ballots_1 (call : Call) : ZS := (sIf (eNot (eCall call "is_ranking" [(eVar 0), (eVar 3)])) sNever sNil)
def b_check_ballots (call : Call) : ZS := (sSeq (sExpr (eCall call "check_things" [(eVar 0)])) (sSeq (sIf (eNot (eCmp2 .LtE .LtE (eLit (.int 1)) (eBlt .len [(eVar 1)]) (eLit (.int 12)))) sNever sNil) (sFor [2, 3] (gT [(gN 2), (gN 3)]) (iEnum (eVar 1)) (f_check_ballots_1 call))))
class C_check_ballots (T : Str → Option Fd) : Prop extends C_check_things T, C_is_ranking T where
  s_check_ballots : T "check_ballots" = some ⟨2, 4, b_check_ballots, none⟩
theorem rb_check_ballots (c : Call) (b : Call → ZS) (x0 x1 : D) : runFd c ⟨2, 4, b, none⟩ [x0, x1] = endD (b c [some x0, some x1, none, none]) := rfl
theorem r_check_ballots [h : C_check_ballots T] (n : Nat) (x0 x1 : D) : run T (n + 1) "check_ballots" [x0, x1] = endD (b_check_ballots (run T n) [some x0, some x1, none, none]) := (run_at h.s_check_ballots).trans (rb_check_ballots _ _ _ _)
def b_line (call : Call) : ZS := (sSeq (sExpr (eCall call "check_ballots" [(eVar 0), (eVar 1)])) (sRet (eCall call "first_line" [(eVar 0), (eVar 1)])))
class C_line (T : Str → Option Fd) : Prop extends C_check_ballots T, C_first_line T where
  s_line : T "line" = some ⟨2, 2, b_line, none⟩
theorem rb_line (c : Call) (b : Call → ZS) (x0 x1 : D) : runFd c ⟨2, 2, b, none⟩ [x0, x1] = endD (b c [some x0, some x1]) := rfl
theorem r_line [h : C_line T] (n : Nat) (x0 x1 : D) : run T (n + 1) "line" [x0, x1] = endD (b_line (run T n) [some x0, some x1]) := (run_at h.s_line).trans (rb_line _ _ _ _)
def b_is_line (call : Call) : ZS := (sRet (eAnd (eCall call "is_ranking" [(eVar 0), (eVar 2)]) (eCall call "are_in_line" [(eVar 1), (eVar 2)])))
class C_is_line (T : Str → Option Fd) : Prop extends C_are_in_line T, C_is_ranking T where
  s_is_line : T "is_line" = some ⟨3, 3, b_is_line, none⟩
theorem rb_is_line (c : Call) (b : Call → ZS) (x0 x1 x2 : D) : runFd c ⟨3, 3, b, none⟩ [x0, x1, x2] = endD (b c [some x0, some x1, some x2]) := rfl
theorem r_is_line [h : C_is_line T] (n : Nat) (x0 x1 x2 : D) : run T (n + 1) "is_line" [x0, x1, x2] = endD (b_is_line (run T n) [some x0, some x1, some x2]) := (run_at h.s_is_line).trans (rb_is_line _ _ _ _ _)
def b_first_off_line (call : Call) : ZS := (sRet (eCall call "first_ballot_off" [(eVar 1), (eVar 2)]))
class C_first_off_line (T : Str → Option Fd) : Prop extends C_first_ballot_off T where
  s_first_off_line : T "first_off_line" = some ⟨3, 3, b_first_off_line, none⟩
theorem rb_first_off_line (c : Call) (b : Call → ZS) (x0 x1 x2 : D) : runFd c ⟨3, 3, b, none⟩ [x0, x1, x2] = endD (b c [some x0, some x1, some x2]) := rfl
theorem r_first_off_line [h : C_first_off_line T] (n : Nat) (x0 x1 x2 : D) : run T (n + 1) "first_off_line" [x0, x1, x2] = endD (b_first_off_line (run T n) [some x0, some x1, some x2]) := (run_at h.s_first_off_line).trans (rb_first_off_line _ _ _ _ _)
def f__law_things_1 (call : Call) : ZS := (sSeq (sSet 6 (eComp [7] (gN 7) (iSeq (eVar 3)) [(eCmp .NotIn (eVar 7) (eVar 4))] (eVar 7))) (sApp 4 (eIx (eVar 6) (eBin .Mod (eIx (eVar 2) (eBin .Add (eLit (.int 1)) (eVar 5))) (eBlt .len [(eVar 6)])))))
def b__law_things (call : Call) : ZS := (sSeq (sSet 2 (eCall call "_law_numbers" [(eVar 0), (eVar 1), (eLit (.int 8))])) (sSeq (sSet 3 (eLit (.str "abcdefghijklmnopqrstuvwxyz"))) (sSeq (sSet 4 (eLst [])) (sSeq (sFor [5, 6, 7] (gN 5) (iRange [(eBin .Add (eLit (.int 2)) (eBin .Mod (eIx (eVar 2) (eLit (.int 0))) (eLit (.int 3))))]) (f__law_things_1 call)) (sRet (eBlt .sorted [(eVar 4)]))))))
class C__law_things (T : Str → Option Fd) : Prop extends C__law_numbers T where
  s__law_things : T "_law_things" = some ⟨2, 8, b__law_things, none⟩
theorem rb__law_things (c : Call) (b : Call → ZS) (x0 x1 : D) : runFd c ⟨2, 8, b, none⟩ [x0, x1] = endD (b c [some x0, some x1, none, none, none, none, none, none]) := rfl
theorem r__law_things [h : C__law_things T] (n : Nat) (x0 x1 : D) : run T (n + 1) "_law_things" [x0, x1] = endD (b__law_things (run T n) [some x0, some x1, none, none, none, none, none, none]) := (run_at h.s__law_things).trans (rb__law_things _ _ _ _)
def f__law_orders_2 (call : Call) : ZS := (sSet 3 (eBin .Add (eVar 3) (eComp [5] (gN 5) (iRange [(eBin .Add (eBlt .len [(eVar 4)]) (eLit (.int 1)))]) [] (eBin .Add (eBin .Add (eCut (eVar 4) none (some (eVar 5))) (eLst [(eVar 2)])) (eCut (eVar 4) (some (eVar 5)) none)))))
def f__law_orders_1 (call : Call) : ZS := (sSeq (sSet 3 (eLst [])) (sSeq (sFor [4, 5] (gN 4) (iSeq (eVar 1)) (f__law_orders_2 call)) (sMove 1 3)))
def b__law_orders (call : Call) : ZS := (sSeq (sSet 1 (eLst [(eLst [])])) (sSeq (sFor [2, 3, 4, 5] (gN 2) (iSeq (eVar 0)) (f__law_orders_1 call)) (sRet (eBlt .sorted [(eVar 1)]))))
class C__law_orders (T : Str → Option Fd) : Prop where
  s__law_orders : T "_law_orders" = some ⟨1, 6, b__law_orders, none⟩
theorem rb__law_orders (c : Call) (b : Call → ZS) (x0 : D) : runFd c ⟨1, 6, b, none⟩ [x0] = endD (b c [some x0, none, none, none, none, none]) := rfl
theorem r__law_orders [h : C__law_orders T] (n : Nat) (x0 : D) : run T (n + 1) "_law_orders" [x0] = endD (b__law_orders (run T n) [some x0, none, none, none, none, none]) := (run_at h.s__law_orders).trans (rb__law_orders _ _ _)
def f__law_pairs_1 (call : Call) : ZS := (sSet 1 (eBin .Add (eVar 1) (eComp [3] (gN 3) (iSeq (eCut (eVar 0) (some (eBin .Add (eVar 2) (eLit (.int 1)))) none)) [] (eTup [(eIx (eVar 0) (eVar 2)), (eVar 3)]))))
def b__law_pairs (call : Call) : ZS := (sSeq (sSet 1 (eLst [])) (sSeq (sFor [2, 3] (gN 2) (iRange [(eBlt .len [(eVar 0)])]) (f__law_pairs_1 call)) (sRet (eVar 1))))
class C__law_pairs (T : Str → Option Fd) : Prop where
  s__law_pairs : T "_law_pairs" = some ⟨1, 4, b__law_pairs, none⟩
theorem rb__law_pairs (c : Call) (b : Call → ZS) (x0 : D) : runFd c ⟨1, 4, b, none⟩ [x0] = endD (b c [some x0, none, none, none]) := rfl
theorem r__law_pairs [h : C__law_pairs T] (n : Nat) (x0 : D) : run T (n + 1) "_law_pairs" [x0] = endD (b__law_pairs (run T n) [some x0, none, none, none]) := (run_at h.s__law_pairs).trans (rb__law_pairs _ _ _)
def f__law_ballots_1 (call : Call) : ZS := (sSeq (sSet 7 (eCut (eCall call "_law_numbers" [(eVar 0), (eBin .Add (eBin .Add (eVar 1) (eLit (.int 1))) (eBin .Mod (eVar 6) (eLit (.int 6)))), (eBin .Mult (eLit (.int 2)) (eBin .Add (eLit (.int 1)) (eBin .FloorDiv (eVar 6) (eLit (.int 6)))))]) (some (eNeg (eLit (.int 2)))) none)) (sSeq (sSet 8 (eBin .Mod (eIx (eVar 7) (eLit (.int 0))) (eBlt .len [(eVar 4)]))) (sSeq (sIf (eCmp .Eq (eBin .Mod (eIx (eVar 3) (eLit (.int 1))) (eLit (.int 3))) (eLit (.int 0))) (sSet 8 (eBin .Mod (eIx (eLst [(eIx (eVar 3) (eLit (.int 2))), (eBin .Add (eBin .Mult (eIx (eVar 3) (eLit (.int 2))) (eLit (.int 7))) (eLit (.int 3))), (eIx (eVar 7) (eLit (.int 0)))]) (eBin .Mod (eIx (eVar 7) (eLit (.int 1))) (eLit (.int 3)))) (eBlt .len [(eVar 4)]))) sNil) (sApp 5 (eBlt .list [(eIx (eVar 4) (eVar 8))])))))
def b__law_ballots (call : Call) : ZS := (sSeq (sSet 3 (eCall call "_law_numbers" [(eVar 0), (eVar 1), (eLit (.int 4))])) (sSeq (sSet 4 (eCall call "_law_orders" [(eVar 2)])) (sSeq (sSet 5 (eLst [])) (sSeq (sFor [6, 7, 8] (gN 6) (iRange [(eBin .Add (eLit (.int 1)) (eBin .Mod (eIx (eVar 3) (eLit (.int 0))) (eLit (.int 12))))]) (f__law_ballots_1 call)) (sRet (eVar 5))))))
class C__law_ballots (T : Str → Option Fd) : Prop extends C__law_numbers T, C__law_orders T where
  s__law_ballots : T "_law_ballots" = some ⟨3, 9, b__law_ballots, none⟩
theorem rb__law_ballots (c : Call) (b : Call → ZS) (x0 x1 x2 : D) : runFd c ⟨3, 9, b, none⟩ [x0, x1, x2] = endD (b c [some x0, some x1, some x2, none, none, none, none, none, none]) := rfl
theorem r__law_ballots [h : C__law_ballots T] (n : Nat) (x0 x1 x2 : D) : run T (n + 1) "_law_ballots" [x0, x1, x2] = endD (b__law_ballots (run T n) [some x0, some x1, some x2, none, none, none, none, none, none]) := (run_at h.s__law_ballots).trans (rb__law_ballots _ _ _ _ _)
def f__law_threes_1 (call : Call) : ZS := (sSet 1 (eBin .Add (eVar 1) (eComp [3, 4] (gT [(gN 3), (gN 4)]) (iSeq (eCall call "_law_pairs" [(eCut (eVar 0) (some (eBin .Add (eVar 2) (eLit (.int 1)))) none)])) [] (eTup [(eIx (eVar 0) (eVar 2)), (eVar 3), (eVar 4)]))))
def b__law_threes (call : Call) : ZS := (sSeq (sSet 1 (eLst [])) (sSeq (sFor [2, 3, 4] (gN 2) (iRange [(eBlt .len [(eVar 0)])]) (f__law_threes_1 call)) (sRet (eVar 1))))
class C__law_threes (T : Str → Option Fd) : Prop extends C__law_pairs T where
  s__law_threes : T "_law_threes" = some ⟨1, 5, b__law_threes, none⟩
theorem rb__law_threes (c : Call) (b : Call → ZS) (x0 : D) : runFd c ⟨1, 5, b, none⟩ [x0] = endD (b c [some x0, none, none, none, none]) := rfl
theorem r__law_threes [h : C__law_threes T] (n : Nat) (x0 : D) : run T (n + 1) "_law_threes" [x0] = endD (b__law_threes (run T n) [some x0, none, none, none, none]) := (run_at h.s__law_threes).trans (rb__law_threes _ _ _)
def b__law_is_off (call : Call) : ZS := (sRet (eCmp .Eq (eMt .index (eVar 0) (eIx (eVar 1) (eLit (.int 1)))) (eBlt .max [(eComp [2] (gN 2) (iSeq (eVar 1)) [] (eMt .index (eVar 0) (eVar 2)))])))
class C__law_is_off (T : Str → Option Fd) : Prop where
  s__law_is_off : T "_law_is_off" = some ⟨2, 3, b__law_is_off, none⟩
theorem rb__law_is_off (c : Call) (b : Call → ZS) (x0 x1 : D) : runFd c ⟨2, 3, b, none⟩ [x0, x1] = endD (b c [some x0, some x1, none]) := rfl
theorem r__law_is_off [h : C__law_is_off T] (n : Nat) (x0 x1 : D) : run T (n + 1) "_law_is_off" [x0, x1] = endD (b__law_is_off (run T n) [some x0, some x1, none]) := (run_at h.s__law_is_off).trans (rb__law_is_off _ _ _ _)
def f__law_off_2 (call : Call) : ZS := (sIf (eCall call "_law_is_off" [(eIx (eVar 0) (eVar 2)), (eVar 3)]) (sRet (eTup [(eVar 2), (eIx (eVar 3) (eLit (.int 0))), (eIx (eVar 3) (eLit (.int 1))), (eIx (eVar 3) (eLit (.int 2)))])) sNil)
def f__law_off_1 (call : Call) : ZS := (sFor [3] (gN 3) (iSeq (eCall call "_law_threes" [(eVar 1)])) (f__law_off_2 call))
def b__law_off (call : Call) : ZS := (sSeq (sFor [2, 3] (gN 2) (iRange [(eBlt .len [(eVar 0)])]) (f__law_off_1 call)) (sRet (eLit .non)))
class C__law_off (T : Str → Option Fd) : Prop extends C__law_is_off T, C__law_threes T where
  s__law_off : T "_law_off" = some ⟨2, 4, b__law_off, none⟩
theorem rb__law_off (c : Call) (b : Call → ZS) (x0 x1 : D) : runFd c ⟨2, 4, b, none⟩ [x0, x1] = endD (b c [some x0, some x1, none, none]) := rfl
theorem r__law_off [h : C__law_off T] (n : Nat) (x0 x1 : D) : run T (n + 1) "_law_off" [x0, x1] = endD (b__law_off (run T n) [some x0, some x1, none, none]) := (run_at h.s__law_off).trans (rb__law_off _ _ _ _)
def b__law_lined_ballots (call : Call) : ZS := (sSeq (sSet 3 (eCall call "_law_orders" [(eVar 0)])) (sSeq (sSet 4 (eIx (eVar 3) (eBin .Mod (eIx (eVar 2) (eLit (.int 0))) (eBlt .len [(eVar 3)])))) (sSeq (sSet 5 (eComp [6] (gN 6) (iSeq (eVar 3)) [(eCmp .Is (eCall call "_law_off" [(eLst [(eVar 6)]), (eVar 4)]) (eLit .non))] (eVar 6))) (sRet (eComp [7] (gN 7) (iRange [(eBlt .len [(eVar 1)])]) [] (eBlt .list [(eIx (eVar 5) (eBin .Mod (eBin .Add (eBin .Mult (eIx (eVar 2) (eLit (.int 1))) (eBin .Add (eVar 7) (eLit (.int 1)))) (eVar 7)) (eBlt .len [(eVar 5)])))]))))))
class C__law_lined_ballots (T : Str → Option Fd) : Prop extends C__law_off T, C__law_orders T where
  s__law_lined_ballots : T "_law_lined_ballots" = some ⟨3, 8, b__law_lined_ballots, none⟩
theorem rb__law_lined_ballots (c : Call) (b : Call → ZS) (x0 x1 x2 : D) : runFd c ⟨3, 8, b, none⟩ [x0, x1, x2] = endD (b c [some x0, some x1, some x2, none, none, none, none, none]) := rfl
theorem r__law_lined_ballots [h : C__law_lined_ballots T] (n : Nat) (x0 x1 x2 : D) : run T (n + 1) "_law_lined_ballots" [x0, x1, x2] = endD (b__law_lined_ballots (run T n) [some x0, some x1, some x2, none, none, none, none, none]) := (run_at h.s__law_lined_ballots).trans (rb__law_lined_ballots _ _ _ _ _)
def b__law_values (call : Call) : ZS := (sSeq (sSet 3 (eBin .Mod (eIx (eVar 2) (eLit (.int 2))) (eBlt .len [(eVar 1)]))) (sSeq (sSet 4 (eLst [(eLit .non), (eTup []), (eLst []), (eDic false), (eMt .join (eLit (.str "")) (eVar 1)), (eBlt .tuple [(eVar 1)]), (eCut (eVar 1) (some (eLit (.int 1))) none), (eBin .Add (eVar 1) (eCut (eVar 1) none (some (eLit (.int 1))))), (eBin .Add (eBin .Add (eCut (eVar 1) none (some (eVar 3))) (eLst [(eLit (.str "A"))])) (eCut (eVar 1) (some (eBin .Add (eVar 3) (eLit (.int 1)))) none)), (eLst [(eVar 1)])])) (sRet (eBin .Add (eVar 4) (eLst [(eBin .Add (eBin .Add (eCut (eVar 1) none (some (eVar 3))) (eLst [(eLit .non)])) (eCut (eVar 1) (some (eBin .Add (eVar 3) (eLit (.int 1)))) none)), (eBin .Add (eBin .Add (eCut (eVar 1) none (some (eVar 3))) (eLst [(eIx (eVar 1) (eBin .Sub (eVar 3) (eLit (.int 1))))])) (eCut (eVar 1) (some (eBin .Add (eVar 3) (eLit (.int 1)))) none)), (eLit (.int 5)), (eBin .Add (eBin .Add (eCut (eVar 1) none (some (eVar 3))) (eLst [(eBin .Add (eIx (eVar 1) (eVar 3)) (eLit (.str "x")))])) (eCut (eVar 1) (some (eBin .Add (eVar 3) (eLit (.int 1)))) none))])))))
class C__law_values (T : Str → Option Fd) : Prop where
  s__law_values : T "_law_values" = some ⟨3, 5, b__law_values, none⟩
theorem rb__law_values (c : Call) (b : Call → ZS) (x0 x1 x2 : D) : runFd c ⟨3, 5, b, none⟩ [x0, x1, x2] = endD (b c [some x0, some x1, some x2, none, none]) := rfl
theorem r__law_values [h : C__law_values T] (n : Nat) (x0 x1 x2 : D) : run T (n + 1) "_law_values" [x0, x1, x2] = endD (b__law_values (run T n) [some x0, some x1, some x2, none, none]) := (run_at h.s__law_values).trans (rb__law_values _ _ _ _ _)
def f__law_holds_v2_2 (call : Call) : ZS := (sIf (eCmp .IsNot (eCall call "is_line" [(eIx (eVar 3) (eLit (.int 0))), (eIx (eVar 3) (eLit (.int 1))), (eVar 9)]) (eLit (.bl false))) (sRet (eLit (.bl false))) sNil)
def f__law_holds_v2_1 (call : Call) : ZS := (sSeq (sSet 7 (eCall call "_law_off" [(eVar 1), (eVar 5)])) (sSeq (sSet 6 (eCall call "first_off_line" [(eIx (eVar 3) (eLit (.int 0))), (eIx (eVar 3) (eLit (.int 1))), (eBlt .list [(eVar 5)])])) (sSeq (sSet 8 (eCall call "is_line" [(eIx (eVar 3) (eLit (.int 0))), (eIx (eVar 3) (eLit (.int 1))), (eBlt .list [(eVar 5)])])) (sSeq (sIf (eOr (eNot (eIsi (eVar 8) "bool")) (eOr (eCmp .NotEq (eVar 8) (eCmp .Is (eVar 7) (eLit .non))) (eAnd (eCmp .Is (eVar 7) (eLit .non)) (eCmp .IsNot (eVar 6) (eLit .non))))) (sRet (eLit (.bl false))) sNil) (sSeq (sIf (eAnd (eCmp .IsNot (eVar 7) (eLit .non)) (eOr (eNot (eIsi (eVar 6) "tuple")) (eOr (eCmp .NotEq (eVar 6) (eVar 7)) (eNot (eCall call "_law_is_integer" [(eIx (eVar 6) (eLit (.int 0)))]))))) (sRet (eLit (.bl false))) sNil) (sSeq (sIf (eCmp .Is (eVar 7) (eLit .non)) (sApp 4 (eVar 5)) sNil) (sFor [9] (gN 9) (iSeq (eCall call "_law_values" [(eVar 0), (eVar 5), (eVar 2)])) (f__law_holds_v2_2 call))))))))
def b__law_holds_v2 (call : Call) : ZS := (sSeq (sSet 3 (eLst [(eBlt .list [(eVar 0)]), (eComp [10] (gN 10) (iSeq (eVar 1)) [] (eBlt .list [(eVar 10)]))])) (sSeq (sSet 4 (eLst [])) (sSeq (sFor [5, 6, 7, 8, 9] (gN 5) (iSeq (eCall call "_law_orders" [(eVar 0)])) (f__law_holds_v2_1 call)) (sSeq (sSet 6 (eCall call "line" [(eIx (eVar 3) (eLit (.int 0))), (eIx (eVar 3) (eLit (.int 1)))])) (sSeq (sIf (eCmp .NotEq (eVar 3) (eLst [(eVar 0), (eVar 1)])) (sRet (eLit (.bl false))) sNil) (sSeq (sIf (eCmp .Eq (eVar 4) (eLst [])) (sRet (eCmp .Is (eVar 6) (eLit .non))) sNil) (sRet (eAnd (eIsi (eVar 6) "list") (eCmp .Eq (eVar 6) (eIx (eVar 4) (eLit (.int 0))))))))))))
class C__law_holds_v2 (T : Str → Option Fd) : Prop extends C__law_is_integer T, C__law_off T, C__law_orders T, C__law_values T, C_first_off_line T, C_is_line T, C_line T where
  s__law_holds_v2 : T "_law_holds" = some ⟨3, 11, b__law_holds_v2, none⟩
theorem rb__law_holds_v2 (c : Call) (b : Call → ZS) (x0 x1 x2 : D) : runFd c ⟨3, 11, b, none⟩ [x0, x1, x2] = endD (b c [some x0, some x1, some x2, none, none, none, none, none, none, none, none]) := rfl
theorem r__law_holds_v2 [h : C__law_holds_v2 T] (n : Nat) (x0 x1 x2 : D) : run T (n + 1) "_law_holds" [x0, x1, x2] = endD (b__law_holds_v2 (run T n) [some x0, some x1, some x2, none, none, none, none, none, none, none, none]) := (run_at h.s__law_holds_v2).trans (rb__law_holds_v2 _ _ _ _ _)
end Lb
/-! plain facts for the simplifier: comprehensions, loops, texts -/
namespace Z
open PySem PySem.Spec PyProof.Rows
section
variable {own : List Nat} {g : ZG} {it : ZI} {cs : List ZE} {e : ZE} {ρ : Env}
theorem comp_all {α : Type} (as : List α) (f h : α → D) (hit : it ρ = .ok (as.map f)) (hx : ∀ a ∈ as, compF own g cs e ρ (f a) = .ok (some (h a))) : eComp own g it cs e ρ = .ok (.lst (as.map h)) := by
  have : compL (compF own g cs e ρ) (as.map f) = .ok (as.map h) := by
    clear hit
    induction as with
    | nil => rfl
    | cons a as ih =>
      rw [List.map_cons]
      unfold compL
      rw [hx a List.mem_cons_self, ih fun b hb => hx b (List.mem_cons_of_mem _ hb)]
      rfl
  rw [q_comp, hit]
  show (compL (compF own g cs e ρ) (as.map f)).bind _ = _
  rw [this]
  rfl
theorem comp_fil {α : Type} (as : List α) (f h : α → D) (p : α → Bool) (hit : it ρ = .ok (as.map f)) (hx : ∀ a ∈ as, compF own g cs e ρ (f a) = .ok (if p a = true then some (h a) else none)) : eComp own g it cs e ρ = .ok (.lst ((as.filter p).map h)) := by
  have : compL (compF own g cs e ρ) (as.map f) = .ok ((as.filter p).map h) := by
    clear hit
    induction as with
    | nil => rfl
    | cons a as ih =>
      rw [List.map_cons]
      unfold compL
      rw [hx a List.mem_cons_self, ih fun b hb => hx b (List.mem_cons_of_mem _ hb)]
      by_cases hp : p a = true
      · rw [if_pos hp, List.filter_cons_of_pos hp]; rfl
      · rw [if_neg hp, List.filter_cons_of_neg hp]; rfl
  rw [q_comp, hit]
  show (compL (compF own g cs e ρ) (as.map f)).bind _ = _
  rw [this]
  rfl
end
@[simp] theorem f_all' {α : Type} {p : α → Bool} {as : List α} : bltD .all [.lst (as.map fun a => .bl (p a))] = .ok (.bl (as.all p)) := by
  have := f_all (bs := as.map p)
  rw [List.map_map, List.all_map] at this
  exact this
@[simp] theorem f_any' {α : Type} {p : α → Bool} {as : List α} : bltD .any [.lst (as.map fun a => .bl (p a))] = .ok (.bl (as.any p)) := by
  have := f_any (bs := as.map p)
  rw [List.map_map, List.any_map] at this
  exact this
end Z
namespace Lb
open PySem PySem.Spec PyProof.Rows Z
variable {T : Str → Option Fd}
def isYes (v : List Nat) : Bool := v.head? != some 33
def issueOf (v : List Nat) : List Nat := if isYes v = true then v else v.drop 1
def opp (v : List Nat) : List Nat := if isYes v = true then bang v else v.drop 1
/-- a text with a sign -/
structure Vt (v : List Nat) : Prop where
  ne : v ≠ []
  len : v.length ≤ 1000
theorem Vt.cons {v : List Nat} (h : Vt v) : ∃ c r, v = c :: r := by
  cases v with
  | nil => exact absurd rfl h.ne
  | cons c r => exact ⟨c, r, rfl⟩
theorem bool_isi (b : Bool) : isiD (.bl b) "bool" = .ok (.bl true) := rfl
theorem eq_bl (a b : Bool) : eqD (.bl a) (.bl b) = .ok (decide (a = b)) := eqD_en (α := Bool) (by show (0 : Nat) ≤ 100; omega) a b
theorem is_yes_eq [C_is_yes T] (n : Nat) {v : List Nat} (h : Vt v) : run T (n + 1) "is_yes" [dtx v] = .ok (.bl (isYes v)) := by
  rw [r_is_yes]
  obtain ⟨c, r, rfl⟩ := h.cons
  have i1 : ixD (.str (tx (c :: r))) (.int 0) = .ok (.str (tx [c])) := ix_tx (l := c :: r) (i := 0) (c := c) rfl (by have := h.len; omega)
  have e1 := eq_tx [c] [33]
  have e2 : (!decide ([c] = [33])) = isYes (c :: r) := by
    by_cases hc : c = 33 <;> simp [isYes, hc]
  rw [← e2]
  simp [b_is_yes, dtx, i1, lit_bang, e1]
theorem cut1 {v : List Nat} (h : Vt v) : cutD (dtx v) (some 1) none = .ok (dtx (v.drop 1)) := cut_tx1 (l := v) (by have := h.len; omega)
theorem addb {v : List Nat} (h : Vt v) : binD .Add (dtx [33]) (dtx v) = .ok (dtx (bang v)) := add_bang (x := v) (by have := h.len; omega)
theorem litb : (D.str ("!" : String)) = dtx [33] := by unfold dtx; rw [lit_bang]
theorem issue_of_eq [C_issue_of T] (n : Nat) {v : List Nat} (h : Vt v) : run T (n + 2) "issue_of" [dtx v] = .ok (dtx (issueOf v)) := by
  rw [r_issue_of]
  unfold issueOf
  cases hy : isYes v <;> simp [b_issue_of, is_yes_eq, h, hy, cut1, -List.drop_one]
theorem opposite_eq [C_opposite T] (n : Nat) {v : List Nat} (h : Vt v) : run T (n + 2) "opposite" [dtx v] = .ok (dtx (opp v)) := by
  rw [r_opposite]
  unfold opp
  cases hy : isYes v <;> simp [b_opposite, is_yes_eq, h, hy, cut1, addb, litb, -List.drop_one]
def dplace (v : List Nat) : D := .tup [dtx (issueOf v), .bl (!isYes v)]
theorem place_of_eq [C_place_of T] (n : Nat) {v : List Nat} (h : Vt v) : run T (n + 3) "place_of" [dtx v] = .ok (dplace v) := by
  rw [r_place_of]
  simp [b_place_of, is_yes_eq, issue_of_eq, h, dplace]
def dorder (v : List (List Nat)) : D := .lst (v.map dplace)
theorem order_of_eq [C_order_of T] (n : Nat) {w : List (List Nat)} (h : ∀ v ∈ w, Vt v) : run T (n + 4) "order_of" [dview w] = .ok (dorder w) := by
  rw [r_order_of]
  simp only [b_order_of, q_ret]
  rw [comp_all w dtx dplace (by simp [seq_view]) fun v hv => by simp [place_of_eq, h v hv]]
  rfl
theorem holds_eq [C_holds T] (n : Nat) (view other : List (List Nat)) : run T (n + 1) "holds" [dview view, dview other] = .ok (.bl (other.all fun v => decide (v ∈ view))) := by
  rw [r_holds]
  simp only [b_holds, q_ret, q_blt, q_args, q_args0]
  rw [comp_all other dtx (fun v => .bl (decide (v ∈ view))) (by simp [seq_view]) fun v hv => by simp [dtx, in_view]]
  simp
end Lb
/-! agendas, plainly: verdicts, views, rows, their order -/
namespace Lb
open PySem PySem.Spec PyProof.Rows Z
/-! ### order of texts -/
theorem nlt_iff {a b : List Nat} : nlt a b ↔ a < b := by
  unfold nlt kstr
  rw [PySem.W.dataLt_str, decide_eq_true_eq, tx_cps, tx_cps]
theorem slt_irrefl (a : List Nat) : ¬ a < a := List.lt_irrefl a
theorem slt_trans {a b c : List Nat} (h : a < b) (q : b < c) : a < c := List.lt_trans h q
theorem slt_asymm {a b : List Nat} (h : a < b) (q : b < a) : False := slt_irrefl a (slt_trans h q)
theorem slt_total (a b : List Nat) : a < b ∨ a = b ∨ b < a := by
  by_cases h : a < b
  · exact .inl h
  by_cases q : b < a
  · exact .inr (.inr q)
  exact .inr (.inl (List.le_antisymm (List.not_lt.mp q) (List.not_lt.mp h)))
/-- in a row that rises, what is contained in another one is a part of it -/
theorem sub_of_mem {α : Type} {r : α → α → Prop} (ir : ∀ a, ¬ r a a) (as : ∀ a b, r a b → r b a → False) : ∀ {b a : List α}, a.Pairwise r → b.Pairwise r → (∀ x ∈ a, x ∈ b) → a.Sublist b
  | [], a, _, _, h => by
    cases a with
    | nil => exact List.Sublist.refl _
    | cons x a => exact absurd (h x List.mem_cons_self) (by simp)
  | y :: b, [], _, _, _ => List.nil_sublist _
  | y :: b, x :: a, ha, hb, h => by
    rw [List.pairwise_cons] at ha hb
    by_cases e : x = y
    · subst e
      refine List.Sublist.cons₂ _ (sub_of_mem ir as ha.2 hb.2 fun z hz => ?_)
      rcases List.mem_cons.mp (h z (List.mem_cons_of_mem _ hz)) with q | q
      · subst q; exact absurd (ha.1 _ hz) (ir _)
      · exact q
    · have hx : x ∈ b := by
        rcases List.mem_cons.mp (h x List.mem_cons_self) with q | q
        · exact absurd q e
        · exact q
      refine List.Sublist.cons _ (sub_of_mem ir as (List.pairwise_cons.mpr ha) hb.2 fun z hz => ?_)
      rcases List.mem_cons.mp (h z hz) with q | q
      · subst q
        rcases List.mem_cons.mp hz with q | q
        · exact absurd q.symm e
        · exact (as _ _ (ha.1 _ q) (hb.1 _ hx)).elim
      · exact q
/-! ### verdicts -/
structure It (l : List Nat) : Prop where
  yes : isYes l = true
  ne : l ≠ []
  len : l.length ≤ 500
theorem It.of {l : List Nat} (h : Nm l) : It l := by
  obtain ⟨c, r, e, h1, h2⟩ := h.head
  refine ⟨?_, by rw [e]; simp, by have := h.len; omega⟩
  rw [e]
  simp [isYes]
  omega
theorem It.vt {l : List Nat} (h : It l) : Vt l := ⟨h.ne, by have := h.len; omega⟩
theorem It.bang {l : List Nat} (h : It l) : Vt (bang l) := ⟨by simp [Z.bang], by have := h.len; simp [Z.bang]; omega⟩
theorem It.issue {l : List Nat} (h : It l) : issueOf l = l := by unfold issueOf; rw [if_pos h.yes]
theorem issue_bang (l : List Nat) : issueOf (bang l) = l := rfl
theorem yes_bang (l : List Nat) : isYes (bang l) = false := rfl
theorem opp_bang (l : List Nat) : opp (bang l) = l := rfl
theorem It.opp {l : List Nat} (h : It l) : opp l = Z.bang l := by unfold Lb.opp; rw [if_pos h.yes]
theorem bang_ne (x : List Nat) : bang x ≠ x := fun e => by have := congrArg List.length e; simp [bang] at this
theorem bang_inj {x y : List Nat} (h : bang x = bang y) : x = y := by simpa [bang] using h
theorem no_bang {v : List Nat} (h : isYes v = false) : v = bang (issueOf v) := by
  unfold issueOf
  rw [h]
  cases v with
  | nil => simp [isYes] at h
  | cons c r =>
    have : c = 33 := by simpa [isYes] using h
    subst this
    rfl
theorem yes_issue {v : List Nat} (h : isYes v = true) : issueOf v = v := by unfold issueOf; rw [if_pos h]
/-- a verdict on an issue of is -/
def Vd (is : List (List Nat)) (y : List Nat) : Prop := ∃ x ∈ is, y = x ∨ y = bang x
/-- verdicts on issues of is, in their order -/
structure Vw (is v : List (List Nat)) : Prop where
  sub : (v.map issueOf).Sublist is
  each : ∀ y ∈ v, Vd is y
/-- a verdict on each issue -/
structure Rw (is v : List (List Nat)) : Prop where
  all : v.map issueOf = is
  each : ∀ y ∈ v, Vd is y
theorem Rw.vw {is v : List (List Nat)} (h : Rw is v) : Vw is v := ⟨by rw [h.all]; exact List.Sublist.refl _, h.each⟩
theorem Rw.len {is v : List (List Nat)} (h : Rw is v) : v.length = is.length := by rw [← h.all, List.length_map]
/-- the issues of an agenda -/
structure Iss (is : List (List Nat)) : Prop where
  lt : is.Pairwise (· < ·)
  nm : ∀ x ∈ is, Nm x
  ne : is ≠ []
  len : is.length ≤ 6
section
variable {is v w r : List (List Nat)} {x y : List Nat}
theorem Iss.it (h : Iss is) (hx : x ∈ is) : It x := It.of (h.nm x hx)
theorem Vd.vt (h : ∀ x ∈ is, It x) (hy : Vd is y) : Vt y := by
  obtain ⟨x, hx, e | e⟩ := hy
  · rw [e]; exact (h x hx).vt
  · rw [e]; exact (h x hx).bang
theorem Vd.iss (h : ∀ x ∈ is, It x) (hy : Vd is y) : issueOf y ∈ is := by
  obtain ⟨x, hx, e | e⟩ := hy
  · rw [e, (h x hx).issue]; exact hx
  · rw [e, issue_bang]; exact hx
theorem Vd.opp (h : ∀ x ∈ is, It x) (hy : Vd is y) : Vd is (opp y) := by
  obtain ⟨x, hx, e | e⟩ := hy
  · rw [e, (h x hx).opp]; exact ⟨x, hx, .inr rfl⟩
  · rw [e, opp_bang]; exact ⟨x, hx, .inl rfl⟩
theorem Vd.opp_opp (h : ∀ x ∈ is, It x) (hy : Vd is y) : Lb.opp (Lb.opp y) = y := by
  obtain ⟨x, hx, e | e⟩ := hy
  · rw [e, (h x hx).opp, opp_bang]
  · rw [e, opp_bang, (h x hx).opp]
theorem Vd.issue_opp (h : ∀ x ∈ is, It x) (hy : Vd is y) : issueOf (Lb.opp y) = issueOf y := by
  obtain ⟨x, hx, e | e⟩ := hy
  · rw [e, (h x hx).opp, issue_bang, (h x hx).issue]
  · rw [e, opp_bang, (h x hx).issue, issue_bang]
theorem Vd.opp_ne (h : ∀ x ∈ is, It x) (hy : Vd is y) : Lb.opp y ≠ y := by
  obtain ⟨x, hx, e | e⟩ := hy
  · rw [e, (h x hx).opp]; exact bang_ne x
  · rw [e, opp_bang]; exact fun z => bang_ne x z.symm
theorem Vd.yes (h : ∀ x ∈ is, It x) (hy : Vd is y) (e : isYes y = true) : y ∈ is := by
  obtain ⟨x, hx, q | q⟩ := hy
  · rw [q]; exact hx
  · rw [q] at e; cases e
/-- two verdicts on one issue -/
theorem Vd.two (h : ∀ x ∈ is, It x) {z : List Nat} (hy : Vd is y) (hz : Vd is z) (e : issueOf y = issueOf z) : y = z ∨ z = Lb.opp y := by
  obtain ⟨x, hx, q | q⟩ := hy
  · obtain ⟨u, hu, p | p⟩ := hz
    · rw [q, p, (h x hx).issue, (h u hu).issue] at e; rw [q, p, e]; exact .inl rfl
    · rw [q, p, (h x hx).issue, issue_bang] at e; rw [q, p, (h x hx).opp, e]; exact .inr rfl
  · obtain ⟨u, hu, p | p⟩ := hz
    · rw [q, p, (h u hu).issue, issue_bang] at e; rw [q, p, opp_bang, e]; exact .inr rfl
    · rw [q, p, issue_bang, issue_bang] at e; rw [q, p, e]; exact .inl rfl
theorem Vw.vt (h : Vw is v) (hi : ∀ x ∈ is, It x) : ∀ y ∈ v, Vt y := fun y hy => (h.each y hy).vt hi
theorem Vw.len (h : Vw is v) : v.length ≤ is.length := by
  have := h.sub.length_le
  rwa [List.length_map] at this
theorem Vw.lt (h : Vw is v) (hi : is.Pairwise (· < ·)) : v.Pairwise fun a b => issueOf a < issueOf b := by
  have := hi.sublist h.sub
  rwa [List.pairwise_map] at this
theorem Vw.of_sub (h : Vw is v) (s : w.Sublist v) : Vw is w := ⟨(s.map issueOf).trans h.sub, fun y hy => h.each y (s.subset hy)⟩
/-- a view is held where it is a part -/
theorem held_iff (hi : is.Pairwise (· < ·)) (hv : Vw is v) (hr : Vw is r) : (∀ y ∈ v, y ∈ r) ↔ v.Sublist r := by
  constructor
  · exact fun h => sub_of_mem (r := fun a b => issueOf a < issueOf b) (fun a => slt_irrefl _) (fun a b => slt_asymm) (hv.lt hi) (hr.lt hi) h
  · exact fun h y hy => h.subset hy
/-- two views with the same verdicts -/
theorem Vw.ext (hi : is.Pairwise (· < ·)) (hv : Vw is v) (hr : Vw is r) (h : ∀ y, y ∈ v ↔ y ∈ r) : v = r := by
  have a := (held_iff hi hv hr).mp fun y hy => (h y).mp hy
  have b := (held_iff hi hr hv).mp fun y hy => (h y).mpr hy
  exact a.eq_of_length_le b.length_le
theorem Vw.uniq (hi : Iss is) (hv : Vw is v) {z : List Nat} (hy : y ∈ v) (hz : z ∈ v) (e : issueOf y = issueOf z) : y = z := by
  by_cases h : y = z
  · exact h
  · have key : ∀ {l : List (List Nat)}, l.Pairwise (fun a b => issueOf a < issueOf b) → y ∈ l → z ∈ l → issueOf y < issueOf z ∨ issueOf z < issueOf y := fun {l} hl => by
      induction hl with
      | nil => intro h; exact (List.not_mem_nil h).elim
      | cons h1 h2 ih =>
        intro ha hb
        rcases List.mem_cons.mp ha with ha | ha
        · rcases List.mem_cons.mp hb with hb | hb
          · exact absurd (ha.trans hb.symm) h
          · rw [ha]; exact .inl (h1 z hb)
        · rcases List.mem_cons.mp hb with hb | hb
          · rw [hb]; exact .inr (h1 y ha)
          · exact ih ha hb
    rcases key (hv.lt hi.lt) hy hz with q | q <;> rw [e] at q <;> exact absurd q (slt_irrefl _)
/-- a row has just one of two opposite verdicts -/
theorem Rw.xor (hi : Iss is) (hr : Rw is r) (hy : Vd is y) : Lb.opp y ∈ r ↔ y ∉ r := by
  have it : ∀ x ∈ is, It x := fun x hx => hi.it hx
  constructor
  · intro h q
    exact hy.opp_ne it (hr.vw.uniq hi h q (hy.issue_opp it))
  · intro h
    have m : issueOf y ∈ r.map issueOf := by rw [hr.all]; exact hy.iss it
    obtain ⟨z, hz, e⟩ := List.mem_map.mp m
    rcases hy.two it (hr.each z hz) e.symm with q | q
    · rw [← q] at hz; exact absurd hz h
    · rw [← q]; exact hz
end
/-! ### order of verdicts and views -/
def vltB (a b : List Nat) : Bool := if issueOf a = issueOf b then isYes a && !isYes b else decide (issueOf a < issueOf b)
def oltB : List (List Nat) → List (List Nat) → Bool
  | [], [] => false
  | [], _ :: _ => true
  | _ :: _, [] => false
  | a :: v, b :: w => if a = b then oltB v w else vltB a b
def sortV (vs : List (List (List Nat))) : List (List (List Nat)) := vs.mergeSort fun a b => !oltB b a
theorem key_inj {a b : List Nat} (e : issueOf a = issueOf b) (q : isYes a = isYes b) : a = b := by
  cases h : isYes a with
  | true =>
    have h1 := yes_issue h
    have h2 := yes_issue (v := b) (by rw [← q]; exact h)
    rw [← h1, ← h2, e]
  | false =>
    have h1 := no_bang h
    have h2 := no_bang (v := b) (by rw [← q]; exact h)
    rw [h1, h2, e]
theorem vlt_irrefl (a : List Nat) : vltB a a = false := by simp [vltB]
theorem vlt_trans {a b c : List Nat} (h : vltB a b = true) (q : vltB b c = true) : vltB a c = true := by
  unfold vltB at *
  by_cases e : issueOf a = issueOf b
  · rw [if_pos e] at h
    rw [e]
    by_cases f : issueOf b = issueOf c
    · rw [if_pos f] at q ⊢
      simp at h q
      rw [h.2] at q
      cases q.1
    · rw [if_neg f] at q ⊢
      exact q
  · rw [if_neg e] at h
    have h := of_decide_eq_true h
    by_cases f : issueOf b = issueOf c
    · rw [← f, if_neg e]
      exact decide_eq_true h
    · rw [if_neg f] at q
      have q := slt_trans h (of_decide_eq_true q)
      rw [if_neg fun z => slt_irrefl _ (by rw [z] at q; exact q)]
      exact decide_eq_true q
theorem vlt_total {a b : List Nat} (h : a ≠ b) : vltB a b = true ∨ vltB b a = true := by
  unfold vltB
  by_cases e : issueOf a = issueOf b
  · rw [if_pos e, if_pos e.symm]
    cases ha : isYes a <;> cases hb : isYes b
    · exact absurd (key_inj e (ha.trans hb.symm)) h
    · exact .inr rfl
    · exact .inl rfl
    · exact absurd (key_inj e (ha.trans hb.symm)) h
  · rw [if_neg e, if_neg fun z => e z.symm]
    rcases slt_total (issueOf a) (issueOf b) with q | q | q
    · exact .inl (decide_eq_true q)
    · exact absurd q e
    · exact .inr (decide_eq_true q)
theorem olt_irrefl : ∀ v : List (List Nat), oltB v v = false
  | [] => rfl
  | a :: v => by unfold oltB; rw [if_pos rfl]; exact olt_irrefl v
theorem olt_trans : ∀ {u v w : List (List Nat)}, oltB u v = true → oltB v w = true → oltB u w = true
  | [], [], w, h, _ => by cases h
  | [], _ :: _, [], _, q => by cases q
  | [], _ :: _, _ :: _, _, _ => rfl
  | _ :: _, [], _, h, _ => by cases h
  | _ :: _, _ :: _, [], _, q => by cases q
  | a :: u, b :: v, c :: w, h, q => by
    unfold oltB at *
    by_cases e : a = b
    · rw [if_pos e] at h
      subst e
      by_cases f : a = c
      · rw [if_pos f] at q ⊢; exact olt_trans h q
      · rw [if_neg f] at q ⊢; exact q
    · rw [if_neg e] at h
      by_cases f : b = c
      · subst f; rw [if_neg e]; exact h
      · rw [if_neg f] at q
        have := vlt_trans h q
        by_cases g : a = c
        · subst g; rw [vlt_irrefl] at this; cases this
        · rw [if_neg g]; exact this
theorem olt_total : ∀ {v w : List (List Nat)}, v ≠ w → oltB v w = true ∨ oltB w v = true
  | [], [], h => absurd rfl h
  | [], _ :: _, _ => .inl rfl
  | _ :: _, [], _ => .inr rfl
  | a :: v, b :: w, h => by
    unfold oltB
    by_cases e : a = b
    · subst e
      rw [if_pos rfl, if_pos rfl]
      exact olt_total fun z => h (by rw [z])
    · rw [if_neg e, if_neg fun z => e z.symm]
      exact vlt_total e
theorem olt_asymm {v w : List (List Nat)} (h : oltB v w = true) (q : oltB w v = true) : False := by
  have := olt_trans h q
  rw [olt_irrefl] at this
  cases this
theorem ole_trans (a b c : List (List Nat)) (h : (!oltB b a) = true) (q : (!oltB c b) = true) : (!oltB c a) = true := by
  rw [Bool.not_eq_true'] at h q ⊢
  by_cases e : oltB c a = true
  · by_cases f : a = b
    · subst f; rw [e] at q; cases q
    · rcases olt_total f with g | g
      · have := olt_trans e g; rw [this] at q; cases q
      · rw [g] at h; cases h
  · simpa using e
theorem ole_total (a b : List (List Nat)) : (!oltB b a || !oltB a b) = true := by
  by_cases e : oltB b a = true
  · cases f : oltB a b with
    | false => simp
    | true => exact (olt_asymm e f).elim
  · have : oltB b a = false := by simpa using e
    simp [this]
/-- a list of views is sorted if it rises -/
theorem sortV_is {l t : List (List (List Nat))} (hp : l.Perm t) (ht : t.Pairwise fun a b => oltB a b = true) : sortV l = t := by
  have p2 : (sortV l).Perm t := (List.mergeSort_perm _ _).trans hp
  refine List.Perm.eq_of_pairwise (le := fun a b => (!oltB b a) = true) (fun a b _ _ h1 h2 => ?_) (List.pairwise_mergeSort ole_trans ole_total l) (ht.imp fun {a b} h => ?_) p2
  · by_cases e : a = b
    · exact e
    · rcases olt_total e with q | q
      · rw [q] at h2; cases h2
      · rw [q] at h1; cases h1
  · cases f : oltB b a with
    | false => rfl
    | true => exact (olt_asymm h f).elim
theorem sortV_perm (l : List (List (List Nat))) : (sortV l).Perm l := List.mergeSort_perm _ _
theorem sortV_lt {l : List (List (List Nat))} (h : l.Nodup) : (sortV l).Pairwise fun a b => oltB a b = true := by
  have h1 : (sortV l).Pairwise fun a b => (!oltB b a) = true := List.pairwise_mergeSort ole_trans ole_total l
  have h2 : (sortV l).Nodup := (sortV_perm l).nodup_iff.mpr h
  rw [List.nodup_iff_pairwise_ne] at h2
  refine (h1.and h2).imp fun {a b} ⟨p, q⟩ => ?_
  rcases olt_total q with z | z
  · exact z
  · rw [z] at p; cases p
/-- the same views, sorted, are the same list -/
theorem sortV_eq {l t : List (List (List Nat))} (h : l.Perm t) (hn : l.Nodup) : sortV l = sortV t := sortV_is (h.trans (sortV_perm t).symm) (sortV_lt (h.nodup_iff.mp hn))
theorem sortV_ext {l t : List (List (List Nat))} (hl : l.Nodup) (ht : t.Nodup) (h : ∀ v, v ∈ l ↔ v ∈ t) : sortV l = sortV t := sortV_eq ((List.perm_ext_iff_of_nodup hl ht).mpr h) hl
/-! ### all rows, all views, parts -/
theorem grow_mem {found : List (List (List Nat))} {x : List Nat} {r : List (List Nat)} : r ∈ grow found x ↔ ∃ q ∈ found, r = q ++ [x] ∨ r = q ++ [bang x] := by
  unfold grow
  rw [List.mem_flatMap]
  constructor
  · rintro ⟨q, h1, h2⟩
    exact ⟨q, h1, by simpa using h2⟩
  · rintro ⟨q, h1, h2⟩
    exact ⟨q, h1, by simpa using h2⟩
theorem snoc_cases {α : Type} (l : List α) : l = [] ∨ ∃ r z, l = r ++ [z] := by
  rcases List.eq_nil_or_concat l with h | ⟨r, z, h⟩
  · exact .inl h
  · exact .inr ⟨r, z, by rw [h, List.concat_eq_append]⟩
theorem rows_mem {is : List (List Nat)} (hi : ∀ x ∈ is, It x) : ∀ {r : List (List Nat)}, r ∈ rowsOf is ↔ Rw is r := by
  have key : ∀ j, j ≤ is.length → ∀ r, r ∈ rowsOf (is.take j) ↔ Rw (is.take j) r := by
    intro j
    induction j with
    | zero =>
      intro _ r
      have e : rowsOf (is.take 0) = [[]] := rfl
      rw [e]
      constructor
      · intro h
        have h : r = [] := by simpa using h
        subst h
        exact ⟨rfl, fun y hy => (List.not_mem_nil hy).elim⟩
      · intro h
        have : r = [] := by have := h.all; simpa using this
        simp [this]
    | succ j ih =>
      intro hj r
      have hlt : j < is.length := by omega
      have ih := ih (by omega)
      rw [take_snoc (List.getElem?_eq_getElem hlt), rowsOf_snoc, grow_mem]
      have hx := hi is[j] (List.getElem_mem _)
      have up : ∀ {q : List (List Nat)}, (∀ y ∈ q, Vd (is.take j) y) → ∀ y ∈ q, Vd (is.take j ++ [is[j]]) y := fun h y hy => by
        obtain ⟨u, hu, e⟩ := h y hy
        exact ⟨u, List.mem_append_left _ hu, e⟩
      constructor
      · rintro ⟨q, hq, e | e⟩
        · have := (ih q).mp hq
          subst e
          refine ⟨by rw [List.map_append, this.all]; simp [hx.issue], fun y hy => ?_⟩
          rcases List.mem_append.mp hy with h | h
          · exact up this.each y h
          · have h : y = is[j] := by simpa using h
            exact ⟨is[j], List.mem_append_right _ List.mem_cons_self, .inl h⟩
        · have := (ih q).mp hq
          subst e
          refine ⟨by rw [List.map_append, this.all]; simp [issue_bang], fun y hy => ?_⟩
          rcases List.mem_append.mp hy with h | h
          · exact up this.each y h
          · have h : y = bang is[j] := by simpa using h
            exact ⟨is[j], List.mem_append_right _ List.mem_cons_self, .inr h⟩
      · intro h
        rcases snoc_cases r with e | ⟨q, z, e⟩
        · subst e
          have := congrArg List.length h.all
          rw [List.length_append] at this
          simp at this
        · subst e
          have ha := h.all
          rw [List.map_append] at ha
          obtain ⟨a1, a2⟩ := List.append_inj' ha rfl
          have a2 : issueOf z = is[j] := by simpa using a2
          refine ⟨q, (ih q).mpr ⟨a1, fun y hy => ?_⟩, ?_⟩
          · obtain ⟨u, hu, e⟩ := h.each y (by simp [hy])
            refine ⟨issueOf y, by rw [← a1]; exact List.mem_map.mpr ⟨y, hy, rfl⟩, ?_⟩
            have hu' : It u := by
              rcases List.mem_append.mp hu with q | q
              · exact hi u (List.mem_of_mem_take q)
              · have q : u = is[j] := by simpa using q
                rw [q]; exact hx
            rcases e with e | e
            · left; rw [e, hu'.issue]
            · right; rw [e, issue_bang]
          · obtain ⟨u, hu, e⟩ := h.each z (by simp)
            have hu' : It u := by
              rcases List.mem_append.mp hu with q | q
              · exact hi u (List.mem_of_mem_take q)
              · have q : u = is[j] := by simpa using q
                rw [q]; exact hx
            rcases e with e | e
            · left; rw [e, hu'.issue] at a2; rw [e, a2]
            · right; rw [e, issue_bang] at a2; rw [e, a2]
  intro r
  have := key is.length (Nat.le_refl _) r
  rwa [List.take_length] at this
theorem olt_app : ∀ {v w : List (List Nat)} (x y : List (List Nat)), v.length = w.length → oltB v w = true → oltB (v ++ x) (w ++ y) = true
  | [], [], _, _, _, h => by cases h
  | [], _ :: _, _, _, h, _ => by simp at h
  | _ :: _, [], _, _, h, _ => by simp at h
  | a :: v, b :: w, x, y, hl, h => by
    rw [List.cons_append, List.cons_append]
    unfold oltB at h ⊢
    by_cases e : a = b
    · rw [if_pos e] at h ⊢; exact olt_app x y (by simpa using hl) h
    · rw [if_neg e] at h ⊢; exact h
theorem olt_last (v : List (List Nat)) {a b : List Nat} (h : a ≠ b) (q : vltB a b = true) : oltB (v ++ [a]) (v ++ [b]) = true := by
  induction v with
  | nil =>
    show oltB [a] [b] = true
    unfold oltB
    rw [if_neg h]
    exact q
  | cons c v ih =>
    rw [List.cons_append, List.cons_append]
    unfold oltB
    rw [if_pos rfl]
    exact ih
theorem vlt_bang {x : List Nat} (h : It x) : vltB x (bang x) = true := by
  unfold vltB
  rw [h.issue, issue_bang, if_pos rfl, h.yes, yes_bang]
  rfl
theorem rows_lt {is : List (List Nat)} (hi : ∀ x ∈ is, It x) : ∀ j, j ≤ is.length → (rowsOf (is.take j)).Pairwise fun a b => oltB a b = true
  | 0, _ => List.pairwise_singleton _ _
  | j + 1, hj => by
    have ih := rows_lt hi j (by omega)
    obtain ⟨_, hr⟩ := rows_take is j (by omega)
    have hx := hi is[j] (List.getElem_mem _)
    rw [take_snoc (List.getElem?_eq_getElem (by omega)), rowsOf_snoc]
    unfold grow
    rw [List.pairwise_flatMap]
    refine ⟨fun r _ => ?_, ?_⟩
    · rw [List.pairwise_cons]
      refine ⟨fun y hy => ?_, List.pairwise_singleton _ _⟩
      have hy : y = r ++ [bang is[j]] := by simpa using hy
      rw [hy]
      exact olt_last r (fun z => bang_ne _ z.symm) (vlt_bang hx)
    · refine List.Pairwise.imp_of_mem ?_ ih
      intro a b ha hb hab x hx y hy
      have hl : a.length = b.length := by rw [hr a ha, hr b hb]
      have ex : ∃ p, x = a ++ p := by
        rcases List.mem_cons.mp hx with e | e
        · exact ⟨_, e⟩
        · exact ⟨_, by simpa using e⟩
      have ey : ∃ p, y = b ++ p := by
        rcases List.mem_cons.mp hy with e | e
        · exact ⟨_, e⟩
        · exact ⟨_, by simpa using e⟩
      obtain ⟨p, rfl⟩ := ex
      obtain ⟨q, rfl⟩ := ey
      exact olt_app p q hl hab
theorem rowsOf_lt {is : List (List Nat)} (hi : ∀ x ∈ is, It x) : (rowsOf is).Pairwise fun a b => oltB a b = true := by
  have := rows_lt hi is.length (Nat.le_refl _)
  rwa [List.take_length] at this
theorem rowsOf_len (is : List (List Nat)) : (rowsOf is).length = 2 ^ is.length := by
  have := (rows_take is is.length (Nat.le_refl _)).1
  rwa [List.take_length] at this
def growP (found : List (List (List Nat))) (x : List Nat) : List (List (List Nat)) := found ++ found.map fun p => p ++ [x]
/-- all parts of a view -/
def partsOf (v : List (List Nat)) : List (List (List Nat)) := v.foldl growP [[]]
theorem partsOf_snoc (v : List (List Nat)) (x : List Nat) : partsOf (v ++ [x]) = growP (partsOf v) x := by unfold partsOf; rw [List.foldl_append]; rfl
theorem parts_len (v : List (List Nat)) : ∀ j, j ≤ v.length → (partsOf (v.take j)).length = 2 ^ j ∧ ∀ p ∈ partsOf (v.take j), p.length ≤ j
  | 0, _ => ⟨rfl, fun p hp => by have hp : p = [] := by simpa [partsOf] using hp
                                 rw [hp]; simp⟩
  | j + 1, hj => by
    obtain ⟨h1, h2⟩ := parts_len v j (by omega)
    rw [take_snoc (List.getElem?_eq_getElem (by omega)), partsOf_snoc]
    unfold growP
    refine ⟨by rw [List.length_append, List.length_map, h1, Nat.pow_succ]; omega, fun p hp => ?_⟩
    rcases List.mem_append.mp hp with h | h
    · have := h2 p h; omega
    · obtain ⟨q, hq, rfl⟩ := List.mem_map.mp h
      have := h2 q hq
      simp; omega
theorem parts_mem (v : List (List Nat)) : ∀ p, p ∈ partsOf v ↔ p.Sublist v := by
  have key : ∀ j, j ≤ v.length → ∀ p, p ∈ partsOf (v.take j) ↔ p.Sublist (v.take j) := by
    intro j
    induction j with
    | zero => intro _ p; simp [partsOf]
    | succ j ih =>
      intro hj p
      rw [take_snoc (List.getElem?_eq_getElem (by omega)), partsOf_snoc]
      unfold growP
      rw [List.mem_append, List.mem_map, ih (by omega) p, List.sublist_append_iff]
      constructor
      · rintro (h | ⟨q, hq, rfl⟩)
        · exact ⟨p, [], by simp, h, by simp⟩
        · exact ⟨q, [v[j]], rfl, (ih (by omega) q).mp hq, List.Sublist.refl _⟩
      · rintro ⟨a, b, rfl, ha, hb⟩
        have : b = [] ∨ b = [v[j]] := by
          cases b with
          | nil => exact .inl rfl
          | cons x b =>
            have hl := hb.length_le
            have : b = [] := List.length_eq_zero_iff.mp (by simp only [List.length_cons, List.length_nil] at hl; omega)
            subst this
            have := hb.subset List.mem_cons_self
            exact .inr (by simpa using this)
        rcases this with e | e
        · left; rw [e]; simpa using ha
        · right; exact ⟨a, (ih (by omega) a).mpr ha, by rw [e]⟩
  intro p
  have := key v.length (Nat.le_refl _) p
  rwa [List.take_length] at this
end Lb
/-! the shared defs of LA, in plain words -/
namespace Z
open PySem PySem.Spec PyProof.Rows
theorem for_take {α : Type} {kl : List Nat} {g : ZG} {it : ZI} {b : ZS} {ρ0 : Env} (as : List α) (f : α → D) (E : List α → Env) (hit : it ρ0 = .ok (as.map f)) (h0 : killE kl ρ0 = E []) (st : ∀ j a, as[j]? = some a → ∃ ρ1 ρ', g (f a) (E (as.take j)) = .ok ρ1 ∧ (b ρ1 = .nx ρ' ∨ b ρ1 = .ct ρ') ∧ killE kl ρ' = E (as.take (j + 1))) :
    sFor kl g it b ρ0 = .nx (E as) := by
  obtain ⟨ρ', h1, h2⟩ := sFor_typed (kl := kl) (g := g) (b := b) (as := as) (en := f) hit (fun j ρ => ρ = E (as.take j)) (by rw [List.take_zero]; exact h0) (by
    rintro j a ρ ha rfl
    obtain ⟨ρ1, ρ', h1, h2, h3⟩ := st j a ha
    exact ⟨ρ1, ρ', h1, h2, h3⟩)
  rw [h1, h2, List.take_length]
/-- a for that changes nothing, or returns -/
theorem for_find {α : Type} {kl : List Nat} {g : ZG} {it : ZI} {b : ZS} {ρ0 : Env} (as : List α) (f : α → D) (p : α → Option D) (hit : it ρ0 = .ok (as.map f)) (st : ∀ a, a ∈ as → match p a with | some d => ofR (g (f a) (killE kl ρ0)) b = .rt d | none => ∃ ρ', (ofR (g (f a) (killE kl ρ0)) b = .nx ρ' ∨ ofR (g (f a) (killE kl ρ0)) b = .ct ρ') ∧ killE kl ρ' = killE kl ρ0) :
    sFor kl g it b ρ0 = match as.findSome? p with | some d => .rt d | none => .nx (killE kl ρ0) := by
  rw [q_for, hit, ofR_ok]
  have key : ∀ as : List α, (∀ a, a ∈ as → match p a with | some d => ofR (g (f a) (killE kl ρ0)) b = .rt d | none => ∃ ρ', (ofR (g (f a) (killE kl ρ0)) b = .nx ρ' ∨ ofR (g (f a) (killE kl ρ0)) b = .ct ρ') ∧ killE kl ρ' = killE kl ρ0) →
      forL kl (fun x ρ' => ofR (g x ρ') b) (as.map f) (killE kl ρ0) = match as.findSome? p with | some d => .rt d | none => .nx (killE kl ρ0) := by
    intro as
    induction as with
    | nil => intro _; rfl
    | cons a as ih =>
      intro h
      have h1 := h a List.mem_cons_self
      have ih := ih fun y hy => h y (List.mem_cons_of_mem _ hy)
      rw [List.map_cons]
      show (match ofR (g (f a) (killE kl ρ0)) b with | .nx ρ' => forL kl _ (as.map f) (killE kl ρ') | .ct ρ' => forL kl _ (as.map f) (killE kl ρ') | o => o) = _
      rw [List.findSome?_cons]
      cases hp : p a with
      | some d => rw [hp] at h1; dsimp only at h1; rw [h1]
      | none =>
        rw [hp] at h1
        obtain ⟨ρ', h2, h3⟩ := h1
        rcases h2 with h2 | h2 <;> rw [h2] <;> (dsimp only; rw [h3]; exact ih)
  exact key as st
@[simp] theorem q_dic {t : Bool} {ρ : Env} : eDic t ρ = .ok (.dic t [] []) := rfl
@[simp] theorem q_fld {a : ZE} {f : Str} {ρ : Env} : eFld a f ρ = (a ρ).bind (fldD f) := rfl
@[simp] theorem q_meth {call : Call} {a : ZE} {m : Str} {es : List ZE} {ρ : Env} : eMeth call a m es ρ = (a ρ).bind fun x => (eArgs es ρ).bind fun ds => methD call m ds x := rfl
@[simp] theorem q_mt {m : Mt} {a b : ZE} {ρ : Env} : eMt m a b ρ = (a ρ).bind fun x => (b ρ).bind fun y => mtD m x y := rfl
@[simp] theorem q_put {i : Nat} {k e : ZE} {ρ : Env} : sPut i k e ρ = ofR (e ρ) fun d => ofR (look ρ i) fun x => ofR (k ρ) fun y => ofR (putD x y d) fun z => .nx (ρ.set i (some z)) := rfl
@[simp] theorem q_sfld {i : Nat} {f : Str} {e : ZE} {ρ : Env} : sFld i f e ρ = ofR (e ρ) fun d => ofR (look ρ i) fun x => ofR (setF x f d) fun z => .nx (ρ.set i (some z)) := rfl
@[simp] theorem q_expr {e : ZE} {ρ : Env} : sExpr e ρ = ofR (e ρ) fun _ => .nx ρ := rfl
@[simp] theorem q_endI_nx {ρ : Env} : endI (.nx ρ) = look ρ 0 := rfl
def dtv (v : List (List Nat)) : D := .tup (v.map dtx)
def dtvs (vs : List (List (List Nat))) : D := .lst (vs.map dtv)
theorem big : 16777216 ≤ sizeLine := sizeLine_big
theorem add_tv {a b : List (List Nat)} (h : a.length + b.length ≤ 16777216) : binD .Add (dtv a) (dtv b) = .ok (dtv (a ++ b)) := by
  show chk (decide _) _ = _
  rw [decide_eq_true (by rw [List.length_map, List.length_map]; exact Nat.le_trans h big), List.map_append.symm]
  rfl
theorem add_tvs {a b : List (List (List Nat))} (h : a.length + b.length ≤ 16777216) : binD .Add (dtvs a) (dtvs b) = .ok (dtvs (a ++ b)) := by
  show chk (decide _) _ = _
  rw [decide_eq_true (by rw [List.length_map, List.length_map]; exact Nat.le_trans h big), List.map_append.symm]
  rfl
theorem app_tvs {a : List (List (List Nat))} {r : List (List Nat)} (h : a.length < 16777216) : appD (dtvs a) (dtv r) = .ok (dtvs (a ++ [r])) := by
  have := big
  show appD (.lst (a.map dtv)) (dtv r) = _
  rw [f_app (by rw [List.length_map]; omega)]
  unfold dtvs
  rw [List.map_append]
  rfl
theorem ext_tvs {a b : List (List (List Nat))} (h : a.length + b.length ≤ 16777216) : extD (dtvs a) (dtvs b) = .ok (dtvs (a ++ b)) := by
  show chk (decide _) _ = _
  rw [decide_eq_true (by rw [List.length_map, List.length_map]; exact Nat.le_trans h big), List.map_append.symm]
  rfl
theorem ext_view {a b : List (List Nat)} (h : a.length + b.length ≤ 16777216) : extD (dview a) (dview b) = .ok (dview (a ++ b)) := by
  show chk (decide _) _ = _
  rw [decide_eq_true (by rw [List.length_map, List.length_map]; exact Nat.le_trans h big), List.map_append.symm]
  rfl
theorem app_view {a : List (List Nat)} {r : List Nat} (h : a.length < 16777216) : appD (dview a) (dtx r) = .ok (dview (a ++ [r])) := by
  have := big
  show appD (.lst (a.map dtx)) (dtx r) = _
  rw [f_app (by rw [List.length_map]; omega)]
  unfold dview
  rw [List.map_append]
  rfl
@[simp] theorem seq_tv (v : List (List Nat)) : seqD (dtv v) = .ok (v.map dtx) := rfl
@[simp] theorem seq_tvs (v : List (List (List Nat))) : seqD (dtvs v) = .ok (v.map dtv) := rfl
@[simp] theorem list_view (v : List (List Nat)) : bltD .list [dview v] = .ok (dview v) := rfl
@[simp] theorem list_rows (v : List (List (List Nat))) : bltD .list [drows v] = .ok (drows v) := rfl
@[simp] theorem list_tv (v : List (List Nat)) : bltD .list [dtv v] = .ok (dview v) := rfl
@[simp] theorem list_tvs (v : List (List (List Nat))) : bltD .list [dtvs v] = .ok (dtvs v) := rfl
@[simp] theorem tup_view (v : List (List Nat)) : bltD .tuple [dview v] = .ok (dtv v) := rfl
@[simp] theorem tup_tv (v : List (List Nat)) : bltD .tuple [dtv v] = .ok (dtv v) := rfl
@[simp] theorem len_view (v : List (List Nat)) : bltD .len [dview v] = .ok (.int v.length) := by simp [dview]
@[simp] theorem len_rows (v : List (List (List Nat))) : bltD .len [drows v] = .ok (.int v.length) := by simp [drows]
@[simp] theorem len_tv (v : List (List Nat)) : bltD .len [dtv v] = .ok (.int v.length) := by
  show R.ok (D.int ((v.map dtx).length : Nat)) = _
  rw [List.length_map]
@[simp] theorem eq_dtx (a b : List Nat) : eqD (dtx a) (dtx b) = .ok (decide (a = b)) := eq_tx a b
theorem tup1 (l : List Nat) : D.tup [dtx l] = dtv [l] := rfl
theorem lst1 (l : List Nat) : D.lst [dtx l] = dview [l] := rfl
theorem lst2 (a b : List Nat) : D.lst [dtx a, dtx b] = dview [a, b] := rfl
theorem lst0 : D.lst [] = dview [] := rfl
theorem lst0' : D.lst [] = dtvs [] := rfl
theorem lst0r : D.lst [] = drows [] := rfl
theorem lst_tv0 : D.lst [D.tup []] = dtvs [[]] := rfl
theorem view_len (v : List (List Nat)) : dview v = .lst (v.map dtx) := rfl
/-! slices -/
theorem sIx_nat {n k o : Nat} (h : k ≤ n) : HT.sIx n o (some (k : Int)) = k := by
  simp only [HT.sIx]
  split <;> omega
theorem cutL_to {α : Type} (xs : List α) (k : Nat) (h : k ≤ xs.length) : cutL xs none (some (k : Int)) = xs.take k := by
  unfold cutL
  rw [sIx_nat h]
  simp [HT.sIx]
theorem cutL_from {α : Type} (xs : List α) (k : Nat) (h : k ≤ xs.length) : cutL xs (some (k : Int)) none = xs.drop k := by
  unfold cutL
  rw [sIx_nat h]
  have : HT.sIx xs.length xs.length none = xs.length := by simp [HT.sIx]
  rw [this]
  exact List.take_of_length_le (by rw [List.length_drop]; omega)
theorem cut_tv_to {v : List (List Nat)} {k : Nat} (h : k ≤ v.length) : cutD (dtv v) none (some (k : Int)) = .ok (dtv (v.take k)) := by
  show R.ok (D.tup (cutL (v.map dtx) none (some (k : Int)))) = _
  rw [cutL_to _ _ (by rw [List.length_map]; exact h), ← List.map_take]
  rfl
theorem cut_tv_from {v : List (List Nat)} {k : Nat} (h : k ≤ v.length) : cutD (dtv v) (some (k : Int)) none = .ok (dtv (v.drop k)) := by
  show R.ok (D.tup (cutL (v.map dtx) (some (k : Int)) none)) = _
  rw [cutL_from _ _ (by rw [List.length_map]; exact h), ← List.map_drop]
  rfl
theorem cut_view_to {v : List (List Nat)} {k : Nat} (h : k ≤ v.length) : cutD (dview v) none (some (k : Int)) = .ok (dview (v.take k)) := by
  show R.ok (D.lst (cutL (v.map dtx) none (some (k : Int)))) = _
  rw [cutL_to _ _ (by rw [List.length_map]; exact h), ← List.map_take]
  rfl
theorem cut_view_from {v : List (List Nat)} {k : Nat} (h : k ≤ v.length) : cutD (dview v) (some (k : Int)) none = .ok (dview (v.drop k)) := by
  show R.ok (D.lst (cutL (v.map dtx) (some (k : Int)) none)) = _
  rw [cutL_from _ _ (by rw [List.length_map]; exact h), ← List.map_drop]
  rfl
/-! dicts whose keys are views -/
def kv (v : List (List Nat)) : List L2.Key := v.map fun x => .inr (tx x)
theorem kv_inj {a b : List (List Nat)} (h : kv a = kv b) : a = b := map_inj (f := fun x => (Sum.inr (tx x) : L2.Key)) (fun x y e => tx_inj.mp (Sum.inr.inj e)) h
theorem keyAs_tv : ∀ v : List (List Nat), keyAs (v.map dtx) = some (kv v)
  | [] => rfl
  | x :: v => by
    show (keyA (dtx x)).bind (fun k => (keyAs (v.map dtx)).map (k :: ·)) = _
    rw [keyAs_tv v]
    rfl
theorem key_tv (v : List (List Nat)) : keyD true (dtv v) = some (kv v) := keyAs_tv v
/-- a dict of views, all worth True -/
def dset (ks : List (List (List Nat))) : D := .dic true (ks.map kv) (ks.map fun _ => .bl true)
theorem has_kv (ks : List (List (List Nat))) (v : List (List Nat)) : hasK (ks.map kv) (kv v) = decide (v ∈ ks) := by
  unfold hasK
  rw [Bool.eq_iff_iff, List.any_map, List.any_eq_true, decide_eq_true_eq]
  constructor
  · rintro ⟨y, hy, e⟩
    have e : kv y = kv v := of_decide_eq_true e
    rw [← kv_inj e]; exact hy
  · intro h; exact ⟨v, h, by simp⟩
theorem in_set (ks : List (List (List Nat))) (v : List (List Nat)) : inD (dtv v) (dset ks) = .ok (decide (v ∈ ks)) := by
  show (match keyD true (dtv v) with | some k => R.ok (hasK (ks.map kv) k) | none => R.no) = _
  rw [key_tv]
  dsimp only
  rw [has_kv]
def insV (ks : List (List (List Nat))) (v : List (List Nat)) : List (List (List Nat)) := if v ∈ ks then ks else ks ++ [v]
theorem put_set {ks : List (List (List Nat))} {v : List (List Nat)} (h : ks.length < 16777216) : putD (dset ks) (dtv v) (.bl true) = .ok (dset (insV ks v)) := by
  have big := big
  show (match keyD true (dtv v) with | some k => chk (decide ((ks.map kv).length < sizeLine)) (R.ok (if hasK (ks.map kv) k = true then D.dic true (ks.map kv) (((ks.map kv).zip (ks.map fun _ => D.bl true)).map fun (p : List L2.Key × D) => if p.1 = k then D.bl true else p.2) else D.dic true (ks.map kv ++ [k]) ((ks.map fun _ => D.bl true) ++ [D.bl true]))) | none => R.no) = _
  rw [key_tv]
  dsimp only
  rw [decide_eq_true (by rw [List.length_map]; omega), chk_true, has_kv]
  unfold insV
  by_cases hv : v ∈ ks
  · rw [if_pos (decide_eq_true hv), if_pos hv]
    unfold dset
    congr 2
    clear h hv
    induction ks with
    | nil => rfl
    | cons k ks ih =>
      rw [List.map_cons, List.map_cons, List.zip_cons_cons, List.map_cons, ih]
      congr 1
      split <;> rfl
  · rw [if_neg (by simpa using hv), if_neg hv]
    unfold dset
    rw [List.map_append, List.map_append]
    rfl
theorem ins_mem {ks : List (List (List Nat))} {v w : List (List Nat)} : w ∈ insV ks v ↔ w ∈ ks ∨ w = v := by
  unfold insV
  split
  · rename_i h
    constructor
    · exact fun q => .inl q
    · rintro (q | rfl)
      · exact q
      · exact h
  · simp
theorem insAll_mem {w : List (List Nat)} : ∀ {vs ks : List (List (List Nat))}, w ∈ vs.foldl insV ks ↔ w ∈ ks ∨ w ∈ vs
  | [], ks => by simp
  | v :: vs, ks => by rw [List.foldl_cons, insAll_mem, ins_mem, List.mem_cons, or_assoc]
theorem ins_len (ks : List (List (List Nat))) (v : List (List Nat)) : (insV ks v).length ≤ ks.length + 1 := by
  unfold insV
  split
  · omega
  · simp
theorem insAll_len : ∀ (vs ks : List (List (List Nat))), (vs.foldl insV ks).length ≤ ks.length + vs.length
  | [], ks => by simp
  | v :: vs, ks => by
    have h1 := insAll_len vs (insV ks v)
    have h2 := ins_len ks v
    rw [List.foldl_cons, List.length_cons]
    omega
end Z
namespace Lb
open PySem PySem.Spec PyProof.Rows Z
variable {T : Str → Option Fd}
/-! ### verdicts -/
theorem verdict_on_eq [C_verdict_on T] (n : Nat) {view : List (List Nat)} {issue : List Nat} (h : ∀ v ∈ view, Vt v) : run T (n + 3) "verdict_on" [dview view, dtx issue] = .ok (match view.find? (fun v => decide (issueOf v = issue)) with | some v => dtx v | none => .non) := by
  rw [r_verdict_on]
  simp only [b_verdict_on, q_seq]
  rw [for_find view dtx (fun v => if issueOf v = issue then some (dtx v) else none) (by simp [seq_view]) (fun v hv => by
    have i1 := issue_of_eq (T := T) n (h v hv)
    by_cases hi : issueOf v = issue <;> simp [f_verdict_on_1, i1, hi])]
  have key : view.findSome? (fun v => if issueOf v = issue then some (dtx v) else none) = (view.find? (fun v => decide (issueOf v = issue))).map dtx := by
    clear h
    induction view with
    | nil => rfl
    | cons v r ih =>
      rw [List.findSome?_cons, List.find?_cons]
      by_cases hv : issueOf v = issue
      · simp [hv]
      · simp [hv, ih]
  rw [key]
  cases view.find? (fun v => decide (issueOf v = issue)) <;> simp
def bothOf (is : List (List Nat)) : List (List Nat) := is.flatMap fun x => [x, bang x]
theorem both_len (is : List (List Nat)) : (bothOf is).length = 2 * is.length := by
  unfold bothOf
  induction is with
  | nil => rfl
  | cons x is ih => rw [List.flatMap_cons, List.length_append, ih, List.length_cons, List.length_cons]; simp; omega
theorem both_verdicts_eq [C_both_verdicts T] (n : Nat) {is : List (List Nat)} (hi : ∀ x ∈ is, It x) (hl : is.length ≤ 1000) : run T (n + 1) "both_verdicts" [dview is] = .ok (dview (bothOf is)) := by
  rw [r_both_verdicts]
  simp only [b_both_verdicts, q_seq, q_set, q_lst, q_args0, R.bind_ok, ofR_ok, List.set_cons_succ, List.set_cons_zero]
  rw [for_take is dtx (fun pre => [some (dview is), some (dview (bothOf pre)), none]) (by simp [seq_view]) rfl (fun j x hx => by
    have hj := (List.getElem?_eq_some_iff.mp hx).1
    have hm := hi x (List.mem_of_getElem? hx)
    have a1 := addb (v := x) hm.vt
    have l1 : (bothOf (is.take j)).length ≤ 2000 := by rw [both_len, List.length_take]; omega
    have e1 := ext_view (a := bothOf (is.take j)) (b := [x, bang x]) (by simp; omega)
    refine ⟨_, [some (dview is), some (dview (bothOf (is.take (j + 1)))), some (dtx x)], rfl, .inl ?_, rfl⟩
    have tk : bothOf (is.take (j + 1)) = bothOf (is.take j) ++ [x, bang x] := by rw [take_snoc hx]; unfold bothOf; rw [List.flatMap_append]; simp
    rw [tk]
    simp [f_both_verdicts_1, litb, a1, lst2, e1])]
  simp
/-! ### views -/
def growV (found : List (List (List Nat))) (x : List Nat) : List (List (List Nat)) := found ++ found.flatMap fun v => [v ++ [x], v ++ [bang x]]
def viewsOf (is : List (List Nat)) : List (List (List Nat)) := is.foldl growV [[]]
theorem viewsOf_snoc (is : List (List Nat)) (x : List Nat) : viewsOf (is ++ [x]) = growV (viewsOf is) x := by unfold viewsOf; rw [List.foldl_append]; rfl
theorem flat2_len {α β : Type} (f g : α → β) : ∀ l : List α, (l.flatMap fun v => [f v, g v]).length = 2 * l.length
  | [] => rfl
  | x :: l => by rw [List.flatMap_cons, List.length_append, flat2_len f g l, List.length_cons, List.length_cons]; simp; omega
theorem views_take (is : List (List Nat)) : ∀ j, j ≤ is.length → (viewsOf (is.take j)).length = 3 ^ j ∧ ∀ v ∈ viewsOf (is.take j), v.length ≤ j
  | 0, _ => ⟨rfl, fun p hp => by have hp : p = [] := by simpa [viewsOf] using hp
                                 rw [hp]; simp⟩
  | j + 1, hj => by
    obtain ⟨h1, h2⟩ := views_take is j (by omega)
    rw [take_snoc (List.getElem?_eq_getElem (by omega)), viewsOf_snoc]
    unfold growV
    refine ⟨by rw [List.length_append, flat2_len, h1, Nat.pow_succ]; omega, fun p hp => ?_⟩
    rcases List.mem_append.mp hp with h | h
    · have := h2 p h; omega
    · obtain ⟨q, hq, h⟩ := List.mem_flatMap.mp h
      have := h2 q hq
      have h : p = q ++ [is[j]] ∨ p = q ++ [bang is[j]] := by simpa using h
      rcases h with e | e <;> rw [e] <;> simp <;> omega
theorem all_views_inner (call : Call) {x : List Nat} {is : List (List Nat)} {found : List (List (List Nat))} (hx : It x) (hl : found.length ≤ 1000000) (hf : ∀ v ∈ found, v.length ≤ 1000) :
    f_all_views_1 call [some (dview is), some (dtvs found), some (dtx x), none, none] = .nx [some (dview is), some (dtvs (growV found x)), some (dtx x), none, none] ∨ True := .inr trivial
theorem all_views_step (call : Call) {x : List Nat} {is : List (List Nat)} {found : List (List (List Nat))} (hx : It x) (hl : found.length ≤ 1000000) (hf : ∀ v ∈ found, v.length ≤ 1000) :
    ∃ ρ', f_all_views_1 call [some (dview is), some (dtvs found), some (dtx x), none, none] = .nx ρ' ∧ killE [2, 3, 4] ρ' = [some (dview is), some (dtvs (growV found x)), none, none, none] := by
  refine ⟨[some (dview is), some (dtvs (growV found x)), some (dtx x), none, none], ?_, rfl⟩
  simp only [f_all_views_1, q_seq, q_set, q_blt, q_args, q_var, q_look, q_args0, R.bind_ok, ofR_ok, List.getElem?_cons_succ, List.getElem?_cons_zero, list_tvs, List.set_cons_succ, List.set_cons_zero]
  rw [for_take found dtv (fun pre => [some (dview is), some (dtvs found), some (dtx x), some (dtvs (found ++ pre.flatMap fun v => [v ++ [x], v ++ [bang x]])), none]) (by simp) (by simp) (fun j v hv => by
    have hj := (List.getElem?_eq_some_iff.mp hv).1
    have hvl := hf v (List.mem_of_getElem? hv)
    have fl := flat2_len (fun v : List (List Nat) => v ++ [x]) (fun v => v ++ [bang x]) (found.take j)
    rw [List.length_take] at fl
    have a0 := addb (v := x) hx.vt
    have a1 := add_tv (a := v) (b := [x]) (by simp; omega)
    have a2 := add_tv (a := v) (b := [bang x]) (by simp; omega)
    have p1 := app_tvs (a := found ++ (found.take j).flatMap fun v => [v ++ [x], v ++ [bang x]]) (r := v ++ [x]) (by rw [List.length_append, fl]; omega)
    have p2 := app_tvs (a := found ++ (found.take j).flatMap (fun v => [v ++ [x], v ++ [bang x]]) ++ [v ++ [x]]) (r := v ++ [bang x]) (by rw [List.length_append, List.length_append, fl]; simp; omega)
    refine ⟨_, [some (dview is), some (dtvs found), some (dtx x), some (dtvs (found ++ (found.take (j + 1)).flatMap fun v => [v ++ [x], v ++ [bang x]])), some (dtv v)], rfl, .inl ?_, rfl⟩
    have tk : found ++ (found.take (j + 1)).flatMap (fun v => [v ++ [x], v ++ [bang x]]) = found ++ (found.take j).flatMap (fun v => [v ++ [x], v ++ [bang x]]) ++ [v ++ [x]] ++ [v ++ [bang x]] := by
      rw [take_snoc hv, List.flatMap_append]; simp
    rw [tk]
    simp only [f_all_views_2, q_seq, q_app, q_bin, q_tup, q_var, q_look, q_args, q_args0, q_lit, R.bind_ok, ofR_ok, List.getElem?_cons_succ, List.getElem?_cons_zero, List.set_cons_succ, List.set_cons_zero, litb, a0, tup1, a1, a2, p1, p2])]
  simp [growV]
theorem all_views_eq [C_all_views T] (n : Nat) {is : List (List Nat)} (hi : ∀ x ∈ is, It x) (hl : is.length ≤ 10) : run T (n + 1) "all_views" [dview is] = .ok (dtvs (viewsOf is)) := by
  rw [r_all_views]
  simp only [b_all_views, q_seq, q_set, q_lst, q_tup, q_args, q_args0, R.bind_ok, ofR_ok, List.set_cons_succ, List.set_cons_zero, lst_tv0]
  rw [for_take is dtx (fun pre => [some (dview is), some (dtvs (viewsOf pre)), none, none, none]) (by simp [seq_view]) rfl (fun j x hx => by
    have hj := (List.getElem?_eq_some_iff.mp hx).1
    have hm := hi x (List.mem_of_getElem? hx)
    obtain ⟨v1, v2⟩ := views_take is j (by omega)
    obtain ⟨ρ', h1, h2⟩ := all_views_step (run T n) (x := x) (is := is) (found := viewsOf (is.take j)) hm (by rw [v1]; exact Nat.le_trans (Nat.pow_le_pow_right (n := 3) (by omega) (by omega : j ≤ 10)) (by decide)) (fun v hv => by have := v2 v hv; omega)
    refine ⟨_, ρ', rfl, .inl h1, ?_⟩
    rw [h2, take_snoc hx, viewsOf_snoc])]
  simp
theorem views_mem {is : List (List Nat)} (hi : ∀ x ∈ is, It x) : ∀ {v : List (List Nat)}, v ∈ viewsOf is ↔ Vw is v := by
  have key : ∀ j, j ≤ is.length → ∀ v, v ∈ viewsOf (is.take j) ↔ Vw (is.take j) v := by
    intro j
    induction j with
    | zero =>
      intro _ v
      have e : viewsOf (is.take 0) = [[]] := rfl
      rw [e]
      constructor
      · intro h
        have h : v = [] := by simpa using h
        subst h
        exact ⟨by simp, fun y hy => (List.not_mem_nil hy).elim⟩
      · intro h
        have : v = [] := by have := h.sub; simpa using this
        simp [this]
    | succ j ih =>
      intro hj v
      have hlt : j < is.length := by omega
      have ih := ih (by omega)
      rw [take_snoc (List.getElem?_eq_getElem hlt), viewsOf_snoc]
      have hx := hi is[j] (List.getElem_mem _)
      have up : ∀ {q : List (List Nat)}, (∀ y ∈ q, Vd (is.take j) y) → ∀ y ∈ q, Vd (is.take j ++ [is[j]]) y := fun h y hy => by
        obtain ⟨u, hu, e⟩ := h y hy
        exact ⟨u, List.mem_append_left _ hu, e⟩
      have issue : ∀ {y}, Vd (is.take j ++ [is[j]]) y → y = issueOf y ∨ y = bang (issueOf y) := fun {y} ⟨u, hu, e⟩ => by
        have hu' : It u := by
          rcases List.mem_append.mp hu with q | q
          · exact hi u (List.mem_of_mem_take q)
          · have q : u = is[j] := by simpa using q
            rw [q]; exact hx
        rcases e with e | e
        · left; rw [e, hu'.issue]
        · right; rw [e, issue_bang]
      unfold growV
      rw [List.mem_append, List.mem_flatMap]
      constructor
      · rintro (h | ⟨q, hq, h⟩)
        · have h := (ih v).mp h
          exact ⟨h.sub.trans (List.sublist_append_left _ _), up h.each⟩
        · have hq := (ih q).mp hq
          have h : v = q ++ [is[j]] ∨ v = q ++ [bang is[j]] := by simpa using h
          rcases h with e | e
          · subst e
            refine ⟨by rw [List.map_append]; exact hq.sub.append (by simp [hx.issue]), fun y hy => ?_⟩
            rcases List.mem_append.mp hy with h | h
            · exact up hq.each y h
            · have h : y = is[j] := by simpa using h
              exact ⟨is[j], List.mem_append_right _ List.mem_cons_self, .inl h⟩
          · subst e
            refine ⟨by rw [List.map_append]; exact hq.sub.append (by simp [issue_bang]), fun y hy => ?_⟩
            rcases List.mem_append.mp hy with h | h
            · exact up hq.each y h
            · have h : y = bang is[j] := by simpa using h
              exact ⟨is[j], List.mem_append_right _ List.mem_cons_self, .inr h⟩
      · intro h
        obtain ⟨l1, l2, e, s1, s2⟩ := List.sublist_append_iff.mp h.sub
        obtain ⟨a, b, rfl, ha, hb⟩ := List.map_eq_append_iff.mp e
        have va : Vw (is.take j) a := ⟨by rw [ha]; exact s1, fun y hy => ⟨issueOf y, s1.subset (by rw [← ha]; exact List.mem_map.mpr ⟨y, hy, rfl⟩), issue (h.each y (List.mem_append_left _ hy))⟩⟩
        have hbl : b.length ≤ 1 := by have := s2.length_le; rw [← hb, List.length_map] at this; simpa using this
        cases b with
        | nil => left; rw [List.append_nil]; exact (ih a).mpr va
        | cons z b =>
          have : b = [] := List.length_eq_zero_iff.mp (by simp only [List.length_cons] at hbl; omega)
          subst this
          right
          refine ⟨a, (ih a).mpr va, ?_⟩
          have hz : issueOf z = is[j] := by
            have : issueOf z ∈ l2 := by rw [← hb]; simp
            simpa using s2.subset this
          rcases issue (h.each z (by simp)) with e | e
          · rw [hz] at e; simp [e]
          · rw [hz] at e; simp [e]
  intro v
  have := key is.length (Nat.le_refl _) v
  rwa [List.take_length] at this
theorem views_nodup {is : List (List Nat)} (hi : ∀ x ∈ is, It x) (hn : is.Nodup) : (viewsOf is).Nodup := by
  have key : ∀ j, j ≤ is.length → (viewsOf (is.take j)).Nodup := by
    intro j
    induction j with
    | zero => intro _; exact List.nodup_cons.mpr ⟨by simp, List.nodup_nil⟩
    | succ j ih =>
      intro hj
      have hlt : j < is.length := by omega
      have ih := ih (by omega)
      rw [take_snoc (List.getElem?_eq_getElem hlt), viewsOf_snoc]
      have hit : ∀ x ∈ is.take j, It x := fun x hx => hi x (List.mem_of_mem_take hx)
      have notin : is[j] ∉ is.take j := fun h => by
        have e : is.take j ++ is[j] :: is.drop (j + 1) = is := by rw [← List.drop_eq_getElem_cons hlt, List.take_append_drop]
        rw [← e, List.nodup_append] at hn
        exact hn.2.2 _ h _ List.mem_cons_self rfl
      have fresh : ∀ v ∈ viewsOf (is.take j), ∀ y, issueOf y = is[j] → y ∉ v := fun v hv y hy hm => by
        have := ((views_mem hit).mp hv).sub.subset (List.mem_map.mpr ⟨y, hm, rfl⟩)
        rw [hy] at this
        exact notin this
      have hx := hi is[j] (List.getElem_mem _)
      unfold growV
      rw [List.nodup_append]
      refine ⟨ih, ?_, ?_⟩
      · rw [List.nodup_iff_pairwise_ne, List.pairwise_flatMap]
        refine ⟨fun v _ => ?_, ?_⟩
        · rw [List.pairwise_cons]
          refine ⟨fun y hy => ?_, List.pairwise_singleton _ _⟩
          have hy : y = v ++ [bang is[j]] := by simpa using hy
          rw [hy]
          intro e
          have := List.append_cancel_left e
          exact bang_ne is[j] (by simpa using this.symm)
        · rw [List.nodup_iff_pairwise_ne] at ih
          refine ih.imp fun {a b} hab x hx y hy e => ?_
          have hx : x = a ++ [is[j]] ∨ x = a ++ [bang is[j]] := by simpa using hx
          have hy : y = b ++ [is[j]] ∨ y = b ++ [bang is[j]] := by simpa using hy
          rcases hx with hx | hx <;> rcases hy with hy | hy <;> rw [hx, hy] at e <;> exact hab (List.append_inj' e rfl).1
      · intro a ha b hb e
        subst e
        obtain ⟨q, hq, h⟩ := List.mem_flatMap.mp hb
        have h : a = q ++ [is[j]] ∨ a = q ++ [bang is[j]] := by simpa using h
        rcases h with h | h
        · exact fresh a ha is[j] hx.issue (by rw [h]; simp)
        · exact fresh a ha (bang is[j]) (issue_bang _) (by rw [h]; simp)
  have := key is.length (Nat.le_refl _)
  rwa [List.take_length] at this
theorem parts_of_view_eq [C_parts_of_view T] (n : Nat) {v : List (List Nat)} (hl : v.length ≤ 12) : run T (n + 1) "parts_of_view" [dview v] = .ok (dtvs (partsOf v)) := by
  rw [r_parts_of_view]
  simp only [b_parts_of_view, q_seq, q_set, q_lst, q_tup, q_args, q_args0, R.bind_ok, ofR_ok, List.set_cons_succ, List.set_cons_zero, lst_tv0]
  rw [for_take v dtx (fun pre => [some (dview v), some (dtvs (partsOf pre)), none, none]) (by simp [seq_view]) rfl (fun j x hx => by
    have hj := (List.getElem?_eq_some_iff.mp hx).1
    obtain ⟨v1, v2⟩ := parts_len v j (by omega)
    have hpl : (partsOf (v.take j)).length ≤ 4096 := by rw [v1]; exact Nat.le_trans (Nat.pow_le_pow_right (n := 2) (by omega) (by omega : j ≤ 12)) (by decide)
    refine ⟨_, [some (dview v), some (dtvs (partsOf (v.take (j + 1)))), some (dtx x), none], rfl, .inl ?_, rfl⟩
    simp only [f_parts_of_view_1, q_ext]
    rw [comp_all (partsOf (v.take j)) dtv (fun p => dtv (p ++ [x])) (by simp) fun p hp => by
      have := v2 p hp
      have a1 := add_tv (a := p) (b := [x]) (by simp; omega)
      simp [tup1, a1]]
    have e1 := ext_tvs (a := partsOf (v.take j)) (b := (partsOf (v.take j)).map fun p => p ++ [x]) (by rw [List.length_map]; omega)
    have e2 : D.lst ((partsOf (v.take j)).map fun p => dtv (p ++ [x])) = dtvs ((partsOf (v.take j)).map fun p => p ++ [x]) := by unfold dtvs; rw [List.map_map]; rfl
    have tk : partsOf (v.take (j + 1)) = partsOf (v.take j) ++ (partsOf (v.take j)).map fun p => p ++ [x] := by rw [take_snoc hx, partsOf_snoc]; rfl
    rw [tk, e2]
    simp [e1])]
  simp
/-- a view with one verdict less -/
def lessOf (v : List (List Nat)) : List (List (List Nat)) := (List.range v.length).map fun i => v.eraseIdx i
theorem one_less {α : Type} (v : List α) (i : Nat) : v.take i ++ v.drop (i + 1) = v.eraseIdx i := (List.eraseIdx_eq_take_drop_succ v i).symm
theorem views_one_less_eq [C_views_one_less T] (n : Nat) {v : List (List Nat)} (hl : v.length ≤ 1000) : run T (n + 1) "views_one_less" [dtv v] = .ok (dtvs (lessOf v)) := by
  rw [r_views_one_less]
  simp only [b_views_one_less, q_ret]
  rw [comp_all (List.range v.length) (fun (k : Nat) => .int k) (fun i => dtv (v.eraseIdx i)) (by simp [f_range (n := v.length) (by omega)]) fun i hi => by
    have hi : i < v.length := by simpa using hi
    have c1 := cut_tv_to (v := v) (k := i) (by omega)
    have c2 : cutD (dtv v) (some ((i : Int) + 1)) none = .ok (dtv (v.drop (i + 1))) := cut_tv_from (v := v) (k := i + 1) (by omega)
    have a1 := add_tv (a := v.take i) (b := v.drop (i + 1)) (by rw [List.length_take, List.length_drop]; omega)
    rw [one_less] at a1
    simp [c1, c2, a1]]
  simp [dtvs, lessOf, Function.comp]
end Lb
/-! the shared defs of LA, in plain words: orders, names, agendas -/
namespace Lb
open PySem PySem.Spec PyProof.Rows Z
variable {T : Str → Option Fd}
/-! ### keys -/
theorem olt_cons (a b : List Nat) (v w : List (List Nat)) : oltB (a :: v) (b :: w) = if a = b then oltB v w else vltB a b := by rw [oltB]
theorem eqv_str (a b : List Nat) : PyData.eqv (.str (tx a)) (.str (tx b)) = decide (a = b) := by
  have h := eqv_en (tx a) (tx b)
  have e : eqv (En.en (tx a)) (En.en (tx b)) = PyData.eqv (.str (tx a)) (.str (tx b)) := rfl
  rw [e] at h
  rw [h, decide_eq_decide]
  exact tx_inj
/-- a verdict's key: its issue, then a mark (0 or 1, False or True) -/
def mk1 (b : Bool) : PyData := .bool b
def mk2 (b : Bool) : PyData := .int (if b then 1 else 0)
def kplace (m : Bool → PyData) (v : List Nat) : PyData := .tuple [.str (tx (issueOf v)), m (!isYes v)]
/-- a mark that may be ordered -/
structure Mk (m : Bool → PyData) : Prop where
  al : ∀ a b, PySem.W.alike (m a) (m b) = true
  lt : ∀ a b, PySem.W.dataLt (m a) (m b) = (!a && b)
  eq : ∀ a b, PyData.eqv (m a) (m b) = decide (a = b)
  pl : ∀ a, (m a).plain = true ∧ (m a).depth = 0
theorem mk_1 : Mk mk1 := ⟨fun a b => by simp [mk1, PySem.W.alike], fun a b => by unfold mk1; rw [PySem.W.dataLt_bool]; cases a <;> cases b <;> rfl, fun a b => by cases a <;> cases b <;> simp [mk1, PyData.eqv], fun a => by simp [mk1, PyData.plain, PyData.depth]⟩
theorem mk_2 : Mk mk2 := ⟨fun a b => by simp [mk2, PySem.W.alike], fun a b => by unfold mk2; rw [PySem.W.dataLt_int]; cases a <;> cases b <;> rfl, fun a b => by cases a <;> cases b <;> simp [mk2, PyData.eqv], fun a => by simp [mk2, PyData.plain, PyData.depth]⟩
section
variable {m : Bool → PyData} (hm : Mk m)
include hm
theorem kplace_alike (a b : List Nat) : PySem.W.alike (kplace m a) (kplace m b) = true := by
  simp [kplace, PySem.W.alike, PySem.W.alikeAll, hm.al]
theorem kplace_eqv {a b : List Nat} : PyData.eqv (kplace m a) (kplace m b) = decide (a = b) := by
  have e : PyData.eqv (kplace m a) (kplace m b) = (decide (issueOf a = issueOf b) && (decide ((!isYes a) = (!isYes b)) && true)) := by
    have s : (tx (issueOf a) == tx (issueOf b)) = decide (issueOf a = issueOf b) := by
      have := eqv_str (issueOf a) (issueOf b)
      simpa only [PyData.eqv] using this
    simp only [kplace, PyData.eqv, PyData.eqvAll]
    rw [s, hm.eq]
  rw [e, Bool.eq_iff_iff]
  simp only [Bool.and_eq_true, decide_eq_true_eq, and_true]
  constructor
  · exact fun ⟨h1, h2⟩ => key_inj h1 (by simpa using h2)
  · rintro rfl; exact ⟨rfl, rfl⟩
theorem kplace_lt {a b : List Nat} : PySem.W.dataLt (kplace m a) (kplace m b) = vltB a b := by
  unfold kplace vltB
  rw [PySem.W.dataLt_pair (by simp [PySem.W.alike]) (hm.al _ _), eqv_str, PySem.W.dataLt_str, tx_cps, tx_cps, hm.eq, hm.lt]
  by_cases h : issueOf a = issueOf b
  · rw [if_pos (decide_eq_true h), if_pos h]
    cases isYes a <;> cases isYes b <;> rfl
  · rw [if_neg (by simpa using h), if_neg h]
def korder (m : Bool → PyData) (v : List (List Nat)) : List PyData := v.map (kplace m)
theorem korder_alike : ∀ v w : List (List Nat), PySem.W.alikeAll (korder m v) (korder m w) = true
  | [], [] => by simp [korder, PySem.W.alikeAll]
  | [], _ :: _ => by simp [korder, PySem.W.alikeAll]
  | _ :: _, [] => by simp [korder, PySem.W.alikeAll]
  | a :: v, b :: w => by
    have := korder_alike v w
    unfold korder at this ⊢
    simp [PySem.W.alikeAll, kplace_alike hm a b, this]
theorem korder_lt : ∀ v w : List (List Nat), PyProof.Rows.lexLt itemOrd (PySem.W.keyToksAll (korder m v)) (PySem.W.keyToksAll (korder m w)) = oltB v w
  | [], [] => (listOrd itemOrd).irrefl (PySem.W.keyToksAll [])
  | [], b :: w => by
    have e : oltB [] (b :: w) = true := rfl
    rw [e, ← PySem.W.dataLt_list]
    show PySem.W.dataLt (.list []) (.list (korder m (b :: w))) = true
    unfold PySem.W.dataLt korder
    simp [kplace, PySem.W.keyToks, PySem.W.keyToksAll, PyProof.Rows.lexLt, itemOrd, itemLt]
  | a :: v, [] => by
    have e : oltB (a :: v) [] = false := rfl
    rw [e, ← PySem.W.dataLt_list]
    show PySem.W.dataLt (.list (korder m (a :: v))) (.list []) = false
    unfold PySem.W.dataLt korder
    simp [kplace, PySem.W.keyToks, PySem.W.keyToksAll, PyProof.Rows.lexLt, itemOrd, itemLt]
  | a :: v, b :: w => by
    have e : korder m (a :: v) = kplace m a :: korder m v := rfl
    have e2 : korder m (b :: w) = kplace m b :: korder m w := rfl
    rw [e, e2, PySem.W.dataLt_cons (kplace_alike hm a b), kplace_eqv hm, korder_lt v w, kplace_lt hm, olt_cons]
    by_cases h : a = b
    · rw [if_pos (decide_eq_true h), if_pos h]
    · rw [if_neg (by simpa using h), if_neg h]
end
theorem dplace_py (v : List Nat) : toPy (dplace v) = kplace mk1 v := rfl
theorem dorder_py (v : List (List Nat)) : toPy (dorder v) = .list (korder mk1 v) := by
  unfold dorder korder
  simp only [toPy, toPys_map, List.map_map]
  rfl
theorem korder_plain {m : Bool → PyData} (hm : Mk m) : ∀ v : List (List Nat), PyData.plainAll (korder m v) = true ∧ PyData.depthAll (korder m v) ≤ 2
  | [] => ⟨rfl, by simp [korder, PyData.depthAll]⟩
  | a :: v => by
    obtain ⟨h1, h2⟩ := korder_plain hm v
    unfold korder at h1 h2 ⊢
    obtain ⟨p1, p2⟩ := hm.pl (!isYes a)
    constructor
    · simp only [List.map_cons, PyData.plainAll, h1, Bool.and_true]
      simp [kplace, PyData.plain, PyData.plainAll, p1]
    · simp only [List.map_cons, PyData.depthAll, kplace, PyData.depth, p2]
      omega
theorem fine_dorder (v : List (List Nat)) : fine (dorder v) = true := by
  unfold fine
  rw [dorder_py]
  obtain ⟨h1, h2⟩ := korder_plain mk_1 v
  rw [Bool.and_eq_true]
  refine ⟨h1, decide_eq_true ?_⟩
  have e : (PyData.list (korder mk1 v)).depth = PyData.depthAll (korder mk1 v) + 1 := by simp only [PyData.depth]
  omega
theorem sorts_dorder (v w : List (List Nat)) : sorts (dorder v) (dorder w) = true := by
  unfold sorts
  rw [fine_dorder, fine_dorder, dorder_py, dorder_py]
  simp only [PySem.W.alike, korder_alike mk_1 v w]
  rfl
theorem lt_dorder (v w : List (List Nat)) : lt (dorder v) (dorder w) = oltB v w := by
  unfold lt
  rw [dorder_py, dorder_py, PySem.W.dataLt_list, korder_lt mk_1]
theorem ltD_dorder (v w : List (List Nat)) : ltD (dorder v) (dorder w) = .ok (oltB v w) := by
  rw [← lt_dorder, show ltD (dorder v) (dorder w) = chk (sorts (dorder v) (dorder w)) (.ok (lt (dorder v) (dorder w))) from rfl, sorts_dorder]
  rfl
theorem sorts_dplace (a b : List Nat) : sorts (dplace a) (dplace b) = true := by
  unfold sorts fine
  rw [dplace_py, dplace_py, kplace_alike mk_1]
  simp [kplace, mk1, PyData.plain, PyData.plainAll, PyData.depth, PyData.depthAll, dplace]
theorem sortable_of {α : Type} {f : α → D} (as : List α) (h : ∀ a b, sorts (f a) (f b) = true) (h2 : (∀ a, noTup (f a) = true) ∨ ∀ a, fullTup (f a) = true) : sortable (as.map f) = true := by
  unfold sortable allAlike
  rw [Bool.and_eq_true, Bool.or_eq_true]
  refine ⟨?_, ?_⟩
  · rw [List.all_map, List.all_eq_true]
    intro a _
    rw [Function.comp, List.all_map, List.all_eq_true]
    intro b _
    exact h a b
  · rcases h2 with h2 | h2
    · left; rw [List.all_map, List.all_eq_true]; intro a _; exact h2 a
    · right; rw [List.all_map, List.all_eq_true]; intro a _; exact h2 a
theorem mapR_map {α β γ : Type} (f : β → R γ) (h : α → β) : ∀ as : List α, mapR f (as.map h) = mapR (fun a => f (h a)) as
  | [] => rfl
  | a :: as => by
    show ((f (h a)).bind fun y => (mapR f (as.map h)).bind fun ys => _) = _
    rw [mapR_map f h as]
    rfl
/-- sorted by keys, typed -/
theorem sortK_of {α : Type} {call : Call} {f : Str} {as : List α} {e k : α → D} {le : α → α → Bool} (hk : ∀ a ∈ as, call f [e a] = .ok (k a)) (hs : sortable (as.map k) = true) (hle : ∀ a ∈ as, ∀ b ∈ as, (!PySem.W.dataLt (toPy (k b)) (toPy (k a))) = le a b) : sortKD call f (.lst (as.map e)) = .ok (.lst ((as.mergeSort le).map e)) := by
  show (mapR (fun d => call f [d]) (as.map e)).bind (fun ks => chk (sortable ks) (R.ok (D.lst (sortByL (as.map e) ks)))) = _
  rw [mapR_map, mapR_ok as hk, R.bind_ok, hs, chk_true]
  unfold sortByL
  rw [List.zip_map', ← List.map_mergeSort (r := le) (f := fun v => (e v, k v)) fun a ha b hb => (hle a ha b hb).symm, List.map_map]
  rfl
theorem sorted_views_eq [C_sorted_views T] (n : Nat) {vs : List (List (List Nat))} (h : ∀ v ∈ vs, ∀ y ∈ v, Vt y) : run T (n + 6) "sorted_views" [drows vs] = .ok (drows (sortV vs)) := by
  rw [r_sorted_views]
  have := sortK_of (call := run T (n + 5)) (f := "order_of") (as := vs) (e := dview) (k := dorder) (le := fun a b => !oltB b a) (fun v hv => order_of_eq (n + 1) (h v hv)) (sortable_of vs sorts_dorder (.inl fun _ => rfl)) (fun a _ b _ => by
    have := lt_dorder b a
    unfold lt at this
    rw [this])
  have this : sortKD (run T (n + 5)) "order_of" (drows vs) = .ok (drows (sortV vs)) := this
  simp [b_sorted_views, this]
/-- verdicts sorted -/
def sortY (ys : List (List Nat)) : List (List Nat) := ys.mergeSort fun a b => !vltB b a
theorem sorted_view_eq [C_sorted_view T] (n : Nat) {ys : List (List Nat)} (h : ∀ y ∈ ys, Vt y) : run T (n + 5) "sorted_view" [dview ys] = .ok (dview (sortY ys)) := by
  rw [r_sorted_view]
  have := sortK_of (call := run T (n + 4)) (f := "place_of") (as := ys) (e := dtx) (k := dplace) (le := fun a b => !vltB b a) (fun v hv => place_of_eq (n + 1) (h v hv)) (sortable_of ys sorts_dplace (.inr fun _ => rfl)) (fun a _ b _ => by
    rw [dplace_py, dplace_py, kplace_lt mk_1])
  have this : sortKD (run T (n + 4)) "place_of" (dview ys) = .ok (dview (sortY ys)) := this
  simp [b_sorted_view, this]
theorem vle_trans (a b c : List Nat) (h : (!vltB b a) = true) (q : (!vltB c b) = true) : (!vltB c a) = true := by
  rw [Bool.not_eq_true'] at h q ⊢
  by_cases e : vltB c a = true
  · by_cases f : a = b
    · subst f; rw [e] at q; cases q
    · rcases vlt_total f with g | g
      · have := vlt_trans e g; rw [this] at q; cases q
      · rw [g] at h; cases h
  · simpa using e
theorem vle_total (a b : List Nat) : (!vltB b a || !vltB a b) = true := by
  by_cases e : vltB b a = true
  · cases f : vltB a b with
    | false => simp
    | true => have := vlt_trans e f; rw [vlt_irrefl] at this; cases this
  · have : vltB b a = false := by simpa using e
    simp [this]
theorem sortY_is {l t : List (List Nat)} (hp : l.Perm t) (ht : t.Pairwise fun a b => vltB a b = true) : sortY l = t := by
  have p2 : (sortY l).Perm t := (List.mergeSort_perm _ _).trans hp
  refine List.Perm.eq_of_pairwise (le := fun a b => (!vltB b a) = true) (fun a b _ _ h1 h2 => ?_) (List.pairwise_mergeSort vle_trans vle_total l) (ht.imp fun {a b} h => ?_) p2
  · by_cases e : a = b
    · exact e
    · rcases vlt_total e with q | q
      · rw [q] at h2; cases h2
      · rw [q] at h1; cases h1
  · cases f : vltB b a with
    | false => rfl
    | true => have := vlt_trans h f; rw [vlt_irrefl] at this; cases this
theorem sortY_perm (l : List (List Nat)) : (sortY l).Perm l := List.mergeSort_perm _ _
theorem sortY_lt {l : List (List Nat)} (h : l.Nodup) : (sortY l).Pairwise fun a b => vltB a b = true := by
  have h1 : (sortY l).Pairwise fun a b => (!vltB b a) = true := List.pairwise_mergeSort vle_trans vle_total l
  have h2 : (sortY l).Nodup := (sortY_perm l).nodup_iff.mpr h
  rw [List.nodup_iff_pairwise_ne] at h2
  refine (h1.and h2).imp fun {a b} ⟨p, q⟩ => ?_
  rcases vlt_total q with z | z
  · exact z
  · rw [z] at p; cases p
theorem Vw.vlt {is v : List (List Nat)} (h : Vw is v) (hi : is.Pairwise (· < ·)) : v.Pairwise fun a b => vltB a b = true :=
  (h.lt hi).imp fun {a b} q => by
    unfold vltB
    rw [if_neg fun e => slt_irrefl _ (by rw [e] at q; exact q)]
    exact decide_eq_true q
/-- a view put in order -/
theorem sortY_vw {is v : List (List Nat)} (h : Vw is v) (hi : is.Pairwise (· < ·)) : sortY v = v := sortY_is (List.Perm.refl _) (h.vlt hi)
/-- verdicts on different issues, put in order, are a view -/
theorem sortY_view {is ys : List (List Nat)} (hi : Iss is) (h : ∀ y ∈ ys, Vd is y) (hn : (ys.map issueOf).Nodup) : Vw is (sortY ys) := by
  have it : ∀ x ∈ is, It x := fun x hx => hi.it hx
  have p := sortY_perm ys
  have each : ∀ y ∈ sortY ys, Vd is y := fun y hy => h y (p.mem_iff.mp hy)
  refine ⟨?_, each⟩
  have nd : ys.Nodup := by
    rw [List.nodup_iff_pairwise_ne] at hn ⊢
    rw [List.pairwise_map] at hn
    exact hn.imp fun q e => q (by rw [e])
  have lt := sortY_lt nd
  have lt2 : (sortY ys).Pairwise fun a b => issueOf a < issueOf b := by
    have n2 : ((sortY ys).map issueOf).Nodup := (p.map issueOf).nodup_iff.mpr hn
    rw [List.nodup_iff_pairwise_ne, List.pairwise_map] at n2
    refine (lt.and n2).imp fun {a b} ⟨q, ne⟩ => ?_
    unfold vltB at q
    rw [if_neg ne] at q
    exact of_decide_eq_true q
  refine sub_of_mem (r := (· < ·)) slt_irrefl (fun a b => slt_asymm) (by rw [List.pairwise_map]; exact lt2) hi.lt fun x hx => ?_
  obtain ⟨y, hy, rfl⟩ := List.mem_map.mp hx
  exact (each y hy).iss it
/-! ### names -/
theorem in_sign (c : Nat) (l : List Nat) : inD (dtx [c]) (dtx l) = .ok (decide (c ∈ l)) := by
  show chk (decide ((tx [c]).length = 1)) (R.ok (decide ((tx [c]).cps.getD 0 0 ∈ (tx l).cps.toList))) = _
  rw [tx_cps, tx_len]
  rfl
theorem lit_alp : D.str ("abcdefghijklmnopqrstuvwxyz" : String) = dtx al := by rw [lit_al]; rfl
theorem lit_fig : D.str ("0123456789" : String) = dtx ((List.range 10).map (48 + ·)) := by rw [lit_num]; rfl
theorem seq_str {l : List Nat} (h : l.length ≤ 16777216) : seqD (dtx l) = .ok (l.map fun c => dtx [c]) := by
  show chk (decide ((tx l).length ≤ sizeLine)) (R.ok ((tx l).cps.toList.map fun c => D.str ⟨#[c]⟩)) = _
  rw [tx_len, decide_eq_true (Nat.le_trans h big), tx_cps]
  rfl
theorem sgn_in {c : Nat} : sgn c ↔ c ∈ al ∨ c ∈ (List.range 10).map (48 + ·) := by
  unfold sgn al
  rw [List.mem_map, List.mem_map]
  constructor
  · rintro (⟨h1, h2⟩ | ⟨h1, h2⟩)
    · exact .inl ⟨c - 97, by rw [List.mem_range]; omega, by omega⟩
    · exact .inr ⟨c - 48, by rw [List.mem_range]; omega, by omega⟩
  · rintro (⟨k, hk, e⟩ | ⟨k, hk, e⟩) <;> rw [List.mem_range] at hk
    · left; omega
    · right; omega
theorem al_in {c : Nat} : (97 ≤ c ∧ c ≤ 122) ↔ c ∈ al := by
  unfold al
  rw [List.mem_map]
  constructor
  · exact fun ⟨h1, h2⟩ => ⟨c - 97, by rw [List.mem_range]; omega, by omega⟩
  · rintro ⟨k, hk, e⟩; rw [List.mem_range] at hk; omega
theorem has_name_signs_eq [C_has_name_signs T] (n : Nat) {l : List Nat} (h : l ≠ []) (hl : l.length ≤ 1000) : run T (n + 1) "has_name_signs" [dtx l] = .ok (.bl (decide (l.headD 0 ∈ al) && l.all fun c => decide (c ∈ al) || decide (c ∈ (List.range 10).map (48 + ·)))) := by
  rw [r_has_name_signs]
  obtain ⟨c, r, rfl⟩ : ∃ c r, l = c :: r := by cases l with | nil => exact absurd rfl h | cons c r => exact ⟨c, r, rfl⟩
  have i1 : ixD (dtx (c :: r)) (.int 0) = .ok (dtx [c]) := ix_tx (l := c :: r) (i := 0) (c := c) rfl (by omega)
  simp only [b_has_name_signs, q_seq, q_if, q_cmp, q_ix, q_var, q_look, q_lit, List.getElem?_cons_zero, R.bind_ok, i1, lit_alp, c_nin, in_sign, n_ok, t_bl, ofR_ok]
  by_cases hc : c ∈ al
  · simp only [hc, decide_true, Bool.not_true, q_ret, q_blt, q_args, q_args0, q_nil]
    rw [if_neg (by simp)]
    dsimp only
    rw [comp_all (c :: r) (fun c => dtx [c]) (fun c => .bl (decide (c ∈ al) || decide (c ∈ (List.range 10).map (48 + ·)))) (by simp [seq_str (l := c :: r) (by omega)]) fun x hx => by
      by_cases h1 : x ∈ al
      · simp [lit_alp, lit_fig, in_sign, h1]
      · simp [lit_alp, lit_fig, in_sign, h1]]
    simp only [R.bind_ok, f_all', ofR_ok, q_end_rt, List.headD_cons, hc, decide_true, Bool.true_and]
  · simp [hc]
theorem nm_sign {l : List Nat} (h : Nm l) : (decide (l.headD 0 ∈ al) && l.all fun c => decide (c ∈ al) || decide (c ∈ (List.range 10).map (48 + ·))) = true := by
  obtain ⟨c, r, e, h1, h2⟩ := h.head
  rw [Bool.and_eq_true, decide_eq_true_eq, List.all_eq_true]
  refine ⟨by rw [e]; exact al_in.mp ⟨h1, h2⟩, fun x hx => ?_⟩
  have := sgn_in.mp (h.all x hx)
  rwa [Bool.or_eq_true, decide_eq_true_eq, decide_eq_true_eq]
theorem is_name_nm [C_is_name T] (n : Nat) {l : List Nat} (h : Nm l) : run T (n + 2) "is_name" [dtx l] = .ok (.bl true) := by
  rw [r_is_name]
  obtain ⟨c, r, e, h1, h2⟩ := h.head
  have hl := h.len
  have i1 := has_name_signs_eq (T := T) n (l := l) (by rw [e]; simp) (by omega)
  rw [nm_sign h] at i1
  have l1 : bltD .len [dtx l] = .ok (.int l.length) := len_tx (by omega)
  have s1 : isiD (dtx l) "str" = .ok (.bl true) := rfl
  have p1 : (1 : Int) ≤ l.length := by rw [e, List.length_cons]; omega
  have p2 : (l.length : Int) ≤ 12 := by omega
  simp [b_is_name, s1, l1, i1, p1, p2]
/-! ### what rises -/
def ascB (v : List (List Nat)) : Bool := (v.zip (v.drop 1)).all fun p => decide (p.1 < p.2)
theorem asc_iff : ∀ {v : List (List Nat)}, ascB v = true ↔ v.Pairwise (· < ·)
  | [] => by simp [ascB]
  | [x] => by simp [ascB]
  | x :: y :: v => by
    have ih := asc_iff (v := y :: v)
    have e : ascB (x :: y :: v) = (decide (x < y) && ascB (y :: v)) := by simp [ascB]
    rw [e, Bool.and_eq_true, decide_eq_true_eq, ih, List.pairwise_cons (a := x)]
    constructor
    · rintro ⟨h1, h2⟩
      refine ⟨fun z hz => ?_, h2⟩
      rcases List.mem_cons.mp hz with q | q
      · rw [q]; exact h1
      · exact slt_trans h1 ((List.pairwise_cons.mp h2).1 z q)
    · rintro ⟨h1, h2⟩
      exact ⟨h1 y List.mem_cons_self, h2⟩
theorem zip_view (a b : List (List Nat)) : zipD (dview a) (dview b) = .ok ((a.zip b).map fun p => .tup [dtx p.1, dtx p.2]) := by
  show R.ok (List.zipWith _ (a.map dtx) (b.map dtx)) = _
  rw [List.zipWith_map, List.zip_eq_zipWith, List.map_zipWith]
theorem lt_dtx (a b : List Nat) : ltD (dtx a) (dtx b) = .ok (decide (a < b)) := by
  show R.ok (decide ((tx a).cps.toList < (tx b).cps.toList)) = _
  rw [tx_cps, tx_cps]
theorem cutL_from' {α : Type} (xs : List α) (k : Nat) : cutL xs (some (k : Int)) none = xs.drop k := by
  by_cases h : k ≤ xs.length
  · exact cutL_from xs k h
  · unfold cutL
    have e1 : HT.sIx xs.length 0 (some (k : Int)) = xs.length := by
      simp only [HT.sIx]
      split <;> omega
    rw [e1, List.drop_length, List.take_nil, List.drop_of_length_le (by omega)]
theorem cut_view1 (v : List (List Nat)) : cutD (dview v) (some 1) none = .ok (dview (v.drop 1)) := by
  have := cutL_from' (v.map dtx) 1
  show R.ok (D.lst (cutL (v.map dtx) (some ((1 : Nat) : Int)) none)) = _
  rw [this, ← List.map_drop]
  rfl
@[simp] theorem c_lt' {a b : D} : cmpD .Lt a b = ltD a b := rfl
theorem is_ascending_eq [C_is_ascending T] (n : Nat) (v : List (List Nat)) : run T (n + 1) "is_ascending" [dview v] = .ok (.bl (ascB v)) := by
  rw [r_is_ascending]
  simp only [b_is_ascending, q_ret, q_blt, q_args, q_args0]
  rw [comp_all (v.zip (v.drop 1)) (fun p => .tup [dtx p.1, dtx p.2]) (fun p => .bl (decide (p.1 < p.2))) (by simp only [q_izip, q_var, q_look, q_cut, q_part, q_part0, q_lit, R.bind_ok, List.getElem?_cons_zero, cut_view1, zip_view]) fun p hp => by simp [lt_dtx]]
  simp [ascB]
theorem isi_list (xs : List D) : isiD (.lst xs) "list" = .ok (.bl true) := rfl
@[simp] theorem isi_view (v : List (List Nat)) : isiD (dview v) "list" = .ok (.bl true) := rfl
@[simp] theorem isi_rows (v : List (List (List Nat))) : isiD (drows v) "list" = .ok (.bl true) := rfl
@[simp] theorem isi_str (v : List Nat) : isiD (dtx v) "str" = .ok (.bl true) := rfl
theorem are_issues_ok [C_are_issues T] (n : Nat) {is : List (List Nat)} (h : Iss is) : run T (n + 5) "are_issues" [dview is] = .ok (.bl true) := by
  have a1 : run T (n + 3) "are_names" [dview is] = .ok (.bl true) := by
    rw [r_are_names]
    simp only [b_are_names, q_seq, q_if, q_or, q_not, q_isi, q_var, q_look, List.getElem?_cons_zero, R.bind_ok, isi_view, t_bl, Bool.not_true, q_blt, q_args, q_args0, ofR_ok]
    rw [if_neg (by simp), comp_all is dtx (fun _ => .bl true) (by simp [seq_view]) fun x hx => by simp [is_name_nm, h.nm x hx]]
    have e := f_all' (p := fun _ : List Nat => true) (as := is)
    simp [e, is_ascending_eq, asc_iff.mpr h.lt]
  have p1 : (1 : Int) ≤ is.length := by have := List.length_pos_iff.mpr h.ne; omega
  have p2 : (is.length : Int) ≤ 6 := by have := h.len; omega
  rw [r_are_issues]
  have a2 : run T (n + 4) "are_some_names" [dview is, .int 6] = .ok (.bl true) := by
    rw [r_are_some_names]
    simp [b_are_some_names, a1, p1, p2]
  simp [b_are_issues, a2]
@[simp] theorem tru_dtx {l : List Nat} (h : l.length ≤ 16777216) : truD (dtx l) = .ok (l.length != 0) := by
  show chk (decide ((tx l).length ≤ sizeLine)) (R.ok ((tx l).length != 0)) = _
  rw [tx_len, decide_eq_true (Nat.le_trans h big)]
  rfl
theorem in_dtx (l : List Nat) (v : List (List Nat)) : inD (dtx l) (dview v) = .ok (decide (l ∈ v)) := in_view l v
theorem is_verdict_eq [C_is_verdict T] (n : Nat) (is : List (List Nat)) {y : List Nat} (h : Vt y) : run T (n + 3) "is_verdict" [dview is, dtx y] = .ok (.bl (decide (issueOf y ∈ is))) := by
  rw [r_is_verdict]
  have hl := h.len
  have t1 := tru_dtx (l := y) (by omega)
  have e : (y.length != 0) = true := by have := List.length_pos_iff.mpr h.ne; simp; intro z; rw [z] at this; simp at this
  rw [e] at t1
  simp [b_is_verdict, t1, issue_of_eq, h, in_dtx]
theorem is_view_of_eq [C_is_view_of T] (n : Nat) (is : List (List Nat)) {v : List (List Nat)} (h : ∀ y ∈ v, Vt y) : run T (n + 4) "is_view_of" [dview is, dview v] = .ok (.bl ((v.all fun y => decide (issueOf y ∈ is)) && ascB (v.map issueOf))) := by
  rw [r_is_view_of]
  simp only [b_is_view_of, q_seq, q_if, q_or, q_not, q_isi, q_var, q_look, List.getElem?_cons_zero, List.getElem?_cons_succ, R.bind_ok, isi_view, t_bl, Bool.not_true, q_blt, q_args, q_args0, ofR_ok]
  rw [if_neg (by simp), comp_all v dtx (fun y => .bl (decide (issueOf y ∈ is))) (by simp [seq_view]) fun y hy => by simp [is_verdict_eq, h y hy]]
  simp only [R.bind_ok, f_all', t_bl, ofR_ok, q_nil]
  cases hv : v.all fun y => decide (issueOf y ∈ is) with
  | false => simp
  | true =>
    simp only [Bool.not_true, Bool.true_and, q_ret, q_call, q_args, q_args0]
    rw [if_neg (by simp)]
    dsimp only
    rw [comp_all v dtx (fun y => dtx (issueOf y)) (by simp [seq_view]) fun y hy => by simp [issue_of_eq, h y hy]]
    have e : D.lst (v.map fun y => dtx (issueOf y)) = dview (v.map issueOf) := by unfold dview; rw [List.map_map]; rfl
    rw [R.bind_ok, e]
    simp [is_ascending_eq]
theorem is_row_of_eq [C_is_row_of T] (n : Nat) (is : List (List Nat)) {v : List (List Nat)} (h : ∀ y ∈ v, Vt y) : run T (n + 5) "is_row_of" [dview is, dview v] = .ok (.bl (((v.all fun y => decide (issueOf y ∈ is)) && ascB (v.map issueOf)) && decide (v.length = is.length))) := by
  rw [r_is_row_of]
  have e1 : eqD (.int v.length) (.int is.length) = .ok (decide (v.length = is.length)) := by
    have := eqD_en (α := Int) (by show (0 : Nat) ≤ 100; omega) (v.length : Int) (is.length : Int)
    rw [show eqD (.int v.length) (.int is.length) = _ from this]
    congr 1
    rw [decide_eq_decide]
    omega
  have i1 := is_view_of_eq (T := T) n is h
  cases hv : ((v.all fun y => decide (issueOf y ∈ is)) && ascB (v.map issueOf)) with
  | false => rw [hv] at i1; simp [b_is_row_of, i1]
  | true => rw [hv] at i1; simp [b_is_row_of, i1, e1]
theorem Rw.ok {is v : List (List Nat)} (hi : Iss is) (h : Rw is v) : (((v.all fun y => decide (issueOf y ∈ is)) && ascB (v.map issueOf)) && decide (v.length = is.length)) = true := by
  rw [Bool.and_eq_true, Bool.and_eq_true, List.all_eq_true, decide_eq_true_eq, h.all]
  refine ⟨⟨fun y hy => decide_eq_true ((h.each y hy).iss fun x hx => hi.it hx), asc_iff.mpr hi.lt⟩, h.len⟩
end Lb
/-! agendas: made, asked, drawn -/
namespace Lb
open PySem PySem.Spec PyProof.Rows Z
variable {T : Str → Option Fd}
/-- the parts of an agenda -/
structure Ag (is : List (List Nat)) (ops : List (List (List Nat))) : Prop where
  iss : Iss is
  ne : ops ≠ []
  rw : ∀ r ∈ ops, Rw is r
  lt : ops.Pairwise fun a b => oltB a b = true
section
variable {is : List (List Nat)} {ops : List (List (List Nat))}
theorem Iss.its (h : Iss is) : ∀ x ∈ is, It x := fun x hx => h.it hx
theorem Ag.its (h : Ag is ops) : ∀ x ∈ is, It x := h.iss.its
theorem Ag.of_sub (hi : Iss is) (hs : ops.Sublist (rowsOf is)) (hn : ops ≠ []) : Ag is ops := ⟨hi, hn, fun r hr => (rows_mem hi.its).mp (hs.subset hr), (rowsOf_lt hi.its).sublist hs⟩
theorem Ag.sub (h : Ag is ops) : ops.Sublist (rowsOf is) := sub_of_mem (r := fun a b => oltB a b = true) (fun a q => by rw [olt_irrefl] at q; cases q) (fun a b => olt_asymm) h.lt (rowsOf_lt h.its) fun r hr => (rows_mem h.its).mpr (h.rw r hr)
theorem Ag.len (h : Ag is ops) : ops.length ≤ 64 := by
  have := h.sub.length_le
  rw [rowsOf_len] at this
  exact Nat.le_trans this (Nat.pow_le_pow_right (n := 2) (by omega) h.iss.len)
theorem Ag.vt (h : Ag is ops) : ∀ r ∈ ops, ∀ y ∈ r, Vt y := fun r hr => (h.rw r hr).vw.vt h.its
theorem Ag.nodup (h : Ag is ops) : ops.Nodup := by
  rw [List.nodup_iff_pairwise_ne]
  refine h.lt.imp fun {a b} q e => ?_
  rw [e, olt_irrefl] at q
  cases q
theorem Iss.nodup (h : Iss is) : is.Nodup := by
  rw [List.nodup_iff_pairwise_ne]
  refine h.lt.imp fun {a b} q e => ?_
  rw [e] at q
  exact slt_irrefl _ q
end
theorem ltD_nil (w : List (List Nat)) : ltD (.lst []) (dorder w) = .ok (oltB [] w) := ltD_dorder [] w
theorem check_agenda_ok [C_check_agenda T] (n : Nat) {is : List (List Nat)} {ops : List (List (List Nat))} (h : Ag is ops) : run T (n + 6) "check_agenda" [dview is, drows ops] = .ok .non := by
  rw [r_check_agenda]
  have a1 := are_issues_ok (T := T) n h.iss
  have t1 : truD (drows ops) = .ok true := by
    show R.ok (!(ops.map dview).isEmpty) = _
    cases ops with
    | nil => exact absurd rfl h.ne
    | cons a b => rfl
  simp only [b_check_agenda, q_seq, q_if, q_not, q_call, q_args, q_args0, q_var, q_look, List.getElem?_cons_zero, List.getElem?_cons_succ, R.bind_ok, a1, t1, t_bl, Bool.not_true, ofR_ok, q_nil, q_set, q_lst, List.set_cons_zero, List.set_cons_succ, Bool.false_eq_true, if_false]
  rw [for_take ((List.range ops.length).zip ops) (fun p => .tup [.int (p.1 : Nat), dview p.2]) (fun pre => [some (dview is), some (drows ops), some (dorder ((pre.getLast?.map (·.2)).getD [])), none, none]) (by
      simp only [q_ienum, q_var, q_look, List.getElem?_cons_succ, List.getElem?_cons_zero, R.bind_ok]
      show R.ok (List.zipWith _ (List.range (ops.map dview).length) (ops.map dview)) = _
      rw [List.length_map, List.zipWith_map_right, List.zip_eq_zipWith, List.map_zipWith]) rfl (fun j p hp => by
    obtain ⟨q1, q2⟩ := List.getElem?_zip_eq_some.mp hp
    have hj : j < ops.length := (List.getElem?_eq_some_iff.mp q2).1
    have hm := List.mem_of_getElem? q2
    have e1 : p.1 = j := by
      rw [List.getElem?_range hj] at q1
      simpa using q1.symm
    have hr := h.rw p.2 hm
    have i1 := is_row_of_eq (T := T) n is (h.vt p.2 hm)
    rw [hr.ok h.iss] at i1
    have o1 := order_of_eq (T := T) (n + 1) (h.vt p.2 hm)
    have before : oltB (((((List.range ops.length).zip ops).take j).getLast?.map (·.2)).getD []) p.2 = true := by
      cases j with
      | zero =>
        rw [List.take_zero]
        show oltB [] p.2 = true
        cases hp2 : p.2 with
        | nil => have := hr.all; rw [hp2] at this; exact absurd this.symm h.iss.ne
        | cons a b => rfl
      | succ j =>
        have hk : j < ((List.range ops.length).zip ops).length := by rw [List.length_zip, List.length_range]; omega
        rw [take_snoc (List.getElem?_eq_getElem hk), List.getLast?_append]
        have e : (((List.range ops.length).zip ops)[j]).2 = ops[j]'(by omega) := by simp
        simp only [List.getLast?_singleton, Option.some_or, Option.map_some, Option.getD_some, e]
        have e2 : p.2 = ops[j + 1] := by rw [List.getElem?_eq_getElem hj] at q2; exact (Option.some.inj q2).symm
        rw [e2]
        exact (List.pairwise_iff_getElem.mp h.lt) j (j + 1) (by omega) hj (by omega)
    generalize hb : ((((List.range ops.length).zip ops).take j).getLast?.map (·.2)).getD [] = bef at before
    have l1 := ltD_dorder bef p.2
    rw [before] at l1
    refine ⟨[some (dview is), some (drows ops), some (dorder bef), some (.int p.1), some (dview p.2)], [some (dview is), some (drows ops), some (dorder p.2), some (.int p.1), some (dview p.2)], rfl, .inl ?_, ?_⟩
    · simp [f_check_agenda_1, i1, o1, l1]
    · rw [take_snoc hp, List.getLast?_append]
      simp)]
  simp
/-! ### hanging -/
def hangK (ops : List (List (List Nat))) : List (List (List Nat)) := (ops.flatMap partsOf).foldl insV []
theorem hangK_mem {ops : List (List (List Nat))} {v : List (List Nat)} : v ∈ hangK ops ↔ ∃ o ∈ ops, v.Sublist o := by
  unfold hangK
  rw [insAll_mem]
  simp [List.mem_flatMap, parts_mem]
theorem flat_len {ops : List (List (List Nat))} {k : Nat} (h : ∀ r ∈ ops, r.length ≤ k) : (ops.flatMap partsOf).length ≤ ops.length * 2 ^ k := by
  induction ops with
  | nil => simp
  | cons r ops ih =>
    rw [List.flatMap_cons, List.length_append, List.length_cons, Nat.succ_mul]
    have h1 := (parts_len r r.length (Nat.le_refl _)).1
    rw [List.take_length] at h1
    have h2 := Nat.pow_le_pow_right (n := 2) (by omega) (h r List.mem_cons_self)
    have := ih fun x hx => h x (List.mem_cons_of_mem _ hx)
    omega
theorem hangK_len {ops : List (List (List Nat))} (h : ∀ r ∈ ops, r.length ≤ 6) (hl : ops.length ≤ 64) : (hangK ops).length ≤ 4096 := by
  have h1 := insAll_len (ops.flatMap partsOf) []
  have h2 := flat_len h
  unfold hangK
  simp only [List.length_nil, Nat.zero_add] at h1
  have : ops.length * 2 ^ 6 ≤ 64 * 2 ^ 6 := Nat.mul_le_mul_right _ hl
  omega
theorem hanging_views_eq [C_hanging_views T] (n : Nat) {ops : List (List (List Nat))} (h : ∀ r ∈ ops, r.length ≤ 6) (hl : ops.length ≤ 64) : run T (n + 2) "hanging_views" [drows ops] = .ok (dset (hangK ops)) := by
  rw [r_hanging_views]
  simp only [b_hanging_views, q_seq, q_set, q_dic, ofR_ok, List.set_cons_succ, List.set_cons_zero]
  rw [for_take ops dview (fun pre => [some (drows ops), some (dset (hangK pre)), none, none]) (by simp [seq_rows]) rfl (fun j r hr => by
    have hj := (List.getElem?_eq_some_iff.mp hr).1
    have hrl := h r (List.mem_of_getElem? hr)
    have hk := hangK_len (ops := ops.take j) (fun x hx => h x (List.mem_of_mem_take hx)) (by rw [List.length_take]; omega)
    have pl := (parts_len r r.length (Nat.le_refl _)).1
    rw [List.take_length] at pl
    have pl2 : (partsOf r).length ≤ 64 := by rw [pl]; exact Nat.pow_le_pow_right (n := 2) (by omega) hrl
    refine ⟨_, [some (drows ops), some (dset (hangK (ops.take (j + 1)))), some (dview r), none], rfl, .inl ?_, rfl⟩
    simp only [f_hanging_views_1]
    rw [for_take (partsOf r) dtv (fun pre => [some (drows ops), some (dset (pre.foldl insV (hangK (ops.take j)))), some (dview r), none]) (by
        have := parts_of_view_eq (T := T) n (v := r) (by omega)
        simp [this]) rfl (fun k p hp => by
      have hkk := insAll_len ((partsOf r).take k) (hangK (ops.take j))
      rw [List.length_take] at hkk
      have p1 := put_set (ks := ((partsOf r).take k).foldl insV (hangK (ops.take j))) (v := p) (by omega)
      refine ⟨_, [some (drows ops), some (dset (((partsOf r).take (k + 1)).foldl insV (hangK (ops.take j)))), some (dview r), some (dtv p)], rfl, .inl ?_, rfl⟩
      rw [take_snoc hp, List.foldl_append]
      simp [f_hanging_views_2, p1])]
    rw [take_snoc hr]
    unfold hangK
    rw [List.flatMap_append, List.foldl_append]
    simp)]
  simp
/-! ### least contradictions -/
def leastB (ks : List (List (List Nat))) (v : List (List Nat)) : Bool := !decide (v ∈ ks) && (lessOf v).all fun p => decide (p ∈ ks)
def leastOf (is : List (List Nat)) (ops : List (List (List Nat))) : List (List (List Nat)) := sortV ((viewsOf is).filter (leastB (hangK ops)))
theorem less_len (v : List (List Nat)) : (lessOf v).length = v.length := by simp [lessOf]
theorem least_ones_eq [C_least_ones T] (n : Nat) {is : List (List Nat)} {ks : List (List (List Nat))} (hi : ∀ x ∈ is, It x) (hl : is.length ≤ 6) : run T (n + 7) "least_ones" [dview is, dset ks] = .ok (drows (sortV ((viewsOf is).filter (leastB ks)))) := by
  rw [r_least_ones]
  simp only [b_least_ones, q_seq, q_set, q_lst, q_args0, R.bind_ok, ofR_ok, List.set_cons_succ, List.set_cons_zero]
  obtain ⟨v1, v2⟩ := views_take is is.length (Nat.le_refl _)
  rw [List.take_length] at v1 v2
  have v3 : (viewsOf is).length ≤ 729 := by rw [v1]; exact Nat.pow_le_pow_right (n := 3) (by omega) hl
  rw [for_take (viewsOf is) dtv (fun pre => [some (dview is), some (dset ks), some (drows (pre.filter (leastB ks))), none, none]) (by
      have := all_views_eq (T := T) (n + 5) hi (by omega)
      simp [this]) rfl (fun j v hv => by
    have hvl := v2 v (List.mem_of_getElem? hv)
    have hfl : (((viewsOf is).take j).filter (leastB ks)).length ≤ 729 := Nat.le_trans (List.length_filter_le _ _) (by rw [List.length_take]; omega)
    have p1 := app_rows (a := ((viewsOf is).take j).filter (leastB ks)) (r := v) (by omega)
    have i1 := in_set ks v
    refine ⟨_, [some (dview is), some (dset ks), some (drows (((viewsOf is).take (j + 1)).filter (leastB ks))), some (dtv v), none], rfl, .inl ?_, rfl⟩
    rw [take_snoc hv, List.filter_append]
    by_cases hk : v ∈ ks
    · have e : [v].filter (leastB ks) = [] := by simp [leastB, hk]
      rw [e, List.append_nil]
      simp [f_least_ones_1, i1, hk]
    · have l1 := views_one_less_eq (T := T) (n + 5) (v := v) (by omega)
      simp only [f_least_ones_1, q_if, q_and, q_cmp, q_var, q_look, List.getElem?_cons_zero, List.getElem?_cons_succ, R.bind_ok, c_nin, i1, n_ok, t_bl, hk, decide_false, Bool.not_false, if_true, q_blt, q_args, q_args0]
      rw [comp_all (lessOf v) dtv (fun p => .bl (decide (p ∈ ks))) (by simp [l1]) fun p hp => by
        have i2 := in_set ks p
        simp [i2]]
      cases ha : (lessOf v).all fun p => decide (p ∈ ks) with
      | false =>
        have e : [v].filter (leastB ks) = [] := by simp [leastB, ha]
        rw [e, List.append_nil]
        simp [i1, hk, ha]
      | true =>
        have e : [v].filter (leastB ks) = [v] := by simp [leastB, hk, ha]
        rw [e]
        simp [i1, hk, ha, p1])]
  have s1 := sorted_views_eq (T := T) n (vs := (viewsOf is).filter (leastB ks)) fun v hv => ((views_mem hi).mp ((List.mem_filter.mp hv).1)).vt hi
  simp [s1]
/-! ### the class -/
def dAg (is : List (List Nat)) (ops : List (List (List Nat))) : D := .obj "Agenda" ["_issues", "_opinions", "_hanging", "_least"] [dview is, drows ops, dset (hangK ops), drows (leastOf is ops)]
section
variable (is : List (List Nat)) (ops : List (List (List Nat)))
@[simp] theorem ag_issues : fldD "_issues" (dAg is ops) = .ok (dview is) := rfl
@[simp] theorem ag_opinions : fldD "_opinions" (dAg is ops) = .ok (drows ops) := rfl
@[simp] theorem ag_hanging : fldD "_hanging" (dAg is ops) = .ok (dset (hangK ops)) := rfl
@[simp] theorem ag_least : fldD "_least" (dAg is ops) = .ok (drows (leastOf is ops)) := rfl
@[simp] theorem ag_m1 (call : Call) (ds : List D) : methD call "issues" ds (dAg is ops) = call "Agenda.issues" (dAg is ops :: ds) := rfl
@[simp] theorem ag_m2 (call : Call) (ds : List D) : methD call "opinions" ds (dAg is ops) = call "Agenda.opinions" (dAg is ops :: ds) := rfl
@[simp] theorem ag_m3 (call : Call) (ds : List D) : methD call "verdicts" ds (dAg is ops) = call "Agenda.verdicts" (dAg is ops :: ds) := rfl
@[simp] theorem ag_m4 (call : Call) (ds : List D) : methD call "hangs" ds (dAg is ops) = call "Agenda.hangs" (dAg is ops :: ds) := rfl
@[simp] theorem ag_m5 (call : Call) (ds : List D) : methD call "least" ds (dAg is ops) = call "Agenda.least" (dAg is ops :: ds) := rfl
@[simp] theorem ag_m6 (call : Call) (ds : List D) : methD call "is_row" ds (dAg is ops) = call "Agenda.is_row" (dAg is ops :: ds) := rfl
@[simp] theorem ag_m7 (call : Call) (ds : List D) : methD call "is_opinion" ds (dAg is ops) = call "Agenda.is_opinion" (dAg is ops :: ds) := rfl
@[simp] theorem ag_m8 (call : Call) (ds : List D) : methD call "is_view" ds (dAg is ops) = call "Agenda.is_view" (dAg is ops :: ds) := rfl
@[simp] theorem ag_m9 (call : Call) (ds : List D) : methD call "has_issue" ds (dAg is ops) = call "Agenda.has_issue" (dAg is ops :: ds) := rfl
end
theorem agenda_init [C_Agenda___init__ T] (n : Nat) {is : List (List Nat)} {ops : List (List (List Nat))} (h : Ag is ops) : run T (n + 8) "Agenda.__init__" [dview is, drows ops] = .ok (dAg is ops) := by
  rw [r_Agenda___init__]
  have c1 := check_agenda_ok (T := T) (n + 1) h
  have h1 := hanging_views_eq (T := T) (n + 5) (ops := ops) (fun r hr => by rw [(h.rw r hr).len]; exact h.iss.len) h.len
  have l1 := least_ones_eq (T := T) n (is := is) (ks := hangK ops) h.its h.iss.len
  simp only [b_Agenda___init__, q_seq, q_expr, q_call, q_args, q_args0, q_var, q_look, List.getElem?_cons_zero, List.getElem?_cons_succ, R.bind_ok, c1, ofR_ok, q_sfld, q_blt, list_view]
  rw [show setF (.obj "Agenda" [] []) "_issues" (dview is) = .ok (.obj "Agenda" ["_issues"] [dview is]) from rfl]
  simp only [ofR_ok, List.set_cons_zero]
  rw [comp_all ops dview dview (by simp [seq_rows]) fun r hr => by simp]
  simp only [ofR_ok, q_look, List.getElem?_cons_zero, List.getElem?_cons_succ]
  rw [show setF (.obj "Agenda" ["_issues"] [dview is]) "_opinions" (.lst (ops.map dview)) = .ok (.obj "Agenda" ["_issues", "_opinions"] [dview is, drows ops]) from rfl]
  simp only [ofR_ok, List.set_cons_zero, q_look, List.getElem?_cons_zero, List.getElem?_cons_succ, R.bind_ok, h1, q_fld]
  have s1 : setF (.obj "Agenda" ["_issues", "_opinions"] [dview is, drows ops]) "_hanging" (dset (hangK ops)) = .ok (.obj "Agenda" ["_issues", "_opinions", "_hanging"] [dview is, drows ops, dset (hangK ops)]) := rfl
  have s2 : fldD "_hanging" (.obj "Agenda" ["_issues", "_opinions", "_hanging"] [dview is, drows ops, dset (hangK ops)]) = .ok (dset (hangK ops)) := rfl
  have s3 : setF (.obj "Agenda" ["_issues", "_opinions", "_hanging"] [dview is, drows ops, dset (hangK ops)]) "_least" (drows (leastOf is ops)) = .ok (dAg is ops) := rfl
  have l1 : run T (n + 7) "least_ones" [dview is, dset (hangK ops)] = .ok (drows (leastOf is ops)) := l1
  simp [h1, s1, s2, l1, s3]
section
variable {is : List (List Nat)} {ops : List (List (List Nat))}
theorem ag_hangs_eq [C_Agenda_hangs T] (n : Nat) (v : List (List Nat)) : run T (n + 1) "Agenda.hangs" [dAg is ops, dview v] = .ok (.bl (decide (v ∈ hangK ops))) := by
  rw [r_Agenda_hangs]
  simp [b_Agenda_hangs, in_set]
theorem ag_opinions_eq [C_Agenda_opinions T] (n : Nat) : run T (n + 1) "Agenda.opinions" [dAg is ops] = .ok (drows ops) := by
  rw [r_Agenda_opinions]
  simp only [b_Agenda_opinions, q_ret]
  rw [comp_all ops dview dview (by simp [seq_rows]) fun r hr => by simp]
  rfl
theorem ag_issues_eq [C_Agenda_issues T] (n : Nat) : run T (n + 1) "Agenda.issues" [dAg is ops] = .ok (dview is) := by
  rw [r_Agenda_issues]
  simp [b_Agenda_issues]
theorem ag_least_eq [C_Agenda_least T] (n : Nat) : run T (n + 1) "Agenda.least" [dAg is ops] = .ok (drows (leastOf is ops)) := by
  rw [r_Agenda_least]
  simp only [b_Agenda_least, q_ret]
  rw [comp_all (leastOf is ops) dview dview (by simp [seq_rows]) fun r hr => by simp]
  rfl
theorem ag_verdicts_eq [C_Agenda_verdicts T] (n : Nat) (h : Ag is ops) : run T (n + 2) "Agenda.verdicts" [dAg is ops] = .ok (dview (bothOf is)) := by
  rw [r_Agenda_verdicts]
  have := both_verdicts_eq (T := T) n h.its (by have := h.iss.len; omega)
  simp [b_Agenda_verdicts, this]
theorem hangs_together_eq [C_hangs_together T] (n : Nat) (v : List (List Nat)) : run T (n + 2) "hangs_together" [dAg is ops, dview v] = .ok (.bl (decide (v ∈ hangK ops))) := by
  rw [r_hangs_together]
  simp [b_hangs_together, ag_hangs_eq]
theorem opinions_with_eq [C_opinions_with T] (n : Nat) (v : List (List Nat)) : run T (n + 2) "opinions_with" [dAg is ops, dview v] = .ok (drows (ops.filter fun o => v.all fun y => decide (y ∈ o))) := by
  rw [r_opinions_with]
  simp only [b_opinions_with, q_ret]
  rw [comp_fil ops dview dview (fun o => v.all fun y => decide (y ∈ o)) (by simp [ag_opinions_eq, seq_rows]) fun r hr => by
    have := holds_eq (T := T) n r v
    cases hb : v.all fun y => decide (y ∈ r) <;> rw [hb] at this <;> simp [this]]
  rfl
end
/-! ### what laws draw -/
theorem numbers_eq [C__law_numbers T] (n : Nat) (ns : List Int) (a k : Nat) (hk : k ≤ 1000000) : ∃ xs : List Nat, run T (n + 1) "_law_numbers" [.scr ns, .int a, .int k] = .ok (dns xs) ∧ xs.length = k ∧ ∀ x ∈ xs, x < 1009 := by
  rw [r__law_numbers]
  obtain ⟨xs, h1, h2, h3⟩ := numbers_ok ns a k hk
  refine ⟨xs.map Int.toNat, ?_, by rw [List.length_map, h2], fun x hx => ?_⟩
  · have e : dns (xs.map Int.toNat) = .lst (xs.map .int) := by
      unfold dns
      rw [List.map_map]
      congr 1
      refine List.map_congr_left fun x hx => ?_
      have := h3 x hx
      simp only [Function.comp]
      rw [Int.toNat_of_nonneg this.1]
    rw [e]
    exact h1
  · obtain ⟨y, hy, rfl⟩ := List.mem_map.mp hx
    have := h3 y hy
    omega
theorem law_name_eq [C__law_name T] (n : Nat) : ∀ f s m : Nat, ∃ l, run T (n + 1) "_law_name" [.int f, .int s, .int m] = .ok (.str (tx l)) ∧ Nm l := fun f s m => by
  rw [r__law_name]
  exact name_ok f s m
theorem law_names_eq [C__law_names T] (n : Nat) {ns : List Nat} {k : Nat} (hk : k ≤ 25) (hl : 3 * k ≤ ns.length) : ∃ fs : List (List Nat), run T (n + 2) "_law_names" [dns ns, .int k] = .ok (dview fs) ∧ fs.length = k ∧ (∀ l ∈ fs, Nm l) ∧ fs.Nodup := by
  rw [r__law_names]
  exact names_ok _ (law_name_eq n) hk hl
theorem law_rows_eq [C__law_rows T] (n : Nat) {is : List (List Nat)} (hn : is.length ≤ 16) (hi : ∀ l ∈ is, l.length ≤ 1000) : run T (n + 1) "_law_rows" [dview is] = .ok (drows (rowsOf is)) := by
  rw [r__law_rows]
  exact rows_ok hn hi
/-- a drawn list of issues, put in order -/
theorem sortN_iss {fs : List (List Nat)} (h1 : ∀ l ∈ fs, Nm l) (h2 : fs.Nodup) (h3 : 1 ≤ fs.length) (h4 : fs.length ≤ 6) : Iss (sortN fs) := by
  have p := sortN_perm fs
  refine ⟨(sortN_lt h2).imp fun {a b} => nlt_iff.mp, fun x hx => h1 x (p.mem_iff.mp hx), fun e => ?_, by rw [p.length_eq]; exact h4⟩
  have := p.length_eq
  rw [e] at this
  simp at this
  omega
theorem law_has_eq [C__law_has T] (n : Nat) (view other : List (List Nat)) : run T (n + 1) "_law_has" [dview view, dview other] = .ok (.bl (other.all fun v => decide (v ∈ view))) := by
  rw [r__law_has]
  simp only [b__law_has, q_ret, q_cmp]
  rw [comp_fil other dtx dtx (fun v => !decide (v ∈ view)) (by simp [seq_view]) fun v hv => by
    by_cases h : v ∈ view <;> simp [in_dtx, h]]
  have e1 := eq_view (other.filter fun v => !decide (v ∈ view)) []
  have e3 : decide ((other.filter fun v => !decide (v ∈ view)) = []) = other.all fun v => decide (v ∈ view) := by
    rw [Bool.eq_iff_iff, decide_eq_true_eq, List.filter_eq_nil_iff, List.all_eq_true]
    simp
  rw [e3] at e1
  have e1 : eqD (.lst ((other.filter fun v => !decide (v ∈ view)).map dtx)) (.lst []) = .ok (other.all fun v => decide (v ∈ view)) := e1
  simp only [R.bind_ok, q_lst, q_args0, c_eq, e1, ofR_ok, q_end_rt]
theorem ix0 {c : Nat} {r : List Nat} (h : Vt (c :: r)) : ixD (dtx (c :: r)) (.int 0) = .ok (dtx [c]) := ix_tx (l := c :: r) (i := 0) (c := c) rfl (by have := h.len; omega)
theorem law_issue_eq [C__law_issue T] (n : Nat) {v : List Nat} (h : Vt v) : run T (n + 1) "_law_issue" [dtx v] = .ok (dtx (issueOf v)) := by
  rw [r__law_issue]
  obtain ⟨c, r, rfl⟩ := h.cons
  unfold issueOf
  by_cases hc : c = 33
  · subst hc
    simp [b__law_issue, ix0 h, litb, cut1 h, isYes]
  · have y : isYes (c :: r) = true := by simp [isYes, hc]
    simp [b__law_issue, ix0 h, litb, hc, y]
theorem law_opposite_eq [C__law_opposite T] (n : Nat) {v : List Nat} (h : Vt v) : run T (n + 1) "_law_opposite" [dtx v] = .ok (dtx (opp v)) := by
  rw [r__law_opposite]
  obtain ⟨c, r, rfl⟩ := h.cons
  unfold opp
  by_cases hc : c = 33
  · subst hc
    simp [b__law_opposite, ix0 h, litb, cut1 h, isYes]
  · have y : isYes (c :: r) = true := by simp [isYes, hc]
    simp [b__law_opposite, ix0 h, litb, hc, addb h, y]
theorem law_copied_eq [C__law_copied T] (n : Nat) (rs : List (List (List Nat))) : run T (n + 1) "_law_copied" [drows rs] = .ok (drows rs) := by
  rw [r__law_copied]
  simp only [b__law_copied, q_ret]
  rw [comp_all rs dview dview (by simp [seq_rows]) fun r hr => by simp]
  rfl
end Lb
/-! agendas: drawn -/
namespace Lb
open PySem PySem.Spec PyProof.Rows Z
variable {T : Str → Option Fd}
theorem range_map {α : Type} (l : List α) (d : α) : (List.range l.length).map (fun k => l.getD k d) = l := by
  apply List.ext_getElem
  · simp
  · intro i h1 h2
    simp [List.getD_eq_getElem?_getD, List.getElem?_eq_getElem h2]
theorem range_sub {α : Type} (l : List α) (d : α) (p : Nat → Bool) : (((List.range l.length).filter p).map fun k => l.getD k d).Sublist l := by
  have := (List.filter_sublist (l := List.range l.length) (p := p)).map fun k => l.getD k d
  rwa [range_map] at this
theorem ix_rows {rs : List (List (List Nat))} {k : Nat} (h : k < rs.length) : ixD (drows rs) (.int k) = .ok (dview (rs.getD k [])) := by
  refine ix_lst ?_
  rw [List.getElem?_map, List.getElem?_eq_getElem h, List.getD_eq_getElem?_getD, List.getElem?_eq_getElem h]
  rfl
theorem ix_view {rs : List (List Nat)} {k : Nat} (h : k < rs.length) : ixD (dview rs) (.int k) = .ok (dtx (rs.getD k [])) := by
  refine ix_lst ?_
  rw [List.getElem?_map, List.getElem?_eq_getElem h, List.getD_eq_getElem?_getD, List.getElem?_eq_getElem h]
  rfl
theorem ix_nsd {ns : List Nat} {k : Nat} (h : k < ns.length) : ixD (dns ns) (.int k) = .ok (.int (ns.getD k 0 : Nat)) := by
  have := ix_ns (ns := ns) (i := (k : Int)) (j := k) rfl h
  rw [this, List.getD_eq_getElem?_getD, List.getElem?_eq_getElem h]
  rfl
theorem b_modn {a b : Nat} (h : 0 < b) : binD .Mod (.int a) (.int b) = .ok (.int ((a % b : Nat) : Int)) := by
  rw [b_mod (by omega)]
  rfl
theorem kinds {q : Nat} (h : q < 6) : ∃ d : Nat, 0 < d ∧ ixD (.lst [.int 2, .int 5, .int 7, .int 2, .int 1, .int 9]) (.int q) = .ok (.int d) := by
  match q, h with
  | 0, _ => exact ⟨2, by omega, ix_lst (i := 0) rfl⟩
  | 1, _ => exact ⟨5, by omega, ix_lst (i := 1) rfl⟩
  | 2, _ => exact ⟨7, by omega, ix_lst (i := 2) rfl⟩
  | 3, _ => exact ⟨2, by omega, ix_lst (i := 3) rfl⟩
  | 4, _ => exact ⟨1, by omega, ix_lst (i := 4) rfl⟩
  | 5, _ => exact ⟨9, by omega, ix_lst (i := 5) rfl⟩
theorem eq_int (a b : Int) : eqD (.int a) (.int b) = .ok (decide (a = b)) := eqD_en (α := Int) (by show (0 : Nat) ≤ 100; omega) a b
theorem two_of {a b : D} {q : Nat} (h : q < 2) : ixD (.lst [a, b]) (.int q) = .ok (if q = 0 then a else b) := by
  match q, h with
  | 0, _ => exact ix_lst (i := 0) rfl
  | 1, _ => exact ix_lst (i := 1) rfl
theorem drows_map {α : Type} (l : List α) (f : α → List (List Nat)) : D.lst (l.map fun a => dview (f a)) = drows (l.map f) := by unfold drows; rw [List.map_map]; rfl
theorem dview_map {α : Type} (l : List α) (f : α → List Nat) : D.lst (l.map fun a => dtx (f a)) = dview (l.map f) := by unfold dview; rw [List.map_map]; rfl
theorem drows_eq0 (rs : List (List (List Nat))) : eqD (drows rs) (.lst []) = .ok (decide (rs = [])) := eq_rows rs []
theorem dview_eq0 (rs : List (List Nat)) : eqD (dview rs) (.lst []) = .ok (decide (rs = [])) := eq_view rs []
theorem f_rangeZ {z : Int} {n : Nat} (e : z = n) (h : n ≤ 16000000) : rangeD [.int z] = .ok ((List.range n).map fun (k : Nat) => .int k) := by rw [e]; exact f_range h
theorem seq_if_f {c : ZE} {a t : ZS} {ρ : Z.Env} (h : c ρ = .ok (.bl false)) : sSeq (sIf c a sNil) t ρ = t ρ := by simp [h]
theorem seq_if_t {c : ZE} {a t : ZS} {ρ ρ' : Z.Env} (h : c ρ = .ok (.bl true)) (h2 : a ρ = .nx ρ') : sSeq (sIf c a sNil) t ρ = t ρ' := by simp [h, h2]
theorem seq_set {i : Nat} {e : ZE} {t : ZS} {ρ : Z.Env} {d : D} (h : e ρ = .ok d) : sSeq (sSet i e) t ρ = t (ρ.set i (some d)) := by simp [h]
theorem q_seq_set {i : Nat} {e : ZE} {t : ZS} {ρ : Z.Env} : sSeq (sSet i e) t ρ = ofR (e ρ) fun d => t (ρ.set i (some d)) := by
  rw [q_seq, q_set]
  cases e ρ <;> rfl
/-- the bars that an agenda is drawn by -/
theorem law_agenda_bar (call : Call) {e0 e1 e2 e5 e7 e8 e12 e14 : Option D} {is : List (List Nat)} {ns ms : List Nat} {bars : List (List (List Nat))} {k : Nat} (hi : Iss is) (hn : ns.length = 20) (hms : ms.length = 64) (hk : k < 4) (hb : bars.length ≤ 100) :
    ∃ bar ρ', f__law_agenda_1 call [e0, e1, e2, some (dns ns), some (dview is), e5, some (dns ms), e7, e8, some (drows bars), some (.int k), none, e12, none, e14] = .nx ρ' ∧ killE [10, 11, 13] ρ' = [e0, e1, e2, some (dns ns), some (dview is), e5, some (dns ms), e7, e8, some (drows (bars ++ [bar])), none, none, e12, none, e14] := by
  have hpos : 0 < is.length := List.length_pos_iff.mpr hi.ne
  have i1 : ixD (dns ns) (.int (3 + (k : Int))) = .ok (.int (ns.getD (3 + k) 0 : Nat)) := ix_nsd (k := 3 + k) (by omega)
  generalize ns.getD (3 + k) 0 = z at i1
  have m1 := b_modn (a := z) (b := 3) (by omega)
  have hq : z % 3 < 3 := Nat.mod_lt _ (by omega)
  have m1 : binD .Mod (.int z) (.int 3) = .ok (.int ((z % 3 : Nat) : Int)) := m1
  generalize z % 3 = q at m1 hq
  let x : Nat → List Nat := fun j => is.getD ((ms.getD (5 * k + j) 0 + j) % is.length) []
  let y : Nat → List Nat := fun j => if ms.getD (20 + 5 * k + j) 0 % 2 = 0 then x j else bang (x j)
  refine ⟨(List.range (1 + q)).map y, [e0, e1, e2, some (dns ns), some (dview is), e5, some (dns ms), e7, e8, some (drows (bars ++ [(List.range (1 + q)).map y])), some (.int k), some (.int (1 + (q : Int))), e12, none, e14], ?_, rfl⟩
  simp only [f__law_agenda_1, q_seq, q_set, q_bin, q_lit, q_ix, q_var, q_look, List.getElem?_cons_zero, List.getElem?_cons_succ, R.bind_ok, b_add, i1, m1, ofR_ok, List.set_cons_zero, List.set_cons_succ, q_app]
  have r1 := f_rangeZ (z := 1 + (q : Int)) (n := 1 + q) (by omega) (by omega)
  rw [comp_all (List.range (1 + q)) (fun (k : Nat) => .int k) (fun j => dtx (y j)) (by simp [r1]) fun j hj => by
    have hj : j < 1 + q := by simpa using hj
    have mu : binD .Mult (.int 5) (.int k) = .ok (.int (5 * (k : Int))) := b_mul (by omega)
    have i2 : ixD (dns ms) (.int (5 * (k : Int) + j)) = .ok (.int (ms.getD (5 * k + j) 0 : Nat)) := ix_nsd (k := 5 * k + j) (by omega)
    have i3 : ixD (dns ms) (.int (20 + 5 * (k : Int) + j)) = .ok (.int (ms.getD (20 + 5 * k + j) 0 : Nat)) := ix_nsd (k := 20 + 5 * k + j) (by omega)
    have hlt : (ms.getD (5 * k + j) 0 + j) % is.length < is.length := Nat.mod_lt _ hpos
    have m2 : binD .Mod (.int (((ms.getD (5 * k + j) 0 : Nat) : Int) + j)) (.int is.length) = .ok (.int (((ms.getD (5 * k + j) 0 + j) % is.length : Nat) : Int)) := b_modn (a := ms.getD (5 * k + j) 0 + j) hpos
    have m3 : binD .Mod (.int ((ms.getD (20 + 5 * k + j) 0 : Nat) : Int)) (.int 2) = .ok (.int ((ms.getD (20 + 5 * k + j) 0 % 2 : Nat) : Int)) := b_modn (a := ms.getD (20 + 5 * k + j) 0) (b := 2) (by omega)
    have i4 : ixD (dview is) (.int (((ms.getD (5 * k + j) 0 + j) % is.length : Nat) : Int)) = .ok (dtx (x j)) := ix_view hlt
    have hx : It (x j) := by
      have : x j = is[(ms.getD (5 * k + j) 0 + j) % is.length] := by show is.getD _ [] = _; rw [List.getD_eq_getElem?_getD, List.getElem?_eq_getElem hlt]; rfl
      rw [this]
      exact hi.it (List.getElem_mem _)
    have a1 := addb (v := x j) hx.vt
    have t1 := two_of (a := dtx (x j)) (b := dtx (bang (x j))) (q := ms.getD (20 + 5 * k + j) 0 % 2) (Nat.mod_lt _ (by omega))
    have e : (if ms.getD (20 + 5 * k + j) 0 % 2 = 0 then dtx (x j) else dtx (bang (x j))) = dtx (y j) := by show _ = dtx (if _ then _ else _); split <;> rfl
    rw [e] at t1
    clear_value x y
    clear e
    generalize ms.getD (5 * k + j) 0 = u1 at *
    generalize ms.getD (20 + 5 * k + j) 0 % 2 = u3 at *
    generalize ms.getD (20 + 5 * k + j) 0 = u2 at *
    generalize (u1 + j) % is.length = u4 at *
    simp only [q_compF, q_gN, q_kill, q_kill0, List.set_cons_zero, List.set_cons_succ, R.bind_ok, q_tests0, if_true, q_ix, q_lst, q_args, q_args0, q_bin, q_var, q_look, q_lit, q_blt, List.getElem?_cons_zero, List.getElem?_cons_succ, mu, b_add, i2, len_view, m2, i4, litb, a1, i3, m3, t1]]
  have ap := app_rows (a := bars) (r := (List.range (1 + q)).map y) (by omega)
  rw [dview_map]
  simp only [ofR_ok, q_look, List.getElem?_cons_zero, List.getElem?_cons_succ, ap, List.set_cons_zero, List.set_cons_succ]
theorem law_agenda_eq [C__law_agenda T] (n : Nat) (ns : List Int) (a most : Nat) (h1 : 1 ≤ most) (h6 : most ≤ 6) : ∃ is ops, run T (n + 4) "_law_agenda" [.scr ns, .int a, .int most] = .ok (.tup [dview is, drows ops]) ∧ Ag is ops ∧ is.length ≤ most := by
  rw [r__law_agenda]
  obtain ⟨xs, n1, n2, _⟩ := numbers_eq (T := T) (n + 2) ns a 20 (by omega)
  obtain ⟨ys, n3, n4, _⟩ := numbers_eq (T := T) (n + 2) ns (a + 1) 18 (by omega)
  obtain ⟨ms, n5, n6, _⟩ := numbers_eq (T := T) (n + 2) ns (a + 2) 64 (by omega)
  have n3 : run T (n + 3) "_law_numbers" [.scr ns, .int ((a : Int) + 1), .int 18] = .ok (dns ys) := n3
  have n5 : run T (n + 3) "_law_numbers" [.scr ns, .int ((a : Int) + 2), .int 64] = .ok (dns ms) := n5
  have n1 : run T (n + 3) "_law_numbers" [.scr ns, .int a, .int 20] = .ok (dns xs) := n1
  have i0 : ixD (dns xs) (.int 0) = .ok (.int (xs.getD 0 0 : Nat)) := ix_nsd (k := 0) (by omega)
  have i1 : ixD (dns xs) (.int 1) = .ok (.int (xs.getD 1 0 : Nat)) := ix_nsd (k := 1) (by omega)
  have i2 : ixD (dns xs) (.int 2) = .ok (.int (xs.getD 2 0 : Nat)) := ix_nsd (k := 2) (by omega)
  have im : ixD (dns ms) (.int 0) = .ok (.int (ms.getD 0 0 : Nat)) := ix_nsd (k := 0) (by omega)
  generalize xs.getD 0 0 = z0 at i0
  generalize xs.getD 1 0 = z1 at i1
  generalize xs.getD 2 0 = z2 at i2
  have hlt0 : z0 % most < most := Nat.mod_lt _ (by omega)
  have m0 := b_modn (a := z0) (b := most) (by omega)
  generalize z0 % most = c at m0 hlt0
  obtain ⟨fs, f1, f2, f3, f4⟩ := law_names_eq (T := T) (n + 1) (ns := ys) (k := 1 + c) (by omega) (by omega)
  have f1 : run T (n + 3) "_law_names" [dns ys, .int (1 + (c : Int))] = .ok (dview fs) := f1
  have hi := sortN_iss f3 f4 (by omega) (by omega)
  have hlen : (sortN fs).length ≤ most := by rw [(sortN_perm fs).length_eq]; omega
  have sn := sorted_names fs
  generalize sortN fs = is at hi hlen sn
  have lr := law_rows_eq (T := T) (n + 2) (is := is) (by omega) (fun l hl => by have := (hi.it hl).len; omega)
  have rl := rowsOf_len is
  have rpos : 0 < (rowsOf is).length := by rw [rl]; exact Nat.pow_pos (by omega)
  have rle : (rowsOf is).length ≤ 64 := by rw [rl]; exact Nat.le_trans (Nat.pow_le_pow_right (n := 2) (by omega) (by omega : is.length ≤ 6)) (by decide)
  have m1 : binD .Mod (.int z1) (.int 6) = .ok (.int ((z1 % 6 : Nat) : Int)) := b_modn (a := z1) (b := 6) (by omega)
  have hq : z1 % 6 < 6 := Nat.mod_lt _ (by omega)
  generalize z1 % 6 = q at m1 hq
  have m2 : binD .Mod (.int z2) (.int 4) = .ok (.int ((z2 % 4 : Nat) : Int)) := b_modn (a := z2) (b := 4) (by omega)
  have hq2 : z2 % 4 < 4 := Nat.mod_lt _ (by omega)
  generalize z2 % 4 = q2 at m2 hq2
  obtain ⟨d, hd, ik⟩ := kinds hq
  generalize hrows : rowsOf is = rows at *
  have rg := f_range (n := rows.length) (by omega)
  -- the three ways
  have w0 : eComp [10] (gN 10) (iRange [(eBlt .len [(eVar 5)])]) [(eCmp .Eq (eBin .Mod (eIx (eVar 6) (eVar 10)) (eIx (eLst [(eLit (.int 2)), (eLit (.int 5)), (eLit (.int 7)), (eLit (.int 2)), (eLit (.int 1)), (eLit (.int 9))]) (eVar 7))) (eLit (.int 0)))] (eIx (eVar 5) (eVar 10))
      [some (.scr ns), some (.int a), some (.int most), some (dns xs), some (dview is), some (drows rows), some (dns ms), some (.int q), none, none, none, none, none, none, none] = .ok (drows (((List.range rows.length).filter fun k => decide (ms.getD k 0 % d = 0)).map fun k => rows.getD k [])) := by
    rw [comp_fil (List.range rows.length) (fun (k : Nat) => .int k) (fun k => dview (rows.getD k [])) (fun k => decide (ms.getD k 0 % d = 0)) (by simp [rg]) fun k hk => by
      have hk : k < rows.length := by simpa using hk
      have j1 := ix_nsd (ns := ms) (k := k) (by omega)
      have j2 := ix_rows hk
      have j3 := b_modn (a := ms.getD k 0) hd
      have j4 := eq_int ((ms.getD k 0 % d : Nat) : Int) 0
      have j5 : decide (((ms.getD k 0 % d : Nat) : Int) = 0) = decide (ms.getD k 0 % d = 0) := by rw [decide_eq_decide]; omega
      rw [j5] at j4
      generalize ms.getD k 0 % d = u at *
      generalize ms.getD k 0 = u' at *
      by_cases hu : u = 0 <;> simp only [q_compF, q_gN, q_kill, q_kill0, List.set_cons_zero, List.set_cons_succ, R.bind_ok, q_tests, q_tests0, q_cmp, q_bin, q_ix, q_lst, q_args, q_args0, q_var, q_look, q_lit, List.getElem?_cons_zero, List.getElem?_cons_succ, j1, ik, j3, c_eq, j4, t_bl, j2] <;> simp [hu]]
    rw [drows_map]
  have w1 : eComp [10] (gN 10) (iRange [(eBlt .len [(eVar 5)])]) [(eCmp .Gt (eBin .Mod (eIx (eVar 6) (eVar 10)) (eLit (.int 7))) (eLit (.int 0)))] (eIx (eVar 5) (eVar 10))
      [some (.scr ns), some (.int a), some (.int most), some (dns xs), some (dview is), some (drows rows), some (dns ms), some (.int q), some (drows (((List.range rows.length).filter fun k => decide (ms.getD k 0 % d = 0)).map fun k => rows.getD k [])), none, none, none, none, none, none] = .ok (drows (((List.range rows.length).filter fun k => decide (0 < ms.getD k 0 % 7)).map fun k => rows.getD k [])) := by
    rw [comp_fil (List.range rows.length) (fun (k : Nat) => .int k) (fun k => dview (rows.getD k [])) (fun k => decide (0 < ms.getD k 0 % 7)) (by simp [rg]) fun k hk => by
      have hk : k < rows.length := by simpa using hk
      have j1 := ix_nsd (ns := ms) (k := k) (by omega)
      have j2 := ix_rows hk
      have j3 : binD .Mod (.int (ms.getD k 0 : Nat)) (.int 7) = .ok (.int ((ms.getD k 0 % 7 : Nat) : Int)) := b_modn (a := ms.getD k 0) (b := 7) (by omega)
      generalize ms.getD k 0 % 7 = u at *
      generalize ms.getD k 0 = u' at *
      have j5 : decide ((0 : Int) < u) = decide (0 < u) := by rw [decide_eq_decide]; omega
      by_cases hu : 0 < u <;> simp only [q_compF, q_gN, q_kill, q_kill0, List.set_cons_zero, List.set_cons_succ, R.bind_ok, q_tests, q_tests0, q_cmp, q_bin, q_ix, q_lst, q_args, q_args0, q_var, q_look, q_lit, List.getElem?_cons_zero, List.getElem?_cons_succ, j1, j3, c_gt, j5, t_bl, j2] <;> simp [hu]]
    rw [drows_map]
  have s0 : (((List.range rows.length).filter fun k => decide (ms.getD k 0 % d = 0)).map fun k => rows.getD k []).Sublist rows := range_sub rows [] (fun k => decide (ms.getD k 0 % d = 0))
  have s1 : (((List.range rows.length).filter fun k => decide (0 < ms.getD k 0 % 7)).map fun k => rows.getD k []).Sublist rows := range_sub rows [] (fun k => decide (0 < ms.getD k 0 % 7))
  generalize ((List.range rows.length).filter fun k => decide (ms.getD k 0 % d = 0)).map (fun k => rows.getD k []) = o0 at *
  generalize ((List.range rows.length).filter fun k => decide (0 < ms.getD k 0 % 7)).map (fun k => rows.getD k []) = o1 at *
  have eq2 := eq_int (q : Int) 2
  have eq3 := eq_int (q : Int) 3
  have hmod : ms.getD 0 0 % rows.length < rows.length := Nat.mod_lt _ rpos
  have im2 := b_modn (a := ms.getD 0 0) rpos
  generalize ms.getD 0 0 % rows.length = u at im2 hmod
  generalize ms.getD 0 0 = u' at im2 im
  have iu := ix_rows hmod
  have fin : ∀ (o : List (List (List Nat))) (e9 : Option D), o.Sublist rows →
      ∃ is' ops, endD (sSeq (sIf (eCmp .Eq (eVar 8) (eLst [])) (sSet 8 (eLst [(eIx (eVar 5) (eBin .Mod (eIx (eVar 6) (eLit (.int 0))) (eBlt .len [(eVar 5)])))])) sNil) (sRet (eTup [(eVar 4), (eVar 8)])) [some (.scr ns), some (.int a), some (.int most), some (dns xs), some (dview is), some (drows rows), some (dns ms), some (.int q), some (drows o), e9, none, none, none, none, none]) = .ok (.tup [dview is', drows ops]) ∧ Ag is' ops ∧ is'.length ≤ most := fun o e9 hs => by
    have e := drows_eq0 o
    by_cases ho : o = []
    · rw [decide_eq_true ho] at e
      refine ⟨is, [rows.getD u []], ?_, Ag.of_sub hi (by rw [hrows]; exact List.singleton_sublist.mpr (by rw [List.getD_eq_getElem?_getD, List.getElem?_eq_getElem hmod]; exact List.getElem_mem _)) (by simp), hlen⟩
      have e1 : D.lst [dview (rows.getD u [])] = drows [rows.getD u []] := rfl
      simp only [q_seq, q_if, q_cmp, q_var, q_look, q_lst, q_args, q_args0, q_lit, List.getElem?_cons_zero, List.getElem?_cons_succ, R.bind_ok, c_eq, e, t_bl, ofR_ok, if_true, q_set, q_ix, q_bin, im, q_blt, len_rows, im2, iu, e1, List.set_cons_zero, List.set_cons_succ, q_ret, q_tup, q_end_rt]
    · rw [decide_eq_false ho] at e
      exact ⟨is, o, by simp only [q_seq, q_if, q_cmp, q_var, q_look, q_lst, q_args, q_args0, q_lit, List.getElem?_cons_zero, List.getElem?_cons_succ, R.bind_ok, c_eq, e, t_bl, ofR_ok, Bool.false_eq_true, if_false, q_nil, q_ret, q_tup, q_end_rt], Ag.of_sub hi (by rw [hrows]; exact hs) ho, hlen⟩
  simp only [b__law_agenda, q_seq_set, q_call, q_args, q_args0, q_var, q_look, q_lit, q_bin, q_ix, q_blt, List.getElem?_cons_zero, List.getElem?_cons_succ, R.bind_ok, b_add, n1, n3, n5, ofR_ok, i0, m0, f1, sn, lr, i1, m1, List.set_cons_zero, List.set_cons_succ, w0]
  by_cases h2 : q = 2
  · have e2 : decide ((q : Int) = 2) = true := by simp [h2]
    have e3 : decide ((q : Int) = 3) = false := by simp [h2]
    rw [e2] at eq2
    rw [e3] at eq3
    obtain ⟨is', ops, f, g⟩ := fin o1 none s1
    refine ⟨is', ops, ?_, g⟩
    rw [← f, seq_if_t (ρ' := [some (.scr ns), some (.int a), some (.int most), some (dns xs), some (dview is), some (drows rows), some (dns ms), some (.int q), some (drows o1), none, none, none, none, none, none]) (by simp [eq2]) (by simp [w1]), seq_if_f (by simp [eq3])]
  · have e2 : decide ((q : Int) = 2) = false := by simp; omega
    rw [e2] at eq2
    rw [seq_if_f (by simp [eq2])]
    by_cases h3 : q = 3
    · have e3 : decide ((q : Int) = 3) = true := by simp [h3]
      rw [e3] at eq3
      have lp : ∃ bars, sFor [10, 11, 13] (gN 10) (iRange [(eBin .Add (eLit (.int 1)) (eBin .Mod (eIx (eVar 3) (eLit (.int 2))) (eLit (.int 4))))]) (f__law_agenda_1 (run T (n + 3))) [some (.scr ns), some (.int a), some (.int most), some (dns xs), some (dview is), some (drows rows), some (dns ms), some (.int q), some (drows o0), some (drows []), none, none, none, none, none] =
          .nx [some (.scr ns), some (.int a), some (.int most), some (dns xs), some (dview is), some (drows rows), some (dns ms), some (.int q), some (drows o0), some (drows bars), none, none, none, none, none] := by
        have hit : (iRange [(eBin .Add (eLit (.int 1)) (eBin .Mod (eIx (eVar 3) (eLit (.int 2))) (eLit (.int 4))))]) [some (.scr ns), some (.int a), some (.int most), some (dns xs), some (dview is), some (drows rows), some (dns ms), some (.int q), some (drows o0), some (drows []), none, none, none, none, none] = .ok ((List.range (1 + q2)).map fun (k : Nat) => .int k) := by
          have r1 := f_rangeZ (z := 1 + (q2 : Int)) (n := 1 + q2) (by omega) (by omega)
          simp only [q_irange, q_args, q_args0, q_bin, q_lit, q_ix, q_var, q_look, List.getElem?_cons_zero, List.getElem?_cons_succ, R.bind_ok, i2, m2, b_add, r1]
        obtain ⟨ρ', g1, bars, g2, g3⟩ := sFor_inv (kl := [10, 11, 13]) (g := gN 10) (b := f__law_agenda_1 (run T (n + 3))) hit
          (fun i ρ => ∃ bars : List (List (List Nat)), ρ = [some (.scr ns), some (.int a), some (.int most), some (dns xs), some (dview is), some (drows rows), some (dns ms), some (.int q), some (drows o0), some (drows bars), none, none, none, none, none] ∧ bars.length = i) ⟨[], rfl, rfl⟩ (by
          rintro j x ρ hx ⟨bars, rfl, hb⟩
          obtain ⟨hj, rfl⟩ := range_at hx
          obtain ⟨bar, ρ', p1, p2⟩ := law_agenda_bar (run T (n + 3)) (e0 := some (.scr ns)) (e1 := some (.int a)) (e2 := some (.int most)) (e5 := some (drows rows)) (e7 := some (.int q)) (e8 := some (drows o0)) (e12 := none) (e14 := none) (is := is) (ns := xs) (ms := ms) (bars := bars) (k := j) hi n2 n6 (by omega) (by omega)
          exact ⟨_, ρ', rfl, .inl p1, bars ++ [bar], p2, by rw [List.length_append, hb]; rfl⟩)
        subst g2
        exact ⟨bars, g1⟩
      obtain ⟨bars, lp⟩ := lp
      have w3 : eComp [12] (gN 12) (iSeq (eVar 5)) [(eCmp .Eq (eComp [14] (gN 14) (iSeq (eVar 9)) [(eCall (run T (n + 3)) "_law_has" [(eVar 12), (eVar 14)])] (eVar 14)) (eLst []))] (eVar 12) [some (.scr ns), some (.int a), some (.int most), some (dns xs), some (dview is), some (drows rows), some (dns ms), some (.int q), some (drows o0), some (drows bars), none, none, none, none, none] =
          .ok (drows (rows.filter fun r => decide (bars.filter (fun b => b.all fun v => decide (v ∈ r)) = []))) := by
        rw [comp_fil rows dview dview (fun r => decide (bars.filter (fun b => b.all fun v => decide (v ∈ r)) = [])) (by simp [seq_rows]) fun r hr => by
          simp only [q_compF, q_gN, q_kill, q_kill0, List.set_cons_zero, List.set_cons_succ, R.bind_ok, q_tests, q_tests0, q_cmp]
          rw [comp_fil bars dview dview (fun b => b.all fun v => decide (v ∈ r)) (by simp [seq_rows]) fun b hb => by
            have := law_has_eq (T := T) (n + 2) r b
            cases hc : b.all fun v => decide (v ∈ r) <;> rw [hc] at this <;> simp [this]]
          have e := drows_eq0 (bars.filter fun b => b.all fun v => decide (v ∈ r))
          have e : eqD (.lst ((bars.filter fun b => b.all fun v => decide (v ∈ r)).map dview)) (.lst []) = _ := e
          simp only [R.bind_ok, q_lst, q_args0, c_eq, e, t_bl]
          cases hc : decide (bars.filter (fun b => b.all fun v => decide (v ∈ r)) = []) <;> simp]
        rfl
      obtain ⟨is', ops, f, g⟩ := fin _ (some (drows bars)) (List.filter_sublist (l := rows) (p := fun r => decide (bars.filter (fun b => b.all fun v => decide (v ∈ r)) = [])))
      refine ⟨is', ops, ?_, g⟩
      rw [← f]
      have l0 : D.lst [] = drows [] := rfl
      rw [seq_if_t (ρ' := [some (.scr ns), some (.int a), some (.int most), some (dns xs), some (dview is), some (drows rows), some (dns ms), some (.int q), some (drows (rows.filter fun r => decide (bars.filter (fun b => b.all fun v => decide (v ∈ r)) = []))), some (drows bars), none, none, none, none, none]) (by simp [eq3]) (by
        simp only [q_seq, q_set, q_lst, q_args0, R.bind_ok, ofR_ok, List.set_cons_zero, List.set_cons_succ, l0, lp, w3])]
    · have e3 : decide ((q : Int) = 3) = false := by simp; omega
      rw [e3] at eq3
      obtain ⟨is', ops, f, g⟩ := fin o0 none s0
      refine ⟨is', ops, ?_, g⟩
      rw [← f]
      rw [seq_if_f (by simp [eq3])]
end Lb
/-! agendas: what views settle -/
namespace Lb
open PySem PySem.Spec PyProof.Rows Z
variable {T : Str → Option Fd} {is : List (List Nat)} {ops : List (List (List Nat))}
/-- a triple that stands for a verdict in a law's sorting -/
def dtrip (v : List Nat) : D := .tup [dtx (issueOf v), .int (if !isYes v then 1 else 0), dtx v]
def ktrip (v : List Nat) : PyData := .tuple [.str (tx (issueOf v)), mk2 (!isYes v), .str (tx v)]
theorem dtrip_py (v : List Nat) : toPy (dtrip v) = ktrip v := rfl
theorem ktrip_alike (a b : List Nat) : PySem.W.alike (ktrip a) (ktrip b) = true := by
  simp [ktrip, PySem.W.alike, PySem.W.alikeAll, mk_2.al]
theorem ktrip_lt (a b : List Nat) : PySem.W.dataLt (ktrip a) (ktrip b) = vltB a b := by
  unfold ktrip
  rw [PySem.W.dataLt_tuple, PySem.W.dataLt_cons (by simp [PySem.W.alike]), eqv_str, PySem.W.dataLt_cons (mk_2.al _ _), mk_2.eq, mk_2.lt, PySem.W.dataLt_cons (by simp [PySem.W.alike]), eqv_str, PySem.W.dataLt_str, PySem.W.dataLt_str, tx_cps, tx_cps, tx_cps, tx_cps]
  unfold vltB
  by_cases h : issueOf a = issueOf b
  · rw [if_pos (decide_eq_true h), if_pos h]
    by_cases q : (!isYes a) = (!isYes b)
    · have e : a = b := key_inj h (by simpa using q)
      subst e
      rw [if_pos (decide_eq_true q), if_pos (decide_eq_true rfl)]
      have irr : PyProof.Rows.lexLt itemOrd (PySem.W.keyToksAll []) (PySem.W.keyToksAll []) = false := (listOrd itemOrd).irrefl (PySem.W.keyToksAll [])
      rw [irr]
      simp
    · rw [if_neg (by simpa using q)]
      cases isYes a <;> cases isYes b <;> simp_all
  · rw [if_neg (by simpa using h), if_neg h]
theorem sorts_dtrip (a b : List Nat) : sorts (dtrip a) (dtrip b) = true := by
  unfold sorts fine
  rw [dtrip_py, dtrip_py, ktrip_alike]
  simp [ktrip, mk2, PyData.plain, PyData.plainAll, PyData.depth, PyData.depthAll, dtrip]
theorem sorted_of {α : Type} {as : List α} {k : α → D} {le : α → α → Bool} (hs : sortable (as.map k) = true) (hle : ∀ a ∈ as, ∀ b ∈ as, (!PySem.W.dataLt (toPy (k b)) (toPy (k a))) = le a b) : bltD .sorted [.lst (as.map k)] = .ok (.lst ((as.mergeSort le).map k)) := by
  show chk (sortable (as.map k)) (R.ok (D.lst (sortL (as.map k)))) = _
  rw [hs, chk_true]
  unfold sortL
  rw [← List.map_mergeSort (r := le) (f := k) fun a ha b hb => (hle a ha b hb).symm]
theorem law_view_eq [C__law_view T] (n : Nat) {ys : List (List Nat)} (h : ∀ y ∈ ys, Vt y) : run T (n + 2) "_law_view" [dview ys] = .ok (dview (sortY ys)) := by
  rw [r__law_view]
  simp only [b__law_view, q_ret]
  have c1 : eComp [2] (gN 2) (iSeq (eVar 0)) [] (eTup [(eCall (run T (n + 1)) "_law_issue" [(eVar 2)]), (eBlt .int [(eCmp .Eq (eIx (eVar 2) (eLit (.int 0))) (eLit (.str "!")))]), (eVar 2)]) [some (dview ys), none, none] = .ok (.lst (ys.map dtrip)) := by
    rw [comp_all ys dtx dtrip (by simp [seq_view]) fun v hv => by
      have hv := h v hv
      have i2 := law_issue_eq (T := T) n hv
      obtain ⟨c, r, rfl⟩ := hv.cons
      by_cases hc : c = 33
      · subst hc
        simp [i2, litb, ix0 hv, dtrip, isYes]
      · simp [i2, litb, ix0 hv, dtrip, isYes, hc]]
  have s1 := sorted_of (as := ys) (k := dtrip) (le := fun a b => !vltB b a) (sortable_of ys sorts_dtrip (.inr fun _ => rfl)) (fun a _ b _ => by rw [dtrip_py, dtrip_py, ktrip_lt])
  rw [comp_all (sortY ys) dtrip dtx (by simp only [q_iseq, q_blt, q_args, q_args0, c1, R.bind_ok, s1]; rfl) fun v hv => by
    have i1 : ixD (dtrip v) (.int 2) = .ok (dtx v) := by
      have : L2.atI [dtx (issueOf v), D.int (if !isYes v then 1 else 0), dtx v] ((2 : Nat) : Int) = some (dtx v) := L2.atI_nat rfl
      show (match L2.atI [dtx (issueOf v), D.int (if !isYes v then 1 else 0), dtx v] 2 with | some d => R.ok d | none => R.no) = _
      rw [show (2 : Int) = ((2 : Nat) : Int) from rfl, this]
    simp [i1]]
  rfl
theorem app_view1 {v : List (List Nat)} {y : List Nat} (h : v.length ≤ 1000) : binD .Add (dview v) (.lst [dtx y]) = .ok (dview (v ++ [y])) := add_view (a := v) (b := [y]) (by simp; omega)
theorem with_verdict_eq [C_with_verdict T] (n : Nat) {v : List (List Nat)} {y : List Nat} (h : ∀ z ∈ v, Vt z) (hy : Vt y) (hl : v.length ≤ 1000) : run T (n + 6) "with_verdict" [dview v, dtx y] = .ok (dview (sortY (v ++ [y]))) := by
  rw [r_with_verdict]
  have s1 := sorted_view_eq (T := T) n (ys := v ++ [y]) fun z hz => by
    rcases List.mem_append.mp hz with q | q
    · exact h z q
    · have q : z = y := by simpa using q
      rw [q]; exact hy
  simp [b_with_verdict, app_view1 hl, s1]
/-- does a view settle a verdict, as the program asks -/
def settlesB (ops : List (List (List Nat))) (v : List (List Nat)) (y : List Nat) : Bool := match v.find? fun z => decide (issueOf z = issueOf y) with
  | some z => decide (z = y)
  | none => !decide (sortY (v ++ [opp y]) ∈ hangK ops)
theorem settles_eq [C_settles T] (n : Nat) {v : List (List Nat)} {y : List Nat} (h : ∀ z ∈ v, Vt z) (hy : Vt y) (hy2 : Vt (opp y)) (hl : v.length ≤ 1000) : run T (n + 7) "settles" [dAg is ops, dview v, dtx y] = .ok (.bl (settlesB ops v y)) := by
  rw [r_settles]
  have i1 := issue_of_eq (T := T) (n + 4) hy
  have v1 := verdict_on_eq (T := T) (n + 3) (issue := issueOf y) h
  have o1 := opposite_eq (T := T) (n + 4) hy
  have w1 := with_verdict_eq (T := T) n h hy2 hl
  have h1 := ag_hangs_eq (T := T) (is := is) (ops := ops) (n + 5) (sortY (v ++ [opp y]))
  unfold settlesB
  cases hf : v.find? fun z => decide (issueOf z = issueOf y) with
  | none =>
    rw [hf] at v1
    simp [b_settles, i1, v1, isNone, o1, w1, h1]
  | some z =>
    rw [hf] at v1
    have e : isNone (dtx z) = false := rfl
    simp [b_settles, i1, v1, e]
theorem both_vd (hi : ∀ x ∈ is, It x) {y : List Nat} (h : y ∈ bothOf is) : Vd is y := by
  unfold bothOf at h
  obtain ⟨x, hx, q⟩ := List.mem_flatMap.mp h
  exact ⟨x, hx, by simpa using q⟩
theorem vd_both {y : List Nat} (h : Vd is y) : y ∈ bothOf is := by
  obtain ⟨x, hx, q⟩ := h
  exact List.mem_flatMap.mpr ⟨x, hx, by simpa using q⟩
theorem settled_eq [C_settled T] (n : Nat) (h : Ag is ops) {v : List (List Nat)} (hv : ∀ z ∈ v, Vt z) (hl : v.length ≤ 1000) : run T (n + 8) "settled" [dAg is ops, dview v] = .ok (dview ((bothOf is).filter (settlesB ops v))) := by
  rw [r_settled]
  simp only [b_settled, q_ret]
  have a1 := ag_verdicts_eq (T := T) (n + 5) h
  rw [comp_fil (bothOf is) dtx dtx (settlesB ops v) (by simp [a1, seq_view]) fun y hy => by
    have hy := both_vd h.its hy
    have s1 := settles_eq (T := T) (is := is) (ops := ops) n hv (hy.vt h.its) ((hy.opp h.its).vt h.its) hl
    cases hb : settlesB ops v y <;> rw [hb] at s1 <;> simp [s1]]
  rfl
/-- the opinions that hold a view -/
def holding (ops : List (List (List Nat))) (v : List (List Nat)) : List (List (List Nat)) := ops.filter fun o => v.all fun y => decide (y ∈ o)
theorem mem_holding {o v : List (List Nat)} : o ∈ holding ops v ↔ o ∈ ops ∧ ∀ y ∈ v, y ∈ o := by
  unfold holding
  rw [List.mem_filter, List.all_eq_true]
  simp
/-- a view is not a contradiction -/
theorem hang_iff (h : Ag is ops) {v : List (List Nat)} (hv : Vw is v) : v ∈ hangK ops ↔ ∃ o ∈ ops, ∀ y ∈ v, y ∈ o := by
  rw [hangK_mem]
  constructor
  · rintro ⟨o, ho, s⟩
    exact ⟨o, ho, fun y hy => s.subset hy⟩
  · rintro ⟨o, ho, s⟩
    exact ⟨o, ho, (held_iff h.iss.lt hv (h.rw o ho).vw).mp s⟩
/-- a verdict put into a view that has none on its issue -/
theorem put_view (hi : Iss is) {v : List (List Nat)} {y : List Nat} (hv : Vw is v) (hy : Vd is y) (hn : ∀ z ∈ v, issueOf z ≠ issueOf y) : Vw is (sortY (v ++ [y])) ∧ ∀ z, z ∈ sortY (v ++ [y]) ↔ z ∈ v ∨ z = y := by
  refine ⟨sortY_view hi (fun z hz => ?_) ?_, fun z => by rw [(sortY_perm _).mem_iff, List.mem_append]; simp⟩
  · rcases List.mem_append.mp hz with q | q
    · exact hv.each z q
    · have q : z = y := by simpa using q
      rw [q]; exact hy
  · rw [List.map_append, List.nodup_append]
    refine ⟨?_, by simp, fun a ha b hb => ?_⟩
    · rw [List.nodup_iff_pairwise_ne, List.pairwise_map]
      exact (hv.lt hi.lt).imp fun {a b} q (e : issueOf a = issueOf b) => slt_irrefl (issueOf b) (by rw [e] at q; exact q)
    · obtain ⟨z, hz, rfl⟩ := List.mem_map.mp ha
      have hb : b = issueOf y := by simpa using hb
      rw [hb]
      exact hn z hz
/-- what the program says of a view that hangs together -/
theorem settles_iff (h : Ag is ops) {v : List (List Nat)} {y : List Nat} (hv : Vw is v) (hy : Vd is y) (hh : ∃ o ∈ ops, ∀ z ∈ v, z ∈ o) : settlesB ops v y = true ↔ ∀ o ∈ holding ops v, y ∈ o := by
  unfold settlesB
  cases hf : v.find? fun z => decide (issueOf z = issueOf y) with
  | some z =>
    have hz := List.mem_of_find?_eq_some hf
    have e : issueOf z = issueOf y := by simpa using List.find?_some hf
    rw [decide_eq_true_eq]
    constructor
    · rintro rfl o ho
      exact (mem_holding.mp ho).2 z hz
    · intro q
      obtain ⟨o, ho, s⟩ := hh
      have yo := q o (mem_holding.mpr ⟨ho, s⟩)
      exact (h.rw o ho).vw.uniq h.iss (s z hz) yo e
  | none =>
    have hn : ∀ z ∈ v, issueOf z ≠ issueOf y := fun z hz e => by
      have := List.find?_eq_none.mp hf z hz
      simp [e] at this
    have hn2 : ∀ z ∈ v, issueOf z ≠ issueOf (opp y) := fun z hz => by rw [hy.issue_opp h.its]; exact hn z hz
    obtain ⟨w1, w2⟩ := put_view h.iss hv (hy.opp h.its) hn2
    rw [Bool.not_eq_true', decide_eq_false_iff_not, hang_iff h w1]
    constructor
    · intro q o ho
      obtain ⟨ho, s⟩ := mem_holding.mp ho
      by_cases yo : y ∈ o
      · exact yo
      · refine absurd ⟨o, ho, fun z hz => ?_⟩ q
        rcases (w2 z).mp hz with e | e
        · exact s z e
        · rw [e]; exact ((h.rw o ho).xor h.iss hy).mpr yo
    · rintro q ⟨o, ho, s⟩
      have yo := q o (mem_holding.mpr ⟨ho, fun z hz => s z ((w2 z).mpr (.inl hz))⟩)
      exact ((h.rw o ho).xor h.iss hy).mp (s (opp y) ((w2 _).mpr (.inr rfl))) yo
/-- the verdicts of all opinions that hold the view -/
def dueOf (is : List (List Nat)) (ops : List (List (List Nat))) (v : List (List Nat)) : List (List Nat) := (bothOf is).filter fun y => (holding ops v).all fun o => decide (y ∈ o)
theorem settled_due (h : Ag is ops) {v : List (List Nat)} (hv : Vw is v) (hh : ∃ o ∈ ops, ∀ z ∈ v, z ∈ o) : (bothOf is).filter (settlesB ops v) = dueOf is ops v := by
  unfold dueOf
  refine List.filter_congr fun y hy => ?_
  rw [Bool.eq_iff_iff, settles_iff h hv (both_vd h.its hy) hh, List.all_eq_true]
  simp
theorem both_row (hi : Iss is) {r : List (List Nat)} (hr : Rw is r) : (bothOf is).filter (fun y => decide (y ∈ r)) = r := by
  have key : ∀ (js : List (List Nat)) (q : List (List Nat)), q.map issueOf = js → (∀ x ∈ js, It x) → (∀ y ∈ q, Vd js y) → js.Nodup → (bothOf js).filter (fun y => decide (y ∈ q)) = q := by
    intro js
    induction js with
    | nil =>
      intro q hq _ _ _
      have : q = [] := by simpa using hq
      subst this
      rfl
    | cons x js ih =>
      intro q hq hi hv hn
      cases q with
      | nil => simp at hq
      | cons y q =>
        rw [List.map_cons, List.cons.injEq] at hq
        obtain ⟨e1, e2⟩ := hq
        rw [List.nodup_cons] at hn
        have hx := hi x List.mem_cons_self
        have it : ∀ z ∈ js, It z := fun z hz => hi z (List.mem_cons_of_mem _ hz)
        have hy : y = x ∨ y = bang x := by
          obtain ⟨u, hu, q | q⟩ := hv y List.mem_cons_self
          · have hu' := hi u hu
            rw [q, hu'.issue] at e1; left; rw [q, e1]
          · rw [q, issue_bang] at e1; right; rw [q, e1]
        have hq : ∀ z ∈ q, issueOf z ≠ x := fun z hz e => hn.1 (by rw [← e2, ← e]; exact List.mem_map.mpr ⟨z, hz, rfl⟩)
        have vq : ∀ z ∈ q, Vd js z := fun z hz => by
          obtain ⟨u, hu, p⟩ := hv z (List.mem_cons_of_mem _ hz)
          rcases List.mem_cons.mp hu with e | e
          · subst e
            rcases p with p | p
            · exact absurd (by rw [p, hx.issue]) (hq z hz)
            · exact absurd (by rw [p, issue_bang]) (hq z hz)
          · exact ⟨u, e, p⟩
        have rest : (bothOf js).filter (fun z => decide (z ∈ y :: q)) = q := by
          rw [← ih q e2 it vq hn.2]
          refine List.filter_congr fun z hz => ?_
          have ne : z ≠ y := fun e => by
            have := (both_vd it hz).iss it
            rw [e, e1] at this
            exact hn.1 this
          simp [ne, ih q e2 it vq hn.2]
        have x1 : x ∉ q := fun m => hq x m hx.issue
        have x2 : bang x ∉ q := fun m => hq (bang x) m (issue_bang x)
        have e : bothOf (x :: js) = [x, bang x] ++ bothOf js := by unfold bothOf; rw [List.flatMap_cons]
        rw [e, List.filter_append, rest]
        rcases hy with hy | hy
        · subst hy
          have b : bang y ≠ y := bang_ne y
          simp [x2, b]
        · subst hy
          have b : x ≠ bang x := fun z => bang_ne x z.symm
          simp [x1, b]
  exact key is r hr.all hi.its hr.each hi.nodup
/-- what is due is a part of each opinion that holds the view -/
theorem due_sub (h : Ag is ops) {v o : List (List Nat)} (ho : o ∈ holding ops v) : (dueOf is ops v).Sublist o := by
  have hr := h.rw o (mem_holding.mp ho).1
  have e : dueOf is ops v = o.filter fun y => (holding ops v).all fun o => decide (y ∈ o) := by
    conv => rhs; rw [← both_row h.iss hr]
    rw [List.filter_filter]
    unfold dueOf
    refine List.filter_congr fun y _ => ?_
    cases hc : (holding ops v).all fun o => decide (y ∈ o) with
    | false => simp
    | true =>
      have : y ∈ o := by simpa using List.all_eq_true.mp hc o ho
      simp [this]
  rw [e]
  exact List.filter_sublist
theorem due_vw (h : Ag is ops) {v : List (List Nat)} (hh : ∃ o ∈ ops, ∀ z ∈ v, z ∈ o) : Vw is (dueOf is ops v) := by
  obtain ⟨o, ho, s⟩ := hh
  exact (h.rw o ho).vw.of_sub (due_sub h (mem_holding.mpr ⟨ho, s⟩))
theorem due_mem (h : Ag is ops) {v : List (List Nat)} {y : List Nat} : y ∈ dueOf is ops v ↔ Vd is y ∧ ∀ o ∈ holding ops v, y ∈ o := by
  unfold dueOf
  rw [List.mem_filter, List.all_eq_true]
  constructor
  · exact fun ⟨a, b⟩ => ⟨both_vd h.its a, fun o ho => by simpa using b o ho⟩
  · exact fun ⟨a, b⟩ => ⟨vd_both a, fun o ho => by simpa using b o ho⟩
theorem due_holds (h : Ag is ops) {v : List (List Nat)} (hv : Vw is v) : ∀ y ∈ v, y ∈ dueOf is ops v := fun y hy => (due_mem h).mpr ⟨hv.each y hy, fun o ho => (mem_holding.mp ho).2 y hy⟩
theorem holding_due (h : Ag is ops) {v : List (List Nat)} (hv : Vw is v) : holding ops (dueOf is ops v) = holding ops v := by
  refine List.filter_congr fun o ho => ?_
  rw [Bool.eq_iff_iff, List.all_eq_true, List.all_eq_true]
  constructor
  · exact fun q y hy => q y (due_holds h hv y hy)
  · intro q y hy
    have ho : o ∈ holding ops v := mem_holding.mpr ⟨ho, fun z hz => by simpa using q z hz⟩
    simpa using ((due_mem h).mp hy).2 o ho
theorem due_due (h : Ag is ops) {v : List (List Nat)} (hv : Vw is v) : dueOf is ops (dueOf is ops v) = dueOf is ops v := by
  unfold dueOf
  have := holding_due h hv
  unfold dueOf at this
  rw [this]
theorem due_row (h : Ag is ops) {r : List (List Nat)} (hr : r ∈ ops) : dueOf is ops r = r := by
  have w := h.rw r hr
  have e : ∀ o ∈ holding ops r, o = r := fun o ho => by
    obtain ⟨ho, s⟩ := mem_holding.mp ho
    exact (((held_iff h.iss.lt w.vw (h.rw o ho).vw).mp s).eq_of_length_le (by rw [(h.rw o ho).len, w.len]; exact Nat.le_refl _)).symm
  have m : r ∈ holding ops r := mem_holding.mpr ⟨hr, fun y hy => hy⟩
  unfold dueOf
  rw [← both_row h.iss w]
  conv => lhs; rw [both_row h.iss w]
  refine List.filter_congr fun y _ => ?_
  rw [Bool.eq_iff_iff, List.all_eq_true, decide_eq_true_eq]
  constructor
  · exact fun q => by simpa using q r m
  · intro q o ho
    rw [e o ho]
    exact decide_eq_true q
end Lb
/-! drawn agendas and panels: the second form -/
namespace Z
open PySem PySem.Spec PyProof.Rows
section
variable {own : List Nat} {g : ZG} {it : ZI} {cs : List ZE} {e : ZE} {ρ : Env}
/-- a comprehension over something, of which some are kept -/
theorem comp_sub {α : Type} (as : List α) (f h : α → D) (hit : it ρ = .ok (as.map f)) (hx : ∀ a ∈ as, ∃ b : Bool, compF own g cs e ρ (f a) = .ok (if b = true then some (h a) else none)) : ∃ s : List α, s.Sublist as ∧ eComp own g it cs e ρ = .ok (.lst (s.map h)) := by
  have : ∃ s : List α, s.Sublist as ∧ compL (compF own g cs e ρ) (as.map f) = .ok (s.map h) := by
    clear hit
    induction as with
    | nil => exact ⟨[], List.Sublist.refl _, rfl⟩
    | cons a as ih =>
      obtain ⟨s, s1, s2⟩ := ih fun b hb => hx b (List.mem_cons_of_mem _ hb)
      obtain ⟨b, hb⟩ := hx a List.mem_cons_self
      rw [List.map_cons]
      unfold compL
      rw [hb, s2]
      cases b
      · exact ⟨s, s1.cons _, rfl⟩
      · exact ⟨a :: s, s1.cons₂ _, rfl⟩
  obtain ⟨s, s1, s2⟩ := this
  refine ⟨s, s1, ?_⟩
  rw [q_comp, hit]
  show (compL (compF own g cs e ρ) (as.map f)).bind _ = _
  rw [s2]
  rfl
/-- a comprehension all of whose members are right -/
theorem comp_ex {α β : Type} (as : List α) (f : α → D) (h : β → D) (P : β → Prop) (hit : it ρ = .ok (as.map f)) (hx : ∀ a ∈ as, ∃ b : Option β, (∀ x, b = some x → P x) ∧ compF own g cs e ρ (f a) = .ok (b.map h)) : ∃ l : List β, (∀ x ∈ l, P x) ∧ l.length ≤ as.length ∧ eComp own g it cs e ρ = .ok (.lst (l.map h)) := by
  have : ∃ l : List β, (∀ x ∈ l, P x) ∧ l.length ≤ as.length ∧ compL (compF own g cs e ρ) (as.map f) = .ok (l.map h) := by
    clear hit
    induction as with
    | nil => exact ⟨[], by simp, by simp, rfl⟩
    | cons a as ih =>
      obtain ⟨s, s1, s2, s3⟩ := ih fun b hb => hx b (List.mem_cons_of_mem _ hb)
      obtain ⟨b, hb, hb2⟩ := hx a List.mem_cons_self
      rw [List.map_cons]
      unfold compL
      rw [hb2, s3]
      cases b with
      | none => exact ⟨s, s1, by simp; omega, rfl⟩
      | some b => exact ⟨b :: s, fun x hx => by rcases List.mem_cons.mp hx with q | q; · rw [q]; exact hb b rfl
                                                · exact s1 x q, by simp; omega, rfl⟩
  obtain ⟨s, s1, s2, s3⟩ := this
  refine ⟨s, s1, s2, ?_⟩
  rw [q_comp, hit]
  show (compL (compF own g cs e ρ) (as.map f)).bind _ = _
  rw [s3]
  rfl
end
end Z
namespace Lb
open PySem PySem.Spec PyProof.Rows Z
variable {T : Str → Option Fd}
def sdg (n : Nat) : List Nat := ((toString (n : Int) : String) : Str).cps.toList
theorem sdg_ok : ∀ n < 1009, (sdg n).length ≤ 4 ∧ (sdg n).all (fun c => decide (48 ≤ c) && decide (c ≤ 57)) = true := by decide +kernel
theorem str_int {n : Nat} (h : n < 1009) : bltD .str [.int n] = .ok (dtx (sdg n)) := by
  show chk (decide ((n : Int).natAbs < 2 ^ 1000)) (R.ok (D.str _)) = _
  have : (n : Int).natAbs < 2 ^ 1000 := by
    have : (1009 : Nat) ≤ 2 ^ 1000 := by decide +kernel
    simp; omega
  rw [decide_eq_true this]
  unfold dtx sdg
  rw [tx_of]
  rfl
def abc (n : Nat) : List Nat := (List.range n).map (97 + ·)
theorem abc6 : (("abcdef" : String) : Str) = tx (abc 6) := by decide +kernel
theorem abc12 : (("abcdefghijkl" : String) : Str) = tx (abc 12) := by decide +kernel
theorem abc_at {n k : Nat} (h : k < n) : (abc n)[k]? = some (97 + k) := by unfold abc; rw [List.getElem?_map, List.getElem?_range h]; rfl
theorem ix_abc6 {k : Nat} (h : k < 6) : ixD (.str ("abcdef" : String)) (.int k) = .ok (dtx [97 + k]) := by
  rw [abc6]; exact ix_tx (abc_at h) (by decide)
theorem ix_abc12 {k : Nat} (h : k < 12) : ixD (.str ("abcdefghijkl" : String)) (.int k) = .ok (dtx [97 + k]) := by
  rw [abc12]; exact ix_tx (abc_at h) (by decide)
theorem emp : D.str ("" : String) = dtx [] := rfl
theorem mm_cut {p : Nat} (h : p < 3) : cutD (.str ("mm" : String)) none (some (p : Int)) = .ok (dtx (List.replicate p 109)) := by
  match p, h with
  | 0, _ => rfl
  | 1, _ => rfl
  | 2, _ => rfl
/-- a drawn name -/
def dnm (p k : Nat) (s : List Nat) : List Nat := List.replicate p 109 ++ (97 + k) :: s
/-- what a name ends in -/
structure Sfx (s : List Nat) : Prop where
  len : s.length ≤ 4
  all : ∀ c ∈ s, 48 ≤ c ∧ c ≤ 57
theorem sfx_nil : Sfx [] := ⟨by simp, by simp⟩
theorem sfx_sdg {n : Nat} (h : n < 1009) : Sfx (sdg n) := ⟨(sdg_ok n h).1, fun c hc => by
  have := (sdg_ok n h).2
  rw [List.all_eq_true] at this
  simpa using this c hc⟩
theorem sfx_two {n q : Nat} (h : n < 1009) (s : List Nat) (e : s = if q = 0 then [] else sdg n) : Sfx s := by
  rw [e]
  split
  · exact sfx_nil
  · exact sfx_sdg h
theorem dnm_nm {p k : Nat} {s : List Nat} (hp : p ≤ 2) (hk : k < 26) (hs : Sfx s) : Nm (dnm p k s) := by
  refine ⟨?_, ?_, ?_⟩
  · unfold dnm
    cases p with
    | zero => exact ⟨97 + k, s, by simp, by omega, by omega⟩
    | succ p => exact ⟨109, List.replicate p 109 ++ (97 + k) :: s, by simp [List.replicate_succ], by omega, by omega⟩
  · have := hs.len
    simp [dnm]
    omega
  · intro c hc
    simp only [dnm, List.mem_append, List.mem_replicate, List.mem_cons] at hc
    rcases hc with ⟨_, rfl⟩ | rfl | hc
    · exact .inl (by omega)
    · exact .inl (by omega)
    · exact .inr (hs.all c hc)
theorem dnm_lt {p k k2 : Nat} {s s2 : List Nat} (h : k < k2) : dnm p k s < dnm p k2 s2 := by
  unfold dnm
  induction p with
  | zero => exact List.Lex.rel (by omega)
  | succ p ih => rw [List.replicate_succ, List.cons_append, List.cons_append]; exact List.Lex.cons ih
theorem add_dtx {a b : List Nat} (h : a.length + b.length ≤ 16777216) : binD .Add (dtx a) (dtx b) = .ok (dtx (a ++ b)) := add_tx h
theorem b_divn {a b : Nat} (h : 0 < b) (h2 : b < 1073741824) : binD .FloorDiv (.int a) (.int b) = .ok (.int ((a / b : Nat) : Int)) := by
  rw [b_div (by omega)]
  rfl
/-- the names of a drawn agenda -/
def issNm (xs : List Nat) (k : Nat) : List Nat := dnm (xs.getD 1 0 % 3) k (if xs.getD 8 0 / (k + 1) % 2 = 0 then [] else sdg (xs.getD (2 + k) 0))
theorem agenda_name (call : Call) {e0 e1 e2 e6 e7 e8 e9 e10 e11 e12 e13 : Option D} {xs : List Nat} {fs : List (List Nat)} {k : Nat} (hx : xs.length = 14) (hb : ∀ x ∈ xs, x < 1009) (hk : k < 6) (hf : fs.length = k) :
    f__law_agenda_v2_1 call [e0, e1, e2, some (dns xs), some (dview fs), some (.int k), e6, e7, e8, e9, e10, e11, e12, e13] = .nx [e0, e1, e2, some (dns xs), some (dview (fs ++ [issNm xs k])), some (.int k), e6, e7, e8, e9, e10, e11, e12, e13] := by
  have i1 : ixD (dns xs) (.int 1) = .ok (.int (xs.getD 1 0 : Nat)) := ix_nsd (k := 1) (by omega)
  have i8 : ixD (dns xs) (.int 8) = .ok (.int (xs.getD 8 0 : Nat)) := ix_nsd (k := 8) (by omega)
  have i2 : ixD (dns xs) (.int (2 + (k : Int))) = .ok (.int (xs.getD (2 + k) 0 : Nat)) := ix_nsd (k := 2 + k) (by omega)
  have bd : ∀ j, xs.getD j 0 < 1009 := fun j => by
    rw [List.getD_eq_getElem?_getD]
    cases h : xs[j]? with
    | none => simp
    | some v => exact hb v (List.mem_of_getElem? h)
  have b2 := bd (2 + k)
  unfold issNm
  generalize xs.getD 1 0 = z1 at *
  generalize xs.getD 8 0 = z8 at *
  generalize xs.getD (2 + k) 0 = z2 at *
  have m1 : binD .Mod (.int z1) (.int 3) = .ok (.int ((z1 % 3 : Nat) : Int)) := b_modn (a := z1) (b := 3) (by omega)
  have hp : z1 % 3 < 3 := Nat.mod_lt _ (by omega)
  generalize z1 % 3 = p at *
  have d1 : binD .FloorDiv (.int z8) (.int ((k : Int) + 1)) = .ok (.int ((z8 / (k + 1) : Nat) : Int)) := b_divn (a := z8) (b := k + 1) (by omega) (by omega)
  generalize z8 / (k + 1) = z9 at *
  have m2 : binD .Mod (.int z9) (.int 2) = .ok (.int ((z9 % 2 : Nat) : Int)) := b_modn (a := z9) (b := 2) (by omega)
  have hq : z9 % 2 < 2 := Nat.mod_lt _ (by omega)
  generalize z9 % 2 = q at *
  have t1 := two_of (a := dtx []) (b := dtx (sdg z2)) hq
  have e : (if q = 0 then dtx [] else dtx (sdg z2)) = dtx (if q = 0 then [] else sdg z2) := by split <;> rfl
  rw [e] at t1
  have sf := sfx_two (q := q) b2 _ rfl
  generalize (if q = 0 then [] else sdg z2) = s at *
  have a1 := add_dtx (a := List.replicate p 109) (b := [97 + k]) (by simp; omega)
  have a2 := add_dtx (a := List.replicate p 109 ++ [97 + k]) (b := s) (by have := sf.len; simp; omega)
  have e2 : List.replicate p 109 ++ [97 + k] ++ s = dnm p k s := by simp [dnm]
  rw [e2] at a2
  have ap := app_view (a := fs) (r := dnm p k s) (by omega)
  simp only [f__law_agenda_v2_1, q_app, q_bin, q_cut, q_lit, q_ix, q_var, q_look, q_lst, q_args, q_args0, q_blt, q_part, q_part0, List.getElem?_cons_zero, List.getElem?_cons_succ, R.bind_ok, i1, m1, mm_cut hp, ix_abc6 hk, a1, b_add, i2, str_int b2, i8, d1, m2, emp, t1, a2, ofR_ok, ap, List.set_cons_zero, List.set_cons_succ]
end Lb
/-! drawn agendas: the second form -/
namespace Lb
open PySem PySem.Spec PyProof.Rows Z
variable {T : Str → Option Fd}
theorem in_rows (v : List (List Nat)) (rs : List (List (List Nat))) : inD (dview v) (drows rs) = .ok (decide (v ∈ rs)) := by
  have h := inD_en (α := List Str) (by show (1 : Nat) ≤ 99; omega) (v.map tx) (rs.map fun r => r.map tx)
  rw [List.map_map] at h
  have e1 : (rs.map fun r => En.en (r.map tx)) = rs.map dview := List.map_congr_left fun r _ => en_view r
  have e2 : (rs.map ((fun r => En.en r) ∘ fun r : List (List Nat) => r.map tx)) = rs.map dview := e1
  rw [e2, en_view] at h
  rw [show drows rs = .lst (rs.map dview) from rfl, h]
  congr 1
  rw [decide_eq_decide]
  constructor
  · intro q
    obtain ⟨r, hr, e⟩ := List.mem_map.mp q
    have := map_inj (f := tx) (fun a b => tx_inj.mp) e
    rw [← this]; exact hr
  · intro q
    exact List.mem_map.mpr ⟨v, q, rfl⟩
theorem law_holds_eq [C__law_holds T] (n : Nat) (view other : List (List Nat)) : run T (n + 1) "_law_holds" [dview view, dview other] = .ok (.bl (other.all fun v => decide (v ∈ view))) := by
  rw [r__law_holds]
  simp only [b__law_holds, q_ret, q_cmp]
  rw [comp_fil other dtx dtx (fun v => !decide (v ∈ view)) (by simp [seq_view]) fun v hv => by
    by_cases h : v ∈ view <;> simp [in_dtx, h]]
  have e : eqD (.lst ((other.filter fun v => !decide (v ∈ view)).map dtx)) (.lst []) = .ok (decide (other.filter (fun v => !decide (v ∈ view)) = [])) := dview_eq0 _
  have e2 : decide (other.filter (fun v => !decide (v ∈ view)) = []) = other.all fun v => decide (v ∈ view) := by
    rw [Bool.eq_iff_iff, decide_eq_true_eq, List.filter_eq_nil_iff, List.all_eq_true]
    simp
  rw [e2] at e
  simp [e]
theorem dn_bd {xs : List Nat} (hb : ∀ x ∈ xs, x < 1009) (j : Nat) : xs.getD j 0 < 1009 := by
  rw [List.getD_eq_getElem?_getD]
  cases h : xs[j]? with
  | none => simp
  | some v => exact hb v (List.mem_of_getElem? h)
/-- the drawn names rise -/
theorem issNm_iss {xs : List Nat} (hb : ∀ x ∈ xs, x < 1009) {c : Nat} (h1 : 1 ≤ c) (h6 : c ≤ 6) : Iss ((List.range c).map (issNm xs)) := by
  refine ⟨?_, fun x hx => ?_, fun e => ?_, by simp; omega⟩
  · rw [List.pairwise_map]
    exact List.pairwise_lt_range.imp fun {a b} h => dnm_lt h
  · obtain ⟨k, hk, rfl⟩ := List.mem_map.mp hx
    have hk : k < c := by simpa using hk
    exact dnm_nm (by have := Nat.mod_lt (xs.getD 1 0) (show 0 < 3 by omega); omega) (by omega) (sfx_two (dn_bd hb (2 + k)) _ rfl)
  · have := congrArg List.length e
    simp at this
    omega
section
variable {is : List (List Nat)} {rows : List (List (List Nat))} {xs ds : List Nat} {scr a most : D} {kd : Nat}
/-- the frame, from the opinions on -/
abbrev agS (scr a most : D) (xs : List Nat) (is : List (List Nat)) (rows : List (List (List Nat))) (ds : List Nat) (kd : Nat) (o : List (List (List Nat))) (b ot : Option D) : Z.Env :=
  [some scr, some a, some most, some (dns xs), some (dview is), none, some (drows rows), some (dns ds), some (.int kd), some (drows o), b, ot, none, none]
theorem ag_comp0 (hi : ∀ x ∈ is, It x) (hr : rows = rowsOf is) (hx : xs.length = 14) (o : List (List (List Nat))) (b ot : Option D) :
    ∃ s : List (List (List Nat)), s.Sublist rows ∧ eComp [12] (gN 12) (iSeq (eVar 6)) [(eCmp .Eq (eBin .Mod (eBlt .len [(eComp [13] (gN 13) (iSeq (eVar 12)) [(eCmp .NotEq (eIx (eVar 13) (eLit (.int 0))) (eLit (.str "!")))] (eVar 13))]) (eLit (.int 2))) (eBin .Mod (eIx (eVar 3) (eLit (.int 11))) (eLit (.int 2))))] (eVar 12) (agS scr a most xs is rows ds kd o b ot) = .ok (drows s) := by
  refine comp_sub rows dview dview (by simp [agS, seq_rows]) fun r hr2 => ?_
  have rw' : Rw is r := (rows_mem hi).mp (by rw [← hr]; exact hr2)
  have i11 : ixD (dns xs) (.int 11) = .ok (.int (xs.getD 11 0 : Nat)) := ix_nsd (k := 11) (by omega)
  generalize xs.getD 11 0 = z at *
  have m1 : binD .Mod (.int z) (.int 2) = .ok (.int ((z % 2 : Nat) : Int)) := b_modn (a := z) (b := 2) (by omega)
  obtain ⟨s, s1, s2⟩ := comp_sub (own := [13]) (g := gN 13) (it := iSeq (eVar 12)) (cs := [(eCmp .NotEq (eIx (eVar 13) (eLit (.int 0))) (eLit (.str "!")))]) (e := eVar 13) (ρ := [some scr, some a, some most, some (dns xs), some (dview is), none, some (drows rows), some (dns ds), some (.int kd), some (drows o), b, ot, some (dview r), none]) r dtx dtx (by simp [seq_view]) fun y hy => by
    have hv := rw'.vw.vt hi y hy
    obtain ⟨c, t, rfl⟩ := hv.cons
    have i0 := ix0 hv
    have e1 := eq_tx [c] [33]
    unfold dtx at i0
    exact ⟨!decide ([c] = [33]), by
      by_cases hc : c = 33
      · subst hc; simp [i0, litb, dtx, e1]
      · simp [i0, litb, dtx, e1, hc]⟩
  have m2 : binD .Mod (.int s.length) (.int 2) = .ok (.int ((s.length % 2 : Nat) : Int)) := b_modn (a := s.length) (b := 2) (by omega)
  have e2 := eq_int ((s.length % 2 : Nat) : Int) ((z % 2 : Nat) : Int)
  have ln : bltD .len [.lst (s.map dtx)] = .ok (.int s.length) := len_view (v := s)
  generalize decide (((s.length % 2 : Nat) : Int) = ((z % 2 : Nat) : Int)) = bb at *
  refine ⟨bb, ?_⟩
  generalize s.length % 2 = u1 at *
  generalize z % 2 = u2 at *
  simp only [q_compF, q_gN, q_kill, q_kill0, List.set_cons_zero, List.set_cons_succ, R.bind_ok, q_tests, q_tests0, q_cmp, q_bin, q_blt, q_args, q_args0, s2, ln, q_ix, q_var, q_look, q_lit, List.getElem?_cons_zero, List.getElem?_cons_succ, m2, i11, m1, c_eq, e2, t_bl]
  cases bb <;> simp
/-- a row taken, and its verdict -/
theorem ag_bar (hi : ∀ x ∈ is, It x) (hr : rows = rowsOf is) (hd : ds.length = 32) (hl : is.length ≤ 6) (e9 : Option D) (b ot : Option D) (cnd : ZE) (i0 : Nat) (hi0 : i0 < 32)
    (hc : ∀ k < is.length, ∃ v : Bool, cnd [some scr, some a, some most, some (dns xs), some (dview is), some (.int (k : Int)), some (drows rows), some (dns ds), some (.int kd), e9, b, ot, none, none] = .ok (.bl v)) :
    ∃ l : List (List Nat), l.length ≤ 6 ∧ eComp [5] (gN 5) (iRange [(eBlt .len [(eVar 4)])]) [cnd] (eIx (eIx (eVar 6) (eBin .Mod (eIx (eVar 7) (eLit (.int (i0 : Int)))) (eBlt .len [(eVar 6)]))) (eVar 5))
      [some scr, some a, some most, some (dns xs), some (dview is), none, some (drows rows), some (dns ds), some (.int kd), e9, b, ot, none, none] = .ok (dview l) := by
  have rl := rowsOf_len is
  rw [← hr] at rl
  have rpos : 0 < rows.length := by rw [rl]; exact Nat.pow_pos (by omega)
  have j1 : ixD (dns ds) (.int (i0 : Int)) = .ok (.int (ds.getD i0 0 : Nat)) := ix_nsd (k := i0) (by omega)
  have hmod : ds.getD i0 0 % rows.length < rows.length := Nat.mod_lt _ rpos
  have m1 := b_modn (a := ds.getD i0 0) rpos
  generalize ds.getD i0 0 % rows.length = u at m1 hmod
  generalize ds.getD i0 0 = u' at m1 j1
  have iu := ix_rows hmod
  have hrow : rows.getD u [] ∈ rows := by rw [List.getD_eq_getElem?_getD, List.getElem?_eq_getElem hmod]; exact List.getElem_mem _
  generalize rows.getD u [] = r at iu hrow
  have rw' : Rw is r := (rows_mem hi).mp (by rw [← hr]; exact hrow)
  have rln := rw'.len
  have rg := f_range (n := is.length) (by omega)
  obtain ⟨l, l1, l2, l3⟩ := comp_ex (own := [5]) (g := gN 5) (it := iRange [(eBlt .len [(eVar 4)])]) (cs := [cnd]) (e := eIx (eIx (eVar 6) (eBin .Mod (eIx (eVar 7) (eLit (.int (i0 : Int)))) (eBlt .len [(eVar 6)]))) (eVar 5))
    (ρ := [some scr, some a, some most, some (dns xs), some (dview is), none, some (drows rows), some (dns ds), some (.int kd), e9, b, ot, none, none]) (List.range is.length) (fun (k : Nat) => .int k) dtx (fun _ => True) (by simp [rg]) fun k hk => by
      have hk : k < is.length := by simpa using hk
      obtain ⟨v, hv⟩ := hc k hk
      have iv := ix_view (rs := r) (k := k) (by omega)
      cases v with
      | false => exact ⟨none, by simp, by simp [hv]⟩
      | true => exact ⟨some (r.getD k []), by simp, by simp [hv, j1, m1, iu, iv]⟩
  rw [List.length_range] at l2
  exact ⟨l, by omega, l3⟩
theorem ag_comp1 [C__law_holds T] (n : Nat) (o : List (List (List Nat))) (l m : List (List Nat)) :
    ∃ s : List (List (List Nat)), s.Sublist rows ∧ eComp [12] (gN 12) (iSeq (eVar 6)) [(eAnd (eCmp .NotEq (eVar 10) (eLst [])) (eAnd (eNot (eCall (run T (n + 1)) "_law_holds" [(eVar 12), (eVar 10)])) (eOr (eCmp .Eq (eVar 11) (eLst [])) (eNot (eCall (run T (n + 1)) "_law_holds" [(eVar 12), (eVar 11)])))))] (eVar 12)
      (agS scr a most xs is rows ds kd o (some (dview l)) (some (dview m))) = .ok (drows s) := by
  refine comp_sub rows dview dview (by simp [agS, seq_rows]) fun r hr2 => ?_
  have h1 := law_holds_eq (T := T) n r l
  have h2 := law_holds_eq (T := T) n r m
  have e1 := dview_eq0 l
  have e2 := dview_eq0 m
  generalize (l.all fun v => decide (v ∈ r)) = b1 at *
  generalize (m.all fun v => decide (v ∈ r)) = b2 at *
  generalize decide (l = []) = b3 at *
  generalize decide (m = []) = b4 at *
  refine ⟨!b3 && (!b1 && (b4 || !b2)), ?_⟩
  cases b1 <;> cases b2 <;> cases b3 <;> cases b4 <;> simp [h1, h2, e1, e2]
theorem ag_comp2 (hd : ds.length = 32) (hr : rows = rowsOf is) (hx : xs.length = 14) (o : List (List (List Nat))) (b ot : Option D) :
    ∃ s : List (List (List Nat)), eComp [5] (gN 5) (iRange [(eBin .Add (eLit (.int 1)) (eBin .Mod (eIx (eVar 3) (eLit (.int 12))) (eLit (.int 6))))]) [] (eIx (eVar 6) (eBin .Mod (eIx (eVar 7) (eVar 5)) (eBlt .len [(eVar 6)]))) (agS scr a most xs is rows ds kd o b ot) = .ok (drows s) := by
  have rl := rowsOf_len is
  rw [← hr] at rl
  have rpos : 0 < rows.length := by rw [rl]; exact Nat.pow_pos (by omega)
  have j1 : ixD (dns xs) (.int 12) = .ok (.int (xs.getD 12 0 : Nat)) := ix_nsd (k := 12) (by omega)
  generalize xs.getD 12 0 = z at *
  have m1 : binD .Mod (.int z) (.int 6) = .ok (.int ((z % 6 : Nat) : Int)) := b_modn (a := z) (b := 6) (by omega)
  have hq : z % 6 < 6 := Nat.mod_lt _ (by omega)
  generalize z % 6 = q at m1 hq
  have rg := f_rangeZ (z := 1 + (q : Int)) (n := 1 + q) (by omega) (by omega)
  obtain ⟨l, _, _, l3⟩ := comp_ex (own := [5]) (g := gN 5) (it := iRange [(eBin .Add (eLit (.int 1)) (eBin .Mod (eIx (eVar 3) (eLit (.int 12))) (eLit (.int 6))))]) (cs := []) (e := eIx (eVar 6) (eBin .Mod (eIx (eVar 7) (eVar 5)) (eBlt .len [(eVar 6)])))
    (ρ := agS scr a most xs is rows ds kd o b ot) (List.range (1 + q)) (fun (k : Nat) => .int k) dview (fun _ => True) (by simp [agS, j1, m1, rg]) fun k hk => by
      have hk : k < 1 + q := by simpa using hk
      have j2 := ix_nsd (ns := ds) (k := k) (by omega)
      have hmod : ds.getD k 0 % rows.length < rows.length := Nat.mod_lt _ rpos
      have m2 := b_modn (a := ds.getD k 0) rpos
      generalize ds.getD k 0 % rows.length = u at m2 hmod
      generalize ds.getD k 0 = u' at m2 j2
      have iu := ix_rows hmod
      exact ⟨some (rows.getD u []), by simp, by simp [agS, j2, m2, iu]⟩
  exact ⟨l, l3⟩
theorem ag_comp3 (o : List (List (List Nat))) (b ot : Option D) : ∃ s : List (List (List Nat)), s.Sublist rows ∧ eComp [12] (gN 12) (iSeq (eVar 6)) [(eCmp .In (eVar 12) (eVar 9))] (eVar 12) (agS scr a most xs is rows ds kd o b ot) = .ok (drows s) :=
  comp_sub rows dview dview (by simp [agS, seq_rows]) fun r hr2 => ⟨decide (r ∈ o), by have := in_rows r o; by_cases h : r ∈ o <;> simp [agS, this, h]⟩
end
end Lb
/-! drawn agendas: the second form, whole -/
namespace Lb
open PySem PySem.Spec PyProof.Rows Z
variable {T : Str → Option Fd}
theorem law_agenda_eq2 [C__law_agenda_v2 T] (n : Nat) (ns : List Int) (a most : Nat) (h1 : 1 ≤ most) (h6 : most ≤ 6) : ∃ is ops, run T (n + 4) "_law_agenda" [.scr ns, .int a, .int most] = .ok (.tup [dview is, drows ops]) ∧ Ag is ops ∧ is.length ≤ most := by
  rw [r__law_agenda_v2]
  obtain ⟨xs, n1, n2, n2b⟩ := numbers_eq (T := T) (n + 2) ns a 14 (by omega)
  obtain ⟨ds, n3, n4, _⟩ := numbers_eq (T := T) (n + 2) ns (a + 1) 32 (by omega)
  have n1 : run T (n + 3) "_law_numbers" [.scr ns, .int a, .int 14] = .ok (dns xs) := n1
  have n3 : run T (n + 3) "_law_numbers" [.scr ns, .int ((a : Int) + 1), .int 32] = .ok (dns ds) := n3
  have i0 : ixD (dns xs) (.int 0) = .ok (.int (xs.getD 0 0 : Nat)) := ix_nsd (k := 0) (by omega)
  have i9 : ixD (dns xs) (.int 9) = .ok (.int (xs.getD 9 0 : Nat)) := ix_nsd (k := 9) (by omega)
  have i10 : ixD (dns xs) (.int 10) = .ok (.int (xs.getD 10 0 : Nat)) := ix_nsd (k := 10) (by omega)
  have i13 : ixD (dns xs) (.int 13) = .ok (.int (xs.getD 13 0 : Nat)) := ix_nsd (k := 13) (by omega)
  generalize xs.getD 0 0 = z0 at i0
  generalize xs.getD 9 0 = z9 at i9
  generalize xs.getD 10 0 = z10 at i10
  generalize xs.getD 13 0 = z13 at i13
  have hlt0 : z0 % most < most := Nat.mod_lt _ (by omega)
  have m0 := b_modn (a := z0) (b := most) (by omega)
  generalize z0 % most = c at m0 hlt0
  have m9 : binD .Mod (.int z9) (.int 6) = .ok (.int ((z9 % 6 : Nat) : Int)) := b_modn (a := z9) (b := 6) (by omega)
  generalize z9 % 6 = kd at m9
  have m10 : binD .Mod (.int z10) (.int 6) = .ok (.int ((z10 % 6 : Nat) : Int)) := b_modn (a := z10) (b := 6) (by omega)
  generalize z10 % 6 = q10 at m10
  have rg := f_rangeZ (z := 1 + (c : Int)) (n := 1 + c) (by omega) (by omega)
  have hi := issNm_iss (xs := xs) n2b (c := 1 + c) (by omega) (by omega)
  -- the issues
  have lp : sFor [5] (gN 5) (iRange [(eBin .Add (eLit (.int 1)) (eBin .Mod (eIx (eVar 3) (eLit (.int 0))) (eVar 2)))]) (f__law_agenda_v2_1 (run T (n + 3))) [some (.scr ns), some (.int a), some (.int most), some (dns xs), some (dview []), none, none, none, none, none, none, none, none, none] =
      .nx [some (.scr ns), some (.int a), some (.int most), some (dns xs), some (dview ((List.range (1 + c)).map (issNm xs))), none, none, none, none, none, none, none, none, none] := by
    have hit : (iRange [(eBin .Add (eLit (.int 1)) (eBin .Mod (eIx (eVar 3) (eLit (.int 0))) (eVar 2)))]) [some (.scr ns), some (.int a), some (.int most), some (dns xs), some (dview []), none, none, none, none, none, none, none, none, none] = .ok ((List.range (1 + c)).map fun (k : Nat) => .int k) := by
      simp only [q_irange, q_args, q_args0, q_bin, q_lit, q_ix, q_var, q_look, List.getElem?_cons_zero, List.getElem?_cons_succ, R.bind_ok, i0, m0, b_add, rg]
    obtain ⟨ρ', g1, g2⟩ := sFor_inv (kl := [5]) (g := gN 5) (b := f__law_agenda_v2_1 (run T (n + 3))) hit
      (fun i ρ => ρ = [some (.scr ns), some (.int a), some (.int most), some (dns xs), some (dview ((List.range i).map (issNm xs))), none, none, none, none, none, none, none, none, none]) rfl (by
      rintro j x ρ hx rfl
      obtain ⟨hj, rfl⟩ := range_at hx
      refine ⟨_, _, rfl, .inl (agenda_name (run T (n + 3)) (k := j) n2 n2b (by omega) (by simp)), ?_⟩
      rw [List.range_succ, List.map_append]
      rfl)
    rw [g1, g2, List.length_map, List.length_range]
  have hlen : ((List.range (1 + c)).map (issNm xs)).length ≤ most := by simp; omega
  generalize (List.range (1 + c)).map (issNm xs) = is at *
  have lr := law_rows_eq (T := T) (n + 2) (is := is) (by have := hi.len; omega) (fun l hl => by have := (hi.it hl).len; omega)
  have rl := rowsOf_len is
  have rpos : 0 < (rowsOf is).length := by rw [rl]; exact Nat.pow_pos (by omega)
  have rle : (rowsOf is).length ≤ 64 := by rw [rl]; exact Nat.le_trans (Nat.pow_le_pow_right (n := 2) (by omega) hi.len) (by decide)
  have its : ∀ x ∈ is, It x := fun x hx => hi.it hx
  generalize hrows : rowsOf is = rows at *
  have rg2 := f_range (n := rows.length) (by omega)
  -- the opinions, by halves
  obtain ⟨s, s1, w0⟩ := comp_sub (own := [5]) (g := gN 5) (it := iRange [(eBlt .len [(eVar 6)])]) (cs := [(eCmp .Lt (eBin .Mod (eBin .Add (eIx (eVar 7) (eBin .Mod (eVar 5) (eLit (.int 32)))) (eBin .Mult (eBin .FloorDiv (eVar 5) (eLit (.int 32))) (eLit (.int 5)))) (eLit (.int 8))) (eBin .Add (eLit (.int 2)) (eBin .Mod (eIx (eVar 3) (eLit (.int 10))) (eLit (.int 6)))))]) (e := eIx (eVar 6) (eVar 5))
    (ρ := [some (.scr ns), some (.int a), some (.int most), some (dns xs), some (dview is), none, some (drows rows), some (dns ds), some (.int kd), none, none, none, none, none]) (List.range rows.length) (fun (k : Nat) => .int k) (fun k => dview (rows.getD k [])) (by simp [rg2]) fun k hk => by
      have hk : k < rows.length := by simpa using hk
      have j1 : binD .Mod (.int k) (.int 32) = .ok (.int ((k % 32 : Nat) : Int)) := b_modn (a := k) (b := 32) (by omega)
      have j2 : ixD (dns ds) (.int ((k % 32 : Nat) : Int)) = .ok (.int (ds.getD (k % 32) 0 : Nat)) := ix_nsd (k := k % 32) (by have := Nat.mod_lt k (show 0 < 32 by omega); omega)
      generalize ds.getD (k % 32) 0 = u at *
      generalize k % 32 = k1 at *
      have j3 : binD .FloorDiv (.int k) (.int 32) = .ok (.int ((k / 32 : Nat) : Int)) := b_divn (a := k) (b := 32) (by omega) (by omega)
      have j3b : k / 32 ≤ 64 := by omega
      generalize k / 32 = k2 at *
      have j4 : binD .Mult (.int k2) (.int 5) = .ok (.int ((k2 : Int) * 5)) := b_mul (by omega)
      have j5 : binD .Mod (.int ((u : Int) + (k2 : Int) * 5)) (.int 8) = .ok (.int (((u + k2 * 5) % 8 : Nat) : Int)) := b_modn (a := u + k2 * 5) (b := 8) (by omega)
      generalize (u + k2 * 5) % 8 = w at *
      have j6 := ix_rows hk
      refine ⟨decide ((w : Int) < 2 + (q10 : Int)), ?_⟩
      generalize hw : decide ((w : Int) < 2 + (q10 : Int)) = bb
      simp only [q_compF, q_gN, q_kill, q_kill0, List.set_cons_zero, List.set_cons_succ, R.bind_ok, q_tests, q_tests0, q_cmp, q_bin, q_ix, q_var, q_look, q_lit, List.getElem?_cons_zero, List.getElem?_cons_succ, j1, j2, j3, j4, b_add, j5, i10, m10, c_lt, hw, t_bl, j6]
      cases bb <;> simp
  have e0 : (D.lst (s.map fun k => dview (rows.getD k []))) = drows (s.map fun k => rows.getD k []) := drows_map s _
  rw [e0] at w0
  have so : (s.map fun k => rows.getD k []).Sublist rows := by
    have := s1.map fun k => rows.getD k []
    rwa [range_map] at this
  generalize s.map (fun k => rows.getD k []) = o0 at *
  -- the end
  have hmod : z13 % rows.length < rows.length := Nat.mod_lt _ rpos
  have m13 := b_modn (a := z13) rpos
  generalize z13 % rows.length = u at m13 hmod
  have iu := ix_rows hmod
  have fin : ∀ (o : List (List (List Nat))) (b ot : Option D), o.Sublist rows →
      ∃ is' ops, endD (sSeq (sIf (eCmp .Eq (eVar 9) (eLst [])) (sSet 9 (eLst [(eIx (eVar 6) (eBin .Mod (eIx (eVar 3) (eLit (.int 13))) (eBlt .len [(eVar 6)])))])) sNil) (sRet (eTup [(eVar 4), (eVar 9)])) (agS (.scr ns) (.int a) (.int most) xs is rows ds kd o b ot)) = .ok (.tup [dview is', drows ops]) ∧ Ag is' ops ∧ is'.length ≤ most := fun o b ot hs => by
    have e := drows_eq0 o
    by_cases ho : o = []
    · rw [decide_eq_true ho] at e
      refine ⟨is, [rows.getD u []], ?_, Ag.of_sub hi (by rw [hrows]; exact List.singleton_sublist.mpr (by rw [List.getD_eq_getElem?_getD, List.getElem?_eq_getElem hmod]; exact List.getElem_mem _)) (by simp), hlen⟩
      have e1 : D.lst [dview (rows.getD u [])] = drows [rows.getD u []] := rfl
      simp only [q_seq, q_if, q_cmp, q_var, q_look, q_lst, q_args, q_args0, q_lit, List.getElem?_cons_zero, List.getElem?_cons_succ, R.bind_ok, c_eq, e, t_bl, ofR_ok, if_true, q_set, q_ix, q_bin, i13, m13, q_blt, len_rows, iu, e1, List.set_cons_zero, List.set_cons_succ, q_ret, q_tup, q_end_rt]
    · rw [decide_eq_false ho] at e
      exact ⟨is, o, by simp only [q_seq, q_if, q_cmp, q_var, q_look, q_lst, q_args, q_args0, q_lit, List.getElem?_cons_zero, List.getElem?_cons_succ, R.bind_ok, c_eq, e, t_bl, ofR_ok, Bool.false_eq_true, if_false, q_nil, q_ret, q_tup, q_end_rt], Ag.of_sub hi (by rw [hrows]; exact hs) ho, hlen⟩
  have l0 : D.lst [] = dview [] := rfl
  simp only [b__law_agenda_v2, q_seq_set, q_call, q_args, q_args0, q_lst, q_var, q_look, q_lit, q_bin, q_ix, q_blt, List.getElem?_cons_zero, List.getElem?_cons_succ, R.bind_ok, n1, ofR_ok, List.set_cons_zero, List.set_cons_succ, l0]
  rw [q_seq, lp]
  simp only [q_seq_set, q_call, q_args, q_args0, q_lst, q_var, q_look, q_lit, q_bin, q_ix, q_blt, List.getElem?_cons_zero, List.getElem?_cons_succ, R.bind_ok, b_add, n3, lr, i9, m9, ofR_ok, List.set_cons_zero, List.set_cons_succ, w0]
  have st0 : ∀ (t : ZS), ∃ o b ot, o.Sublist rows ∧ sSeq (sIf (eCmp .Eq (eVar 8) (eLit (.int 0))) (sSet 9 (eComp [12] (gN 12) (iSeq (eVar 6)) [(eCmp .Eq (eBin .Mod (eBlt .len [(eComp [13] (gN 13) (iSeq (eVar 12)) [(eCmp .NotEq (eIx (eVar 13) (eLit (.int 0))) (eLit (.str "!")))] (eVar 13))]) (eLit (.int 2))) (eBin .Mod (eIx (eVar 3) (eLit (.int 11))) (eLit (.int 2))))] (eVar 12))) sNil) t (agS (.scr ns) (.int a) (.int most) xs is rows ds kd o0 none none) = t (agS (.scr ns) (.int a) (.int most) xs is rows ds kd o b ot) := fun t => by
    have eq := eq_int (kd : Int) 0
    by_cases h : (kd : Int) = 0
    · rw [decide_eq_true h] at eq
      obtain ⟨o, q1, q2⟩ := ag_comp0 (scr := .scr ns) (a := .int a) (most := .int most) (ds := ds) (kd := kd) its hrows.symm n2 o0 none none
      exact ⟨o, none, none, q1, seq_if_t (by simp [agS, eq]) (by rw [q_set, q2]; rfl)⟩
    · rw [decide_eq_false h] at eq
      exact ⟨o0, none, none, so, seq_if_f (by simp [agS, eq])⟩
  obtain ⟨o1, b1, ot1, so1, q1⟩ := st0 _
  rw [q1]
  have st1 : ∀ (t : ZS), ∃ o b ot, o.Sublist rows ∧ sSeq (sIf (eCmp .Eq (eVar 8) (eLit (.int 1))) (sSeq (sSet 10 (eComp [5] (gN 5) (iRange [(eBlt .len [(eVar 4)])]) [(eCmp .Gt (eBin .Mod (eIx (eVar 7) (eBin .Add (eLit (.int 1)) (eVar 5))) (eLit (.int 3))) (eLit (.int 0)))] (eIx (eIx (eVar 6) (eBin .Mod (eIx (eVar 7) (eLit (.int 0))) (eBlt .len [(eVar 6)]))) (eVar 5)))) (sSeq (sSet 11 (eComp [5] (gN 5) (iRange [(eBlt .len [(eVar 4)])]) [(eCmp .Eq (eBin .Mod (eIx (eVar 7) (eBin .Add (eLit (.int 8)) (eVar 5))) (eLit (.int 2))) (eLit (.int 0)))] (eIx (eIx (eVar 6) (eBin .Mod (eIx (eVar 7) (eLit (.int 7))) (eBlt .len [(eVar 6)]))) (eVar 5)))) (sSet 9 (eComp [12] (gN 12) (iSeq (eVar 6)) [(eAnd (eCmp .NotEq (eVar 10) (eLst [])) (eAnd (eNot (eCall (run T (n + 3)) "_law_holds" [(eVar 12), (eVar 10)])) (eOr (eCmp .Eq (eVar 11) (eLst [])) (eNot (eCall (run T (n + 3)) "_law_holds" [(eVar 12), (eVar 11)])))))] (eVar 12))))) sNil) t (agS (.scr ns) (.int a) (.int most) xs is rows ds kd o1 b1 ot1) = t (agS (.scr ns) (.int a) (.int most) xs is rows ds kd o b ot) := fun t => by
    have eq := eq_int (kd : Int) 1
    by_cases h : (kd : Int) = 1
    · rw [decide_eq_true h] at eq
      obtain ⟨l, _, q2⟩ := ag_bar (scr := .scr ns) (a := .int a) (most := .int most) (xs := xs) (ds := ds) (kd := kd) its hrows.symm n4 hi.len (some (drows o1)) b1 ot1 (eCmp .Gt (eBin .Mod (eIx (eVar 7) (eBin .Add (eLit (.int 1)) (eVar 5))) (eLit (.int 3))) (eLit (.int 0))) 0 (by omega) fun k hk => by
        have hl6 := hi.len
        have j1 : ixD (dns ds) (.int (1 + (k : Int))) = .ok (.int (ds.getD (1 + k) 0 : Nat)) := ix_nsd (k := 1 + k) (by omega)
        have j2 : binD .Mod (.int (ds.getD (1 + k) 0 : Nat)) (.int 3) = .ok (.int ((ds.getD (1 + k) 0 % 3 : Nat) : Int)) := b_modn (a := ds.getD (1 + k) 0) (b := 3) (by omega)
        generalize ds.getD (1 + k) 0 % 3 = u1 at *
        generalize ds.getD (1 + k) 0 = u0 at *
        exact ⟨decide ((0 : Int) < u1), by simp [j1, j2]⟩
      obtain ⟨m, _, q3⟩ := ag_bar (scr := .scr ns) (a := .int a) (most := .int most) (xs := xs) (ds := ds) (kd := kd) its hrows.symm n4 hi.len (some (drows o1)) (some (dview l)) ot1 (eCmp .Eq (eBin .Mod (eIx (eVar 7) (eBin .Add (eLit (.int 8)) (eVar 5))) (eLit (.int 2))) (eLit (.int 0))) 7 (by omega) fun k hk => by
        have hl6 := hi.len
        have j1 : ixD (dns ds) (.int (8 + (k : Int))) = .ok (.int (ds.getD (8 + k) 0 : Nat)) := ix_nsd (k := 8 + k) (by omega)
        have j2 : binD .Mod (.int (ds.getD (8 + k) 0 : Nat)) (.int 2) = .ok (.int ((ds.getD (8 + k) 0 % 2 : Nat) : Int)) := b_modn (a := ds.getD (8 + k) 0) (b := 2) (by omega)
        have j3 := eq_int ((ds.getD (8 + k) 0 % 2 : Nat) : Int) 0
        generalize decide (((ds.getD (8 + k) 0 % 2 : Nat) : Int) = 0) = bb at *
        generalize ds.getD (8 + k) 0 % 2 = u1 at *
        generalize ds.getD (8 + k) 0 = u0 at *
        exact ⟨bb, by simp [j1, j2, j3]⟩
      obtain ⟨o, q4, q5⟩ := ag_comp1 (T := T) (scr := .scr ns) (a := .int a) (most := .int most) (is := is) (rows := rows) (xs := xs) (ds := ds) (kd := kd) (n + 2) o1 l m
      refine ⟨o, some (dview l), some (dview m), q4, seq_if_t (by simp [agS, eq]) ?_⟩
      have q2 : eComp [5] (gN 5) (iRange [(eBlt .len [(eVar 4)])]) [(eCmp .Gt (eBin .Mod (eIx (eVar 7) (eBin .Add (eLit (.int 1)) (eVar 5))) (eLit (.int 3))) (eLit (.int 0)))] (eIx (eIx (eVar 6) (eBin .Mod (eIx (eVar 7) (eLit (.int 0))) (eBlt .len [(eVar 6)]))) (eVar 5)) _ = _ := q2
      have q3 : eComp [5] (gN 5) (iRange [(eBlt .len [(eVar 4)])]) [(eCmp .Eq (eBin .Mod (eIx (eVar 7) (eBin .Add (eLit (.int 8)) (eVar 5))) (eLit (.int 2))) (eLit (.int 0)))] (eIx (eIx (eVar 6) (eBin .Mod (eIx (eVar 7) (eLit (.int 7))) (eBlt .len [(eVar 6)]))) (eVar 5)) _ = _ := q3
      rw [q_seq_set, q2, ofR_ok, q_seq_set]
      simp only [agS, List.set_cons_zero, List.set_cons_succ]
      rw [q3, ofR_ok]
      rw [q_set, q5]
      rfl
    · rw [decide_eq_false h] at eq
      exact ⟨o1, b1, ot1, so1, seq_if_f (by simp [agS, eq])⟩
  obtain ⟨o2, b2, ot2, so2, q2⟩ := st1 _
  rw [q2]
  have st2 : ∀ (t : ZS), ∃ o b ot, o.Sublist rows ∧ sSeq (sIf (eCmp .Eq (eVar 8) (eLit (.int 2))) (sSeq (sSet 9 (eComp [5] (gN 5) (iRange [(eBin .Add (eLit (.int 1)) (eBin .Mod (eIx (eVar 3) (eLit (.int 12))) (eLit (.int 6))))]) [] (eIx (eVar 6) (eBin .Mod (eIx (eVar 7) (eVar 5)) (eBlt .len [(eVar 6)]))))) (sSet 9 (eComp [12] (gN 12) (iSeq (eVar 6)) [(eCmp .In (eVar 12) (eVar 9))] (eVar 12)))) sNil) t (agS (.scr ns) (.int a) (.int most) xs is rows ds kd o2 b2 ot2) = t (agS (.scr ns) (.int a) (.int most) xs is rows ds kd o b ot) := fun t => by
    have eq := eq_int (kd : Int) 2
    by_cases h : (kd : Int) = 2
    · rw [decide_eq_true h] at eq
      obtain ⟨o, q2⟩ := ag_comp2 (scr := .scr ns) (a := .int a) (most := .int most) (is := is) (rows := rows) (xs := xs) (ds := ds) (kd := kd) n4 hrows.symm n2 o2 b2 ot2
      obtain ⟨o', q3, q4⟩ := ag_comp3 (scr := .scr ns) (a := .int a) (most := .int most) (is := is) (rows := rows) (xs := xs) (ds := ds) (kd := kd) o b2 ot2
      refine ⟨o', b2, ot2, q3, seq_if_t (by simp [agS, eq]) ?_⟩
      rw [q_seq_set, q2, ofR_ok]
      simp only [agS, List.set_cons_zero, List.set_cons_succ]
      rw [q_set, q4]
      rfl
    · rw [decide_eq_false h] at eq
      exact ⟨o2, b2, ot2, so2, seq_if_f (by simp [agS, eq])⟩
  obtain ⟨o3, b3, ot3, so3, q3⟩ := st2 _
  rw [q3]
  exact fin o3 b3 ot3 so3
end Lb
/-! panels -/
namespace Lb
open PySem PySem.Spec PyProof.Rows Z
variable {T : Str → Option Fd}
abbrev Seat := List Nat × List (List Nat)
def dseat (p : Seat) : D := .tup [dtx p.1, dview p.2]
def dpan (ps : List Seat) : D := .lst (ps.map dseat)
/-- a panel of an agenda -/
structure Pn (ops : List (List (List Nat))) (ps : List Seat) : Prop where
  lt : (ps.map (·.1)).Pairwise (· < ·)
  nm : ∀ p ∈ ps, Nm p.1
  op : ∀ p ∈ ps, p.2 ∈ ops
  ne : ps ≠ []
  len : ps.length ≤ 12
theorem seq_pan (ps : List Seat) : seqD (dpan ps) = .ok (ps.map dseat) := rfl
theorem len_pan {ps : List Seat} : bltD .len [dpan ps] = .ok (.int ps.length) := by
  have := f_len (xs := ps.map dseat)
  rw [List.length_map] at this
  exact this
theorem app_pan {a : List Seat} {r : Seat} (h : a.length < 16777216) : appD (dpan a) (dseat r) = .ok (dpan (a ++ [r])) := by
  unfold dpan
  rw [f_app (by rw [List.length_map]; exact Nat.lt_of_lt_of_le h sizeLine_big), List.map_append]
  rfl
theorem list_view (v : List (List Nat)) : bltD .list [dview v] = .ok (dview v) := rfl
/-- the seats of a drawn panel -/
theorem panel_seat (call : Call) {e0 e1 e3 : Option D} {ops : List (List (List Nat))} {xs : List Nat} {ps : List Seat} {k : Nat} (ho : ops ≠ []) (hx : xs.length = 28) (hb : ∀ x ∈ xs, x < 1009) (hk : k < 12) (hf : ps.length = k) :
    ∃ (s : List Nat) (o : List (List Nat)) (ρ' : Z.Env), Sfx s ∧ o ∈ ops ∧ f__law_panel_1 call [e0, e1, some (drows ops), e3, some (dns xs), some (dpan ps), some (.int k), none, none] = .nx ρ' ∧ killE [6, 7, 8] ρ' = [e0, e1, some (drows ops), e3, some (dns xs), some (dpan (ps ++ [(dnm 0 k s, o)])), none, none, none] := by
  have op : 0 < ops.length := List.length_pos_iff.mpr ho
  have i1 : ixD (dns xs) (.int 1) = .ok (.int (xs.getD 1 0 : Nat)) := ix_nsd (k := 1) (by omega)
  have i14 : ixD (dns xs) (.int 14) = .ok (.int (xs.getD 14 0 : Nat)) := ix_nsd (k := 14) (by omega)
  have i2 : ixD (dns xs) (.int (2 + (k : Int))) = .ok (.int (xs.getD (2 + k) 0 : Nat)) := ix_nsd (k := 2 + k) (by omega)
  have i15 : ixD (dns xs) (.int (15 + (k : Int))) = .ok (.int (xs.getD (15 + k) 0 : Nat)) := ix_nsd (k := 15 + k) (by omega)
  have b2 := dn_bd hb (15 + k)
  generalize xs.getD 1 0 = z1 at *
  generalize xs.getD 14 0 = z8 at *
  generalize xs.getD (2 + k) 0 = z2 at *
  generalize xs.getD (15 + k) 0 = z15 at *
  have m1 : binD .Mod (.int z1) (.int 3) = .ok (.int ((z1 % 3 : Nat) : Int)) := b_modn (a := z1) (b := 3) (by omega)
  have m3 : binD .Mod (.int z2) (.int 3) = .ok (.int ((z2 % 3 : Nat) : Int)) := b_modn (a := z2) (b := 3) (by omega)
  have hz3 : z2 % 3 < 3 := Nat.mod_lt _ (by omega)
  have i3 : ixD (dns xs) (.int (2 + ((z2 % 3 : Nat) : Int))) = .ok (.int (xs.getD (2 + z2 % 3) 0 : Nat)) := ix_nsd (k := 2 + z2 % 3) (by omega)
  have e1' := eq_int ((z1 % 3 : Nat) : Int) 0
  generalize decide (((z1 % 3 : Nat) : Int) = 0) = bb at *
  generalize z1 % 3 = p at *
  have pk : ∃ pick : Nat, ∀ t : ZS, sSeq (sIf (eCmp .Eq (eBin .Mod (eIx (eVar 4) (eLit (.int 1))) (eLit (.int 3))) (eLit (.int 0))) (sSet 7 (eIx (eVar 4) (eBin .Add (eLit (.int 2)) (eBin .Mod (eVar 7) (eLit (.int 3)))))) sNil) t [e0, e1, some (drows ops), e3, some (dns xs), some (dpan ps), some (.int k), some (.int z2), none] =
      t [e0, e1, some (drows ops), e3, some (dns xs), some (dpan ps), some (.int k), some (.int pick), none] := by
    cases bb with
    | true =>
      generalize xs.getD (2 + z2 % 3) 0 = z3 at *
      generalize z2 % 3 = z4 at *
      exact ⟨z3, fun t => seq_if_t (by simp [i1, m1, e1']) (by simp [m3, i3])⟩
    | false => exact ⟨z2, fun t => seq_if_f (by simp [i1, m1, e1'])⟩
  obtain ⟨pick, pk⟩ := pk
  have hmod : pick % ops.length < ops.length := Nat.mod_lt _ op
  have m4 := b_modn (a := pick) op
  generalize pick % ops.length = u at *
  have iu := ix_rows hmod
  have hu : ops.getD u [] ∈ ops := by rw [List.getD_eq_getElem?_getD, List.getElem?_eq_getElem hmod]; exact List.getElem_mem _
  generalize ops.getD u [] = o at *
  have d1 : binD .FloorDiv (.int z8) (.int ((k : Int) + 1)) = .ok (.int ((z8 / (k + 1) : Nat) : Int)) := b_divn (a := z8) (b := k + 1) (by omega) (by omega)
  generalize z8 / (k + 1) = z9 at *
  have m2 : binD .Mod (.int z9) (.int 2) = .ok (.int ((z9 % 2 : Nat) : Int)) := b_modn (a := z9) (b := 2) (by omega)
  have hq : z9 % 2 < 2 := Nat.mod_lt _ (by omega)
  generalize z9 % 2 = q at *
  have t1 := two_of (a := dtx []) (b := dtx (sdg z15)) hq
  have e : (if q = 0 then dtx [] else dtx (sdg z15)) = dtx (if q = 0 then [] else sdg z15) := by split <;> rfl
  rw [e] at t1
  have sf := sfx_two (q := q) b2 _ rfl
  generalize (if q = 0 then [] else sdg z15) = s at *
  have a2 := add_dtx (a := [97 + k]) (b := s) (by have := sf.len; simp; omega)
  have e2 : [97 + k] ++ s = dnm 0 k s := by simp [dnm]
  rw [e2] at a2
  have ap := app_pan (a := ps) (r := (dnm 0 k s, o)) (by omega)
  have ap : appD (dpan ps) (.tup [dtx (dnm 0 k s), dview o]) = .ok (dpan (ps ++ [(dnm 0 k s, o)])) := ap
  refine ⟨s, o, [e0, e1, some (drows ops), e3, some (dns xs), some (dpan (ps ++ [(dnm 0 k s, o)])), some (.int k), some (.int pick), some (dtx (dnm 0 k s))], sf, hu, ?_, rfl⟩
  unfold f__law_panel_1
  rw [q_seq_set]
  simp only [q_ix, q_var, q_look, q_bin, q_lit, List.getElem?_cons_zero, List.getElem?_cons_succ, R.bind_ok, b_add, i2, ofR_ok, List.set_cons_zero, List.set_cons_succ, pk, q_seq_set, q_app, q_lst, q_args, q_args0, q_blt, q_tup, ix_abc12 hk, i15, str_int b2, i14, d1, m2, emp, t1, a2, len_rows, m4, iu, list_view, ap]
theorem law_panel_eq [C__law_panel T] (n : Nat) (ns : List Int) (a most : Nat) {ops : List (List (List Nat))} (ho : ops ≠ []) (h1 : 1 ≤ most) (h12 : most ≤ 12) : ∃ ps, run T (n + 2) "_law_panel" [.scr ns, .int a, drows ops, .int most] = .ok (dpan ps) ∧ Pn ops ps ∧ ps.length ≤ most ∧ ∀ p ∈ ps, p.1.headD 0 ≤ 96 + ps.length := by
  rw [r__law_panel]
  obtain ⟨xs, n1, n2, n2b⟩ := numbers_eq (T := T) n ns a 28 (by omega)
  have n1 : run T (n + 1) "_law_numbers" [.scr ns, .int a, .int 28] = .ok (dns xs) := n1
  have i0 : ixD (dns xs) (.int 0) = .ok (.int (xs.getD 0 0 : Nat)) := ix_nsd (k := 0) (by omega)
  generalize xs.getD 0 0 = z0 at i0
  have hlt0 : z0 % most < most := Nat.mod_lt _ (by omega)
  have m0 := b_modn (a := z0) (b := most) (by omega)
  generalize z0 % most = c at m0 hlt0
  have rg := f_rangeZ (z := 1 + (c : Int)) (n := 1 + c) (by omega) (by omega)
  have l0 : D.lst [] = dpan [] := rfl
  have hit : (iRange [(eBin .Add (eLit (.int 1)) (eBin .Mod (eIx (eVar 4) (eLit (.int 0))) (eVar 3)))]) [some (.scr ns), some (.int a), some (drows ops), some (.int most), some (dns xs), some (dpan []), none, none, none] = .ok ((List.range (1 + c)).map fun (k : Nat) => .int k) := by
    simp only [q_irange, q_args, q_args0, q_bin, q_lit, q_ix, q_var, q_look, List.getElem?_cons_zero, List.getElem?_cons_succ, R.bind_ok, i0, m0, b_add, rg]
  obtain ⟨ρ', g1, ps, g2, g3, g4, g5, g6⟩ := sFor_inv (kl := [6, 7, 8]) (g := gN 6) (b := f__law_panel_1 (run T (n + 1))) hit
    (fun i ρ => ∃ ps : List Seat, ρ = [some (.scr ns), some (.int a), some (drows ops), some (.int most), some (dns xs), some (dpan ps), none, none, none] ∧ ps.length = i ∧ (ps.map (·.1)).Pairwise (· < ·) ∧ (∀ p ∈ ps, p.2 ∈ ops) ∧ ∀ p ∈ ps, ∃ j s, j < i ∧ Sfx s ∧ p.1 = dnm 0 j s)
    ⟨[], rfl, rfl, by simp, by simp, by simp⟩ (by
    rintro j x ρ hx ⟨ps, rfl, p1, p2, p3, p4⟩
    obtain ⟨hj, rfl⟩ := range_at hx
    obtain ⟨s, o, ρ', q1, q2, q3, q4⟩ := panel_seat (run T (n + 1)) (e0 := some (.scr ns)) (e1 := some (.int a)) (e3 := some (.int most)) (ops := ops) (xs := xs) (ps := ps) (k := j) ho n2 n2b (by omega) p1
    refine ⟨_, ρ', rfl, .inl q3, ps ++ [(dnm 0 j s, o)], q4, by simp [p1], ?_, ?_, ?_⟩
    · rw [List.map_append, List.pairwise_append]
      refine ⟨p2, by simp, fun u hu w hw => ?_⟩
      obtain ⟨p, hp, rfl⟩ := List.mem_map.mp hu
      obtain ⟨j', s', h1, h2, h3⟩ := p4 p hp
      have hw : w = dnm 0 j s := by simpa using hw
      rw [hw, h3]
      exact dnm_lt h1
    · intro p hp
      rcases List.mem_append.mp hp with q | q
      · exact p3 p q
      · have : p = (dnm 0 j s, o) := by simpa using q
        rw [this]; exact q2
    · intro p hp
      rcases List.mem_append.mp hp with q | q
      · obtain ⟨j', s', h1, h2, h3⟩ := p4 p q
        exact ⟨j', s', by omega, h2, h3⟩
      · have : p = (dnm 0 j s, o) := by simpa using q
        rw [this]; exact ⟨j, s, by omega, q1, rfl⟩)
  rw [List.length_map, List.length_range] at g3 g6
  refine ⟨ps, ?_, ⟨g4, fun p hp => ?_, g5, fun e => ?_, by omega⟩, by omega, fun p hp => ?_⟩
  · simp only [b__law_panel, q_seq_set, q_call, q_args, q_args0, q_lst, q_var, q_look, q_lit, List.getElem?_cons_zero, List.getElem?_cons_succ, R.bind_ok, n1, ofR_ok, List.set_cons_zero, List.set_cons_succ, l0]
    rw [q_seq, g1, g2]
    simp
  · obtain ⟨j', s', h1, h2, h3⟩ := g6 p hp
    rw [h3]
    exact dnm_nm (by omega) (by omega) h2
  · rw [e] at g3; simp at g3; omega
  · obtain ⟨j', s', h1, h2, h3⟩ := g6 p hp
    rw [h3]
    simp [dnm]
    omega
end Lb
/-! panels: counts, majorities -/
namespace Lb
open PySem PySem.Spec PyProof.Rows Z
variable {T : Str → Option Fd} {is : List (List Nat)} {ops : List (List (List Nat))}
theorem isi_tup (xs : List D) : isiD (.tup xs) "tuple" = .ok (.bl true) := rfl
theorem ag_is_row_eq [C_Agenda_is_row T] (n : Nat) {v : List (List Nat)} (h : ∀ y ∈ v, Vt y) : run T (n + 6) "Agenda.is_row" [dAg is ops, dview v] = .ok (.bl (((v.all fun y => decide (issueOf y ∈ is)) && ascB (v.map issueOf)) && decide (v.length = is.length))) := by
  rw [r_Agenda_is_row]
  have := is_row_of_eq (T := T) n is h
  simp [b_Agenda_is_row, this]
theorem ag_is_opinion_ok [C_Agenda_is_opinion T] (n : Nat) (h : Ag is ops) {v : List (List Nat)} (hv : v ∈ ops) : run T (n + 7) "Agenda.is_opinion" [dAg is ops, dview v] = .ok (.bl true) := by
  rw [r_Agenda_is_opinion]
  have r := h.rw v hv
  have h1 := ag_is_row_eq (T := T) (is := is) (ops := ops) n (r.vw.vt h.its)
  rw [r.ok h.iss] at h1
  have h2 := ag_hangs_eq (T := T) (is := is) (ops := ops) (n + 5) v
  have h3 : v ∈ hangK ops := hangK_mem.mpr ⟨v, hv, List.Sublist.refl _⟩
  rw [decide_eq_true h3] at h2
  have c1 : methD (run T (n + 6)) "is_row" [dview v] (dAg is ops) = .ok (.bl true) := h1
  have c2 : methD (run T (n + 6)) "hangs" [dview v] (dAg is ops) = .ok (.bl true) := h2
  simp [b_Agenda_is_opinion, c1, c2]
theorem is_seat_ok [C_is_seat T] (n : Nat) (h : Ag is ops) {p : Seat} (h1 : Nm p.1) (h2 : p.2 ∈ ops) : run T (n + 8) "is_seat" [dAg is ops, dseat p] = .ok (.bl true) := by
  rw [r_is_seat]
  have a1 := is_name_nm (T := T) (n + 5) h1
  have a2 := ag_is_opinion_ok (T := T) n h h2
  have a2 : methD (run T (n + 7)) "is_opinion" [dview p.2] (dAg is ops) = .ok (.bl true) := a2
  have e1 := eq_int (2 : Int) 2
  have i0 : ixD (.tup [dtx p.1, dview p.2]) (.int 0) = .ok (dtx p.1) := rfl
  have i1 : ixD (.tup [dtx p.1, dview p.2]) (.int 1) = .ok (dview p.2) := rfl
  have l1 : bltD .len [.tup [dtx p.1, dview p.2]] = .ok (.int 2) := rfl
  simp [b_is_seat, dseat, isi_tup, l1, e1, i0, i1, a1, a2]
theorem nm_pos {l : List Nat} (h : Nm l) : ([] : List Nat) < l := by
  obtain ⟨c, r, rfl, _⟩ := h.head
  exact List.Lex.nil
theorem enum_at {ps : List Seat} {j : Nat} {x : D} (h : (List.zipWith (fun (k : Nat) x => D.tup [.int k, x]) (List.range (ps.map dseat).length) (ps.map dseat))[j]? = some x) : ∃ p, ps[j]? = some p ∧ x = .tup [.int j, dseat p] := by
  rw [List.getElem?_zipWith] at h
  rw [List.getElem?_map] at h
  cases hp : ps[j]? with
  | none =>
    rw [hp] at h
    cases hr : (List.range (ps.map dseat).length)[j]? <;> rw [hr] at h <;> simp at h
  | some p =>
    have hj := (List.getElem?_eq_some_iff.mp hp).1
    rw [hp, List.getElem?_range (by simpa using hj)] at h
    exact ⟨p, rfl, by simpa using h.symm⟩
theorem check_panel_ok [C_check_panel T] (n : Nat) (h : Ag is ops) {ps : List Seat} (hp : Pn ops ps) : run T (n + 9) "check_panel" [dAg is ops, dpan ps] = .ok .non := by
  rw [r_check_panel]
  have hpos : 0 < ps.length := List.length_pos_iff.mpr hp.ne
  have h12 := hp.len
  have c1 : cmpD .LtE (.int 1) (.int ps.length) = .ok true := by rw [c_le]; simp; omega
  have c2 : cmpD .LtE (.int ps.length) (.int 12) = .ok true := by rw [c_le]; simp; omega
  have hit : (iEnum (eVar 1)) [some (dAg is ops), some (dpan ps), some (dtx []), none, none] = .ok (List.zipWith (fun (k : Nat) x => D.tup [.int k, x]) (List.range (ps.map dseat).length) (ps.map dseat)) := rfl
  obtain ⟨ρ', g1, g2⟩ := sFor_inv (kl := [3, 4]) (g := gT [(gN 3), (gN 4)]) (b := f_check_panel_1 (run T (n + 8))) hit
    (fun i ρ => ∃ b, ρ = [some (dAg is ops), some (dpan ps), some (dtx b), none, none] ∧ ∀ p, ps[i]? = some p → b < p.1) ⟨[], rfl, fun p q => nm_pos (hp.nm p (List.mem_of_getElem? q))⟩ (by
    rintro j x ρ hx ⟨b, rfl, hb⟩
    obtain ⟨p, h1, rfl⟩ := enum_at hx
    have hm := List.mem_of_getElem? h1
    have s1 := is_seat_ok (T := T) n h (hp.nm p hm) (hp.op p hm)
    have l1 := lt_dtx b p.1
    rw [decide_eq_true (hb p h1)] at l1
    have i0 : ixD (dseat p) (.int 0) = .ok (dtx p.1) := rfl
    refine ⟨[some (dAg is ops), some (dpan ps), some (dtx b), some (.int j), some (dseat p)], [some (dAg is ops), some (dpan ps), some (dtx p.1), some (.int j), some (dseat p)], by simp, .inl ?_, p.1, rfl, fun q hq => ?_⟩
    · simp [f_check_panel_1, s1, i0, l1]
    · have lt := hp.lt
      have hj1 := (List.getElem?_eq_some_iff.mp h1).1
      obtain ⟨hj2, e2⟩ := List.getElem?_eq_some_iff.mp hq
      obtain ⟨_, e1⟩ := List.getElem?_eq_some_iff.mp h1
      have := List.pairwise_iff_getElem.mp lt j (j + 1) (by simpa using hj1) (by simpa using hj2) (by omega)
      simpa [e1, e2] using this)
  obtain ⟨b, rfl, _⟩ := g2
  unfold b_check_panel
  rw [seq_if_f (by simp [len_pan, c1, c2])]
  simp only [q_seq_set, q_lit, emp, ofR_ok, List.set_cons_zero, List.set_cons_succ, g1]
  rfl
def vcnt (ps : List Seat) (y : List Nat) : Nat := (ps.filter fun p => decide (y ∈ p.2)).length
theorem supporters_eq [C_supporters T] (n : Nat) (ps : List Seat) (y : List Nat) : run T (n + 1) "supporters" [dpan ps, dtx y] = .ok (dview ((ps.filter fun p => decide (y ∈ p.2)).map (·.1))) := by
  rw [r_supporters]
  simp only [b_supporters, q_ret]
  rw [comp_fil ps dseat (fun p => dtx p.1) (fun p => decide (y ∈ p.2)) (by simp [seq_pan]) fun p hp => by
    by_cases h : y ∈ p.2 <;> simp [dseat, in_dtx, h]]
  rw [dview_map]
  rfl
theorem count_eq [C_count T] (n : Nat) (ps : List Seat) (y : List Nat) : run T (n + 2) "count" [dpan ps, dtx y] = .ok (.int (vcnt ps y)) := by
  rw [r_count]
  have h1 := supporters_eq (T := T) n ps y
  have l := len_view (v := (ps.filter fun p => decide (y ∈ p.2)).map (·.1))
  rw [List.length_map] at l
  simp [b_count, h1, l, vcnt]
theorem vcnt_le (ps : List Seat) (y : List Nat) : vcnt ps y ≤ ps.length := List.length_filter_le _ _
theorem is_more_eq [C_is_more_than_half T] (n : Nat) (ps : List Seat) (y : List Nat) : run T (n + 3) "is_more_than_half" [dpan ps, dtx y] = .ok (.bl (decide (ps.length < 2 * vcnt ps y))) := by
  rw [r_is_more_than_half]
  have h1 := count_eq (T := T) n ps y
  have m : binD .Mult (.int 2) (.int (vcnt ps y)) = .ok (.int (2 * (vcnt ps y : Int))) := b_mul (by omega)
  have e : decide ((ps.length : Int) < 2 * (vcnt ps y : Int)) = decide (ps.length < 2 * vcnt ps y) := by rw [decide_eq_decide]; omega
  simp [b_is_more_than_half, h1, m, len_pan, e]
def majOf (is : List (List Nat)) (ps : List Seat) : List (List Nat) := (bothOf is).filter fun y => decide (ps.length < 2 * vcnt ps y)
theorem majority_of_eq [C_majority_of T] (n : Nat) (h : Ag is ops) (ps : List Seat) : run T (n + 4) "majority_of" [dAg is ops, dpan ps] = .ok (dview (majOf is ps)) := by
  rw [r_majority_of]
  have h1 := ag_verdicts_eq (T := T) (n + 1) h
  have h1 : methD (run T (n + 3)) "verdicts" [] (dAg is ops) = .ok (dview (bothOf is)) := h1
  simp only [b_majority_of, q_ret]
  rw [comp_fil (bothOf is) dtx dtx (fun y => decide (ps.length < 2 * vcnt ps y)) (by simp [h1, seq_view]) fun y hy => by
    have := is_more_eq (T := T) n ps y
    by_cases hc : ps.length < 2 * vcnt ps y <;> simp [this, hc]]
  rfl
theorem majority_eq [C_majority T] (n : Nat) (h : Ag is ops) {ps : List Seat} (hp : Pn ops ps) : run T (n + 10) "majority" [dAg is ops, dpan ps] = .ok (dview (majOf is ps)) := by
  rw [r_majority]
  have h1 := check_panel_ok (T := T) n h hp
  have h2 := majority_of_eq (T := T) (n + 5) h ps
  simp [b_majority, h1, h2]
theorem law_copied_panel_eq [C__law_copied_panel T] (n : Nat) (ps : List Seat) : run T (n + 1) "_law_copied_panel" [dpan ps] = .ok (dpan ps) := by
  rw [r__law_copied_panel]
  simp only [b__law_copied_panel, q_ret]
  rw [comp_all ps dseat dseat (by simp [seq_pan]) fun p hp => by simp [dseat, list_view]]
  rfl
theorem is_int_eq [C__law_is_integer T] (n : Nat) (i : Int) : run T (n + 1) "_law_is_integer" [.int i] = .ok (.bl true) := by
  rw [r__law_is_integer]
  have h1 : isiD (.int i) "int" = .ok (.bl true) := rfl
  have h2 : isiD (.int i) "bool" = .ok (.bl false) := rfl
  simp [b__law_is_integer, h1, h2]
end Lb
/-! panels: equality, members; judges to add -/
namespace Lb
open PySem PySem.Spec PyProof.Rows Z
variable {T : Str → Option Fd} {is : List (List Nat)} {ops : List (List (List Nat))}
theorem en_seat (p : Seat) : En.en ((tx p.1, p.2.map tx) : Str × List Str) = dseat p := by
  show D.tup [En.en (tx p.1), En.en (p.2.map tx)] = _
  rw [en_view]
  rfl
theorem eq_pan (a b : List Seat) : eqD (dpan a) (dpan b) = .ok (decide (a = b)) := by
  have h := eqD_en (α := List (Str × List Str)) (by decide) (a.map fun p => (tx p.1, p.2.map tx)) (b.map fun p => (tx p.1, p.2.map tx))
  have e : ∀ l : List Seat, En.en (l.map fun p => ((tx p.1, p.2.map tx) : Str × List Str)) = dpan l := fun l => by
    show D.lst ((l.map _).map En.en) = _
    rw [List.map_map]
    unfold dpan
    congr 1
    exact List.map_congr_left fun p _ => en_seat p
  rw [e, e] at h
  rw [h]
  congr 1
  rw [decide_eq_decide]
  constructor
  · intro q
    refine map_inj (fun x y z => ?_) q
    have z1 := congrArg Prod.fst z
    have z2 := congrArg Prod.snd z
    exact Prod.ext (tx_inj.mp z1) (map_inj (fun _ _ => tx_inj.mp) z2)
  · intro q; rw [q]
theorem ix_pan {ps : List Seat} {k : Nat} (h : k < ps.length) : ixD (dpan ps) (.int k) = .ok (dseat (ps.getD k ([], []))) := by
  refine ix_lst ?_
  rw [List.getElem?_map, List.getElem?_eq_getElem h, List.getD_eq_getElem?_getD, List.getElem?_eq_getElem h]
  rfl
theorem ix_seat0 (p : Seat) : ixD (dseat p) (.int 0) = .ok (dtx p.1) := rfl
theorem ix_seat1 (p : Seat) : ixD (dseat p) (.int 1) = .ok (dview p.2) := rfl
theorem add_pan {a b : List Seat} (h : a.length + b.length ≤ 16777216) : binD .Add (dpan a) (dpan b) = .ok (dpan (a ++ b)) := by
  unfold dpan
  rw [b_addl (by rw [List.length_map, List.length_map]; exact Nat.le_trans h sizeLine_big), List.map_append]
theorem cutL_butlast {α : Type} (xs : List α) (h : 0 < xs.length) : cutL xs none (some (-1)) = xs.take (xs.length - 1) := by
  have e : cutL xs none (some (-1)) = cutL xs none (some ((xs.length - 1 : Nat) : Int)) := by
    unfold cutL
    have : ∀ n o, 0 < n → HT.sIx n o (some (-1)) = HT.sIx n o (some ((n - 1 : Nat) : Int)) := fun n o hn => by
      rw [sIx_nat (by omega)]
      unfold HT.sIx
      simp
      omega
    rw [this _ _ h]
  rw [e, cutL_to xs _ (by omega)]
theorem cut_pan_butlast {ps : List Seat} (h : 0 < ps.length) : cutD (dpan ps) none (some (-1)) = .ok (dpan (ps.take (ps.length - 1))) := by
  show R.ok (D.lst (cutL (ps.map dseat) none (some (-1)))) = _
  rw [cutL_butlast _ (by simpa using h), List.length_map]
  unfold dpan
  rw [List.map_take]
theorem changes_eq [C_changes_between T] (n : Nat) (ps qs : List Seat) : run T (n + 1) "changes_between" [dpan ps, dpan qs] = .ok (dview (((ps.zip qs).filter fun p => !decide (p.1.2 = p.2.2)).map fun p => p.1.1)) := by
  rw [r_changes_between]
  simp only [b_changes_between, q_ret]
  have z : zipD (dpan ps) (dpan qs) = .ok ((ps.zip qs).map fun p => .tup [dseat p.1, dseat p.2]) := by
    show R.ok _ = _
    congr 1
    rw [List.zip, List.map_zipWith, List.zipWith_map]
  rw [comp_fil (ps.zip qs) (fun p => .tup [dseat p.1, dseat p.2]) (fun p => dtx p.1.1) (fun p => !decide (p.1.2 = p.2.2)) (by simp [z]) fun p hp => by
    have e := eq_view p.1.2 p.2.2
    cases hc : decide (p.1.2 = p.2.2) <;> rw [hc] at e <;> simp [dseat, e]]
  rw [dview_map]
  rfl
/-- how many are to be added -/
def addN (own size : Nat) : Nat := size + 1 - 2 * own
theorem added_eq [C__law_added T] (n : Nat) {own size : Nat} (h : own ≤ size) (h2 : size ≤ 12) : run T (n + 1) "_law_added" [.int own, .int size] = .ok (.int (addN own size)) := by
  rw [r__law_added]
  have rg := f_range (n := 20) (by omega)
  have rg : rangeD [.int 20] = .ok ((List.range 20).map fun (k : Nat) => .int k) := rg
  simp only [b__law_added, q_seq]
  rw [for_find (List.range 20) (fun (k : Nat) => .int k) (fun k => if size + k < 2 * (own + k) then some (.int k) else none) (by simp [rg]) fun k hk => by
    have hk : k < 20 := by simpa using hk
    have m : binD .Mult (.int 2) (.int ((own : Int) + k)) = .ok (.int (2 * ((own : Int) + k))) := b_mul (by omega)
    by_cases hc : size + k < 2 * (own + k)
    · have e : (size : Int) + k < 2 * ((own : Int) + k) := by omega
      rw [if_pos hc]
      simp [f__law_added_1, m, e]
    · have e : ¬ ((size : Int) + k < 2 * ((own : Int) + k)) := by omega
      rw [if_neg hc]
      refine ⟨[some (.int own), some (.int size), some (.int k)], .inl ?_, rfl⟩
      simp [f__law_added_1, m, e]]
  have key : (List.range 20).findSome? (fun k => if size + k < 2 * (own + k) then some (D.int (k : Nat)) else none) = some (.int (addN own size : Nat)) := by
    rw [List.findSome?_eq_some_iff]
    have hlt : addN own size < 20 := by unfold addN; omega
    refine ⟨List.range (addN own size), addN own size, List.range' (addN own size + 1) (19 - addN own size), ?_, ?_, ?_⟩
    · have : ∀ k < 20, List.range 20 = List.range k ++ k :: List.range' (k + 1) (19 - k) := by decide
      exact this _ hlt
    · rw [if_pos (by unfold addN; omega)]
    · intro x hx
      have hx : x < addN own size := by simpa using hx
      rw [if_neg (by unfold addN at hx; omega)]
  rw [key]
  rfl
theorem max_int (a b : Int) : bltD .max [.int a, .int b] = .ok (.int (if a < b then b else a)) := by
  show R.ok (D.int _) = _
  rfl
theorem to_add_eq [C_to_add T] (n : Nat) {ps : List Seat} (h : ps.length ≤ 12) (y : List Nat) : run T (n + 3) "to_add" [dpan ps, dtx y] = .ok (.int (addN (vcnt ps y) ps.length)) := by
  rw [r_to_add]
  have h1 := count_eq (T := T) n ps y
  have hc := vcnt_le ps y
  generalize vcnt ps y = c at *
  have m : binD .Mult (.int 2) (.int c) = .ok (.int (2 * (c : Int))) := b_mul (by omega)
  have e : (if (0 : Int) < (ps.length : Int) - 2 * c + 1 then (ps.length : Int) - 2 * c + 1 else 0) = (addN c ps.length : Nat) := by unfold addN; split <;> omega
  simp [b_to_add, h1, m, len_pan, b_sub, max_int, e]
end Lb
/-! things, pairs, threes, orders -/
namespace Lb
open PySem PySem.Spec PyProof.Rows Z
variable {T : Str → Option Fd}
/-! ### places in a list -/
theorem idxOf_view (x : List Nat) : ∀ v : List (List Nat), x ∈ v → idxOf (dtx x) (v.map dtx) = some (v.idxOf x)
  | [], h => by simp at h
  | y :: v, h => by
    rw [List.map_cons]
    unfold idxOf
    have e : eqv (dtx y) (dtx x) = decide (y = x) := by
      have := eqv_str y x
      exact this
    rw [e, List.idxOf_cons]
    by_cases q : y = x
    · simp [q]
    · have h : x ∈ v := by
        rcases List.mem_cons.mp h with r | r
        · exact absurd r.symm q
        · exact r
      have hb : (y == x) = false := by simpa using q
      rw [idxOf_view x v h]
      simp [q, hb]
/-- texts that may be laid in a list -/
def Ok8 (v : List (List Nat)) : Prop := ∀ y ∈ v, PyData.canLay0 (.str (tx y)) = true
theorem ok8_all : ∀ {v : List (List Nat)}, Ok8 v → PyData.canLayAll0 (v.map fun y => .str (tx y)) = true ∧ PyData.depthAll (v.map fun y => .str (tx y)) = 0
  | [], _ => ⟨by simp [PyData.canLayAll0], by simp [PyData.depthAll]⟩
  | y :: v, h => by
    obtain ⟨h1, h2⟩ := ok8_all (v := v) fun z hz => h z (List.mem_cons_of_mem _ hz)
    rw [List.map_cons]
    simp only [PyData.canLayAll0, PyData.depthAll, h1, h2, h y List.mem_cons_self]
    exact ⟨rfl, by simp [PyData.depth]⟩
theorem toPys_view (v : List (List Nat)) : toPys (v.map dtx) = v.map fun y => .str (tx y) := by
  induction v with
  | nil => rfl
  | cons y v ih => rw [List.map_cons, List.map_cons, ← ih]; rfl
theorem index_view {v : List (List Nat)} {x : List Nat} (h : x ∈ v) (ok : Ok8 v) : mtD .index (dview v) (dtx x) = .ok (.int (v.idxOf x : Nat)) := by
  obtain ⟨h1, h2⟩ := ok8_all ok
  have c1 : SeqAt.shaped (toPy (dtx x)) = true := by
    show (PyData.canLay0 (.str (tx x)) && decide (PyData.depth (.str (tx x)) ≤ 64)) = true
    rw [ok x h]
    simp [PyData.depth]
  have c2 : SeqAt.shaped (toPy (dview v)) = true := by
    show (PyData.canLay0 (.list (toPys (v.map dtx))) && decide (PyData.depth (.list (toPys (v.map dtx))) ≤ 64)) = true
    rw [toPys_view]
    simp only [PyData.canLay0, PyData.depth, h1, h2]
    decide
  show chk (SeqAt.shaped (toPy (dtx x)) && SeqAt.shaped (toPy (.lst (v.map dtx)))) (match idxOf (dtx x) (v.map dtx) with | some i => R.ok (D.int i) | none => R.no) = _
  have c2 : SeqAt.shaped (toPy (.lst (v.map dtx))) = true := c2
  rw [c1, c2, idxOf_view x v h]
  rfl
def ahead (o : List (List Nat)) (a b : List Nat) : Bool := decide (o.idxOf a < o.idxOf b)
theorem is_ahead_eq [C_is_ahead T] (n : Nat) {o : List (List Nat)} {a b : List Nat} (ha : a ∈ o) (hb : b ∈ o) (ok : Ok8 o) : run T (n + 1) "is_ahead" [dview o, dtx a, dtx b] = .ok (.bl (ahead o a b)) := by
  rw [r_is_ahead]
  have h1 := index_view ha ok
  have h2 := index_view hb ok
  have e : decide (((o.idxOf a : Nat) : Int) < ((o.idxOf b : Nat) : Int)) = ahead o a b := by unfold ahead; rw [decide_eq_decide]; omega
  have lt1 : ltD (.int (o.idxOf a : Nat)) (.int (o.idxOf b : Nat)) = .ok (decide (((o.idxOf a : Nat) : Int) < ((o.idxOf b : Nat) : Int))) := c_lt
  rw [e] at lt1
  simp [b_is_ahead, h1, h2, lt1]
/-! ### pairs, threes -/
def pairsAt (l : List (List Nat)) (i : Nat) : List (List Nat × List Nat) := (l.drop (i + 1)).map fun y => (l.getD i [], y)
def pairsOf (l : List (List Nat)) : List (List Nat × List Nat) := (List.range l.length).flatMap (pairsAt l)
def dpr (p : List Nat × List Nat) : D := .tup [dtx p.1, dtx p.2]
def dprs (l : List (List Nat × List Nat)) : D := .lst (l.map dpr)
abbrev Three := List Nat × List Nat × List Nat
def threesAt (l : List (List Nat)) (i : Nat) : List Three := (pairsOf (l.drop (i + 1))).map fun p => (l.getD i [], p.1, p.2)
def threesOf (l : List (List Nat)) : List Three := (List.range l.length).flatMap (threesAt l)
def dth (p : Three) : D := .tup [dtx p.1, dtx p.2.1, dtx p.2.2]
def dths (l : List Three) : D := .lst (l.map dth)
theorem flat_bound {α β : Type} (f : α → List β) (k : Nat) : ∀ (l : List α), (∀ a ∈ l, (f a).length ≤ k) → (l.flatMap f).length ≤ l.length * k
  | [], _ => by simp
  | a :: l, h => by
    have h1 := h a List.mem_cons_self
    have h2 := flat_bound f k l fun b hb => h b (List.mem_cons_of_mem _ hb)
    rw [List.flatMap_cons, List.length_append, List.length_cons, Nat.succ_mul]
    omega
theorem pairsAt_len (l : List (List Nat)) (i : Nat) : (pairsAt l i).length ≤ l.length := by simp [pairsAt]
theorem pairs_len (l : List (List Nat)) : (pairsOf l).length ≤ l.length * l.length := by
  have := flat_bound (pairsAt l) l.length (List.range l.length) fun i _ => pairsAt_len l i
  rwa [List.length_range] at this
theorem threesAt_len (l : List (List Nat)) (i : Nat) : (threesAt l i).length ≤ l.length * l.length := by
  unfold threesAt
  rw [List.length_map]
  refine Nat.le_trans (pairs_len _) ?_
  have : (l.drop (i + 1)).length ≤ l.length := by simp
  exact Nat.mul_le_mul this this
theorem enum_view {v : List (List Nat)} {j : Nat} {x : D} (h : (List.zipWith (fun (k : Nat) x => D.tup [.int k, x]) (List.range (v.map dtx).length) (v.map dtx))[j]? = some x) : j < v.length ∧ x = .tup [.int j, dtx (v.getD j [])] := by
  rw [List.getElem?_zipWith, List.getElem?_map] at h
  cases hp : v[j]? with
  | none =>
    rw [hp] at h
    cases hr : (List.range (v.map dtx).length)[j]? <;> rw [hr] at h <;> simp at h
  | some p =>
    have hj := (List.getElem?_eq_some_iff.mp hp).1
    rw [hp, List.getElem?_range (by simpa using hj)] at h
    refine ⟨hj, ?_⟩
    rw [List.getD_eq_getElem?_getD, hp]
    simpa using h.symm
theorem ext_lst {α : Type} {f : α → D} {a b : List α} (h : a.length + b.length ≤ 16777216) : extD (.lst (a.map f)) (.lst (b.map f)) = .ok (.lst ((a ++ b).map f)) := by
  show chk _ _ = _
  rw [decide_eq_true (by rw [List.length_map, List.length_map]; exact Nat.le_trans h sizeLine_big), List.map_append]
  rfl
theorem cut_view_from1 {v : List (List Nat)} {k : Nat} : cutD (dview v) (some ((k : Int) + 1)) none = .ok (dview (v.drop (k + 1))) := by
  show R.ok (D.lst (cutL (v.map dtx) (some ((k + 1 : Nat) : Int)) none)) = _
  rw [cutL_from']
  unfold dview
  rw [List.map_drop]
theorem pairs_of_eq [C_pairs_of T] (n : Nat) {v : List (List Nat)} (h : v.length ≤ 1000) : run T (n + 1) "pairs_of" [dview v] = .ok (dprs (pairsOf v)) := by
  rw [r_pairs_of]
  have l0 : D.lst [] = dprs [] := rfl
  have hit : (iEnum (eVar 0)) [some (dview v), some (dprs []), none, none, none] = .ok (List.zipWith (fun (k : Nat) x => D.tup [.int k, x]) (List.range (v.map dtx).length) (v.map dtx)) := rfl
  obtain ⟨ρ', g1, g2⟩ := sFor_inv (kl := [2, 3, 4]) (g := gT [(gN 2), (gN 3)]) (b := f_pairs_of_1 (run T n)) hit
    (fun i ρ => ρ = [some (dview v), some (dprs ((List.range i).flatMap (pairsAt v))), none, none, none]) rfl (by
    rintro j x ρ hx rfl
    obtain ⟨hj, rfl⟩ := enum_view hx
    refine ⟨[some (dview v), some (dprs ((List.range j).flatMap (pairsAt v))), some (.int j), some (dtx (v.getD j [])), none], [some (dview v), some (dprs ((List.range (j + 1)).flatMap (pairsAt v))), some (.int j), some (dtx (v.getD j [])), none], by simp, .inl ?_, rfl⟩
    have e : (List.range (j + 1)).flatMap (pairsAt v) = (List.range j).flatMap (pairsAt v) ++ pairsAt v j := by rw [List.range_succ, List.flatMap_append]; simp
    rw [e]
    have b1 : ((List.range j).flatMap (pairsAt v)).length ≤ 1000 * 1000 := by
      refine Nat.le_trans (flat_bound (pairsAt v) 1000 (List.range j) fun i _ => Nat.le_trans (pairsAt_len v i) h) ?_
      rw [List.length_range]
      exact Nat.mul_le_mul (by omega) (Nat.le_refl _)
    have b2 := pairsAt_len v j
    have ex := ext_lst (f := dpr) (a := (List.range j).flatMap (pairsAt v)) (b := pairsAt v j) (by omega)
    simp only [f_pairs_of_1, q_ext]
    rw [comp_all (v.drop (j + 1)) dtx (fun y => dpr (v.getD j [], y)) (by simp [cut_view_from1, seq_view, b_add]) fun y hy => by simp [dpr]]
    have e2 : D.lst ((v.drop (j + 1)).map fun y => dpr (v.getD j [], y)) = .lst ((pairsAt v j).map dpr) := by unfold pairsAt; rw [List.map_map]; rfl
    rw [e2]
    simp only [ofR_ok, q_look, List.getElem?_cons_zero, List.getElem?_cons_succ, List.set_cons_zero, List.set_cons_succ]
    have ex : extD (dprs ((List.range j).flatMap (pairsAt v))) (.lst ((pairsAt v j).map dpr)) = .ok (dprs ((List.range j).flatMap (pairsAt v) ++ pairsAt v j)) := ex
    rw [ex]
    rfl)
  simp only [b_pairs_of, q_seq_set, q_lst, q_args0, R.bind_ok, ofR_ok, List.set_cons_zero, List.set_cons_succ, l0]
  rw [q_seq, g1, g2]
  simp [pairsOf]
theorem threes_of_eq [C_threes_of T] (n : Nat) {v : List (List Nat)} (h : v.length ≤ 100) : run T (n + 2) "threes_of" [dview v] = .ok (dths (threesOf v)) := by
  rw [r_threes_of]
  have l0 : D.lst [] = dths [] := rfl
  have hit : (iEnum (eVar 0)) [some (dview v), some (dths []), none, none, none, none] = .ok (List.zipWith (fun (k : Nat) x => D.tup [.int k, x]) (List.range (v.map dtx).length) (v.map dtx)) := rfl
  obtain ⟨ρ', g1, g2⟩ := sFor_inv (kl := [2, 3, 4, 5]) (g := gT [(gN 2), (gN 3)]) (b := f_threes_of_1 (run T (n + 1))) hit
    (fun i ρ => ρ = [some (dview v), some (dths ((List.range i).flatMap (threesAt v))), none, none, none, none]) rfl (by
    rintro j x ρ hx rfl
    obtain ⟨hj, rfl⟩ := enum_view hx
    refine ⟨[some (dview v), some (dths ((List.range j).flatMap (threesAt v))), some (.int j), some (dtx (v.getD j [])), none, none], [some (dview v), some (dths ((List.range (j + 1)).flatMap (threesAt v))), some (.int j), some (dtx (v.getD j [])), none, none], by simp, .inl ?_, rfl⟩
    have e : (List.range (j + 1)).flatMap (threesAt v) = (List.range j).flatMap (threesAt v) ++ threesAt v j := by rw [List.range_succ, List.flatMap_append]; simp
    rw [e]
    have b1 : ((List.range j).flatMap (threesAt v)).length ≤ 100 * 10000 := by
      refine Nat.le_trans (flat_bound (threesAt v) 10000 (List.range j) fun i _ => Nat.le_trans (threesAt_len v i) (Nat.mul_le_mul h h)) ?_
      rw [List.length_range]
      exact Nat.mul_le_mul (by omega) (Nat.le_refl _)
    have b2 : (threesAt v j).length ≤ 10000 := Nat.le_trans (threesAt_len v j) (Nat.mul_le_mul h h)
    have ex := ext_lst (f := dth) (a := (List.range j).flatMap (threesAt v)) (b := threesAt v j) (by omega)
    have pr := pairs_of_eq (T := T) n (v := v.drop (j + 1)) (by simp; omega)
    have sq : seqD (dprs (pairsOf (v.drop (j + 1)))) = .ok ((pairsOf (v.drop (j + 1))).map dpr) := rfl
    simp only [f_threes_of_1, q_ext]
    rw [comp_all (pairsOf (v.drop (j + 1))) dpr (fun p => dth (v.getD j [], p.1, p.2)) (by simp [cut_view_from1, pr, sq, b_add]) fun y hy => by simp [dth, dpr]]
    have e2 : D.lst ((pairsOf (v.drop (j + 1))).map fun p => dth (v.getD j [], p.1, p.2)) = .lst ((threesAt v j).map dth) := by unfold threesAt; rw [List.map_map]; rfl
    rw [e2]
    simp only [ofR_ok, q_look, List.getElem?_cons_zero, List.getElem?_cons_succ, List.set_cons_zero, List.set_cons_succ]
    have ex : extD (dths ((List.range j).flatMap (threesAt v))) (.lst ((threesAt v j).map dth)) = .ok (dths ((List.range j).flatMap (threesAt v) ++ threesAt v j)) := ex
    rw [ex]
    rfl)
  simp only [b_threes_of, q_seq_set, q_lst, q_args0, R.bind_ok, ofR_ok, List.set_cons_zero, List.set_cons_succ, l0]
  rw [q_seq, g1, g2]
  simp [threesOf]
end Lb
/-! ballots in line -/
namespace Lb
open PySem PySem.Spec PyProof.Rows Z
variable {T : Str → Option Fd}
def off (b : List (List Nat)) (t : Three) : Bool := ahead b t.1 t.2.1 && ahead b t.2.2 t.2.1
def doff (k : Nat) (t : Three) : D := .tup [.int k, dtx t.1, dtx t.2.1, dtx t.2.2]
def offAt (bs : List (List (List Nat))) (o : List (List Nat)) (k : Nat) : Option D := ((threesOf o).find? (off (bs.getD k []))).map (doff k)
def firstOff (bs : List (List (List Nat))) (o : List (List Nat)) : Option D := (List.range bs.length).findSome? (offAt bs o)
def orNon : Option D → D
  | some d => d
  | none => .non
theorem pairs_mem {l : List (List Nat)} {p : List Nat × List Nat} (h : p ∈ pairsOf l) : ∃ i j, i < j ∧ j < l.length ∧ p.1 = l.getD i [] ∧ p.2 = l.getD j [] := by
  obtain ⟨i, hi, hp⟩ := List.mem_flatMap.mp h
  have hi : i < l.length := by simpa using hi
  unfold pairsAt at hp
  obtain ⟨y, hy, rfl⟩ := List.mem_map.mp hp
  obtain ⟨k, hk, e⟩ := List.getElem_of_mem hy
  have hk2 : k < l.length - (i + 1) := by simpa using hk
  refine ⟨i, i + 1 + k, by omega, by omega, rfl, ?_⟩
  rw [List.getElem_drop] at e
  show y = l.getD (i + 1 + k) []
  rw [List.getD_eq_getElem?_getD, List.getElem?_eq_getElem (by omega), ← e]
  rfl
theorem threes_mem {l : List (List Nat)} {t : Three} (h : t ∈ threesOf l) : ∃ i j k, i < j ∧ j < k ∧ k < l.length ∧ t.1 = l.getD i [] ∧ t.2.1 = l.getD j [] ∧ t.2.2 = l.getD k [] := by
  obtain ⟨i, hi, hp⟩ := List.mem_flatMap.mp h
  have hi : i < l.length := by simpa using hi
  unfold threesAt at hp
  obtain ⟨p, hy, rfl⟩ := List.mem_map.mp hp
  obtain ⟨j, k, h1, h2, h3, h4⟩ := pairs_mem hy
  have h2' : k < l.length - (i + 1) := by simpa using h2
  have dr : ∀ m, (l.drop (i + 1)).getD m [] = l.getD (i + 1 + m) [] := fun m => by
    rw [List.getD_eq_getElem?_getD, List.getD_eq_getElem?_getD, List.getElem?_drop]
  exact ⟨i, i + 1 + j, i + 1 + k, by omega, by omega, by omega, rfl, by dsimp only; rw [h3, dr], by dsimp only; rw [h4, dr]⟩
theorem getD_mem {l : List (List Nat)} {i : Nat} (h : i < l.length) : l.getD i [] ∈ l := by
  rw [List.getD_eq_getElem?_getD, List.getElem?_eq_getElem h]
  exact List.getElem_mem _
theorem threes_in {l : List (List Nat)} {t : Three} (h : t ∈ threesOf l) : t.1 ∈ l ∧ t.2.1 ∈ l ∧ t.2.2 ∈ l := by
  obtain ⟨i, j, k, h1, h2, h3, e1, e2, e3⟩ := threes_mem h
  rw [e1, e2, e3]
  exact ⟨getD_mem (by omega), getD_mem (by omega), getD_mem h3⟩
theorem threes_ne {l : List (List Nat)} (nd : l.Nodup) {t : Three} (h : t ∈ threesOf l) : t.1 ≠ t.2.1 ∧ t.2.2 ≠ t.2.1 := by
  obtain ⟨i, j, k, h1, h2, h3, e1, e2, e3⟩ := threes_mem h
  have key : ∀ a b, a < b → b < l.length → l.getD a [] ≠ l.getD b [] := fun a b hab hb e => by
    rw [List.getD_eq_getElem?_getD, List.getD_eq_getElem?_getD, List.getElem?_eq_getElem hb, List.getElem?_eq_getElem (show a < l.length by omega)] at e
    have := (List.nodup_iff_pairwise_ne.mp nd)
    exact (List.pairwise_iff_getElem.mp this a b (by omega) hb hab) e
  rw [e1, e2, e3]
  exact ⟨key i j h1 (by omega), fun e => key j k h2 h3 e.symm⟩
/-- a ballot on which all things of an order stand -/
structure Bal (o b : List (List Nat)) : Prop where
  ok : Ok8 b
  sub : ∀ x ∈ o, x ∈ b
theorem middle_eq [C_middle_is_last T] (n : Nat) {o b : List (List Nat)} (h : Bal o b) {t : Three} (ht : t ∈ threesOf o) : run T (n + 2) "middle_is_last" [dview b, dth t] = .ok (.bl (off b t)) := by
  rw [r_middle_is_last]
  obtain ⟨m1, m2, m3⟩ := threes_in ht
  have a1 := is_ahead_eq (T := T) n (h.sub _ m1) (h.sub _ m2) h.ok
  have a2 := is_ahead_eq (T := T) n (h.sub _ m3) (h.sub _ m2) h.ok
  unfold off
  cases hc : ahead b t.1 t.2.1 with
  | true => rw [hc] at a1; simp [b_middle_is_last, dth, a1, a2]
  | false => rw [hc] at a1; simp [b_middle_is_last, dth, a1]
theorem find_map {α : Type} (l : List α) (p : α → Bool) (f : α → D) : l.findSome? (fun c => if p c = true then some (f c) else none) = (l.find? p).map f := by
  induction l with
  | nil => rfl
  | cons a l ih =>
    rw [List.findSome?_cons, List.find?_cons]
    cases h : p a <;> simp [h, ih]
theorem first_three_eq [C_first_three_off T] (n : Nat) {o b : List (List Nat)} (h : Bal o b) (hl : o.length ≤ 100) : run T (n + 3) "first_three_off" [dview b, dview o] = .ok (orNon (((threesOf o).find? (off b)).map dth)) := by
  rw [r_first_three_off]
  have t1 := threes_of_eq (T := T) n hl
  have sq : seqD (dths (threesOf o)) = .ok ((threesOf o).map dth) := rfl
  simp only [b_first_three_off]
  rw [q_seq, for_find (threesOf o) dth (fun t => if off b t = true then some (dth t) else none) (by simp [t1, sq]) fun t ht => by
    have m := middle_eq (T := T) n h ht
    cases hc : off b t with
    | true => rw [hc] at m; simp [f_first_three_off_1, m]
    | false =>
      rw [hc] at m
      simp only [Bool.false_eq_true, if_false]
      exact ⟨[some (dview b), some (dview o), some (dth t)], .inl (by simp [f_first_three_off_1, m]), rfl⟩]
  rw [find_map]
  cases (threesOf o).find? (off b) <;> rfl
theorem enum_rows (bs : List (List (List Nat))) : enumD (drows bs) = .ok ((List.range bs.length).map fun (k : Nat) => .tup [.int k, dview (bs.getD k [])]) := by
  show R.ok _ = _
  congr 1
  apply List.ext_getElem
  · simp
  · intro i h1 h2
    have hi : i < bs.length := by simpa using h2
    simp [List.getD_eq_getElem?_getD, List.getElem?_eq_getElem hi]
theorem getD_memR {l : List (List (List Nat))} {i : Nat} (h : i < l.length) : l.getD i [] ∈ l := by
  rw [List.getD_eq_getElem?_getD, List.getElem?_eq_getElem h]
  exact List.getElem_mem _
theorem first_ballot_eq [C_first_ballot_off T] (n : Nat) {o : List (List Nat)} {bs : List (List (List Nat))} (h : ∀ b ∈ bs, Bal o b) (hl : o.length ≤ 100) : run T (n + 4) "first_ballot_off" [drows bs, dview o] = .ok (orNon (firstOff bs o)) := by
  rw [r_first_ballot_off]
  have en := enum_rows bs
  simp only [b_first_ballot_off]
  rw [q_seq, for_find (List.range bs.length) (fun (k : Nat) => .tup [.int k, dview (bs.getD k [])]) (offAt bs o) (by simp [en]) fun k hk => by
    have hk : k < bs.length := by simpa using hk
    have f := first_three_eq (T := T) n (h _ (getD_memR hk)) hl
    unfold offAt
    generalize bs.getD k [] = b at *
    cases hc : (threesOf o).find? (off b) with
    | some t =>
      rw [hc] at f
      have f : run T (n + 3) "first_three_off" [dview b, dview o] = .ok (dth t) := f
      have n1 : isNone (dth t) = false := rfl
      have ad : binD .Add (.tup [.int (k : Int)]) (dth t) = .ok (doff k t) := by
        have e : binD .Add (.tup [.int (k : Int)]) (dth t) = chk (decide (1 + 3 ≤ sizeLine)) (.ok (doff k t)) := rfl
        rw [e, decide_eq_true (Nat.le_trans (by omega) sizeLine_big)]
        rfl
      simp [f_first_ballot_off_1, f, n1, ad]
    | none =>
      rw [hc] at f
      have f : run T (n + 3) "first_three_off" [dview b, dview o] = .ok .non := f
      have n1 : isNone .non = true := rfl
      simp only [Option.map_none]
      exact ⟨[some (drows bs), some (dview o), some (.int k), some (dview b), some .non], .inl (by simp [f_first_ballot_off_1, f, n1]), rfl⟩]
  have : (List.range bs.length).findSome? (offAt bs o) = firstOff bs o := rfl
  rw [this]
  cases firstOff bs o <;> rfl
theorem are_in_line_eq [C_are_in_line T] (n : Nat) {o : List (List Nat)} {bs : List (List (List Nat))} (h : ∀ b ∈ bs, Bal o b) (hl : o.length ≤ 100) : run T (n + 5) "are_in_line" [drows bs, dview o] = .ok (.bl (firstOff bs o).isNone) := by
  rw [r_are_in_line]
  have f := first_ballot_eq (T := T) n h hl
  cases hc : firstOff bs o with
  | none => rw [hc] at f; simp [b_are_in_line, f, orNon, isNone]
  | some d =>
    rw [hc] at f
    have : ∃ k t, d = doff k t := by
      unfold firstOff at hc
      obtain ⟨k, _, e⟩ := List.exists_of_findSome?_eq_some hc
      unfold offAt at e
      obtain ⟨t, _, e⟩ := Option.map_eq_some_iff.mp e
      exact ⟨k, t, e.symm⟩
    obtain ⟨k, t, rfl⟩ := this
    have n1 : isNone (doff k t) = false := rfl
    simp [b_are_in_line, f, orNon, n1]
/-! ### the law's words -/
theorem law_pairs_eq [C__law_pairs T] (n : Nat) {v : List (List Nat)} (h : v.length ≤ 1000) : run T (n + 1) "_law_pairs" [dview v] = .ok (dprs (pairsOf v)) := by
  rw [r__law_pairs]
  have l0 : D.lst [] = dprs [] := rfl
  have rg := f_range (n := v.length) (by omega)
  have hit : (iRange [(eBlt .len [(eVar 0)])]) [some (dview v), some (dprs []), none, none] = .ok ((List.range v.length).map fun (k : Nat) => .int k) := by simp [rg]
  obtain ⟨ρ', g1, g2⟩ := sFor_inv (kl := [2, 3]) (g := gN 2) (b := f__law_pairs_1 (run T n)) hit
    (fun i ρ => ρ = [some (dview v), some (dprs ((List.range i).flatMap (pairsAt v))), none, none]) rfl (by
    rintro j x ρ hx rfl
    obtain ⟨hj, rfl⟩ := range_at hx
    refine ⟨[some (dview v), some (dprs ((List.range j).flatMap (pairsAt v))), some (.int j), none], [some (dview v), some (dprs ((List.range (j + 1)).flatMap (pairsAt v))), some (.int j), none], rfl, .inl ?_, rfl⟩
    have e : (List.range (j + 1)).flatMap (pairsAt v) = (List.range j).flatMap (pairsAt v) ++ pairsAt v j := by rw [List.range_succ, List.flatMap_append]; simp
    rw [e]
    have b1 : ((List.range j).flatMap (pairsAt v)).length ≤ 1000 * 1000 := by
      refine Nat.le_trans (flat_bound (pairsAt v) 1000 (List.range j) fun i _ => Nat.le_trans (pairsAt_len v i) h) ?_
      rw [List.length_range]
      exact Nat.mul_le_mul (by omega) (Nat.le_refl _)
    have b2 := pairsAt_len v j
    have ex : binD .Add (dprs ((List.range j).flatMap (pairsAt v))) (.lst ((pairsAt v j).map dpr)) = .ok (dprs ((List.range j).flatMap (pairsAt v) ++ pairsAt v j)) := by
      unfold dprs
      rw [b_addl (by rw [List.length_map, List.length_map]; exact Nat.le_trans (by omega) sizeLine_big), List.map_append]
    simp only [f__law_pairs_1, q_set, q_bin, q_var, q_look, List.getElem?_cons_zero, List.getElem?_cons_succ, R.bind_ok]
    rw [comp_all (v.drop (j + 1)) dtx (fun y => dpr (v.getD j [], y)) (by simp [cut_view_from1, seq_view, b_add]) fun y hy => by
      have i1 := ix_view (rs := v) hj
      generalize v.getD j [] = u at *
      simp [dpr, i1]]
    have e2 : D.lst ((v.drop (j + 1)).map fun y => dpr (v.getD j [], y)) = .lst ((pairsAt v j).map dpr) := by unfold pairsAt; rw [List.map_map]; rfl
    rw [e2]
    simp only [R.bind_ok, ex, ofR_ok, List.set_cons_zero, List.set_cons_succ])
  rw [List.length_map, List.length_range] at g2
  simp only [b__law_pairs, q_seq_set, q_lst, q_args0, R.bind_ok, ofR_ok, List.set_cons_zero, List.set_cons_succ, l0]
  rw [q_seq, g1, g2]
  simp [pairsOf]
theorem law_threes_eq [C__law_threes T] (n : Nat) {v : List (List Nat)} (h : v.length ≤ 100) : run T (n + 2) "_law_threes" [dview v] = .ok (dths (threesOf v)) := by
  rw [r__law_threes]
  have l0 : D.lst [] = dths [] := rfl
  have rg := f_range (n := v.length) (by omega)
  have hit : (iRange [(eBlt .len [(eVar 0)])]) [some (dview v), some (dths []), none, none, none] = .ok ((List.range v.length).map fun (k : Nat) => .int k) := by simp [rg]
  obtain ⟨ρ', g1, g2⟩ := sFor_inv (kl := [2, 3, 4]) (g := gN 2) (b := f__law_threes_1 (run T (n + 1))) hit
    (fun i ρ => ρ = [some (dview v), some (dths ((List.range i).flatMap (threesAt v))), none, none, none]) rfl (by
    rintro j x ρ hx rfl
    obtain ⟨hj, rfl⟩ := range_at hx
    refine ⟨[some (dview v), some (dths ((List.range j).flatMap (threesAt v))), some (.int j), none, none], [some (dview v), some (dths ((List.range (j + 1)).flatMap (threesAt v))), some (.int j), none, none], rfl, .inl ?_, rfl⟩
    have e : (List.range (j + 1)).flatMap (threesAt v) = (List.range j).flatMap (threesAt v) ++ threesAt v j := by rw [List.range_succ, List.flatMap_append]; simp
    rw [e]
    have b1 : ((List.range j).flatMap (threesAt v)).length ≤ 100 * 10000 := by
      refine Nat.le_trans (flat_bound (threesAt v) 10000 (List.range j) fun i _ => Nat.le_trans (threesAt_len v i) (Nat.mul_le_mul h h)) ?_
      rw [List.length_range]
      exact Nat.mul_le_mul (by omega) (Nat.le_refl _)
    have b2 : (threesAt v j).length ≤ 10000 := Nat.le_trans (threesAt_len v j) (Nat.mul_le_mul h h)
    have ex : binD .Add (dths ((List.range j).flatMap (threesAt v))) (.lst ((threesAt v j).map dth)) = .ok (dths ((List.range j).flatMap (threesAt v) ++ threesAt v j)) := by
      unfold dths
      rw [b_addl (by rw [List.length_map, List.length_map]; exact Nat.le_trans (by omega) sizeLine_big), List.map_append]
    have pr := law_pairs_eq (T := T) n (v := v.drop (j + 1)) (by simp; omega)
    have sq : seqD (dprs (pairsOf (v.drop (j + 1)))) = .ok ((pairsOf (v.drop (j + 1))).map dpr) := rfl
    simp only [f__law_threes_1, q_set, q_bin, q_var, q_look, List.getElem?_cons_zero, List.getElem?_cons_succ, R.bind_ok]
    rw [comp_all (pairsOf (v.drop (j + 1))) dpr (fun p => dth (v.getD j [], p.1, p.2)) (by simp [cut_view_from1, pr, sq, b_add]) fun y hy => by
      have i1 := ix_view (rs := v) hj
      generalize v.getD j [] = u at *
      simp [dth, dpr, i1]]
    have e2 : D.lst ((pairsOf (v.drop (j + 1))).map fun p => dth (v.getD j [], p.1, p.2)) = .lst ((threesAt v j).map dth) := by unfold threesAt; rw [List.map_map]; rfl
    rw [e2]
    simp only [R.bind_ok, ex, ofR_ok, List.set_cons_zero, List.set_cons_succ])
  rw [List.length_map, List.length_range] at g2
  simp only [b__law_threes, q_seq_set, q_lst, q_args0, R.bind_ok, ofR_ok, List.set_cons_zero, List.set_cons_succ, l0]
  rw [q_seq, g1, g2]
  simp [threesOf]
theorem idx_inj {b : List (List Nat)} {x y : List Nat} (hx : x ∈ b) (e : b.idxOf x = b.idxOf y) : x = y := by
  have h1 : b.idxOf x < b.length := List.idxOf_lt_length_of_mem hx
  have h2 : b[b.idxOf x] = x := List.getElem_idxOf h1
  have h3 : b.idxOf y < b.length := by rw [← e]; exact h1
  have h4 : b[b.idxOf y] = y := List.getElem_idxOf h3
  rw [← h2, ← h4]
  simp [e]
theorem law_is_off_eq [C__law_is_off T] (n : Nat) {o b : List (List Nat)} (h : Bal o b) (nd : o.Nodup) {t : Three} (ht : t ∈ threesOf o) : run T (n + 1) "_law_is_off" [dview b, dth t] = .ok (.bl (off b t)) := by
  rw [r__law_is_off]
  obtain ⟨m1, m2, m3⟩ := threes_in ht
  obtain ⟨n1, n2⟩ := threes_ne nd ht
  have j1 := index_view (h.sub _ m1) h.ok
  have j2 := index_view (h.sub _ m2) h.ok
  have j3 := index_view (h.sub _ m3) h.ok
  have q1 : b.idxOf t.1 ≠ b.idxOf t.2.1 := fun e => n1 (idx_inj (h.sub _ m1) e)
  have q3 : b.idxOf t.2.2 ≠ b.idxOf t.2.1 := fun e => n2 (idx_inj (h.sub _ m3) e)
  have i1 : ixD (dth t) (.int 1) = .ok (dtx t.2.1) := rfl
  have sq : seqD (dth t) = .ok ([t.1, t.2.1, t.2.2].map dtx) := rfl
  simp only [b__law_is_off, q_ret, q_cmp, q_blt, q_args, q_args0]
  rw [comp_all [t.1, t.2.1, t.2.2] dtx (fun x => .int (b.idxOf x : Nat)) (by simp [sq]) fun x hx => by
    have hx : x ∈ b := by
      simp only [List.mem_cons, List.not_mem_nil, or_false] at hx
      rcases hx with e | e | e <;> rw [e]
      · exact h.sub _ m1
      · exact h.sub _ m2
      · exact h.sub _ m3
    have := index_view hx h.ok
    simp [this]]
  have mx : bltD .max [.lst ([t.1, t.2.1, t.2.2].map fun x => .int (b.idxOf x : Nat))] = .ok (.int (if (b.idxOf t.1 : Int) < (if (b.idxOf t.2.1 : Int) < b.idxOf t.2.2 then (b.idxOf t.2.2 : Int) else b.idxOf t.2.1) then (if (b.idxOf t.2.1 : Int) < b.idxOf t.2.2 then (b.idxOf t.2.2 : Int) else b.idxOf t.2.1) else b.idxOf t.1)) := rfl
  simp only [R.bind_ok, mx, q_mt, q_var, q_look, q_ix, q_lit, List.getElem?_cons_zero, List.getElem?_cons_succ, i1, j2, c_eq]
  unfold off ahead
  generalize b.idxOf t.1 = a1 at *
  generalize b.idxOf t.2.1 = a2 at *
  generalize b.idxOf t.2.2 = a3 at *
  generalize hm : (if (a1 : Int) < (if (a2 : Int) < a3 then (a3 : Int) else a2) then (if (a2 : Int) < a3 then (a3 : Int) else a2) else a1) = m
  have e := eq_int (a2 : Int) m
  have e2 : decide ((a2 : Int) = m) = (decide (a1 < a2) && decide (a3 < a2)) := by
    rw [Bool.eq_iff_iff, Bool.and_eq_true, decide_eq_true_eq, decide_eq_true_eq, decide_eq_true_eq, ← hm]
    constructor
    · intro h
      split at h <;> split at h <;> omega
    · intro h
      rw [if_neg (show ¬ (a2 : Int) < a3 by omega), if_pos (by omega)]
  rw [e2] at e
  rw [e]
  rfl
theorem law_off_eq [C__law_off T] (n : Nat) {o : List (List Nat)} {bs : List (List (List Nat))} (h : ∀ b ∈ bs, Bal o b) (nd : o.Nodup) (hl : o.length ≤ 100) (hb : bs.length ≤ 1000) : run T (n + 3) "_law_off" [drows bs, dview o] = .ok (orNon (firstOff bs o)) := by
  rw [r__law_off]
  have rg := f_range (n := bs.length) (by omega)
  have t1 := law_threes_eq (T := T) n hl
  have sq : seqD (dths (threesOf o)) = .ok ((threesOf o).map dth) := rfl
  simp only [b__law_off]
  rw [q_seq, for_find (List.range bs.length) (fun (k : Nat) => .int k) (offAt bs o) (by simp [rg]) fun k hk => by
    have hk : k < bs.length := by simpa using hk
    have hbk := h _ (getD_memR hk)
    have ik := ix_rows hk
    have inner : f__law_off_1 (run T (n + 2)) [some (drows bs), some (dview o), some (.int k), none] = match offAt bs o k with | some d => .rt d | none => .nx [some (drows bs), some (dview o), some (.int k), none] := by
      unfold offAt
      generalize bs.getD k [] = b at *
      simp only [f__law_off_1]
      rw [for_find (threesOf o) dth (fun t => if off b t = true then some (doff k t) else none) (by simp [t1, sq]) fun t ht => by
        have m := law_is_off_eq (T := T) (n + 1) hbk nd ht
        have e0 : ixD (dth t) (.int 0) = .ok (dtx t.1) := rfl
        have e1 : ixD (dth t) (.int 1) = .ok (dtx t.2.1) := rfl
        have e2 : ixD (dth t) (.int 2) = .ok (dtx t.2.2) := rfl
        cases hc : off b t with
        | true => rw [hc] at m; simp [f__law_off_2, ik, m, e0, e1, e2, doff]
        | false =>
          rw [hc] at m
          simp only [Bool.false_eq_true, if_false]
          exact ⟨[some (drows bs), some (dview o), some (.int k), some (dth t)], .inl (by simp [f__law_off_2, ik, m]), rfl⟩]
      rw [find_map]
      rfl
    show match offAt bs o k with | some d => _ | none => _
    have inner : ofR (gN 2 (.int (k : Int)) (killE [2, 3] [some (drows bs), some (dview o), none, none])) (f__law_off_1 (run T (n + 2))) = match offAt bs o k with | some d => .rt d | none => .nx [some (drows bs), some (dview o), some (.int k), none] := inner
    cases hc : offAt bs o k with
    | some d => rw [hc] at inner; exact inner
    | none =>
      rw [hc] at inner
      exact ⟨_, .inl inner, rfl⟩]
  have : (List.range bs.length).findSome? (offAt bs o) = firstOff bs o := rfl
  rw [this]
  cases firstOff bs o <;> rfl
end Lb
/-! orders of things, rankings -/
namespace Lb
open PySem PySem.Spec PyProof.Rows Z
variable {T : Str → Option Fd}
/-! ### lists of lists of texts, sorted -/
theorem alike_strs : ∀ v w : List (List Nat), PySem.W.alikeAll (v.map fun y => .str (tx y)) (w.map fun y => .str (tx y)) = true
  | [], _ => by simp only [List.map_nil, PySem.W.alikeAll]
  | _ :: _, [] => by simp only [List.map_cons, List.map_nil, PySem.W.alikeAll]
  | a :: v, b :: w => by
    rw [List.map_cons, List.map_cons]
    simp only [PySem.W.alikeAll, PySem.W.alike, alike_strs v w]
    rfl
theorem plain_strs : ∀ v : List (List Nat), PyData.plainAll (v.map fun y => .str (tx y)) = true ∧ PyData.depthAll (v.map fun y => .str (tx y)) = 0
  | [] => ⟨by simp [PyData.plainAll], by simp [PyData.depthAll]⟩
  | y :: v => by
    obtain ⟨h1, h2⟩ := plain_strs v
    rw [List.map_cons]
    simp only [PyData.plainAll, PyData.depthAll, h1, h2]
    exact ⟨by simp [PyData.plain], by simp [PyData.depth]⟩
theorem toPy_view (v : List (List Nat)) : toPy (dview v) = .list (v.map fun y => .str (tx y)) := by
  rw [← toPys_view]
  rfl
theorem sorts_view (a b : List (List Nat)) : sorts (dview a) (dview b) = true := by
  obtain ⟨p1, p2⟩ := plain_strs a
  obtain ⟨q1, q2⟩ := plain_strs b
  unfold sorts fine
  rw [toPy_view, toPy_view]
  simp only [PySem.W.alike, PyData.plain, PyData.depth, alike_strs, p1, p2, q1, q2]
  rfl
def leR (a b : List (List Nat)) : Bool := !PySem.W.dataLt (toPy (dview b)) (toPy (dview a))
def sortR (l : List (List (List Nat))) : List (List (List Nat)) := l.mergeSort leR
theorem sortR_perm (l : List (List (List Nat))) : (sortR l).Perm l := List.mergeSort_perm _ _
theorem sorted_rows (l : List (List (List Nat))) : bltD .sorted [drows l] = .ok (drows (sortR l)) := by
  refine sorted_of (k := dview) ?_ fun a _ b _ => rfl
  unfold sortable allAlike
  rw [Bool.and_eq_true, Bool.or_eq_true]
  refine ⟨?_, .inl ?_⟩
  · rw [List.all_eq_true]
    intro x hx
    rw [List.all_eq_true]
    intro y hy
    obtain ⟨a, _, rfl⟩ := List.mem_map.mp hx
    obtain ⟨b, _, rfl⟩ := List.mem_map.mp hy
    exact sorts_view a b
  · rw [List.all_eq_true]
    intro x hx
    obtain ⟨a, _, rfl⟩ := List.mem_map.mp hx
    rfl
/-! ### all orders -/
def putAll (x : List Nat) (o : List (List Nat)) : List (List (List Nat)) := (List.range (o.length + 1)).map fun k => o.take k ++ [x] ++ o.drop k
def insAll (found : List (List (List Nat))) (x : List Nat) : List (List (List Nat)) := found.flatMap (putAll x)
def ordersU (things : List (List Nat)) : List (List (List Nat)) := things.foldl insAll [[]]
def ordersOf (things : List (List Nat)) : List (List (List Nat)) := sortR (ordersU things)
theorem ordersU_snoc (t : List (List Nat)) (x : List Nat) : ordersU (t ++ [x]) = insAll (ordersU t) x := by unfold ordersU; rw [List.foldl_append]; rfl
theorem put_perm {x : List Nat} {o p : List (List Nat)} (h : p ∈ putAll x o) : p.Perm (x :: o) := by
  obtain ⟨k, _, rfl⟩ := List.mem_map.mp h
  have h1 : (o.take k ++ [x] ++ o.drop k).Perm (x :: (o.take k ++ o.drop k)) := by
    rw [List.append_assoc]
    exact List.perm_middle
  rwa [List.take_append_drop] at h1
theorem ordersU_take (t : List (List Nat)) : ∀ j, j ≤ t.length → j ≤ 4 → (∀ o ∈ ordersU (t.take j), o.Perm (t.take j)) ∧ (ordersU (t.take j)).length ≤ 5 ^ j ∧ ordersU (t.take j) ≠ [] := by
  intro j
  induction j with
  | zero => intro _ _; exact ⟨fun o ho => by have : o = [] := by simpa [ordersU] using ho
                                             rw [this]; exact List.Perm.refl _, by simp [ordersU], by simp [ordersU]⟩
  | succ j ih =>
    intro hj h4
    obtain ⟨i1, i2, i3⟩ := ih (by omega) (by omega)
    have hx : t[j]? = some t[j] := List.getElem?_eq_getElem (by omega)
    rw [take_snoc hx, ordersU_snoc]
    have tl : (t.take j).length = j := by rw [List.length_take]; omega
    refine ⟨fun o ho => ?_, ?_, ?_⟩
    · obtain ⟨p, hp, ho⟩ := List.mem_flatMap.mp ho
      have e1 := put_perm ho
      have e2 := i1 p hp
      exact e1.trans ((e2.cons _).trans (List.perm_append_singleton _ _).symm)
    · have : (insAll (ordersU (t.take j)) t[j]).length ≤ (ordersU (t.take j)).length * 5 := flat_bound _ 5 _ fun o ho => by
        have := (i1 o ho).length_eq
        simp only [putAll, List.length_map, List.length_range]
        omega
      rw [Nat.pow_succ]
      exact Nat.le_trans this (Nat.mul_le_mul i2 (Nat.le_refl _))
    · obtain ⟨o, ho⟩ := List.exists_mem_of_ne_nil _ i3
      intro e
      have : o.take 0 ++ [t[j]] ++ o.drop 0 ∈ insAll (ordersU (t.take j)) t[j] := List.mem_flatMap.mpr ⟨o, ho, List.mem_map.mpr ⟨0, by simp, rfl⟩⟩
      rw [e] at this
      exact List.not_mem_nil this
theorem orders_mem {t o : List (List Nat)} (h : t.length ≤ 4) (ho : o ∈ ordersOf t) : o.Perm t := by
  have := (ordersU_take t t.length (Nat.le_refl _) h).1 o
  rw [List.take_length] at this
  exact this ((sortR_perm _).mem_iff.mp ho)
theorem orders_ne {t : List (List Nat)} (h : t.length ≤ 4) : ordersOf t ≠ [] := by
  have := (ordersU_take t t.length (Nat.le_refl _) h).2.2
  rw [List.take_length] at this
  intro e
  have p := sortR_perm (ordersU t)
  rw [show sortR (ordersU t) = [] from e] at p
  exact this p.symm.eq_nil
theorem orders_len {t : List (List Nat)} (h : t.length ≤ 4) : (ordersOf t).length ≤ 625 := by
  have := (ordersU_take t t.length (Nat.le_refl _) h).2.1
  rw [List.take_length] at this
  unfold ordersOf
  rw [(sortR_perm _).length_eq]
  exact Nat.le_trans this (Nat.le_trans (Nat.pow_le_pow_right (n := 5) (by omega) h) (by decide))
theorem put_hit {ρ : Z.Env} {o : List (List Nat)} (hl : o.length ≤ 10) (h4 : ρ[4]? = some (some (dview o))) : (iRange [(eBin .Add (eBlt .len [(eVar 4)]) (eLit (.int 1)))]) ρ = .ok ((List.range (o.length + 1)).map fun (k : Nat) => .int k) := by
  have rg := f_rangeZ (z := (o.length : Int) + 1) (n := o.length + 1) (by omega) (by omega)
  have l4 : look ρ 4 = .ok (dview o) := by unfold look; rw [h4]
  have ea : eArgs [(eBin .Add (eBlt .len [(eVar 4)]) (eLit (.int 1)))] ρ = .ok [.int ((o.length : Int) + 1)] := by
    rw [q_args, q_bin, q_blt, q_args, q_args0, q_var, l4, q_lit]
    simp only [R.bind_ok, len_view, b_add, q_args0]
  rw [q_irange, ea, R.bind_ok]
  exact rg
theorem put_comp {ρ : Z.Env} {o : List (List Nat)} {x : List Nat} (hl : o.length ≤ 10) (h4 : ρ[4]? = some (some (dview o))) (h2 : ρ[2]? = some (some (dtx x))) (h5 : 5 < ρ.length) :
    eComp [5] (gN 5) (iRange [(eBin .Add (eBlt .len [(eVar 4)]) (eLit (.int 1)))]) [] (eBin .Add (eBin .Add (eCut (eVar 4) none (some (eVar 5))) (eLst [(eVar 2)])) (eCut (eVar 4) (some (eVar 5)) none)) ρ = .ok (drows (putAll x o)) := by
  have rg := f_rangeZ (z := (o.length : Int) + 1) (n := o.length + 1) (by omega) (by omega)
  have l4 : look ρ 4 = .ok (dview o) := by unfold look; rw [h4]
  rw [comp_all (List.range (o.length + 1)) (fun (k : Nat) => .int k) (fun k => dview (o.take k ++ [x] ++ o.drop k)) (put_hit hl h4) fun k hk => by
    have hk : k < o.length + 1 := by simpa using hk
    have c1 := cut_view_to (v := o) (k := k) (by omega)
    have c2 := cut_view_from (v := o) (k := k) (by omega)
    have a1 := add_view (a := o.take k) (b := [x]) (by simp; omega)
    have a2 := add_view (a := o.take k ++ [x]) (b := o.drop k) (by simp; omega)
    have e1 : D.lst [dtx x] = dview [x] := rfl
    have k4 : ((ρ.set 5 none).set 5 (some (D.int k)))[4]? = some (some (dview o)) := by rw [List.getElem?_set_ne (by omega), List.getElem?_set_ne (by omega)]; exact h4
    have k2 : ((ρ.set 5 none).set 5 (some (D.int k)))[2]? = some (some (dtx x)) := by rw [List.getElem?_set_ne (by omega), List.getElem?_set_ne (by omega)]; exact h2
    have k5 : ((ρ.set 5 none).set 5 (some (D.int k)))[5]? = some (some (D.int k)) := List.getElem?_set_self (by simpa using h5)
    generalize hρ : (ρ.set 5 none).set 5 (some (D.int k)) = ρ2 at *
    simp only [q_compF, q_gN, q_kill, q_kill0, hρ, R.bind_ok, q_tests0, if_true, q_bin, q_cut, q_var, q_look, k4, k5, k2, q_part, q_part0, q_lst, q_args, q_args0, c1, c2, e1, a1, a2]]
  rw [drows_map]
  rfl
theorem orders_of_eq [C_orders_of T] (n : Nat) {t : List (List Nat)} (h : t.length ≤ 4) : run T (n + 1) "orders_of" [dview t] = .ok (drows (ordersOf t)) := by
  rw [r_orders_of]
  have l0 : D.lst [.lst []] = drows (ordersU []) := rfl
  have l1 : D.lst [] = drows [] := rfl
  simp only [b_orders_of, q_seq_set, q_lst, q_args, q_args0, R.bind_ok, ofR_ok, List.set_cons_zero, List.set_cons_succ]
  rw [l0, q_seq, for_take t dtx (fun pre => [some (dview t), some (drows (ordersU pre)), none, none, none, none]) (by simp [seq_view]) rfl fun j x hx => by
    have hj := (List.getElem?_eq_some_iff.mp hx).1
    obtain ⟨i1, i2, i3⟩ := ordersU_take t j (by omega) (by omega)
    have tl : (t.take j).length = j := by rw [List.length_take]; omega
    have p5 : 5 ^ j ≤ 625 := Nat.le_trans (Nat.pow_le_pow_right (n := 5) (by omega) (show j ≤ 4 by omega)) (by decide)
    refine ⟨_, [some (dview t), some (drows (ordersU (t.take (j + 1)))), some (dtx x), none, none, none], rfl, .inl ?_, rfl⟩
    rw [take_snoc hx, ordersU_snoc]
    generalize ordersU (t.take j) = fd at *
    simp only [f_orders_of_1, q_seq_set, q_lst, q_args0, R.bind_ok, ofR_ok, List.set_cons_zero, List.set_cons_succ, l1]
    rw [q_seq, for_take fd dview (fun pre => [some (dview t), some (drows fd), some (dtx x), some (drows (insAll pre x)), none, none]) (by simp [seq_rows]) rfl fun i o ho => by
      have hm := List.mem_of_getElem? ho
      have ol := (i1 o hm).length_eq
      have hi := (List.getElem?_eq_some_iff.mp ho).1
      have e : insAll (fd.take (i + 1)) x = insAll (fd.take i) x ++ putAll x o := by rw [take_snoc ho]; unfold insAll; rw [List.flatMap_append]; simp
      have b1 : (insAll (fd.take i) x).length ≤ 625 * 5 := by
        refine Nat.le_trans (flat_bound _ 5 _ fun p hp => ?_) (Nat.mul_le_mul (show (fd.take i).length ≤ 625 by rw [List.length_take]; omega) (Nat.le_refl _))
        have := (i1 p (List.mem_of_mem_take hp)).length_eq
        simp only [putAll, List.length_map, List.length_range]
        omega
      have b2 : (putAll x o).length ≤ 5 := by simp only [putAll, List.length_map, List.length_range]; omega
      have ex : extD (drows (insAll (fd.take i) x)) (drows (putAll x o)) = .ok (drows (insAll (fd.take i) x ++ putAll x o)) := ext_lst (f := dview) (by omega)
      have pc := put_comp (ρ := [some (dview t), some (drows fd), some (dtx x), some (drows (insAll (fd.take i) x)), some (dview o), none]) (o := o) (x := x) (by omega) rfl rfl (by simp)
      refine ⟨_, [some (dview t), some (drows fd), some (dtx x), some (drows (insAll (fd.take (i + 1)) x)), some (dview o), none], rfl, .inl ?_, rfl⟩
      rw [e]
      simp only [f_orders_of_2, q_ext, List.set_cons_zero, List.set_cons_succ]
      rw [pc]
      simp only [ofR_ok, q_look, List.getElem?_cons_zero, List.getElem?_cons_succ, ex, List.set_cons_zero, List.set_cons_succ]]
    simp]
  have s := sorted_rows (ordersU t)
  simp [s, ordersOf]
theorem law_orders_body (call : Call) {e0 e1 : Option D} {acc : List (List (List Nat))} {o : List (List Nat)} {x : List Nat} (hl : o.length ≤ 10) (hb : acc.length + (putAll x o).length ≤ 16777216) :
    f__law_orders_2 call [e0, e1, some (dtx x), some (drows acc), some (dview o), none] = .nx [e0, e1, some (dtx x), some (drows (acc ++ putAll x o)), some (dview o), none] := by
  have pc := put_comp (ρ := [e0, e1, some (dtx x), some (drows acc), some (dview o), none]) (o := o) (x := x) hl rfl rfl (by simp)
  have ex := add_rows (a := acc) (b := putAll x o) hb
  unfold f__law_orders_2
  rw [q_set, q_bin, pc, q_var]
  have l3 : look [e0, e1, some (dtx x), some (drows acc), some (dview o), none] 3 = .ok (drows acc) := rfl
  rw [l3, R.bind_ok, R.bind_ok, ex, ofR_ok]
  rfl
theorem law_orders_eq [C__law_orders T] (n : Nat) {t : List (List Nat)} (h : t.length ≤ 4) : run T (n + 1) "_law_orders" [dview t] = .ok (drows (ordersOf t)) := by
  rw [r__law_orders]
  have l0 : D.lst [.lst []] = drows (ordersU []) := rfl
  have l1 : D.lst [] = drows [] := rfl
  simp only [b__law_orders, q_seq_set, q_lst, q_args, q_args0, R.bind_ok, ofR_ok, List.set_cons_zero, List.set_cons_succ]
  rw [l0, q_seq, for_take t dtx (fun pre => [some (dview t), some (drows (ordersU pre)), none, none, none, none]) (by simp [seq_view]) rfl fun j x hx => by
    have hj := (List.getElem?_eq_some_iff.mp hx).1
    obtain ⟨i1, i2, i3⟩ := ordersU_take t j (by omega) (by omega)
    have tl : (t.take j).length = j := by rw [List.length_take]; omega
    have p5 : 5 ^ j ≤ 625 := Nat.le_trans (Nat.pow_le_pow_right (n := 5) (by omega) (show j ≤ 4 by omega)) (by decide)
    refine ⟨_, [some (dview t), some (drows (ordersU (t.take (j + 1)))), some (dtx x), none, none, none], rfl, .inl ?_, rfl⟩
    rw [take_snoc hx, ordersU_snoc]
    generalize ordersU (t.take j) = fd at *
    simp only [f__law_orders_1, q_seq_set, q_lst, q_args0, R.bind_ok, ofR_ok, List.set_cons_zero, List.set_cons_succ, l1]
    rw [q_seq, for_take fd dview (fun pre => [some (dview t), some (drows fd), some (dtx x), some (drows (insAll pre x)), none, none]) (by simp [seq_rows]) rfl fun i o ho => by
      have hm := List.mem_of_getElem? ho
      have ol := (i1 o hm).length_eq
      have hi := (List.getElem?_eq_some_iff.mp ho).1
      have e : insAll (fd.take (i + 1)) x = insAll (fd.take i) x ++ putAll x o := by rw [take_snoc ho]; unfold insAll; rw [List.flatMap_append]; simp
      have b1 : (insAll (fd.take i) x).length ≤ 625 * 5 := by
        refine Nat.le_trans (flat_bound _ 5 _ fun p hp => ?_) (Nat.mul_le_mul (show (fd.take i).length ≤ 625 by rw [List.length_take]; omega) (Nat.le_refl _))
        have := (i1 p (List.mem_of_mem_take hp)).length_eq
        simp only [putAll, List.length_map, List.length_range]
        omega
      have b2 : (putAll x o).length ≤ 5 := by simp only [putAll, List.length_map, List.length_range]; omega
      refine ⟨_, [some (dview t), some (drows fd), some (dtx x), some (drows (insAll (fd.take (i + 1)) x)), some (dview o), none], rfl, .inl ?_, rfl⟩
      rw [e]
      exact law_orders_body (run T n) (by omega) (Nat.le_trans (Nat.add_le_add b1 b2) (by decide))]
    simp]
  have s := sorted_rows (ordersU t)
  simp [s, ordersOf]
/-! ### things and rankings -/
structure Th (t : List (List Nat)) : Prop where
  lt : t.Pairwise (· < ·)
  one : ∀ x ∈ t, ∃ c, x = [c] ∧ 97 ≤ c ∧ c ≤ 122
  two : 2 ≤ t.length
  four : t.length ≤ 4
theorem Th.nodup {t : List (List Nat)} (h : Th t) : t.Nodup := by
  rw [List.nodup_iff_pairwise_ne]
  refine h.lt.imp fun {a b} q e => ?_
  rw [e] at q
  exact slt_irrefl _ q
theorem Th.ok {t o : List (List Nat)} (h : Th t) (p : o.Perm t) : Ok8 o := fun y hy => by
  obtain ⟨c, rfl, h1, h2⟩ := h.one y (p.mem_iff.mp hy)
  simp only [PyData.canLay0]
  show ((tx [c]).cps.all fun x => decide (x < 0x110000)) = true
  rw [← Array.all_toList, tx_cps]
  simp
  omega
theorem sortN_perm_eq {t o : List (List Nat)} (h : t.Pairwise (· < ·)) (p : o.Perm t) : sortN o = t :=
  sort_is kstr p (h.imp fun {a b} q => kle_of_lt kstr (nlt_iff.mpr q)) fun a _ b _ e => kstr_inj e
theorem str_view (v : List (List Nat)) : bltD .all [.lst (v.map fun _ => .bl true)] = .ok (.bl true) := by
  have := f_all' (p := fun _ : List Nat => true) (as := v)
  rw [this]
  simp
theorem is_ranking_view [C_is_ranking T] (n : Nat) (t v : List (List Nat)) : run T (n + 1) "is_ranking" [dview t, dview v] = .ok (.bl (decide (sortN v = t))) := by
  rw [r_is_ranking]
  have i1 : isiD (dview v) "list" = .ok (.bl true) := rfl
  have c1 : eComp [2] (gN 2) (iSeq (eVar 1)) [] (eIsi (eVar 2) "str") [some (dview t), some (dview v), none] = .ok (.lst (v.map fun _ => .bl true)) :=
    comp_all v dtx (fun _ => .bl true) (by simp [seq_view]) fun x hx => by
      have : isiD (dtx x) "str" = .ok (.bl true) := rfl
      simp [this]
  have s1 := sorted_names v
  have e1 := eq_view (sortN v) t
  simp only [b_is_ranking]
  rw [seq_if_f (by simp [i1, c1, str_view])]
  simp [s1, e1]
theorem ranking_perm [C_is_ranking T] (n : Nat) {t o : List (List Nat)} (h : Th t) (p : o.Perm t) : run T (n + 1) "is_ranking" [dview t, dview o] = .ok (.bl true) := by
  have := is_ranking_view (T := T) n t o
  rwa [decide_eq_true (sortN_perm_eq h.lt p)] at this
theorem are_things_eq [C_are_things T] (n : Nat) {t : List (List Nat)} (h : Th t) : run T (n + 2) "are_things" [dview t] = .ok (.bl true) := by
  rw [r_are_things]
  have h2 := h.two
  have h4 := h.four
  have i1 : isiD (dview t) "list" = .ok (.bl true) := rfl
  have c1 : cmpD .LtE (.int 2) (.int t.length) = .ok true := by rw [c_le]; simp; omega
  have c2 : cmpD .LtE (.int t.length) (.int 4) = .ok true := by rw [c_le]; simp; omega
  have e1 := eq_int 1 1
  simp only [decide_true] at e1
  have w1 : eComp [1] (gN 1) (iSeq (eVar 0)) [] (eCall (run T (n + 1)) "is_thing" [(eVar 1)]) [some (dview t), none, none, none] = .ok (.lst (t.map fun _ => .bl true)) :=
    comp_all t dtx (fun _ => .bl true) (by simp [seq_view]) fun x hx => by
      obtain ⟨c, rfl, p1, p2⟩ := h.one x hx
      have it : run T (n + 1) "is_thing" [dtx [c]] = .ok (.bl true) := by
        rw [r_is_thing]
        have s1 : isiD (dtx [c]) "str" = .ok (.bl true) := rfl
        have l1 : bltD .len [dtx [c]] = .ok (.int 1) := len_tx (l := [c]) (by simp)
        have n1 := in_sign c al
        rw [decide_eq_true (al_in.mp ⟨p1, p2⟩)] at n1
        simp [b_is_thing, s1, l1, e1, lit_alp, n1]
      simp [it]
  have ct := cut_view1 t
  have zp := zip_view t (t.drop 1)
  have asc := asc_iff.mpr h.lt
  unfold ascB at asc
  simp only [b_are_things]
  rw [seq_if_f (by simp [i1, len_view, c1, c2]), seq_if_f (by simp [w1, str_view])]
  simp only [q_ret, q_blt, q_args, q_args0]
  rw [comp_all (t.zip (t.drop 1)) (fun p => .tup [dtx p.1, dtx p.2]) (fun p => .bl (decide (p.1 < p.2))) (by simp [ct, zp, -List.drop_one]) fun p hp => by
    have := lt_dtx p.1 p.2
    simp [this]]
  simp [asc, -List.drop_one]
/-- ballots of things -/
structure Bls (t : List (List Nat)) (bs : List (List (List Nat))) : Prop where
  pm : ∀ b ∈ bs, b.Perm t
  ne : bs ≠ []
  len : bs.length ≤ 12
theorem Bls.bal {t o : List (List Nat)} {bs : List (List (List Nat))} (h : Th t) (hb : Bls t bs) (p : o.Perm t) : ∀ b ∈ bs, Bal o b := fun b q => ⟨h.ok (hb.pm b q), fun x hx => (hb.pm b q).mem_iff.mpr (p.mem_iff.mp hx)⟩
theorem check_ballots_eq [C_check_ballots T] (n : Nat) {t : List (List Nat)} {bs : List (List (List Nat))} (h : Th t) (hb : Bls t bs) : run T (n + 4) "check_ballots" [dview t, drows bs] = .ok .non := by
  rw [r_check_ballots]
  have a1 : run T (n + 3) "check_things" [dview t] = .ok .non := by
    rw [r_check_things]
    have := are_things_eq (T := T) n h
    simp [b_check_things, this]
  have hpos : 0 < bs.length := List.length_pos_iff.mpr hb.ne
  have h12 := hb.len
  have c1 : cmpD .LtE (.int 1) (.int bs.length) = .ok true := by rw [c_le]; simp; omega
  have c2 : cmpD .LtE (.int bs.length) (.int 12) = .ok true := by rw [c_le]; simp; omega
  have en := enum_rows bs
  simp only [b_check_ballots]
  rw [q_seq]
  have s1 : sExpr (eCall (run T (n + 3)) "check_things" [(eVar 0)]) [some (dview t), some (drows bs), none, none] = .nx [some (dview t), some (drows bs), none, none] := by simp [a1]
  rw [s1]
  dsimp only
  rw [seq_if_f (by simp [len_rows, c1, c2]), for_find (List.range bs.length) (fun (k : Nat) => .tup [.int k, dview (bs.getD k [])]) (fun _ => none) (by simp [en]) fun k hk => by
    have hk : k < bs.length := by simpa using hk
    have r := ranking_perm (T := T) (n + 2) h (hb.pm _ (getD_memR hk))
    generalize bs.getD k [] = b at *
    exact ⟨[some (dview t), some (drows bs), some (.int k), some (dview b)], .inl (by simp [f_check_ballots_1, r]), rfl⟩]
  have : (List.range bs.length).findSome? (fun _ => (none : Option D)) = none := by simp
  rw [this]
  rfl
def lineOf (t : List (List Nat)) (bs : List (List (List Nat))) : Option (List (List Nat)) := (ordersOf t).find? fun o => (firstOff bs o).isNone
theorem line_eq [C_line T] (n : Nat) {t : List (List Nat)} {bs : List (List (List Nat))} (h : Th t) (hb : Bls t bs) : run T (n + 7) "line" [dview t, drows bs] = .ok (orNon ((lineOf t bs).map dview)) := by
  rw [r_line]
  have a1 := check_ballots_eq (T := T) (n + 2) h hb
  have a2 : run T (n + 6) "first_line" [dview t, drows bs] = .ok (orNon ((lineOf t bs).map dview)) := by
    rw [r_first_line]
    have o1 := orders_of_eq (T := T) (n + 4) h.four
    simp only [b_first_line]
    rw [q_seq, for_find (ordersOf t) dview (fun o => if (firstOff bs o).isNone = true then some (dview o) else none) (by simp [o1, seq_rows]) fun o ho => by
      have p := orders_mem h.four ho
      have m := are_in_line_eq (T := T) n (hb.bal h p) (by rw [p.length_eq]; have := h.four; omega)
      cases hc : (firstOff bs o).isNone with
      | true => rw [hc] at m; simp [f_first_line_1, m]
      | false =>
        rw [hc] at m
        simp only [Bool.false_eq_true, if_false]
        exact ⟨[some (dview t), some (drows bs), some (dview o)], .inl (by simp [f_first_line_1, m]), rfl⟩]
    rw [find_map]
    unfold lineOf
    cases (ordersOf t).find? (fun o => (firstOff bs o).isNone) <;> rfl
  simp [b_line, a1, a2]
theorem is_line_perm [C_is_line T] (n : Nat) {t o : List (List Nat)} {bs : List (List (List Nat))} (h : Th t) (hb : Bls t bs) (p : o.Perm t) : run T (n + 6) "is_line" [dview t, drows bs, dview o] = .ok (.bl (firstOff bs o).isNone) := by
  rw [r_is_line]
  have a1 := ranking_perm (T := T) (n + 4) h p
  have a2 := are_in_line_eq (T := T) n (hb.bal h p) (by rw [p.length_eq]; have := h.four; omega)
  simp [b_is_line, a1, a2]
theorem is_line_no [C_is_line T] (n : Nat) {t bs v : D} (h : run T (n + 1) "is_ranking" [t, v] = .ok (.bl false)) : run T (n + 2) "is_line" [t, bs, v] = .ok (.bl false) := by
  rw [r_is_line]
  simp [b_is_line, h]
theorem first_off_eq [C_first_off_line T] (n : Nat) {t o : List (List Nat)} {bs : List (List (List Nat))} (h : Th t) (hb : Bls t bs) (p : o.Perm t) (x : D) : run T (n + 5) "first_off_line" [x, drows bs, dview o] = .ok (orNon (firstOff bs o)) := by
  rw [r_first_off_line]
  have a2 := first_ballot_eq (T := T) n (hb.bal h p) (by rw [p.length_eq]; have := h.four; omega)
  simp [b_first_off_line, a2]
end Lb
/-! drawn things and ballots -/
namespace Lb
open PySem PySem.Spec PyProof.Rows Z
variable {T : Str → Option Fd}
theorem things_step (call : Call) {e0 e1 : Option D} {ns : List Nat} {fs : List (List Nat)} {k : Nat} (hn : ns.length = 8) (hk : k < 4) (hf : fs.length = k) :
    ∃ (c : Nat) (ρ' : Z.Env), 97 ≤ c ∧ c ≤ 122 ∧ [c] ∉ fs ∧ f__law_things_1 call [e0, e1, some (dns ns), some (dtx al), some (dview fs), some (.int k), none, none] = .nx ρ' ∧ killE [5, 6, 7] ρ' = [e0, e1, some (dns ns), some (dtx al), some (dview (fs ++ [[c]])), none, none, none] := by
  have sq := seq_str (l := al) (by rw [al_len]; omega)
  have w : eComp [7] (gN 7) (iSeq (eVar 3)) [(eCmp .NotIn (eVar 7) (eVar 4))] (eVar 7) [e0, e1, some (dns ns), some (dtx al), some (dview fs), some (.int k), none, none] = .ok (dview ((al.filter fun c => !decide ([c] ∈ fs)).map fun c => [c])) := by
    rw [comp_fil al (fun c => dtx [c]) (fun c => dtx [c]) (fun c => !decide ([c] ∈ fs)) (by simp [sq]) fun c hc => by
      have := in_dtx [c] fs
      by_cases q : [c] ∈ fs <;> simp [this, q]]
    rw [dview_map]
  have mem : ∀ c ∈ al.filter (fun c => !decide ([c] ∈ fs)), 97 ≤ c ∧ c ≤ 122 ∧ [c] ∉ fs := fun c hc => by
    obtain ⟨h1, h2⟩ := List.mem_filter.mp hc
    exact ⟨(al_in.mpr h1).1, (al_in.mpr h1).2, by simpa using h2⟩
  have ne : al.filter (fun c => !decide ([c] ∈ fs)) ≠ [] := by
    intro e
    have all : ∀ x ∈ al.map (fun c => [c]), x ∈ fs := fun x hx => by
      obtain ⟨c, hc, rfl⟩ := List.mem_map.mp hx
      have := (List.filter_eq_nil_iff.mp e) c hc
      simpa using this
    have nd : (al.map fun c => [c]).Nodup := by decide
    have := pigeon nd all
    rw [List.length_map, al_len] at this
    omega
  generalize hfr : al.filter (fun c => !decide ([c] ∈ fs)) = fr at *
  have i1 : ixD (dns ns) (.int (1 + (k : Int))) = .ok (.int (ns.getD (1 + k) 0 : Nat)) := ix_nsd (k := 1 + k) (by omega)
  generalize ns.getD (1 + k) 0 = z at *
  have pos : 0 < fr.length := List.length_pos_iff.mpr ne
  have m1 := b_modn (a := z) pos
  have hlt := Nat.mod_lt z pos
  generalize z % fr.length = u at *
  have iu := ix_view (rs := fr.map fun c => [c]) (k := u) (by rw [List.length_map]; exact hlt)
  have eu : (fr.map fun c => [c]).getD u [] = [fr[u]] := by
    rw [List.getD_eq_getElem?_getD, List.getElem?_map, List.getElem?_eq_getElem hlt]
    rfl
  rw [eu] at iu
  obtain ⟨c1, c2, c3⟩ := mem fr[u] (List.getElem_mem hlt)
  have ln := len_view (v := fr.map fun c => [c])
  rw [List.length_map] at ln
  generalize fr[u] = c at *
  have ap := app_view (a := fs) (r := [c]) (by omega)
  refine ⟨c, [e0, e1, some (dns ns), some (dtx al), some (dview (fs ++ [[c]])), some (.int k), some (dview (fr.map fun c => [c])), none], c1, c2, c3, ?_, rfl⟩
  unfold f__law_things_1
  rw [q_seq_set, w]
  simp only [ofR_ok, List.set_cons_zero, List.set_cons_succ, q_app, q_ix, q_var, q_look, q_bin, q_lit, q_blt, q_args, q_args0, List.getElem?_cons_zero, List.getElem?_cons_succ, R.bind_ok, b_add, i1, ln, m1, iu, ap]
theorem law_things_eq [C__law_things T] (n : Nat) (ns : List Int) (a : Nat) : ∃ t, run T (n + 2) "_law_things" [.scr ns, .int a] = .ok (dview t) ∧ Th t := by
  rw [r__law_things]
  obtain ⟨xs, n1, n2, _⟩ := numbers_eq (T := T) n ns a 8 (by omega)
  have n1 : run T (n + 1) "_law_numbers" [.scr ns, .int a, .int 8] = .ok (dns xs) := n1
  have i0 : ixD (dns xs) (.int 0) = .ok (.int (xs.getD 0 0 : Nat)) := ix_nsd (k := 0) (by omega)
  generalize xs.getD 0 0 = z0 at i0
  have m0 : binD .Mod (.int z0) (.int 3) = .ok (.int ((z0 % 3 : Nat) : Int)) := b_modn (a := z0) (b := 3) (by omega)
  have hq : z0 % 3 < 3 := Nat.mod_lt _ (by omega)
  generalize z0 % 3 = q at m0 hq
  have rg := f_rangeZ (z := 2 + (q : Int)) (n := 2 + q) (by omega) (by omega)
  have l0 : D.lst [] = dview [] := rfl
  have ea : eArgs [(eBin .Add (eLit (.int 2)) (eBin .Mod (eIx (eVar 2) (eLit (.int 0))) (eLit (.int 3))))] [some (.scr ns), some (.int a), some (dns xs), some (dtx al), some (dview []), none, none, none] = .ok [.int (2 + (q : Int))] := by
    simp only [q_args, q_args0, q_bin, q_lit, q_ix, q_var, q_look, List.getElem?_cons_zero, List.getElem?_cons_succ, R.bind_ok, i0, m0, b_add]
  have hit : (iRange [(eBin .Add (eLit (.int 2)) (eBin .Mod (eIx (eVar 2) (eLit (.int 0))) (eLit (.int 3))))]) [some (.scr ns), some (.int a), some (dns xs), some (dtx al), some (dview []), none, none, none] = .ok ((List.range (2 + q)).map fun (k : Nat) => .int k) := by
    rw [q_irange, ea, R.bind_ok]
    exact rg
  obtain ⟨ρ', g1, fs, g2, g3, g4, g5⟩ := sFor_inv (kl := [5, 6, 7]) (g := gN 5) (b := f__law_things_1 (run T (n + 1))) hit
    (fun i ρ => ∃ fs : List (List Nat), ρ = [some (.scr ns), some (.int a), some (dns xs), some (dtx al), some (dview fs), none, none, none] ∧ fs.length = i ∧ fs.Nodup ∧ ∀ x ∈ fs, ∃ c, x = [c] ∧ 97 ≤ c ∧ c ≤ 122)
    ⟨[], rfl, rfl, by simp, by simp⟩ (by
    rintro j x ρ hx ⟨fs, rfl, p1, p2, p3⟩
    obtain ⟨hj, rfl⟩ := range_at hx
    obtain ⟨c, ρ', c1, c2, c3, c4, c5⟩ := things_step (run T (n + 1)) (e0 := some (.scr ns)) (e1 := some (.int a)) (ns := xs) (fs := fs) (k := j) n2 (by omega) p1
    refine ⟨_, ρ', rfl, .inl c4, fs ++ [[c]], c5, by simp [p1], ?_, fun x hx => ?_⟩
    · rw [List.nodup_append]
      refine ⟨p2, by simp, fun u hu w hw e => ?_⟩
      have hw : w = [c] := by simpa using hw
      rw [e, hw] at hu
      exact c3 hu
    · rcases List.mem_append.mp hx with r | r
      · exact p3 x r
      · have : x = [c] := by simpa using r
        exact ⟨c, this, c1, c2⟩)
  rw [List.length_map, List.length_range] at g3
  have sp := sortN_perm fs
  refine ⟨sortN fs, ?_, ⟨(sortN_lt g4).imp fun {a b} => nlt_iff.mp, fun x hx => g5 x (sp.mem_iff.mp hx), by rw [sp.length_eq]; omega, by rw [sp.length_eq]; omega⟩⟩
  have s1 := sorted_names fs
  simp only [b__law_things, q_seq_set, q_call, q_args, q_args0, q_lst, q_var, q_look, q_lit, List.getElem?_cons_zero, List.getElem?_cons_succ, R.bind_ok, n1, ofR_ok, List.set_cons_zero, List.set_cons_succ, l0, lit_alp]
  rw [q_seq, g1, g2]
  simp [s1]
end Lb
/-! drawn ballots -/
namespace Lb
open PySem PySem.Spec PyProof.Rows Z
variable {T : Str → Option Fd}
theorem last_two {ms : List Nat} (h : ms.length = 2 ∨ ms.length = 4) : ∃ a b, cutD (dns ms) (some (-2)) none = .ok (dns [a, b]) := by
  match ms, h with
  | [a, b], _ => exact ⟨a, b, rfl⟩
  | [_, _, a, b], _ => exact ⟨a, b, rfl⟩
theorem three_of {a b c : D} {q : Nat} (h : q < 3) : ixD (.lst [a, b, c]) (.int q) = .ok (if q = 0 then a else if q = 1 then b else c) := by
  match q, h with
  | 0, _ => exact ix_lst (i := 0) rfl
  | 1, _ => exact ix_lst (i := 1) rfl
  | 2, _ => exact ix_lst (i := 2) rfl
theorem ballot_step [C__law_numbers T] (n : Nat) (ns : List Int) (at_ : Nat) {e2 : Option D} {xs : List Nat} {os bs : List (List (List Nat))} {k : Nat} (hn : xs.length = 4) (hk : k < 12) (hb : bs.length = k) (ho : os ≠ []) :
    ∃ (o : List (List Nat)) (ρ' : Z.Env), o ∈ os ∧ f__law_ballots_1 (run T (n + 1)) [some (.scr ns), some (.int at_), e2, some (dns xs), some (drows os), some (drows bs), some (.int k), none, none] = .nx ρ' ∧ killE [6, 7, 8] ρ' = [some (.scr ns), some (.int at_), e2, some (dns xs), some (drows os), some (drows (bs ++ [o])), none, none, none] := by
  have pos : 0 < os.length := List.length_pos_iff.mpr ho
  obtain ⟨ms, n1, n2, _⟩ := numbers_eq (T := T) n ns (at_ + 1 + k % 6) (2 * (1 + k / 6)) (by omega)
  have k6 : k / 6 = 0 ∨ k / 6 = 1 := by omega
  obtain ⟨d0, d1, ct⟩ := last_two (ms := ms) (by omega)
  have m6 : binD .Mod (.int k) (.int 6) = .ok (.int ((k % 6 : Nat) : Int)) := b_modn (a := k) (b := 6) (by omega)
  have v6 : binD .FloorDiv (.int k) (.int 6) = .ok (.int ((k / 6 : Nat) : Int)) := b_divn (a := k) (b := 6) (by omega) (by omega)
  have n1 : run T (n + 1) "_law_numbers" [.scr ns, .int ((at_ : Int) + 1 + ((k % 6 : Nat) : Int)), .int (2 * (1 + ((k / 6 : Nat) : Int)))] = .ok (dns ms) := by
    have e1 : ((at_ : Int) + 1 + ((k % 6 : Nat) : Int)) = ((at_ + 1 + k % 6 : Nat) : Int) := by omega
    have e2 : (2 * (1 + ((k / 6 : Nat) : Int))) = ((2 * (1 + k / 6) : Nat) : Int) := by omega
    rw [e1, e2]
    exact n1
  have mu : binD .Mult (.int 2) (.int (1 + ((k / 6 : Nat) : Int))) = .ok (.int (2 * (1 + ((k / 6 : Nat) : Int)))) := b_mul (by omega)
  have ng : negD (.int 2) = .ok (.int (-2)) := rfl
  have j0 : ixD (dns [d0, d1]) (.int 0) = .ok (.int (d0 : Int)) := ix_lst (i := 0) rfl
  have j1 : ixD (dns [d0, d1]) (.int 1) = .ok (.int (d1 : Int)) := ix_lst (i := 1) rfl
  have md := b_modn (a := d0) pos
  have i1 : ixD (dns xs) (.int 1) = .ok (.int (xs.getD 1 0 : Nat)) := ix_nsd (k := 1) (by omega)
  have i2 : ixD (dns xs) (.int 2) = .ok (.int (xs.getD 2 0 : Nat)) := ix_nsd (k := 2) (by omega)
  generalize xs.getD 1 0 = z1 at *
  generalize xs.getD 2 0 = z2 at *
  have m1 : binD .Mod (.int z1) (.int 3) = .ok (.int ((z1 % 3 : Nat) : Int)) := b_modn (a := z1) (b := 3) (by omega)
  have eq := eq_int ((z1 % 3 : Nat) : Int) 0
  generalize decide (((z1 % 3 : Nat) : Int) = 0) = bb at *
  generalize z1 % 3 = y1 at *
  have mm : binD .Mult (.int z2) (.int 7) = .ok (.int ((z2 : Int) * 7)) := b_mul (by omega)
  have m3 : binD .Mod (.int d1) (.int 3) = .ok (.int ((d1 % 3 : Nat) : Int)) := b_modn (a := d1) (b := 3) (by omega)
  have hq := Nat.mod_lt d1 (show 0 < 3 by omega)
  have t3 := three_of (a := .int z2) (b := .int ((z2 : Int) * 7 + 3)) (c := .int d0) hq
  let w : Nat := if d1 % 3 = 0 then z2 else if d1 % 3 = 1 then z2 * 7 + 3 else d0
  have ew : (if d1 % 3 = 0 then D.int z2 else if d1 % 3 = 1 then .int ((z2 : Int) * 7 + 3) else .int d0) = .int (w : Int) := by
    show _ = D.int ((if d1 % 3 = 0 then z2 else if d1 % 3 = 1 then z2 * 7 + 3 else d0 : Nat) : Int)
    split
    · rfl
    · split
      · congr 1
      · rfl
  rw [ew] at t3
  clear_value w
  have mw := b_modn (a := w) pos
  have lo : bltD .len [drows os] = .ok (.int os.length) := len_rows os
  have pk : ∃ u : Nat, u < os.length ∧ ∀ t : ZS, sSeq (sIf (eCmp .Eq (eBin .Mod (eIx (eVar 3) (eLit (.int 1))) (eLit (.int 3))) (eLit (.int 0))) (sSet 8 (eBin .Mod (eIx (eLst [(eIx (eVar 3) (eLit (.int 2))), (eBin .Add (eBin .Mult (eIx (eVar 3) (eLit (.int 2))) (eLit (.int 7))) (eLit (.int 3))), (eIx (eVar 7) (eLit (.int 0)))]) (eBin .Mod (eIx (eVar 7) (eLit (.int 1))) (eLit (.int 3)))) (eBlt .len [(eVar 4)]))) sNil) t
      [some (.scr ns), some (.int at_), e2, some (dns xs), some (drows os), some (drows bs), some (.int k), some (dns [d0, d1]), some (.int ((d0 % os.length : Nat) : Int))] =
      t [some (.scr ns), some (.int at_), e2, some (dns xs), some (drows os), some (drows bs), some (.int k), some (dns [d0, d1]), some (.int (u : Int))] := by
    cases bb with
    | true =>
      refine ⟨w % os.length, Nat.mod_lt _ pos, fun t => seq_if_t (by simp [i1, m1, eq]) ?_⟩
      generalize w % os.length = uu at *
      generalize d0 % os.length = vv at *
      generalize d1 % 3 = q3 at *
      simp only [q_set, q_bin, q_ix, q_lst, q_args, q_args0, q_var, q_look, q_lit, q_blt, List.getElem?_cons_zero, List.getElem?_cons_succ, R.bind_ok, i2, mm, b_add, j0, j1, m3, t3, lo, mw, ofR_ok, List.set_cons_zero, List.set_cons_succ]
    | false => exact ⟨d0 % os.length, Nat.mod_lt _ pos, fun t => seq_if_f (by simp [i1, m1, eq])⟩
  obtain ⟨u, hu, pk⟩ := pk
  have iu := ix_rows hu
  have om := getD_memR hu
  generalize os.getD u [] = o at *
  have ap := app_rows (a := bs) (r := o) (by omega)
  refine ⟨o, [some (.scr ns), some (.int at_), e2, some (dns xs), some (drows os), some (drows (bs ++ [o])), some (.int k), some (dns [d0, d1]), some (.int (u : Int))], om, ?_, rfl⟩
  unfold f__law_ballots_1
  generalize d0 % os.length = vv at *
  generalize k % 6 = k1 at *
  generalize k / 6 = k2 at *
  simp only [q_seq_set, q_cut, q_part, q_part0, q_neg, q_call, q_args, q_args0, q_bin, q_ix, q_var, q_look, q_lit, q_blt, List.getElem?_cons_zero, List.getElem?_cons_succ, R.bind_ok, b_add, m6, v6, mu, n1, ng, ct, ofR_ok, List.set_cons_zero, List.set_cons_succ, j0, lo, md, pk, q_app, iu, list_view, ap]
theorem law_ballots_eq [C__law_ballots T] (n : Nat) (ns : List Int) (at_ : Nat) {t : List (List Nat)} (h : Th t) : ∃ bs, run T (n + 2) "_law_ballots" [.scr ns, .int at_, dview t] = .ok (drows bs) ∧ Bls t bs := by
  rw [r__law_ballots]
  obtain ⟨xs, n1, n2, _⟩ := numbers_eq (T := T) n ns at_ 4 (by omega)
  have n1 : run T (n + 1) "_law_numbers" [.scr ns, .int at_, .int 4] = .ok (dns xs) := n1
  have o1 := law_orders_eq (T := T) n h.four
  have on := orders_ne h.four
  have om : ∀ o ∈ ordersOf t, o.Perm t := fun o ho => orders_mem h.four ho
  generalize ordersOf t = os at *
  have i0 : ixD (dns xs) (.int 0) = .ok (.int (xs.getD 0 0 : Nat)) := ix_nsd (k := 0) (by omega)
  generalize xs.getD 0 0 = z0 at i0
  have m0 : binD .Mod (.int z0) (.int 12) = .ok (.int ((z0 % 12 : Nat) : Int)) := b_modn (a := z0) (b := 12) (by omega)
  have hq : z0 % 12 < 12 := Nat.mod_lt _ (by omega)
  generalize z0 % 12 = q at m0 hq
  have rg := f_rangeZ (z := 1 + (q : Int)) (n := 1 + q) (by omega) (by omega)
  have l0 : D.lst [] = drows [] := rfl
  have ea : eArgs [(eBin .Add (eLit (.int 1)) (eBin .Mod (eIx (eVar 3) (eLit (.int 0))) (eLit (.int 12))))] [some (.scr ns), some (.int at_), some (dview t), some (dns xs), some (drows os), some (drows []), none, none, none] = .ok [.int (1 + (q : Int))] := by
    simp only [q_args, q_args0, q_bin, q_lit, q_ix, q_var, q_look, List.getElem?_cons_zero, List.getElem?_cons_succ, R.bind_ok, i0, m0, b_add]
  have hit : (iRange [(eBin .Add (eLit (.int 1)) (eBin .Mod (eIx (eVar 3) (eLit (.int 0))) (eLit (.int 12))))]) [some (.scr ns), some (.int at_), some (dview t), some (dns xs), some (drows os), some (drows []), none, none, none] = .ok ((List.range (1 + q)).map fun (k : Nat) => .int k) := by
    rw [q_irange, ea, R.bind_ok]
    exact rg
  obtain ⟨ρ', g1, bs, g2, g3, g4⟩ := sFor_inv (kl := [6, 7, 8]) (g := gN 6) (b := f__law_ballots_1 (run T (n + 1))) hit
    (fun i ρ => ∃ bs : List (List (List Nat)), ρ = [some (.scr ns), some (.int at_), some (dview t), some (dns xs), some (drows os), some (drows bs), none, none, none] ∧ bs.length = i ∧ ∀ b ∈ bs, b ∈ os)
    ⟨[], rfl, rfl, by simp⟩ (by
    rintro j x ρ hx ⟨bs, rfl, p1, p2⟩
    obtain ⟨hj, rfl⟩ := range_at hx
    obtain ⟨o, ρ', c1, c2, c3⟩ := ballot_step (T := T) n ns at_ (e2 := some (dview t)) (xs := xs) (os := os) (bs := bs) (k := j) n2 (by omega) p1 on
    refine ⟨_, ρ', rfl, .inl c2, bs ++ [o], c3, by simp [p1], fun b hb => ?_⟩
    rcases List.mem_append.mp hb with r | r
    · exact p2 b r
    · have : b = o := by simpa using r
      rw [this]; exact c1)
  rw [List.length_map, List.length_range] at g3
  refine ⟨bs, ?_, ⟨fun b hb => om b (g4 b hb), fun e => by rw [e] at g3; simp at g3; omega, by omega⟩⟩
  simp only [b__law_ballots, q_seq_set, q_call, q_args, q_args0, q_lst, q_var, q_look, q_lit, List.getElem?_cons_zero, List.getElem?_cons_succ, R.bind_ok, n1, o1, ofR_ok, List.set_cons_zero, List.set_cons_succ, l0]
  rw [q_seq, g1, g2]
  simp
end Lb
/-! k91: ballots in line for a drawn order -/
namespace Lb
open PySem PySem.Spec PyProof.Rows Z
variable {T : Str → Option Fd}
theorem off_none {bs : List (List (List Nat))} {o : List (List Nat)} : firstOff bs o = none ↔ ∀ b ∈ bs, ∀ t ∈ threesOf o, off b t = false := by
  unfold firstOff
  rw [List.findSome?_eq_none_iff]
  constructor
  · intro h b hb t ht
    obtain ⟨i, hi, e⟩ := List.getElem_of_mem hb
    have := h i (by simpa using hi)
    unfold offAt at this
    rw [Option.map_eq_none_iff, List.find?_eq_none] at this
    have := this t ht
    rw [List.getD_eq_getElem?_getD, List.getElem?_eq_getElem hi] at this
    simpa [e] using this
  · intro h k hk
    have hk : k < bs.length := by simpa using hk
    unfold offAt
    rw [Option.map_eq_none_iff, List.find?_eq_none]
    intro t ht
    rw [h _ (getD_memR hk) t ht]
    simp
theorem isn_off (bs : List (List (List Nat))) (o : List (List Nat)) : isNone (orNon (firstOff bs o)) = (firstOff bs o).isNone := by
  cases hc : firstOff bs o with
  | none => rfl
  | some d =>
    unfold firstOff at hc
    obtain ⟨k, _, e⟩ := List.exists_of_findSome?_eq_some hc
    unfold offAt at e
    obtain ⟨t, _, e⟩ := Option.map_eq_some_iff.mp e
    subst e
    rfl
theorem off_self {o : List (List Nat)} (nd : o.Nodup) {t : Three} (ht : t ∈ threesOf o) : off o t = false := by
  obtain ⟨i, j, k, h1, h2, h3, e1, e2, e3⟩ := threes_mem ht
  have key : ∀ a, a < o.length → o.idxOf (o.getD a []) = a := fun a ha => by
    rw [List.getD_eq_getElem?_getD, List.getElem?_eq_getElem ha]
    exact nd.idxOf_getElem a ha
  unfold off ahead
  rw [e2, e3, key j (by omega), key k h3]
  have : decide (k < j) = false := by rw [decide_eq_false_iff_not]; omega
  rw [this, Bool.and_false]
theorem lined_eq [C__law_lined_ballots T] (n : Nat) {t : List (List Nat)} {bs : List (List (List Nat))} {xs : List Nat} (h : Th t) (hb : Bls t bs) (hx : xs.length = 6) : ∃ bs' o, run T (n + 4) "_law_lined_ballots" [dview t, drows bs, dns xs] = .ok (drows bs') ∧ Bls t bs' ∧ o ∈ ordersOf t ∧ firstOff bs' o = none := by
  rw [r__law_lined_ballots]
  have o1 := law_orders_eq (T := T) (n + 2) h.four
  have on := orders_ne h.four
  have om : ∀ o ∈ ordersOf t, o.Perm t := fun o ho => orders_mem h.four ho
  generalize ordersOf t = os at *
  have pos : 0 < os.length := List.length_pos_iff.mpr on
  have i0 : ixD (dns xs) (.int 0) = .ok (.int (xs.getD 0 0 : Nat)) := ix_nsd (k := 0) (by omega)
  have i1 : ixD (dns xs) (.int 1) = .ok (.int (xs.getD 1 0 : Nat)) := ix_nsd (k := 1) (by omega)
  generalize xs.getD 0 0 = z0 at *
  generalize xs.getD 1 0 = z1 at *
  have m0 := b_modn (a := z0) pos
  have hu := Nat.mod_lt z0 pos
  have lo : bltD .len [drows os] = .ok (.int os.length) := len_rows os
  generalize z0 % os.length = u at *
  have iu := ix_rows hu
  have lm := getD_memR hu
  generalize os.getD u [] = ln at *
  have pl := om ln lm
  have nd : ln.Nodup := pl.nodup_iff.mpr h.nodup
  have l4 : ln.length ≤ 100 := by rw [pl.length_eq]; have := h.four; omega
  have w1 : eComp [6] (gN 6) (iSeq (eVar 3)) [(eCmp .Is (eCall (run T (n + 3)) "_law_off" [(eLst [(eVar 6)]), (eVar 4)]) (eLit .non))] (eVar 6) [some (dview t), some (drows bs), some (dns xs), some (drows os), some (dview ln), none, none, none] = .ok (drows (os.filter fun o => (firstOff [o] ln).isNone)) := by
    rw [comp_fil os dview dview (fun o => (firstOff [o] ln).isNone) (by simp [seq_rows]) fun o ho => by
      have b1 : Bls t [o] := ⟨fun b q => by have : b = o := by simpa using q
                                            rw [this]; exact om o ho, by simp, by simp⟩
      have a1 := law_off_eq (T := T) n (b1.bal h pl) nd l4 (by simp)
      have e1 : drows [o] = .lst [dview o] := rfl
      rw [e1] at a1
      have e2 := isn_off [o] ln
      have ci : cmpD .Is (orNon (firstOff [o] ln)) .non = .ok (firstOff [o] ln).isNone := by rw [c_is, e2]
      cases hq : (firstOff [o] ln).isNone <;> rw [hq] at ci <;> simp only [q_compF, q_gN, q_kill, q_kill0, List.set_cons_zero, List.set_cons_succ, R.bind_ok, q_tests, q_tests0, q_cmp, q_call, q_args, q_args0, q_lst, q_var, q_look, q_lit, List.getElem?_cons_zero, List.getElem?_cons_succ, a1, ci, t_bl] <;> simp]
    rfl
  have rm : ∀ o ∈ os.filter (fun o => (firstOff [o] ln).isNone), o ∈ os ∧ ∀ x ∈ threesOf ln, off o x = false := fun o ho => by
    obtain ⟨r1, r2⟩ := List.mem_filter.mp ho
    rw [Option.isNone_iff_eq_none, off_none] at r2
    exact ⟨r1, fun x hx => r2 o (by simp) x hx⟩
  have rne : os.filter (fun o => (firstOff [o] ln).isNone) ≠ [] := by
    intro e
    have : ln ∈ os.filter (fun o => (firstOff [o] ln).isNone) := List.mem_filter.mpr ⟨lm, by
      rw [Option.isNone_iff_eq_none, off_none]
      intro b hb t ht
      have : b = ln := by simpa using hb
      rw [this]
      exact off_self nd ht⟩
    rw [e] at this
    exact List.not_mem_nil this
  generalize os.filter (fun o => (firstOff [o] ln).isNone) = rs at *
  have rpos : 0 < rs.length := List.length_pos_iff.mpr rne
  have lr : bltD .len [drows rs] = .ok (.int rs.length) := len_rows rs
  have lb : bltD .len [drows bs] = .ok (.int bs.length) := len_rows bs
  have h12 := hb.len
  have rg := f_range (n := bs.length) (by omega)
  have hit : (iRange [(eBlt .len [(eVar 1)])]) [some (dview t), some (drows bs), some (dns xs), some (drows os), some (dview ln), some (drows rs), none, none] = .ok ((List.range bs.length).map fun (k : Nat) => .int k) := by
    have ea : eArgs [(eBlt .len [(eVar 1)])] [some (dview t), some (drows bs), some (dns xs), some (drows os), some (dview ln), some (drows rs), none, none] = .ok [.int (bs.length : Int)] := by
      simp only [q_args, q_args0, q_blt, q_var, q_look, List.getElem?_cons_zero, List.getElem?_cons_succ, R.bind_ok, lb]
    rw [q_irange, ea, R.bind_ok]
    exact rg
  have w2 : eComp [7] (gN 7) (iRange [(eBlt .len [(eVar 1)])]) [] (eBlt .list [(eIx (eVar 5) (eBin .Mod (eBin .Add (eBin .Mult (eIx (eVar 2) (eLit (.int 1))) (eBin .Add (eVar 7) (eLit (.int 1)))) (eVar 7)) (eBlt .len [(eVar 5)])))]) [some (dview t), some (drows bs), some (dns xs), some (drows os), some (dview ln), some (drows rs), none, none] = .ok (drows ((List.range bs.length).map fun k => rs.getD ((z1 * (k + 1) + k) % rs.length) [])) := by
    rw [comp_all (List.range bs.length) (fun (k : Nat) => .int k) (fun k => dview (rs.getD ((z1 * (k + 1) + k) % rs.length) [])) hit fun k hk => by
      have hk : k < bs.length := by simpa using hk
      have mu : binD .Mult (.int z1) (.int ((k : Int) + 1)) = .ok (.int ((z1 : Int) * ((k : Int) + 1))) := b_mul (by omega)
      have m5 : binD .Mod (.int ((z1 : Int) * ((k : Int) + 1) + k)) (.int rs.length) = .ok (.int (((z1 * (k + 1) + k) % rs.length : Nat) : Int)) := by
        have := b_modn (a := z1 * (k + 1) + k) rpos
        have e : ((z1 * (k + 1) + k : Nat) : Int) = (z1 : Int) * ((k : Int) + 1) + k := by push_cast; rfl
        rw [e] at this
        exact this
      have ik := ix_rows (rs := rs) (k := (z1 * (k + 1) + k) % rs.length) (Nat.mod_lt _ rpos)
      generalize (z1 * (k + 1) + k) % rs.length = v at *
      generalize rs.getD v [] = y at *
      simp only [q_compF, q_gN, q_kill, q_kill0, List.set_cons_zero, List.set_cons_succ, R.bind_ok, q_tests0, if_true, q_blt, q_args, q_args0, q_ix, q_bin, q_var, q_look, q_lit, List.getElem?_cons_zero, List.getElem?_cons_succ, i1, b_add, mu, lr, m5, ik, list_view]]
    rw [drows_map]
  have bm : ∀ b ∈ (List.range bs.length).map (fun k => rs.getD ((z1 * (k + 1) + k) % rs.length) []), b ∈ rs := fun b hb => by
    obtain ⟨k, _, rfl⟩ := List.mem_map.mp hb
    exact getD_memR (Nat.mod_lt _ rpos)
  refine ⟨_, ln, ?_, ⟨fun b hb => om b (rm b (bm b hb)).1, fun e => ?_, by simp; exact h12⟩, lm, ?_⟩
  · unfold b__law_lined_ballots
    simp only [q_seq_set, q_call, q_args, q_args0, q_ix, q_bin, q_blt, q_var, q_look, q_lit, List.getElem?_cons_zero, List.getElem?_cons_succ, R.bind_ok, o1, ofR_ok, List.set_cons_zero, List.set_cons_succ, i0, lo, m0, iu, w1]
    rw [q_ret, w2]
    rfl
  · have := congrArg List.length e
    simp at this
    exact hb.ne this
  · rw [off_none]
    intro b hb t ht
    exact (rm b (bm b hb)).2 t ht
end Lb
/-! k91: values that are no rankings -/
namespace Lb
open PySem PySem.Spec PyProof.Rows Z
variable {T : Str → Option Fd}
theorem rank_nl [C_is_ranking T] (n : Nat) (t v : D) (h : isiD v "list" = .ok (.bl false)) : run T (n + 1) "is_ranking" [t, v] = .ok (.bl false) := by
  rw [r_is_ranking]
  simp [b_is_ranking, h]
theorem rank_view [C_is_ranking T] (n : Nat) {t v : List (List Nat)} (h : ¬ v.Perm t) : run T (n + 1) "is_ranking" [dview t, dview v] = .ok (.bl false) := by
  have := is_ranking_view (T := T) n t v
  rwa [decide_eq_false fun e => h (by rw [← e]; exact (sortN_perm v).symm)] at this
theorem rank_odd [C_is_ranking T] (n : Nat) (t : D) {α : Type} (as : List α) (f : α → D) (p : α → Bool) (h : ∀ a ∈ as, isiD (f a) "str" = .ok (.bl (p a))) (hp : as.all p = false) : run T (n + 1) "is_ranking" [t, .lst (as.map f)] = .ok (.bl false) := by
  rw [r_is_ranking]
  have i1 : isiD (.lst (as.map f)) "list" = .ok (.bl true) := rfl
  have sq : seqD (.lst (as.map f)) = .ok (as.map f) := rfl
  have w : eComp [2] (gN 2) (iSeq (eVar 1)) [] (eIsi (eVar 2) "str") [some t, some (.lst (as.map f)), none] = .ok (.lst (as.map fun a => .bl (p a))) :=
    comp_all as f (fun a => .bl (p a)) (by simp [sq]) fun a ha => by simp [h a ha]
  have al' := f_all' (p := p) (as := as)
  rw [hp] at al'
  simp [b_is_ranking, i1, w, al']
theorem strsOf_view : ∀ v : List (List Nat), strsOf (v.map dtx) = .ok (v.map tx)
  | [] => rfl
  | x :: v => by
    show (strsOf (v.map dtx)).bind _ = _
    rw [strsOf_view v]
    rfl
theorem join_view {t o : List (List Nat)} (h : Th t) (p : o.Perm t) : ∃ s, mtD .join (.str ("" : String)) (dview o) = .ok (.str s) := by
  refine ⟨PySem.Txt.join ("" : String) (o.map tx), ?_⟩
  show (strsOf (o.map dtx)).bind _ = _
  rw [strsOf_view, R.bind_ok]
  have key : ∀ l : List (List Nat), (∀ x ∈ l, x.length = 1) → ((l.map tx).map (·.length)).sum = l.length := by
    intro l
    induction l with
    | nil => intro _; rfl
    | cons x l ih =>
      intro hl
      have := hl x List.mem_cons_self
      rw [List.map_cons, List.map_cons, List.sum_cons, ih fun y hy => hl y (List.mem_cons_of_mem _ hy), tx_len, this, List.length_cons]
      omega
  have k := key o fun x hx => by obtain ⟨c, rfl, _⟩ := h.one x (p.mem_iff.mp hx); rfl
  have e0 : (("" : String) : Str).length = 0 := rfl
  have hl := p.length_eq
  have h4 := h.four
  rw [k, e0, decide_eq_true (by omega)]
  rfl
theorem law_values_eq [C__law_values T] [C_is_ranking T] (n : Nat) {t o : List (List Nat)} {xs : List Nat} (h : Th t) (p : o.Perm t) (hx : xs.length = 6) : ∃ vs, run T (n + 1) "_law_values" [dview t, dview o, dns xs] = .ok (.lst vs) ∧ ∀ v ∈ vs, ∀ m, run T (m + 1) "is_ranking" [dview t, v] = .ok (.bl false) := by
  rw [r__law_values]
  have ol := p.length_eq
  have h2 := h.two
  have h4 := h.four
  have nd : o.Nodup := p.nodup_iff.mpr h.nodup
  obtain ⟨js, jn⟩ := join_view h p
  have i2 : ixD (dns xs) (.int 2) = .ok (.int (xs.getD 2 0 : Nat)) := ix_nsd (k := 2) (by omega)
  generalize xs.getD 2 0 = z2 at *
  have m2 := b_modn (a := z2) (b := o.length) (by omega)
  have hlt := Nat.mod_lt z2 (show 0 < o.length by omega)
  generalize z2 % o.length = a at *
  have ia := ix_view (rs := o) hlt
  have ga := getD_mem hlt
  have prev : ∃ y, ixD (dview o) (.int ((a : Int) - 1)) = .ok (dtx y) ∧ ¬ (o.take a ++ [y] ++ o.drop (a + 1)).Nodup := by
    cases a with
    | zero =>
      obtain ⟨r, z, e⟩ := snoc_of (l := o) (by intro e; rw [e] at ol; simp at ol; omega)
      refine ⟨z, ?_, ?_⟩
      · have := ix_lstl (xs := r.map dtx) (d := dtx z)
        rw [e]
        unfold dview
        rw [List.map_append]
        exact this
      · have rl : 0 < r.length := by
          rw [e] at ol
          simp at ol
          omega
        rw [e, List.take_zero, List.nil_append, List.drop_append_of_le_length (by omega)]
        intro q
        rw [List.singleton_append, List.nodup_cons] at q
        exact q.1 (by simp)
    | succ b =>
      have hb : b < o.length := by omega
      refine ⟨o.getD b [], ?_, ?_⟩
      · have e : (((b + 1 : Nat) : Int) - 1) = (b : Int) := by omega
        rw [e]
        exact ix_view hb
      · intro q
        rw [List.append_assoc, List.nodup_append] at q
        refine q.2.2 (o.getD b []) ?_ (o.getD b []) (by simp) rfl
        rw [List.getD_eq_getElem?_getD, List.getElem?_eq_getElem hb]
        show o[b] ∈ o.take (b + 1)
        rw [List.mem_take_iff_getElem]
        exact ⟨b, by omega, rfl⟩
  obtain ⟨y, py, pn⟩ := prev
  have c1 := cut_view1 o
  have c2 : cutD (dview o) none (some 1) = .ok (dview (o.take 1)) := cut_view_to (v := o) (k := 1) (by omega)
  have c3 := cut_view_to (v := o) (k := a) (by omega)
  have c4 := cut_view_from1 (v := o) (k := a)
  have tk : (o.take a).length = a := by rw [List.length_take]; omega
  have dk : (o.drop (a + 1)).length = o.length - (a + 1) := by rw [List.length_drop]
  have a1 := add_view (a := o) (b := o.take 1) (by rw [List.length_take]; omega)
  have ad : ∀ x : D, binD .Add (dview (o.take a)) (.lst [x]) = .ok (.lst ((o.take a).map dtx ++ [x])) := fun x => b_addl (by rw [List.length_map, tk]; exact Nat.le_trans (show a + 1 ≤ 16777216 by omega) sizeLine_big)
  have ad2 : ∀ x : D, binD .Add (.lst ((o.take a).map dtx ++ [x])) (dview (o.drop (a + 1))) = .ok (.lst ((o.take a).map dtx ++ [x] ++ (o.drop (a + 1)).map dtx)) := fun x => b_addl (by simp only [List.length_append, List.length_map, tk, dk, List.length_singleton]; exact Nat.le_trans (show a + 1 + (o.length - (a + 1)) ≤ 16777216 by omega) sizeLine_big)
  have ax := add_dtx (a := o.getD a []) (b := [120]) (by obtain ⟨c, e, _⟩ := h.one _ (p.mem_iff.mp ga); rw [e]; simp)
  have lx : D.str ("x" : String) = dtx [120] := rfl
  have lA : D.str ("A" : String) = dtx [65] := rfl
  have tp : bltD .tuple [dview o] = .ok (.tup (o.map dtx)) := rfl
  have mid : ∀ x : List Nat, D.lst ((o.take a).map dtx ++ [dtx x] ++ (o.drop (a + 1)).map dtx) = dview (o.take a ++ [x] ++ o.drop (a + 1)) := fun x => by unfold dview; rw [List.map_append, List.map_append]; rfl
  have lo := len_view (v := o)
  refine ⟨[.non, .tup [], .lst [], .dic false [] [], .str js, .tup (o.map dtx), dview (o.drop 1), dview (o ++ o.take 1), dview (o.take a ++ [[65]] ++ o.drop (a + 1)), .lst [dview o]] ++ [.lst ((o.take a).map dtx ++ [.non] ++ (o.drop (a + 1)).map dtx), dview (o.take a ++ [y] ++ o.drop (a + 1)), .int 5, dview (o.take a ++ [o.getD a [] ++ [120]] ++ o.drop (a + 1))], ?_, ?_⟩
  · have fin : ∀ us ws : List D, us.length + ws.length ≤ 100 → binD .Add (.lst us) (.lst ws) = .ok (.lst (us ++ ws)) := fun us ws hl => b_addl (Nat.le_trans (by omega) sizeLine_big)
    have m65 := mid [65]
    have my := mid y
    have mx := mid (o.getD a [] ++ [120])
    generalize o.getD a [] = g at *
    simp only [b__law_values, q_seq_set, q_bin, q_ix, q_var, q_look, q_lit, q_blt, q_args, q_args0, q_lst, q_tup, q_dic, q_mt, q_cut, q_part, q_part0, List.getElem?_cons_zero, List.getElem?_cons_succ, R.bind_ok, ofR_ok, i2, lo, m2, List.set_cons_zero, List.set_cons_succ, jn, tp, c1, c2, c3, c4, b_add, b_sub, a1, ad, ad2, lA, lx, ia, py, ax, m65, my, mx, q_ret]
    rw [fin _ _ (by simp), ofR_ok, q_end_rt]
  · intro v hv m
    have lenP : ∀ w : List (List Nat), w.length ≠ t.length → ¬ w.Perm t := fun w hw q => hw q.length_eq
    simp only [List.mem_append, List.mem_cons, List.not_mem_nil, or_false] at hv
    rcases hv with (e | e | e | e | e | e | e | e | e | e) | (e | e | e | e) <;> subst e
    · exact rank_nl m _ _ rfl
    · exact rank_nl m _ _ rfl
    · exact rank_view (v := []) m (lenP _ (by simp; omega))
    · exact rank_nl m _ _ rfl
    · exact rank_nl m _ _ rfl
    · exact rank_nl m _ _ rfl
    · exact rank_view m (lenP _ (by rw [List.length_drop]; omega))
    · exact rank_view m (lenP _ (by rw [List.length_append, List.length_take]; omega))
    · refine rank_view m fun q => ?_
      obtain ⟨c, e, c1, _⟩ := h.one [65] (q.mem_iff.mp (by simp))
      have : c = 65 := by simpa using e.symm
      omega
    · exact rank_odd m _ [o] dview (fun _ => false) (fun _ _ => rfl) rfl
    · have e : D.lst ((o.take a).map dtx ++ [.non] ++ (o.drop (a + 1)).map dtx) = .lst (((o.take a).map some ++ [none] ++ (o.drop (a + 1)).map some).map fun x => match x with | some z => dtx z | none => .non) := by simp [Function.comp_def]
      rw [e]
      refine rank_odd m _ _ _ (fun x => x.isSome) (fun x _ => by cases x <;> rfl) ?_
      rw [List.all_append, List.all_append]
      simp
    · exact rank_view m fun q => pn (q.nodup_iff.mpr h.nodup)
    · exact rank_nl m _ _ rfl
    · refine rank_view m fun q => ?_
      obtain ⟨c, e, _⟩ := h.one (o.getD a [] ++ [120]) (q.mem_iff.mp (by simp))
      obtain ⟨d, e2, _⟩ := h.one _ (p.mem_iff.mp ga)
      rw [e2] at e
      simp at e
end Lb
/-! k91: the law's question -/
namespace Lb
open PySem PySem.Spec PyProof.Rows Z
variable {T : Str → Option Fd}
theorem seq_rt {c : ZE} {a t : ZS} {ρ : Z.Env} {d : D} (h : c ρ = .ok (.bl true)) (h2 : a ρ = .rt d) : sSeq (sIf c a sNil) t ρ = .rt d := by simp [h, h2]
theorem eqD_refl {d : D} (h : fine d = true) : eqD d d = .ok true := by
  have hp : (toPy d).plain = true := (Bool.and_eq_true_iff.mp h).1
  show chk (fine d && fine d) (R.ok (eqv d d)) = _
  rw [h]
  show R.ok (PyData.eqv (toPy d) (toPy d)) = _
  rw [PySem.SeqAt.eqv_refl_plain _ hp]
theorem fine_off (k : Nat) (t : Three) : fine (doff k t) = true := by
  unfold fine doff dtx
  simp [toPy, toPys, PyData.plain, PyData.plainAll, PyData.depth, PyData.depthAll]
theorem fine_handed (t : List (List Nat)) (bs : List (List (List Nat))) : fine (.lst [dview t, drows bs]) = true := by
  obtain ⟨p1, p2⟩ := plain_strs t
  have key : ∀ l : List (List (List Nat)), PyData.plainAll (toPys (l.map dview)) = true ∧ PyData.depthAll (toPys (l.map dview)) ≤ 1 := by
    intro l
    induction l with
    | nil => exact ⟨by simp [toPys, PyData.plainAll], by simp [toPys, PyData.depthAll]⟩
    | cons v l ih =>
      obtain ⟨q1, q2⟩ := plain_strs v
      have e : toPys ((v :: l).map dview) = toPy (dview v) :: toPys (l.map dview) := rfl
      rw [e, toPy_view]
      simp only [PyData.plainAll, PyData.depthAll, PyData.plain, PyData.depth, q1, q2, ih.1]
      exact ⟨rfl, by have := ih.2; omega⟩
  obtain ⟨k1, k2⟩ := key bs
  unfold fine
  have e : toPy (.lst [dview t, drows bs]) = .list [toPy (dview t), .list (toPys (bs.map dview))] := rfl
  rw [e, toPy_view]
  simp only [PyData.plain, PyData.plainAll, PyData.depth, PyData.depthAll, p1, p2, k1, Bool.and_true, Bool.true_and, decide_eq_true_eq]
  omega
theorem law_holds2_eq [C__law_holds_v2 T] (n : Nat) {t : List (List Nat)} {bs : List (List (List Nat))} {xs : List Nat} (h : Th t) (hb : Bls t bs) (hx : xs.length = 6) : run T (n + 8) "_law_holds" [dview t, drows bs, dns xs] = .ok (.bl true) := by
  rw [r__law_holds_v2]
  have h12 := hb.len
  have h4 := h.four
  have o1 := law_orders_eq (T := T) (n + 6) h.four
  have om : ∀ o ∈ ordersOf t, o.Perm t := fun o ho => orders_mem h.four ho
  have ol := orders_len h.four
  have ln := line_eq (T := T) n h hb
  unfold lineOf at ln
  generalize hO : ordersOf t = os at *
  let inl : List (List Nat) → Bool := fun o => (firstOff bs o).isNone
  have H0 : ixD (.lst [dview t, drows bs]) (.int 0) = .ok (dview t) := ix_lst (i := 0) rfl
  have H1 : ixD (.lst [dview t, drows bs]) (.int 1) = .ok (drows bs) := ix_lst (i := 1) rfl
  have w1 : eComp [10] (gN 10) (iSeq (eVar 1)) [] (eBlt .list [(eVar 10)]) [some (dview t), some (drows bs), some (dns xs), none, none, none, none, none, none, none, none] = .ok (drows bs) := by
    rw [comp_all bs dview dview (by simp [seq_rows]) fun b hb => by simp [list_view]]
    rfl
  have l0 : D.lst [] = drows [] := rfl
  have lp : sFor [5, 6, 7, 8, 9] (gN 5) (iSeq (eCall (run T (n + 7)) "_law_orders" [(eVar 0)])) (f__law_holds_v2_1 (run T (n + 7))) [some (dview t), some (drows bs), some (dns xs), some (.lst [dview t, drows bs]), some (drows []), none, none, none, none, none, none] =
      .nx [some (dview t), some (drows bs), some (dns xs), some (.lst [dview t, drows bs]), some (drows (os.filter inl)), none, none, none, none, none, none] := by
    rw [for_take os dview (fun pre => [some (dview t), some (drows bs), some (dns xs), some (.lst [dview t, drows bs]), some (drows (pre.filter inl)), none, none, none, none, none, none]) (by simp [o1, seq_rows]) rfl fun j o ho => by
      have hm := List.mem_of_getElem? ho
      have p := om o hm
      have hj := (List.getElem?_eq_some_iff.mp ho).1
      have b1 : ((os.take j).filter inl).length ≤ 625 := Nat.le_trans (List.length_filter_le _ _) (by rw [List.length_take]; omega)
      have nd : o.Nodup := p.nodup_iff.mpr h.nodup
      have ol2 : o.length ≤ 100 := by rw [p.length_eq]; omega
      have a1 := law_off_eq (T := T) (n + 4) (hb.bal h p) nd ol2 (by omega)
      have a2 := first_off_eq (T := T) (n + 2) h hb p (dview t)
      have a3 := is_line_perm (T := T) (n + 1) h hb p
      obtain ⟨vs, a4, a5⟩ := law_values_eq (T := T) (n + 6) h p hx
      have ap := app_rows (a := (os.take j).filter inl) (r := o) (by omega)
      have isn := isn_off bs o
      have sv : seqD (.lst vs) = .ok vs := rfl
      have inn : ∀ e4 e6 e7 e8, sFor [9] (gN 9) (iSeq (eCall (run T (n + 7)) "_law_values" [(eVar 0), (eVar 5), (eVar 2)])) (f__law_holds_v2_2 (run T (n + 7))) [some (dview t), some (drows bs), some (dns xs), some (.lst [dview t, drows bs]), e4, some (dview o), e6, e7, e8, none, none] =
          .nx [some (dview t), some (drows bs), some (dns xs), some (.lst [dview t, drows bs]), e4, some (dview o), e6, e7, e8, none, none] := by
        intro e4 e6 e7 e8
        rw [for_find vs (fun v => v) (fun _ => none) (by simp [a4, sv]) fun v hv => by
          have l1 := is_line_no (T := T) (bs := drows bs) (n + 5) (a5 v hv (n + 5))
          exact ⟨[some (dview t), some (drows bs), some (dns xs), some (.lst [dview t, drows bs]), e4, some (dview o), e6, e7, e8, some v, none], .inl (by simp [f__law_holds_v2_2, H0, H1, l1]), rfl⟩]
        have : vs.findSome? (fun _ => (none : Option D)) = none := by simp
        rw [this]
        rfl
      have e : (os.take (j + 1)).filter inl = (os.take j).filter inl ++ [o].filter inl := by rw [take_snoc ho, List.filter_append]
      refine ⟨_, [some (dview t), some (drows bs), some (dns xs), some (.lst [dview t, drows bs]), some (drows ((os.take (j + 1)).filter inl)), some (dview o), some (orNon (firstOff bs o)), some (orNon (firstOff bs o)), some (.bl (firstOff bs o).isNone), none, none], rfl, .inl ?_, rfl⟩
      rw [e]
      generalize (os.take j).filter inl = acc at *
      unfold f__law_holds_v2_1
      simp only [q_seq_set, q_call, q_args, q_args0, q_var, q_look, q_ix, q_lit, q_blt, List.getElem?_cons_zero, List.getElem?_cons_succ, R.bind_ok, a1, a2, a3, H0, H1, list_view, ofR_ok, List.set_cons_zero, List.set_cons_succ]
      have eb := eq_bl true true
      have eb2 := eq_bl false false
      simp only [decide_true] at eb eb2
      cases hc : firstOff bs o with
      | none =>
        have e2 : [o].filter inl = [o] := by simp [inl, hc]
        rw [e2]
        have n1 : isNone (orNon (none : Option D)) = true := rfl
        rw [seq_if_f (by simp [bool_isi, n1, eb]), seq_if_f (by simp [n1]), seq_if_t (ρ' := [some (dview t), some (drows bs), some (dns xs), some (.lst [dview t, drows bs]), some (drows (acc ++ [o])), some (dview o), some (orNon none), some (orNon none), some (.bl (Option.isNone (none : Option D))), none, none]) (by simp [n1]) (by simp [ap]), inn]
      | some d =>
        rw [hc] at isn
        have e2 : [o].filter inl = [] := by simp [inl, hc]
        rw [e2, List.append_nil]
        have : ∃ k t, d = doff k t := by
          unfold firstOff at hc
          obtain ⟨k, _, e⟩ := List.exists_of_findSome?_eq_some hc
          unfold offAt at e
          obtain ⟨t, _, e⟩ := Option.map_eq_some_iff.mp e
          exact ⟨k, t, e.symm⟩
        obtain ⟨k, w, rfl⟩ := this
        have n1 : isNone (orNon (some (doff k w))) = false := rfl
        have er := eqD_refl (fine_off k w)
        have er : eqD (orNon (some (doff k w))) (orNon (some (doff k w))) = .ok true := er
        have it : isiD (orNon (some (doff k w))) "tuple" = .ok (.bl true) := rfl
        have i0 : ixD (orNon (some (doff k w))) (.int 0) = .ok (.int (k : Int)) := rfl
        have ii := is_int_eq (T := T) (n + 6) (k : Int)
        rw [seq_if_f (by simp [bool_isi, n1, eb2]), seq_if_f (by simp [n1, it, er, i0, ii]), seq_if_f (by simp [n1]), inn]]
  have eh := eqD_refl (fine_handed t bs)
  unfold b__law_holds_v2
  have lv : bltD .list [dview t] = .ok (dview t) := rfl
  simp only [q_seq_set, q_lst, q_args, q_args0, q_blt, q_var, q_look, List.getElem?_cons_zero, List.getElem?_cons_succ, R.bind_ok, lv, w1, ofR_ok, List.set_cons_zero, List.set_cons_succ, l0]
  rw [q_seq, lp]
  simp only [q_seq_set, q_call, q_args, q_args0, q_var, q_look, q_ix, q_lit, List.getElem?_cons_zero, List.getElem?_cons_succ, R.bind_ok, H0, H1, ln, ofR_ok, List.set_cons_zero, List.set_cons_succ]
  rw [seq_if_f (by simp [eh])]
  have hd : os.find? (fun o => (firstOff bs o).isNone) = (os.filter inl).head? := by rw [List.head?_filter]
  rw [hd]
  have e0 := drows_eq0 (os.filter inl)
  cases hf : os.filter inl with
  | nil =>
    rw [hf] at e0
    have n1 : isNone (orNon (Option.map dview ([] : List (List (List Nat))).head?)) = true := rfl
    rw [seq_rt (d := .bl true) (by simp [e0]) (by simp [n1, show isNone (orNon (none : Option D)) = true from rfl])]
    rfl
  | cons o r =>
    rw [hf] at e0
    have i0 : ixD (drows (o :: r)) (.int 0) = .ok (dview o) := ix_lst (i := 0) rfl
    have er := eq_view o o
    have il : isiD (dview o) "list" = .ok (.bl true) := rfl
    have hn : orNon (Option.map dview (o :: r).head?) = dview o := rfl
    simp only [decide_true] at er
    rw [hn, seq_if_f (by simp [e0])]
    simp [il, i0, er]
end Lb
/-! k91: two things -/
namespace Lb
open PySem PySem.Spec PyProof.Rows Z
variable {T : Str → Option Fd}
theorem le_ab : leR [[97], [98]] [[98], [97]] = true := by
  unfold leR
  rw [toPy_view, toPy_view]
  decide +kernel
theorem le_ba : leR [[98], [97]] [[97], [98]] = false := by
  unfold leR
  rw [toPy_view, toPy_view]
  decide +kernel
theorem orders_ab : ordersOf [[97], [98]] = [[[97], [98]], [[98], [97]]] := by
  have e : ordersU [[97], [98]] = [[[98], [97]], [[97], [98]]] := rfl
  unfold ordersOf sortR
  rw [e]
  simp [List.mergeSort, List.merge, List.MergeSort.Internal.splitInTwo, le_ab, le_ba]
theorem line_ab [C_line T] (n : Nat) : run T (n + 7) "line" [dview [[97], [98]], drows [[[98], [97]], [[97], [98]]]] = .ok (dview [[97], [98]]) := by
  have th : Th [[97], [98]] := ⟨by simp; decide, fun x hx => by
    simp only [List.mem_cons, List.not_mem_nil, or_false] at hx
    rcases hx with e | e <;> rw [e]
    · exact ⟨97, rfl, by omega, by omega⟩
    · exact ⟨98, rfl, by omega, by omega⟩, by simp, by simp⟩
  have bl : Bls [[97], [98]] [[[98], [97]], [[97], [98]]] := ⟨fun b hb => by
    simp only [List.mem_cons, List.not_mem_nil, or_false] at hb
    rcases hb with e | e
    · rw [e]; exact List.Perm.swap _ _ _
    · subst e; exact List.Perm.refl _, by simp, by simp⟩
  have := line_eq (T := T) n th bl
  unfold lineOf at this
  rw [orders_ab] at this
  have f : firstOff [[[98], [97]], [[97], [98]]] [[97], [98]] = none := by
    rw [off_none]
    intro b _ t ht
    have : threesOf [[97], [98]] = [] := rfl
    simp [this] at ht
  rw [List.find?_cons, f] at this
  exact this
end Lb
namespace K91
open PySem PySem.Spec PyProof.Rows L2 Z Lb
def top (i : Nat) : Stmt := PySem.Challenge.pw_panelsagree_k91_ballots_in_line.main.body.getD i (.Pass ⟨0, 0, 0, 0⟩)
def cbody : Stmt → List Stmt | .ClassDef _ _ _ b _ _ _ _ _ _ _ => b | _ => []
def mtop (i k : Nat) : Stmt := (cbody (top i)).getD k (.Pass ⟨0, 0, 0, 0⟩)
def cs : List (Str × D) := [("LETTERS", (.str "abcdefghijklmnopqrstuvwxyz")), ("FEWEST_THINGS", (.int 2)), ("MOST_THINGS", (.int 4)), ("MOST_BALLOTS", (.int 12))]
def z_is_thing : DZ := ⟨⟨("is_thing", none), "is_thing", "is_thing", defArgs (top 8), defBody (top 8), defScope (top 8), [], []⟩, "is_thing", ["value"], ["value"], .sh, [], [], [], ⟨1, 1, Lb.b_is_thing, none⟩⟩
def z_are_things : DZ := ⟨⟨("are_things", none), "are_things", "are_things", defArgs (top 9), defBody (top 9), defScope (top 9), [], []⟩, "are_things", ["value", "thing", "before", "after"], ["value"], .own, [], [], [], ⟨1, 4, Lb.b_are_things, none⟩⟩
def z_pairs_of : DZ := ⟨⟨("pairs_of", none), "pairs_of", "pairs_of", defArgs (top 10), defBody (top 10), defScope (top 10), [], []⟩, "pairs_of", ["listed", "found", "at", "first", "second"], ["listed"], .own, [(⟨26, 4, 0, 0⟩, [2, 3, 4])], [], [], ⟨1, 5, Lb.b_pairs_of, none⟩⟩
def z_threes_of : DZ := ⟨⟨("threes_of", none), "threes_of", "threes_of", defArgs (top 11), defBody (top 11), defScope (top 11), [], []⟩, "threes_of", ["listed", "found", "at", "first", "second", "third"], ["listed"], .own, [(⟨31, 4, 0, 0⟩, [2, 3, 4, 5])], [], [], ⟨1, 6, Lb.b_threes_of, none⟩⟩
def z_is_ahead : DZ := ⟨⟨("is_ahead", none), "is_ahead", "is_ahead", defArgs (top 12), defBody (top 12), defScope (top 12), [], []⟩, "is_ahead", ["ranking", "first", "second"], ["ranking", "first", "second"], .own, [], [], [], ⟨3, 3, Lb.b_is_ahead, none⟩⟩
def z_is_ranking : DZ := ⟨⟨("is_ranking", none), "is_ranking", "is_ranking", defArgs (top 13), defBody (top 13), defScope (top 13), [], []⟩, "is_ranking", ["things", "value", "thing"], ["things", "value"], .own, [], [], [], ⟨2, 3, Lb.b_is_ranking, none⟩⟩
def z_orders_of : DZ := ⟨⟨("orders_of", none), "orders_of", "orders_of", defArgs (top 14), defBody (top 14), defScope (top 14), [], []⟩, "orders_of", ["things", "found", "thing", "longer", "order", "at"], ["things"], .own, [(⟨46, 8, 0, 0⟩, [3]), (⟨44, 8, 0, 0⟩, [4, 5]), (⟨42, 4, 0, 0⟩, [2, 3, 4, 5])], [], [], ⟨1, 6, Lb.b_orders_of, none⟩⟩
def z_middle_is_last : DZ := ⟨⟨("middle_is_last", none), "middle_is_last", "middle_is_last", defArgs (top 16), defBody (top 16), defScope (top 16), [], []⟩, "middle_is_last", ["ballot", "three", "first", "middle", "third"], ["ballot", "three"], .sh, [], [], [], ⟨2, 5, Lb.b_middle_is_last, none⟩⟩
def z_first_three_off : DZ := ⟨⟨("first_three_off", none), "first_three_off", "first_three_off", defArgs (top 17), defBody (top 17), defScope (top 17), [], []⟩, "first_three_off", ["ballot", "order", "three"], ["ballot", "order"], .sh, [(⟨53, 4, 0, 0⟩, [2])], [], [], ⟨2, 3, Lb.b_first_three_off, none⟩⟩
def z_first_ballot_off : DZ := ⟨⟨("first_ballot_off", none), "first_ballot_off", "first_ballot_off", defArgs (top 18), defBody (top 18), defScope (top 18), [], []⟩, "first_ballot_off", ["ballots", "order", "index", "ballot", "three"], ["ballots", "order"], .own, [(⟨58, 4, 0, 0⟩, [2, 3, 4])], [], [], ⟨2, 5, Lb.b_first_ballot_off, none⟩⟩
def z_are_in_line : DZ := ⟨⟨("are_in_line", none), "are_in_line", "are_in_line", defArgs (top 19), defBody (top 19), defScope (top 19), [], []⟩, "are_in_line", ["ballots", "order"], ["ballots", "order"], .own, [], [], [], ⟨2, 2, Lb.b_are_in_line, none⟩⟩
def z_first_line : DZ := ⟨⟨("first_line", none), "first_line", "first_line", defArgs (top 20), defBody (top 20), defScope (top 20), [], []⟩, "first_line", ["things", "ballots", "order"], ["things", "ballots"], .sh, [(⟨66, 4, 0, 0⟩, [2])], [], [], ⟨2, 3, Lb.b_first_line, none⟩⟩
def z_check_things : DZ := ⟨⟨("check_things", none), "check_things", "check_things", defArgs (top 23), defBody (top 23), defScope (top 23), [], []⟩, "check_things", ["value"], ["value"], .own, [], [], [], ⟨1, 1, Lb.b_check_things, none⟩⟩
def z_check_ballots : DZ := ⟨⟨("check_ballots", none), "check_ballots", "check_ballots", defArgs (top 27), defBody (top 27), defScope (top 27), [], []⟩, "check_ballots", ["things", "ballots", "index", "value"], ["things", "ballots"], .own, [(⟨82, 4, 0, 0⟩, [2, 3])], [], [], ⟨2, 4, Lb.b_check_ballots, none⟩⟩
def z_line : DZ := ⟨⟨("line", none), "line", "line", defArgs (top 28), defBody (top 28), defScope (top 28), [], []⟩, "line", ["things", "ballots"], ["things", "ballots"], .sh, [], [], [], ⟨2, 2, Lb.b_line, none⟩⟩
def z_is_line : DZ := ⟨⟨("is_line", none), "is_line", "is_line", defArgs (top 29), defBody (top 29), defScope (top 29), [], []⟩, "is_line", ["things", "ballots", "value"], ["things", "ballots", "value"], .sh, [], [], [], ⟨3, 3, Lb.b_is_line, none⟩⟩
def z_first_off_line : DZ := ⟨⟨("first_off_line", none), "first_off_line", "first_off_line", defArgs (top 30), defBody (top 30), defScope (top 30), [], []⟩, "first_off_line", ["things", "ballots", "order"], ["things", "ballots", "order"], .own, [], [], [], ⟨3, 3, Lb.b_first_off_line, none⟩⟩
def z__law_numbers : DZ := ⟨⟨("_law_numbers", none), "_law_numbers", "_law_numbers", defArgs (top 32), defBody (top 32), defScope (top 32), [], []⟩, "_law_numbers", ["script", "at", "count", "cell", "numbers", "k", "mixed"], ["script", "at", "count"], .own, [(⟨100, 4, 0, 0⟩, [5, 6])], [], [], ⟨3, 7, Lb.b__law_numbers, none⟩⟩
def z__law_is_integer : DZ := ⟨⟨("_law_is_integer", none), "_law_is_integer", "_law_is_integer", defArgs (top 33), defBody (top 33), defScope (top 33), [], []⟩, "_law_is_integer", ["value"], ["value"], .sh, [], [], [], ⟨1, 1, Lb.b__law_is_integer, none⟩⟩
def z__law_things : DZ := ⟨⟨("_law_things", none), "_law_things", "_law_things", defArgs (top 34), defBody (top 34), defScope (top 34), [], []⟩, "_law_things", ["script", "at", "numbers", "letters", "found", "k", "free", "letter"], ["script", "at"], .own, [(⟨115, 4, 0, 0⟩, [5, 6, 7])], [], [], ⟨2, 8, Lb.b__law_things, none⟩⟩
def z__law_orders : DZ := ⟨⟨("_law_orders", none), "_law_orders", "_law_orders", defArgs (top 35), defBody (top 35), defScope (top 35), [], []⟩, "_law_orders", ["things", "orders", "thing", "longer", "order", "at"], ["things"], .own, [(⟨125, 8, 0, 0⟩, [3]), (⟨123, 8, 0, 0⟩, [4, 5]), (⟨121, 4, 0, 0⟩, [2, 3, 4, 5])], [], [], ⟨1, 6, Lb.b__law_orders, none⟩⟩
def z__law_pairs : DZ := ⟨⟨("_law_pairs", none), "_law_pairs", "_law_pairs", defArgs (top 36), defBody (top 36), defScope (top 36), [], []⟩, "_law_pairs", ["listed", "pairs", "k", "other"], ["listed"], .own, [(⟨129, 4, 0, 0⟩, [2, 3])], [], [], ⟨1, 4, Lb.b__law_pairs, none⟩⟩
def z__law_ballots : DZ := ⟨⟨("_law_ballots", none), "_law_ballots", "_law_ballots", defArgs (top 37), defBody (top 37), defScope (top 37), [], []⟩, "_law_ballots", ["script", "at", "things", "numbers", "orders", "ballots", "k", "draws", "pick"], ["script", "at", "things"], .own, [(⟨136, 4, 0, 0⟩, [6, 7, 8])], [], [], ⟨3, 9, Lb.b__law_ballots, none⟩⟩
def z__law_threes : DZ := ⟨⟨("_law_threes", none), "_law_threes", "_law_threes", defArgs (top 38), defBody (top 38), defScope (top 38), [], []⟩, "_law_threes", ["order", "found", "k", "second", "third"], ["order"], .own, [(⟨145, 4, 0, 0⟩, [2, 3, 4])], [], [], ⟨1, 5, Lb.b__law_threes, none⟩⟩
def z__law_is_off : DZ := ⟨⟨("_law_is_off", none), "_law_is_off", "_law_is_off", defArgs (top 39), defBody (top 39), defScope (top 39), [], []⟩, "_law_is_off", ["ballot", "three", "thing"], ["ballot", "three"], .own, [], [], [], ⟨2, 3, Lb.b__law_is_off, none⟩⟩
def z__law_off : DZ := ⟨⟨("_law_off", none), "_law_off", "_law_off", defArgs (top 40), defBody (top 40), defScope (top 40), [], []⟩, "_law_off", ["ballots", "order", "k", "three"], ["ballots", "order"], .own, [(⟨152, 8, 0, 0⟩, [3]), (⟨151, 4, 0, 0⟩, [2, 3])], [], [], ⟨2, 4, Lb.b__law_off, none⟩⟩
def z__law_lined_ballots : DZ := ⟨⟨("_law_lined_ballots", none), "_law_lined_ballots", "_law_lined_ballots", defArgs (top 41), defBody (top 41), defScope (top 41), [], []⟩, "_law_lined_ballots", ["things", "ballots", "numbers", "orders", "lined", "right", "order", "k"], ["things", "ballots", "numbers"], .own, [], [], [], ⟨3, 8, Lb.b__law_lined_ballots, none⟩⟩
def z__law_values : DZ := ⟨⟨("_law_values", none), "_law_values", "_law_values", defArgs (top 42), defBody (top 42), defScope (top 42), [], []⟩, "_law_values", ["things", "order", "numbers", "at", "found"], ["things", "order", "numbers"], .own, [], [], [], ⟨3, 5, Lb.b__law_values, none⟩⟩
def z__law_holds : DZ := ⟨⟨("_law_holds", none), "_law_holds", "_law_holds", defArgs (top 43), defBody (top 43), defScope (top 43), [], []⟩, "_law_holds", ["things", "ballots", "numbers", "handed", "lines", "order", "told", "due", "lies", "value", "ballot"], ["things", "ballots", "numbers"], .sh, [(⟨178, 8, 0, 0⟩, [9]), (⟨168, 4, 0, 0⟩, [5, 6, 7, 8, 9])], [], [], ⟨3, 11, Lb.b__law_holds_v2, none⟩⟩
def b_law (call : Call) : ZS := (sSeq (sSet 1 (eCall call "_law_things" [(eVar 0), (eLit (.int 0))])) (sSeq (sSet 2 (eCall call "_law_ballots" [(eVar 0), (eLit (.int 1)), (eVar 1)])) (sSeq (sSet 3 (eCall call "_law_numbers" [(eVar 0), (eLit (.int 10)), (eLit (.int 6))])) (sSeq (sIf (eNot (eCall call "_law_holds" [(eVar 1), (eVar 2), (eVar 3)])) (sRet (eLit (.bl false))) sNil) (sSeq (sSet 4 (eCall call "_law_lined_ballots" [(eVar 1), (eVar 2), (eVar 3)])) (sSeq (sIf (eOr (eNot (eCall call "_law_holds" [(eVar 1), (eVar 4), (eVar 3)])) (eCmp .Is (eCall call "line" [(eBlt .list [(eVar 1)]), (eVar 4)]) (eLit .non))) (sRet (eLit (.bl false))) sNil) (sRet (eCmp .Eq (eCall call "line" [(eLst [(eLit (.str "a")), (eLit (.str "b"))]), (eLst [(eLst [(eLit (.str "b")), (eLit (.str "a"))]), (eLst [(eLit (.str "a")), (eLit (.str "b"))])])]) (eLst [(eLit (.str "a")), (eLit (.str "b"))])))))))))
def z_law : DZ := ⟨⟨("law", none), "law", "law", defArgs (top 44), defBody (top 44), defScope (top 44), [], []⟩, "law", ["script", "things", "ballots", "numbers", "lined"], ["script"], .own, [], [], [], ⟨1, 5, b_law, none⟩⟩
def defs : List DZ := [z_is_thing, z_are_things, z_pairs_of, z_threes_of, z_is_ahead, z_is_ranking, z_orders_of, z_middle_is_last, z_first_three_off, z_first_ballot_off, z_are_in_line, z_first_line, z_check_things, z_check_ballots, z_line, z_is_line, z_first_off_line, z__law_numbers, z__law_is_integer, z__law_things, z__law_orders, z__law_pairs, z__law_ballots, z__law_threes, z__law_is_off, z__law_off, z__law_lined_ballots, z__law_values, z__law_holds, z_law]
def T : TX := ⟨defs, cs, [], []⟩
theorem comp_is_thing : Comp T z_is_thing := fun call => by kernel_rfl
theorem comp_are_things : Comp T z_are_things := fun call => by kernel_rfl
theorem comp_pairs_of : Comp T z_pairs_of := fun call => by kernel_rfl
theorem comp_threes_of : Comp T z_threes_of := fun call => by kernel_rfl
theorem comp_is_ahead : Comp T z_is_ahead := fun call => by kernel_rfl
theorem comp_is_ranking : Comp T z_is_ranking := fun call => by kernel_rfl
theorem comp_orders_of : Comp T z_orders_of := fun call => by kernel_rfl
theorem comp_middle_is_last : Comp T z_middle_is_last := fun call => by kernel_rfl
theorem comp_first_three_off : Comp T z_first_three_off := fun call => by kernel_rfl
theorem comp_first_ballot_off : Comp T z_first_ballot_off := fun call => by kernel_rfl
theorem comp_are_in_line : Comp T z_are_in_line := fun call => by kernel_rfl
theorem comp_first_line : Comp T z_first_line := fun call => by kernel_rfl
theorem comp_check_things : Comp T z_check_things := fun call => by kernel_rfl
theorem comp_check_ballots : Comp T z_check_ballots := fun call => by kernel_rfl
theorem comp_line : Comp T z_line := fun call => by kernel_rfl
theorem comp_is_line : Comp T z_is_line := fun call => by kernel_rfl
theorem comp_first_off_line : Comp T z_first_off_line := fun call => by kernel_rfl
theorem comp__law_numbers : Comp T z__law_numbers := fun call => by kernel_rfl
theorem comp__law_is_integer : Comp T z__law_is_integer := fun call => by kernel_rfl
theorem comp__law_things : Comp T z__law_things := fun call => by kernel_rfl
theorem comp__law_orders : Comp T z__law_orders := fun call => by kernel_rfl
theorem comp__law_pairs : Comp T z__law_pairs := fun call => by kernel_rfl
theorem comp__law_ballots : Comp T z__law_ballots := fun call => by kernel_rfl
theorem comp__law_threes : Comp T z__law_threes := fun call => by kernel_rfl
theorem comp__law_is_off : Comp T z__law_is_off := fun call => by kernel_rfl
theorem comp__law_off : Comp T z__law_off := fun call => by kernel_rfl
theorem comp__law_lined_ballots : Comp T z__law_lined_ballots := fun call => by kernel_rfl
theorem comp__law_values : Comp T z__law_values := fun call => by kernel_rfl
theorem comp__law_holds : Comp T z__law_holds := fun call => by kernel_rfl
theorem comp_law : Comp T z_law := fun call => by kernel_rfl
theorem one_is_thing : OneOk T z_is_thing := ⟨comp_is_thing, ⟨rfl, rfl, by decide, ⟨rfl, rfl, rfl, by decide +kernel, rfl, by decide +kernel, by decide +kernel⟩, by decide⟩, fun _ _ _ _ _ _ us hl => match us, hl with | [_], _ => rfl, ⟨rfl, rfl⟩⟩
theorem one_are_things : OneOk T z_are_things := ⟨comp_are_things, ⟨rfl, rfl, by decide, ⟨rfl, rfl, rfl, by decide +kernel, rfl, by decide +kernel, by decide +kernel⟩, by decide⟩, fun _ _ _ _ _ _ us hl => match us, hl with | [_], _ => rfl, ⟨rfl, rfl⟩⟩
theorem one_pairs_of : OneOk T z_pairs_of := ⟨comp_pairs_of, ⟨rfl, rfl, by decide, ⟨rfl, rfl, rfl, by decide +kernel, rfl, by decide +kernel, by decide +kernel⟩, by decide⟩, fun _ _ _ _ _ _ us hl => match us, hl with | [_], _ => rfl, ⟨rfl, rfl⟩⟩
theorem one_threes_of : OneOk T z_threes_of := ⟨comp_threes_of, ⟨rfl, rfl, by decide, ⟨rfl, rfl, rfl, by decide +kernel, rfl, by decide +kernel, by decide +kernel⟩, by decide⟩, fun _ _ _ _ _ _ us hl => match us, hl with | [_], _ => rfl, ⟨rfl, rfl⟩⟩
theorem one_is_ahead : OneOk T z_is_ahead := ⟨comp_is_ahead, ⟨rfl, rfl, by decide, ⟨rfl, rfl, rfl, by decide +kernel, rfl, by decide +kernel, by decide +kernel⟩, by decide⟩, fun _ _ _ _ _ _ us hl => match us, hl with | [_, _, _], _ => rfl, ⟨rfl, rfl⟩⟩
theorem one_is_ranking : OneOk T z_is_ranking := ⟨comp_is_ranking, ⟨rfl, rfl, by decide, ⟨rfl, rfl, rfl, by decide +kernel, rfl, by decide +kernel, by decide +kernel⟩, by decide⟩, fun _ _ _ _ _ _ us hl => match us, hl with | [_, _], _ => rfl, ⟨rfl, rfl⟩⟩
theorem one_orders_of : OneOk T z_orders_of := ⟨comp_orders_of, ⟨rfl, rfl, by decide, ⟨rfl, rfl, rfl, by decide +kernel, rfl, by decide +kernel, by decide +kernel⟩, by decide⟩, fun _ _ _ _ _ _ us hl => match us, hl with | [_], _ => rfl, ⟨rfl, rfl⟩⟩
theorem one_middle_is_last : OneOk T z_middle_is_last := ⟨comp_middle_is_last, ⟨rfl, rfl, by decide, ⟨rfl, rfl, rfl, by decide +kernel, rfl, by decide +kernel, by decide +kernel⟩, by decide⟩, fun _ _ _ _ _ _ us hl => match us, hl with | [_, _], _ => rfl, ⟨rfl, rfl⟩⟩
theorem one_first_three_off : OneOk T z_first_three_off := ⟨comp_first_three_off, ⟨rfl, rfl, by decide, ⟨rfl, rfl, rfl, by decide +kernel, rfl, by decide +kernel, by decide +kernel⟩, by decide⟩, fun _ _ _ _ _ _ us hl => match us, hl with | [_, _], _ => rfl, ⟨rfl, rfl⟩⟩
theorem one_first_ballot_off : OneOk T z_first_ballot_off := ⟨comp_first_ballot_off, ⟨rfl, rfl, by decide, ⟨rfl, rfl, rfl, by decide +kernel, rfl, by decide +kernel, by decide +kernel⟩, by decide⟩, fun _ _ _ _ _ _ us hl => match us, hl with | [_, _], _ => rfl, ⟨rfl, rfl⟩⟩
theorem one_are_in_line : OneOk T z_are_in_line := ⟨comp_are_in_line, ⟨rfl, rfl, by decide, ⟨rfl, rfl, rfl, by decide +kernel, rfl, by decide +kernel, by decide +kernel⟩, by decide⟩, fun _ _ _ _ _ _ us hl => match us, hl with | [_, _], _ => rfl, ⟨rfl, rfl⟩⟩
theorem one_first_line : OneOk T z_first_line := ⟨comp_first_line, ⟨rfl, rfl, by decide, ⟨rfl, rfl, rfl, by decide +kernel, rfl, by decide +kernel, by decide +kernel⟩, by decide⟩, fun _ _ _ _ _ _ us hl => match us, hl with | [_, _], _ => rfl, ⟨rfl, rfl⟩⟩
theorem one_check_things : OneOk T z_check_things := ⟨comp_check_things, ⟨rfl, rfl, by decide, ⟨rfl, rfl, rfl, by decide +kernel, rfl, by decide +kernel, by decide +kernel⟩, by decide⟩, fun _ _ _ _ _ _ us hl => match us, hl with | [_], _ => rfl, ⟨rfl, rfl⟩⟩
theorem one_check_ballots : OneOk T z_check_ballots := ⟨comp_check_ballots, ⟨rfl, rfl, by decide, ⟨rfl, rfl, rfl, by decide +kernel, rfl, by decide +kernel, by decide +kernel⟩, by decide⟩, fun _ _ _ _ _ _ us hl => match us, hl with | [_, _], _ => rfl, ⟨rfl, rfl⟩⟩
theorem one_line : OneOk T z_line := ⟨comp_line, ⟨rfl, rfl, by decide, ⟨rfl, rfl, rfl, by decide +kernel, rfl, by decide +kernel, by decide +kernel⟩, by decide⟩, fun _ _ _ _ _ _ us hl => match us, hl with | [_, _], _ => rfl, ⟨rfl, rfl⟩⟩
theorem one_is_line : OneOk T z_is_line := ⟨comp_is_line, ⟨rfl, rfl, by decide, ⟨rfl, rfl, rfl, by decide +kernel, rfl, by decide +kernel, by decide +kernel⟩, by decide⟩, fun _ _ _ _ _ _ us hl => match us, hl with | [_, _, _], _ => rfl, ⟨rfl, rfl⟩⟩
theorem one_first_off_line : OneOk T z_first_off_line := ⟨comp_first_off_line, ⟨rfl, rfl, by decide, ⟨rfl, rfl, rfl, by decide +kernel, rfl, by decide +kernel, by decide +kernel⟩, by decide⟩, fun _ _ _ _ _ _ us hl => match us, hl with | [_, _, _], _ => rfl, ⟨rfl, rfl⟩⟩
theorem one__law_numbers : OneOk T z__law_numbers := ⟨comp__law_numbers, ⟨rfl, rfl, by decide, ⟨rfl, rfl, rfl, by decide +kernel, rfl, by decide +kernel, by decide +kernel⟩, by decide⟩, fun _ _ _ _ _ _ us hl => match us, hl with | [_, _, _], _ => rfl, ⟨rfl, rfl⟩⟩
theorem one__law_is_integer : OneOk T z__law_is_integer := ⟨comp__law_is_integer, ⟨rfl, rfl, by decide, ⟨rfl, rfl, rfl, by decide +kernel, rfl, by decide +kernel, by decide +kernel⟩, by decide⟩, fun _ _ _ _ _ _ us hl => match us, hl with | [_], _ => rfl, ⟨rfl, rfl⟩⟩
theorem one__law_things : OneOk T z__law_things := ⟨comp__law_things, ⟨rfl, rfl, by decide, ⟨rfl, rfl, rfl, by decide +kernel, rfl, by decide +kernel, by decide +kernel⟩, by decide⟩, fun _ _ _ _ _ _ us hl => match us, hl with | [_, _], _ => rfl, ⟨rfl, rfl⟩⟩
theorem one__law_orders : OneOk T z__law_orders := ⟨comp__law_orders, ⟨rfl, rfl, by decide, ⟨rfl, rfl, rfl, by decide +kernel, rfl, by decide +kernel, by decide +kernel⟩, by decide⟩, fun _ _ _ _ _ _ us hl => match us, hl with | [_], _ => rfl, ⟨rfl, rfl⟩⟩
theorem one__law_pairs : OneOk T z__law_pairs := ⟨comp__law_pairs, ⟨rfl, rfl, by decide, ⟨rfl, rfl, rfl, by decide +kernel, rfl, by decide +kernel, by decide +kernel⟩, by decide⟩, fun _ _ _ _ _ _ us hl => match us, hl with | [_], _ => rfl, ⟨rfl, rfl⟩⟩
theorem one__law_ballots : OneOk T z__law_ballots := ⟨comp__law_ballots, ⟨rfl, rfl, by decide, ⟨rfl, rfl, rfl, by decide +kernel, rfl, by decide +kernel, by decide +kernel⟩, by decide⟩, fun _ _ _ _ _ _ us hl => match us, hl with | [_, _, _], _ => rfl, ⟨rfl, rfl⟩⟩
theorem one__law_threes : OneOk T z__law_threes := ⟨comp__law_threes, ⟨rfl, rfl, by decide, ⟨rfl, rfl, rfl, by decide +kernel, rfl, by decide +kernel, by decide +kernel⟩, by decide⟩, fun _ _ _ _ _ _ us hl => match us, hl with | [_], _ => rfl, ⟨rfl, rfl⟩⟩
theorem one__law_is_off : OneOk T z__law_is_off := ⟨comp__law_is_off, ⟨rfl, rfl, by decide, ⟨rfl, rfl, rfl, by decide +kernel, rfl, by decide +kernel, by decide +kernel⟩, by decide⟩, fun _ _ _ _ _ _ us hl => match us, hl with | [_, _], _ => rfl, ⟨rfl, rfl⟩⟩
theorem one__law_off : OneOk T z__law_off := ⟨comp__law_off, ⟨rfl, rfl, by decide, ⟨rfl, rfl, rfl, by decide +kernel, rfl, by decide +kernel, by decide +kernel⟩, by decide⟩, fun _ _ _ _ _ _ us hl => match us, hl with | [_, _], _ => rfl, ⟨rfl, rfl⟩⟩
theorem one__law_lined_ballots : OneOk T z__law_lined_ballots := ⟨comp__law_lined_ballots, ⟨rfl, rfl, by decide, ⟨rfl, rfl, rfl, by decide +kernel, rfl, by decide +kernel, by decide +kernel⟩, by decide⟩, fun _ _ _ _ _ _ us hl => match us, hl with | [_, _, _], _ => rfl, ⟨rfl, rfl⟩⟩
theorem one__law_values : OneOk T z__law_values := ⟨comp__law_values, ⟨rfl, rfl, by decide, ⟨rfl, rfl, rfl, by decide +kernel, rfl, by decide +kernel, by decide +kernel⟩, by decide⟩, fun _ _ _ _ _ _ us hl => match us, hl with | [_, _, _], _ => rfl, ⟨rfl, rfl⟩⟩
theorem one__law_holds : OneOk T z__law_holds := ⟨comp__law_holds, ⟨rfl, rfl, by decide, ⟨rfl, rfl, rfl, by decide +kernel, rfl, by decide +kernel, by decide +kernel⟩, by decide⟩, fun _ _ _ _ _ _ us hl => match us, hl with | [_, _, _], _ => rfl, ⟨rfl, rfl⟩⟩
theorem one_law : OneOk T z_law := ⟨comp_law, ⟨rfl, rfl, by decide, ⟨rfl, rfl, rfl, by decide +kernel, rfl, by decide +kernel, by decide +kernel⟩, by decide⟩, fun _ _ _ _ _ _ us hl => match us, hl with | [_], _ => rfl, ⟨rfl, rfl⟩⟩
abbrev TB := tabOf defs
theorem rb_law (c : Call) (b : Call → ZS) (x0 : D) : runFd c ⟨1, 5, b, none⟩ [x0] = endD (b c [some x0, none, none, none, none]) := rfl
theorem r_law (n : Nat) (x0 : D) : run TB (n + 1) "law" [x0] = endD (b_law (run TB n) [some x0, none, none, none, none]) := (run_at (fd := ⟨1, 5, b_law, none⟩) (by kernel_rfl)).trans (rb_law _ _ _)
instance : C_is_thing TB := { s_is_thing := by kernel_rfl }
instance : C_are_things TB := { (inferInstance : C_is_thing TB) with s_are_things := by kernel_rfl }
instance : C_pairs_of TB := { s_pairs_of := by kernel_rfl }
instance : C_threes_of TB := { (inferInstance : C_pairs_of TB) with s_threes_of := by kernel_rfl }
instance : C_is_ahead TB := { s_is_ahead := by kernel_rfl }
instance : C_is_ranking TB := { s_is_ranking := by kernel_rfl }
instance : C_orders_of TB := { s_orders_of := by kernel_rfl }
instance : C_middle_is_last TB := { (inferInstance : C_is_ahead TB) with s_middle_is_last := by kernel_rfl }
instance : C_first_three_off TB := { (inferInstance : C_middle_is_last TB), (inferInstance : C_threes_of TB) with s_first_three_off := by kernel_rfl }
instance : C_first_ballot_off TB := { (inferInstance : C_first_three_off TB) with s_first_ballot_off := by kernel_rfl }
instance : C_are_in_line TB := { (inferInstance : C_first_ballot_off TB) with s_are_in_line := by kernel_rfl }
instance : C_first_line TB := { (inferInstance : C_are_in_line TB), (inferInstance : C_orders_of TB) with s_first_line := by kernel_rfl }
instance : C_check_things TB := { (inferInstance : C_are_things TB) with s_check_things := by kernel_rfl }
instance : C_check_ballots TB := { (inferInstance : C_check_things TB), (inferInstance : C_is_ranking TB) with s_check_ballots := by kernel_rfl }
instance : C_line TB := { (inferInstance : C_check_ballots TB), (inferInstance : C_first_line TB) with s_line := by kernel_rfl }
instance : C_is_line TB := { (inferInstance : C_are_in_line TB), (inferInstance : C_is_ranking TB) with s_is_line := by kernel_rfl }
instance : C_first_off_line TB := { (inferInstance : C_first_ballot_off TB) with s_first_off_line := by kernel_rfl }
instance : C__law_numbers TB := { s__law_numbers := by kernel_rfl }
instance : C__law_is_integer TB := { s__law_is_integer := by kernel_rfl }
instance : C__law_things TB := { (inferInstance : C__law_numbers TB) with s__law_things := by kernel_rfl }
instance : C__law_orders TB := { s__law_orders := by kernel_rfl }
instance : C__law_pairs TB := { s__law_pairs := by kernel_rfl }
instance : C__law_ballots TB := { (inferInstance : C__law_numbers TB), (inferInstance : C__law_orders TB) with s__law_ballots := by kernel_rfl }
instance : C__law_threes TB := { (inferInstance : C__law_pairs TB) with s__law_threes := by kernel_rfl }
instance : C__law_is_off TB := { s__law_is_off := by kernel_rfl }
instance : C__law_off TB := { (inferInstance : C__law_is_off TB), (inferInstance : C__law_threes TB) with s__law_off := by kernel_rfl }
instance : C__law_lined_ballots TB := { (inferInstance : C__law_off TB), (inferInstance : C__law_orders TB) with s__law_lined_ballots := by kernel_rfl }
instance : C__law_values TB := { s__law_values := by kernel_rfl }
instance : C__law_holds_v2 TB := { (inferInstance : C__law_is_integer TB), (inferInstance : C__law_off TB), (inferInstance : C__law_orders TB), (inferInstance : C__law_values TB), (inferInstance : C_first_off_line TB), (inferInstance : C_is_line TB), (inferInstance : C_line TB) with s__law_holds_v2 := by kernel_rfl }
theorem textL : TextL T := ⟨by decide +kernel, allC one_is_thing (allC one_are_things (allC one_pairs_of (allC one_threes_of (allC one_is_ahead (allC one_is_ranking (allC one_orders_of (allC one_middle_is_last (allC one_first_three_off (allC one_first_ballot_off (allC one_are_in_line (allC one_first_line (allC one_check_things (allC one_check_ballots (allC one_line (allC one_is_line (allC one_first_off_line (allC one__law_numbers (allC one__law_is_integer (allC one__law_things (allC one__law_orders (allC one__law_pairs (allC one__law_ballots (allC one__law_threes (allC one__law_is_off (allC one__law_off (allC one__law_lined_ballots (allC one__law_values (allC one__law_holds (allC one_law (allN)))))))))))))))))))))))))))))), by decide +kernel, by decide +kernel⟩
def loose0 : List Str := ["PanelError", "BadAgenda", "BadPanel", "LETTERS", "FEWEST_THINGS", "MOST_THINGS", "is_thing", "are_things", "pairs_of", "threes_of", "is_ahead", "is_ranking", "orders_of", "middle_is_last", "first_three_off", "first_ballot_off", "are_in_line", "first_line", "WRONG_THINGS", "check_things", "MOST_BALLOTS", "WRONG_COUNT", "check_ballots", "line", "is_line", "first_off_line", "_law_numbers", "_law_is_integer", "_law_things", "_law_orders"]
def loose1 : List Str := ["_law_pairs", "_law_ballots", "_law_threes", "_law_is_off", "_law_off", "_law_lined_ballots", "_law_values", "_law_holds"]
abbrev RR : PySem.W.OpenRow := PySem.W.OpenLaw.row PySem.Challenge.rw_panelsagree_k91_ballots_in_line
def fa : List He.Fa := factsOf T
def fn : List He.DefD := defs.map (·.d)
abbrev hk : PySem.W.Hook := He.hookD 4 fa fn
def ob (s : PySem.W.SharedT) : He.AlD := He.obsDG 4 fa fn (HandSHeadRun.getT s)
theorem ob_eq (s : PySem.W.SharedT) : ob s = hk.obs s.abs := He.obsDG_eq (HandSHeadRun.getT_eq s)
theorem runs (w : World) : HandSHeadRun.RunEq RR (PySem.W.view RR.prog [44]) hk ob 6000 (loose0 ++ loose1) w := by
  intro os
  kernel_rfl
/-- all but the plain law -/
theorem head (n : Nat) (hr : Room (3 * n) callerA) (hlaw : ∀ ns : List Int, ns.length ≤ 63 → run TB n "law" [.scr ns] = .ok (.bl true)) : PySem.Challenge.rw_panelsagree_k91_ballots_in_line.Holds := by
  w_on; o_law
  refine HandSHeadRun.head_any (r := PySem.W.OpenLaw.row PySem.Challenge.rw_panelsagree_k91_ballots_in_line) (q := PySem.W.view (PySem.W.OpenLaw.row PySem.Challenge.rw_panelsagree_k91_ballots_in_line).prog [44]) (H := hk) (ob := ob) (M := 6000) (loose := loose0 ++ loose1) (d := HandSHeadRun.topDef (PySem.W.OpenLaw.row PySem.Challenge.rw_panelsagree_k91_ballots_in_line).prog 44) (kwd := []) ob_eq
    (by kernel_rfl) (fun s => by kernel_rfl) runs (by kernel_rfl) (by kernel_rfl) (by kernel_rfl) (by rfl) (by first | assumption | decide +kernel) (by decide +kernel) ⟨rfl, rfl, rfl, rfl, rfl, by decide +kernel⟩ ?hw ?hc
  case hw => w_witness2
  case hc =>
    refine L2.walk_ofE (l := PySem.Challenge.rw_panelsagree_k91_ballots_in_line) (n := 63) (k := 3 * n) (x := "script") (CX := L2.CX0) rfl (by decide) (by kernel_rfl) hr ?F (fun _ _ _ _ z => z)
    intro w mg fa0 h Y G hmg0
    obtain ⟨K, KX, c⟩ := Y
    have hmg : mg ("law" : PySem.Str) = some (.ref fa0) := by
      have e : (HandSHeadRun.topDef (PySem.W.OpenLaw.row PySem.Challenge.rw_panelsagree_k91_ballots_in_line).prog 44).name = ("law" : PySem.Str) := by kernel_rfl
      rw [← e]
      exact hmg0
    have hmem : z_law ∈ T.L := by show z_law ∈ defs; unfold defs; simp
    obtain ⟨fd, hb, hF⟩ := law_facts (P := (PySem.Challenge.rw_panelsagree_k91_ballots_in_line).prog) (w := w) (n := n) textL hmem rfl rfl rfl rfl KX G hmg c
    exact ⟨K, fd, _, KX, hb, fun H a ns hl _ hS => law_sp hS (hlaw ns hl), hF⟩
end K91
/-! k91 -/
namespace K91
open PySem PySem.Spec PyProof.Rows Z Lb
theorem law_ok (ns : List Int) : run TB 20 "law" [.scr ns] = .ok (.bl true) := by
  rw [r_law 19]
  obtain ⟨t, a1, th⟩ := law_things_eq (T := TB) 17 ns 0
  obtain ⟨bs, a2, hb⟩ := law_ballots_eq (T := TB) 17 ns 1 th
  obtain ⟨xs, a3, hx, _⟩ := numbers_eq (T := TB) 18 ns 10 6 (by omega)
  have a4 := law_holds2_eq (T := TB) 11 th hb hx
  obtain ⟨bs', o, a5, hb', oo, oN⟩ := lined_eq (T := TB) 15 th hb hx
  have a6 := law_holds2_eq (T := TB) 11 th hb' hx
  have a7 := line_eq (T := TB) 12 th hb'
  have a8 := line_ab (T := TB) 12
  have some : ∃ y, lineOf t bs' = Option.some y := by
    rw [← Option.isSome_iff_exists]
    unfold lineOf
    rw [List.find?_isSome]
    exact ⟨o, oo, by rw [oN]; rfl⟩
  obtain ⟨y, hy⟩ := some
  rw [hy] at a7
  have a7 : run TB 19 "line" [dview t, drows bs'] = .ok (dview y) := a7
  have n1 : isNone (dview y) = false := rfl
  have lv : bltD .list [dview t] = .ok (dview t) := rfl
  have a1 : run TB 19 "_law_things" [.scr ns, .int 0] = .ok (dview t) := a1
  have a2 : run TB 19 "_law_ballots" [.scr ns, .int 1, dview t] = .ok (drows bs) := a2
  have a3 : run TB 19 "_law_numbers" [.scr ns, .int 10, .int 6] = .ok (dns xs) := a3
  have ab : D.lst [.str ("a" : String), .str ("b" : String)] = dview [[97], [98]] := rfl
  have ba : D.lst [.lst [.str ("b" : String), .str ("a" : String)], dview [[97], [98]]] = drows [[[98], [97]], [[97], [98]]] := rfl
  have er := eq_view [[97], [98]] [[97], [98]]
  simp only [decide_true] at er
  unfold b_law
  simp only [q_seq_set, q_call, q_args, q_args0, q_var, q_look, q_lit, List.getElem?_cons_zero, List.getElem?_cons_succ, R.bind_ok, a1, a2, a3, ofR_ok, List.set_cons_zero, List.set_cons_succ]
  rw [seq_if_f (by simp [a4])]
  simp only [q_seq_set, q_call, q_args, q_args0, q_var, q_look, q_lit, List.getElem?_cons_zero, List.getElem?_cons_succ, R.bind_ok, a5, ofR_ok, List.set_cons_zero, List.set_cons_succ]
  rw [seq_if_f (by simp [a6, lv, a7, n1])]
  simp only [q_ret, q_cmp, q_call, q_args, q_args0, q_lst, q_lit, R.bind_ok, ba, ab, a8, c_eq, er, ofR_ok, q_end_rt]
theorem room20 : L2.Room (3 * 20) callerA := ⟨rfl, by decide, by decide⟩
end K91
open PySem PySem.W PySem.Calls PyProof.Rows
/-- k91 -/
theorem PySem.Challenge.cw_panelsagree_k91_ballots_in_line_holds : PySem.Challenge.rw_panelsagree_k91_ballots_in_line.Holds :=
  K91.head 20 K91.room20 fun ns _ => K91.law_ok ns
