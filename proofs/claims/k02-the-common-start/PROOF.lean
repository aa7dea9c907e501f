import PyProof.Rows.All
import Wide.All
import OpenK.AllK
import Wide.FinOn
import HandS.ForMost
import HandS.Exc
import HandS.ExcOwn
import HandS.ExcInit
import HandS.WordsExc
import HandS.Wide
import HandS.IsInst
import HandS.Flow
import HandS.TryMany
import HandS.StrMore
import HandS.Defaults
import PySem.Challenge.RW_markseam_k02_the_common_start
set_option Elab.async false
set_option linter.all false
set_option maxRecDepth 100000
set_option maxHeartbeats 4000000
namespace DL
open PySem PySem.Spec PyProof.Rows L2
abbrev St := L2.St

/-! ### data: values without the heap; lists that stand still are trees -/
inductive Dv where
  | non | bl (b : Bool) | int (i : Int) | str (x : Str) | ty (n : String) | ref (a : Addr)
  | tup (ds : List Dv) | lst (ds : List Dv) | obj (C : Addr) (fs : List (Str × Dv))
instance : Inhabited Dv := ⟨.non⟩

/-- a list that stands still: locked, or an object of the module -/
def FzL (K : PySem.W.Frag) (H : Hp) (a : Addr) (xs : List V) : Prop :=
  (∃ o, H a = some (.frz o (.lst xs))) ∨
    ∃ (o : Obj) (its : Array Value) (n : Nat), K.lookup a = some o ∧ o.cls = .type "list" ∧ o.dict = none ∧ o.data = .seq its n ∧ its.size ≤ sizeLine ∧ Vals xs its.toList
theorem FzL.seq {K : PySem.W.Frag} {H : Hp} {a : Addr} {xs : List V} (h : FzL K H a xs) : SqL K H a xs := by
  rcases h with ⟨o, h⟩ | h
  · exact .inl (.inr ⟨o, h⟩)
  · exact .inr h
mutual
def RD (K : PySem.W.Frag) (H : Hp) : Dv → V → Prop
  | .non, v => v = .non
  | .bl b, v => v = .bl b
  | .int i, v => v = .int i
  | .str x, v => v = .str x
  | .ty n, v => v = .ty n
  | .ref a, v => v = .ref a
  | .tup ds, v => ∃ a vs, v = .ref a ∧ SqT K H a vs ∧ RDs K H ds vs
  | .lst ds, v => ∃ a vs, v = .ref a ∧ FzL K H a vs ∧ RDs K H ds vs
  | .obj C fs, v => ∃ a o dx vfs, v = .ref a ∧ H a = some (.frz o (.ins C dx vfs)) ∧ RDf K H fs vfs
def RDs (K : PySem.W.Frag) (H : Hp) : List Dv → List V → Prop
  | [], vs => vs = []
  | d :: ds, vs => ∃ v r, vs = v :: r ∧ RD K H d v ∧ RDs K H ds r
def RDf (K : PySem.W.Frag) (H : Hp) : List (Str × Dv) → List (Str × V) → Prop
  | [], vs => vs = []
  | (f, d) :: ds, vs => ∃ v r, vs = (f, v) :: r ∧ RD K H d v ∧ RDf K H ds r
end

/-- what stands still, stands -/
structure Keep (H H' : Hp) : Prop where
  tups : ∀ b xs, H b = some (.tup xs) → H' b = some (.tup xs)
  frzs : ∀ b o u, H b = some (.frz o u) → H' b = some (.frz o u)
theorem Keep.refl (H : Hp) : Keep H H := ⟨fun _ _ h => h, fun _ _ _ h => h⟩
theorem Keep.trans {H H1 H2 : Hp} (a : Keep H H1) (b : Keep H1 H2) : Keep H H2 := ⟨fun c x h => b.tups c x (a.tups c x h), fun c o u h => b.frzs c o u (a.frzs c o u h)⟩
theorem Keep.seqT {K : PySem.W.Frag} {H H' : Hp} (k : Keep H H') {a : Addr} {xs : List V} (h : SqT K H a xs) : SqT K H' a xs := by
  rcases h with (h | ⟨o, h⟩) | h
  · exact .inl (.inl (k.tups _ _ h))
  · exact .inl (.inr ⟨o, k.frzs _ _ _ h⟩)
  · exact .inr h
theorem Keep.fz {K : PySem.W.Frag} {H H' : Hp} (k : Keep H H') {a : Addr} {xs : List V} (h : FzL K H a xs) : FzL K H' a xs := by
  rcases h with ⟨o, h⟩ | h
  · exact .inl ⟨o, k.frzs _ _ _ h⟩
  · exact .inr h
theorem Keep.new {H : Hp} {p : Addr} {o : HO} (h : H p = none) : Keep H (upd H p o) :=
  ⟨fun b xs e => by rw [upd_ne (ne_of_none e h)]; exact e, fun b o u e => by rw [upd_ne (ne_of_none e h)]; exact e⟩
theorem Keep.mut {H : Hp} {p : Addr} {o : HO} (h : Mut (H p)) : Keep H (upd H p o) :=
  ⟨fun b xs e => by rw [upd_ne (fun z => by subst z; rw [e] at h; exact h)]; exact e, fun b o u e => by rw [upd_ne (fun z => by subst z; rw [e] at h; exact h)]; exact e⟩

mutual
theorem RD.keep {K : PySem.W.Frag} {H H' : Hp} (k : Keep H H') : ∀ {d : Dv} {v : V}, RD K H d v → RD K H' d v
  | .non, _, h => h
  | .bl _, _, h => h
  | .int _, _, h => h
  | .str _, _, h => h
  | .ty _, _, h => h
  | .ref _, _, h => h
  | .tup ds, v, h => by
    unfold RD at h ⊢
    obtain ⟨a, vs, e, s, r⟩ := h
    exact ⟨a, vs, e, k.seqT s, RDs.keep k r⟩
  | .lst ds, v, h => by
    unfold RD at h ⊢
    obtain ⟨a, vs, e, s, r⟩ := h
    exact ⟨a, vs, e, k.fz s, RDs.keep k r⟩
  | .obj C fs, v, h => by
    unfold RD at h ⊢
    obtain ⟨a, o, dx, vs, e, s, r⟩ := h
    exact ⟨a, o, dx, vs, e, k.frzs _ _ _ s, RDf.keep k r⟩
theorem RDs.keep {K : PySem.W.Frag} {H H' : Hp} (k : Keep H H') : ∀ {ds : List Dv} {vs : List V}, RDs K H ds vs → RDs K H' ds vs
  | [], _, h => h
  | d :: ds, vs, h => by
    unfold RDs at h ⊢
    obtain ⟨v, r, e, h1, h2⟩ := h
    exact ⟨v, r, e, RD.keep k h1, RDs.keep k h2⟩
theorem RDf.keep {K : PySem.W.Frag} {H H' : Hp} (k : Keep H H') : ∀ {ds : List (Str × Dv)} {vs : List (Str × V)}, RDf K H ds vs → RDf K H' ds vs
  | [], _, h => h
  | (f, d) :: ds, vs, h => by
    unfold RDf at h ⊢
    obtain ⟨v, r, e, h1, h2⟩ := h
    exact ⟨v, r, e, RD.keep k h1, RDf.keep k h2⟩
end
section
variable {K : PySem.W.Frag} {H : Hp}
theorem RDs.length : ∀ {ds : List Dv} {vs : List V}, RDs K H ds vs → ds.length = vs.length
  | [], vs, h => by unfold RDs at h; subst h; rfl
  | d :: ds, vs, h => by
    unfold RDs at h
    obtain ⟨v, r, e, h1, h2⟩ := h
    subst e
    rw [List.length_cons, List.length_cons, RDs.length h2]
theorem RDs.nil : RDs K H [] [] := by unfold RDs; rfl
theorem RDs.cons {d : Dv} {v : V} {ds : List Dv} {vs : List V} (h : RD K H d v) (r : RDs K H ds vs) : RDs K H (d :: ds) (v :: vs) := by unfold RDs; exact ⟨v, vs, rfl, h, r⟩
theorem RDs.app : ∀ {ds es : List Dv} {vs ws : List V}, RDs K H ds vs → RDs K H es ws → RDs K H (ds ++ es) (vs ++ ws)
  | [], es, vs, ws, h, h' => by unfold RDs at h; subst h; exact h'
  | d :: ds, es, vs, ws, h, h' => by
    unfold RDs at h
    obtain ⟨v, r, e, h1, h2⟩ := h
    subst e
    exact RDs.cons h1 (RDs.app h2 h')
theorem RDs.get : ∀ {ds : List Dv} {vs : List V} {i : Nat} {d : Dv}, RDs K H ds vs → ds[i]? = some d → ∃ v, vs[i]? = some v ∧ RD K H d v
  | [], vs, i, d, h, e => by simp at e
  | d :: ds, vs, 0, d', h, e => by
    unfold RDs at h
    obtain ⟨v, r, e1, h1, h2⟩ := h
    subst e1
    simp at e
    subst e
    exact ⟨v, rfl, h1⟩
  | d :: ds, vs, i + 1, d', h, e => by
    unfold RDs at h
    obtain ⟨v, r, e1, h1, h2⟩ := h
    subst e1
    obtain ⟨u, hu, ru⟩ := RDs.get (i := i) h2 (by simpa using e)
    exact ⟨u, by simpa using hu, ru⟩
theorem RDs.set {d : Dv} {v : V} (h : RD K H d v) : ∀ {ds : List Dv} {vs : List V} (i : Nat), RDs K H ds vs → RDs K H (ds.set i d) (vs.set i v)
  | [], vs, i, r => by unfold RDs at r; subst r; exact RDs.nil
  | e :: ds, vs, 0, r => by
    unfold RDs at r
    obtain ⟨u, w, e1, h1, h2⟩ := r
    subst e1
    exact RDs.cons h h2
  | e :: ds, vs, i + 1, r => by
    unfold RDs at r
    obtain ⟨u, w, e1, h1, h2⟩ := r
    subst e1
    exact RDs.cons h1 (RDs.set h i h2)
theorem RDs.take : ∀ {ds : List Dv} {vs : List V} (n : Nat), RDs K H ds vs → RDs K H (ds.take n) (vs.take n)
  | ds, vs, 0, _ => by simp; exact RDs.nil
  | [], vs, n + 1, h => by unfold RDs at h; subst h; exact RDs.nil
  | d :: ds, vs, n + 1, h => by
    unfold RDs at h
    obtain ⟨v, r, e, h1, h2⟩ := h
    subst e
    exact RDs.cons h1 (RDs.take n h2)
theorem RDs.drop : ∀ {ds : List Dv} {vs : List V} (n : Nat), RDs K H ds vs → RDs K H (ds.drop n) (vs.drop n)
  | ds, vs, 0, h => h
  | [], vs, n + 1, h => by unfold RDs at h; subst h; exact RDs.nil
  | d :: ds, vs, n + 1, h => by
    unfold RDs at h
    obtain ⟨v, r, e, h1, h2⟩ := h
    subst e
    exact RDs.drop n h2
theorem RDs.reverse : ∀ {ds : List Dv} {vs : List V}, RDs K H ds vs → RDs K H ds.reverse vs.reverse
  | [], vs, h => by unfold RDs at h; subst h; exact RDs.nil
  | d :: ds, vs, h => by
    unfold RDs at h
    obtain ⟨v, r, e, h1, h2⟩ := h
    subst e
    rw [List.reverse_cons, List.reverse_cons]
    exact RDs.app (RDs.reverse h2) (RDs.cons h1 RDs.nil)
theorem RDf.lookup : ∀ {fs : List (Str × Dv)} {vfs : List (Str × V)} {f : Str} {d : Dv}, RDf K H fs vfs → fs.lookup f = some d → ∃ v, vfs.lookup f = some v ∧ RD K H d v
  | [], vs, f, d, h, e => by simp at e
  | (g, d) :: ds, vs, f, d', h, e => by
    unfold RDf at h
    obtain ⟨v, r, e1, h1, h2⟩ := h
    subst e1
    rw [List.lookup_cons] at e ⊢
    cases q : f == g with
    | true =>
      rw [q] at e
      cases e
      exact ⟨v, rfl, h1⟩
    | false =>
      rw [q] at e
      exact RDf.lookup h2 e
theorem RDf.lookup_none : ∀ {fs : List (Str × Dv)} {vfs : List (Str × V)} {f : Str}, RDf K H fs vfs → fs.lookup f = none → vfs.lookup f = none
  | [], vs, f, h, e => by unfold RDf at h; subst h; rfl
  | (g, d) :: ds, vs, f, h, e => by
    unfold RDf at h
    obtain ⟨v, r, e1, h1, h2⟩ := h
    subst e1
    rw [List.lookup_cons] at e ⊢
    cases q : f == g with
    | true =>
      rw [q] at e
      cases e
    | false =>
      rw [q] at e
      exact RDf.lookup_none h2 e
theorem RDf.length : ∀ {ds : List (Str × Dv)} {vs : List (Str × V)}, RDf K H ds vs → ds.length = vs.length
  | [], vs, h => by unfold RDf at h; subst h; rfl
  | (f, d) :: ds, vs, h => by
    unfold RDf at h
    obtain ⟨v, r, e, h1, h2⟩ := h
    subst e
    rw [List.length_cons, List.length_cons, RDf.length h2]
/-- a field stored -/
def putD (f : Str) (v : Dv) : List (Str × Dv) → List (Str × Dv)
  | [] => [(f, v)]
  | (g, u) :: r => if f = g then (g, v) :: r else (g, u) :: putD f v r
end

/-! ### the objects that one owns -/
inductive OO where
  | lst (ds : List Dv) | ins (C : Addr) (fs : List (Str × Dv)) | xd (fs : List (Str × Dv)) | dK (kvs : List (Key × Dv)) | dT (kvs : List (List Key × Dv))
abbrev Mo := Addr → Option OO
def mup (M : Mo) (a : Addr) (o : OO) : Mo := fun b => if b = a then some o else M b
def mdl (M : Mo) (a : Addr) : Mo := fun b => if b = a then none else M b
theorem mup_same {M : Mo} {a : Addr} {o : OO} : mup M a o a = some o := if_pos rfl
theorem mup_ne {M : Mo} {a b : Addr} {o : OO} (h : b ≠ a) : mup M a o b = M b := if_neg h
theorem mdl_same {M : Mo} {a : Addr} : mdl M a a = none := if_pos rfl
theorem mdl_ne {M : Mo} {a b : Addr} (h : b ≠ a) : mdl M a b = M b := if_neg h
theorem mup_mup {M : Mo} {a : Addr} {o u : OO} : mup (mup M a o) a u = mup M a u := by
  funext b; unfold mup; split <;> rfl
theorem mdl_mup {M : Mo} {a : Addr} {o : OO} (h : M a = none) : mdl (mup M a o) a = M := by
  funext b
  unfold mdl mup
  by_cases e : b = a
  · rw [if_pos e, e, h]
  · rw [if_neg e, if_neg e]
theorem mup_eq {M : Mo} {a : Addr} {o : OO} (h : M a = some o) : mup M a o = M := by
  funext b
  unfold mup
  by_cases e : b = a
  · rw [if_pos e, e, h]
  · rw [if_neg e]
def RDk (K : PySem.W.Frag) (H : Hp) {α : Type} : List (α × Dv) → List (α × V) → Prop
  | [], vs => vs = []
  | (f, d) :: ds, vs => ∃ v r, vs = (f, v) :: r ∧ RD K H d v ∧ RDk K H ds r
theorem RDk.keep {K : PySem.W.Frag} {H H' : Hp} {α : Type} (k : Keep H H') : ∀ {ds : List (α × Dv)} {vs : List (α × V)}, RDk K H ds vs → RDk K H' ds vs
  | [], _, h => h
  | (f, d) :: ds, vs, h => by
    unfold RDk at h ⊢
    obtain ⟨v, r, e, h1, h2⟩ := h
    exact ⟨v, r, e, RD.keep k h1, RDk.keep k h2⟩
def Own (K : PySem.W.Frag) (H : Hp) (a : Addr) : OO → Prop
  | .lst ds => ∃ vs, H a = some (.lst vs) ∧ RDs K H ds vs
  | .ins C fs => ∃ dx vfs, H a = some (.ins C dx vfs) ∧ RDf K H fs vfs
  | .xd fs => ∃ vfs, H a = some (.xd vfs) ∧ RDf K H fs vfs
  | .dK kvs => ∃ vks, H a = some (.dK vks) ∧ RDk K H kvs vks
  | .dT kvs => ∃ vks, H a = some (.dT vks) ∧ RDk K H kvs vks
theorem Own.there {K : PySem.W.Frag} {H : Hp} {a : Addr} {o : OO} (h : Own K H a o) : ∃ u, H a = some u := by
  cases o <;> simp only [Own] at h
  · obtain ⟨_, e, _⟩ := h; exact ⟨_, e⟩
  · obtain ⟨_, _, e, _⟩ := h; exact ⟨_, e⟩
  · obtain ⟨_, e, _⟩ := h; exact ⟨_, e⟩
  · obtain ⟨_, e, _⟩ := h; exact ⟨_, e⟩
  · obtain ⟨_, e, _⟩ := h; exact ⟨_, e⟩
theorem Own.keep {K : PySem.W.Frag} {H H' : Hp} {a : Addr} {o : OO} (k : Keep H H') (e : H' a = H a) (h : Own K H a o) : Own K H' a o := by
  cases o <;> simp only [Own] at h ⊢ <;> rw [e]
  · obtain ⟨x, e, r⟩ := h; exact ⟨x, e, r.keep k⟩
  · obtain ⟨x, y, e, r⟩ := h; exact ⟨x, y, e, r.keep k⟩
  · obtain ⟨x, e, r⟩ := h; exact ⟨x, e, r.keep k⟩
  · obtain ⟨x, e, r⟩ := h; exact ⟨x, e, r.keep k⟩
  · obtain ⟨x, e, r⟩ := h; exact ⟨x, e, r.keep k⟩
def SR (K : PySem.W.Frag) (M : Mo) (H : Hp) : Prop := ∀ a o, M a = some o → Own K H a o
theorem SR.free {K : PySem.W.Frag} {M : Mo} {H : Hp} (s : SR K M H) {a : Addr} (h : H a = none) : M a = none := by
  cases e : M a with
  | none => rfl
  | some o =>
    obtain ⟨u, q⟩ := (s a o e).there
    rw [h] at q
    cases q

/-- from one moment to a later one: what is not owned stays as it is -/
structure Stp (K : PySem.W.Frag) (M : Mo) (H : Hp) (M' : Mo) (H' : Hp) : Prop where
  keep : Keep H H'
  sr : SR K M' H'
  old : ∀ a o, H a = some o → H' a ≠ none
  same : ∀ a o, H a = some o → M a = none → H' a = some o ∧ M' a = none
section
variable {K : PySem.W.Frag} {M M1 M2 : Mo} {H H1 H2 : Hp}
theorem Stp.refl (s : SR K M H) : Stp K M H M H := ⟨Keep.refl H, s, fun a o h z => by (rw [h] at z; cases z), fun _ _ h n => ⟨h, n⟩⟩
theorem Stp.trans (a : Stp K M H M1 H1) (b : Stp K M1 H1 M2 H2) : Stp K M H M2 H2 := by
  refine ⟨a.keep.trans b.keep, b.sr, fun c o h => ?_, fun c o h n => ?_⟩
  · cases e : H1 c with
    | none => exact absurd e (a.old c o h)
    | some o' => exact b.old c o' e
  · obtain ⟨e1, e2⟩ := a.same c o h n
    exact b.same c o e1 e2
/-- a new object that is tracked, not owned -/
theorem Stp.new0 (s : SR K M H) {p : Addr} {u : HO} (hp : H p = none) : Stp K M H M (upd H p u) := by
  have k : Keep H (upd H p u) := Keep.new hp
  refine ⟨k, fun a o e => ?_, fun a o h => ?_, fun a o h n => ⟨by rw [upd_ne (ne_of_none h hp)]; exact h, n⟩⟩
  · obtain ⟨u', hu⟩ := (s a o e).there
    exact (s a o e).keep k (upd_ne (ne_of_none hu hp))
  · rw [upd_ne (ne_of_none h hp), h]
    intro z
    cases z
/-- a new object that is owned -/
theorem Stp.new (s : SR K M H) {p : Addr} {u : HO} {oo : OO} (hp : H p = none) (h : Own K (upd H p u) p oo) : Stp K M H (mup M p oo) (upd H p u) := by
  have k : Keep H (upd H p u) := Keep.new hp
  refine ⟨k, fun a o e => ?_, fun a o h => ?_, fun a o h n => ⟨by rw [upd_ne (ne_of_none h hp)]; exact h, by rw [mup_ne (ne_of_none h hp)]; exact n⟩⟩
  · by_cases q : a = p
    · subst q
      rw [mup_same] at e
      cases e
      exact h
    · rw [mup_ne q] at e
      exact (s a o e).keep k (upd_ne q)
  · rw [upd_ne (ne_of_none h hp), h]
    intro z
    cases z
/-- an owned object is changed -/
theorem Stp.set (s : SR K M H) {p : Addr} {u : HO} {oo o1 : OO} (hp : M p = some o1) (hm : Mut (H p)) (h : Own K (upd H p u) p oo) : Stp K M H (mup M p oo) (upd H p u) := by
  have k : Keep H (upd H p u) := Keep.mut hm
  refine ⟨k, fun a o e => ?_, fun a o h => ?_, fun a o h n => ?_⟩
  · by_cases q : a = p
    · subst q
      rw [mup_same] at e
      cases e
      exact h
    · rw [mup_ne q] at e
      exact (s a o e).keep k (upd_ne q)
  · by_cases q : a = p
    · subst q
      rw [upd_same]
      intro z
      cases z
    · rw [upd_ne q, h]
      intro z
      cases z
  · have q : a ≠ p := fun z => by subst z; rw [hp] at n; cases n
    exact ⟨by rw [upd_ne q]; exact h, by rw [mup_ne q]; exact n⟩
/-- a tracked list that is not owned is owned from here on -/
theorem Stp.take (s : SR K M H) {p : Addr} {vs : List V} {ds : List Dv} (hp : H p = some (.lst vs)) (hm : M p = none) (r : RDs K H ds vs) {H0 : Hp} {M0 : Mo} (st : Stp K M0 H0 M H) (h0 : H0 p = none) : Stp K M0 H0 (mup M p (.lst ds)) H := by
  refine ⟨st.keep, fun a o e => ?_, st.old, fun a o h n => ?_⟩
  · by_cases q : a = p
    · subst q
      rw [mup_same] at e
      cases e
      simp only [Own]
      exact ⟨vs, hp, r⟩
    · rw [mup_ne q] at e
      exact s a o e
  · obtain ⟨e1, e2⟩ := st.same a o h n
    refine ⟨e1, ?_⟩
    rw [mup_ne (ne_of_none h h0)]
    exact e2
end

/-! ### the readings over data -/
abbrev StD := List (Option Dv)
abbrev QD := Dv → Mo → Prop
abbrev TED := StD → Mo → QD → Prop
abbrev TTD := StD → Mo → (Bool → Mo → Prop) → Prop
abbrev TAD := StD → Mo → (List Dv → Mo → Prop) → Prop
structure EndsD where
  nx : StD → Mo → Prop
  rt : QD
  bk : StD → Mo → Prop := fun _ _ => False
  ct : StD → Mo → Prop := fun _ _ => False
abbrev TSD := EndsD → StD → Mo → Prop
def Rs (K : PySem.W.Frag) (H : Hp) (sd : StD) (σ : St) : Prop := sd.length = σ.length ∧ ∀ (i : Nat) (d : Dv), sd[i]? = some (some d) → ∃ v, σ[i]? = some (some v) ∧ RD K H d v
section
variable {K : PySem.W.Frag} {H H' : Hp} {sd : StD} {σ : St}
theorem Rs.keep (k : Keep H H') (r : Rs K H sd σ) : Rs K H' sd σ := ⟨r.1, fun i d e => let ⟨v, h, q⟩ := r.2 i d e; ⟨v, h, q.keep k⟩⟩
theorem Rs.set {d : Dv} {v : V} (r : Rs K H sd σ) (q : RD K H d v) (i : Nat) : Rs K H (sd.set i (some d)) (σ.set i (some v)) := by
  refine ⟨by rw [List.length_set, List.length_set, r.1], fun j e h => ?_⟩
  by_cases c : i = j
  · subst c
    by_cases l : i < sd.length
    · rw [List.getElem?_set_self l] at h
      cases h
      exact ⟨v, List.getElem?_set_self (by rw [← r.1]; exact l), q⟩
    · rw [List.getElem?_eq_none (by rw [List.length_set]; omega)] at h
      cases h
  · rw [List.getElem?_set_ne c] at h
    obtain ⟨w, hw, qw⟩ := r.2 j e h
    exact ⟨w, by rw [List.getElem?_set_ne c]; exact hw, qw⟩
theorem Rs.setN (r : Rs K H sd σ) (o : Option V) (i : Nat) : Rs K H (sd.set i none) (σ.set i o) := by
  refine ⟨by rw [List.length_set, List.length_set, r.1], fun j e h => ?_⟩
  by_cases c : i = j
  · subst c
    by_cases l : i < sd.length
    · rw [List.getElem?_set_self l] at h
      cases h
    · rw [List.getElem?_eq_none (by rw [List.length_set]; omega)] at h
      cases h
  · rw [List.getElem?_set_ne c] at h
    obtain ⟨w, hw, qw⟩ := r.2 j e h
    exact ⟨w, by rw [List.getElem?_set_ne c]; exact hw, qw⟩
theorem Rs.setNL (r : Rs K H sd σ) (i : Nat) : Rs K H (sd.set i none) σ := by
  refine ⟨by rw [List.length_set, r.1], fun j e h => ?_⟩
  by_cases c : i = j
  · subst c
    by_cases l : i < sd.length
    · rw [List.getElem?_set_self l] at h
      cases h
    · rw [List.getElem?_eq_none (by rw [List.length_set]; omega)] at h
      cases h
  · rw [List.getElem?_set_ne c] at h
    exact r.2 j e h
end

/-- what holds of the end: values -/
def Ct (K : PySem.W.Frag) (M : Mo) (H : Hp) (Qd : QD) (Q : VK) : Prop := ∀ d M' v H', Stp K M H M' H' → RD K H' d v → Qd d M' → Q v H'
def CtB (K : PySem.W.Frag) (M : Mo) (H : Hp) (Qd : Bool → Mo → Prop) (Q : Bool → Hp → Prop) : Prop := ∀ b M' H', Stp K M H M' H' → Qd b M' → Q b H'
def CtA (K : PySem.W.Frag) (M : Mo) (H : Hp) (Qd : List Dv → Mo → Prop) (Q : List V → Hp → Prop) : Prop := ∀ ds M' vs H', Stp K M H M' H' → RDs K H' ds vs → Qd ds M' → Q vs H'
structure CtS (K : PySem.W.Frag) (M : Mo) (H : Hp) (Dd : EndsD) (Dn : Ends) : Prop where
  nx : ∀ sd M' σ H', Stp K M H M' H' → Rs K H' sd σ → Dd.nx sd M' → Dn.nx σ H'
  rt : Ct K M H Dd.rt Dn.rt
  bk : ∀ sd M' σ H', Stp K M H M' H' → Rs K H' sd σ → Dd.bk sd M' → Dn.bk σ H'
  ct : ∀ sd M' σ H', Stp K M H M' H' → Rs K H' sd σ → Dd.ct sd M' → Dn.ct σ H'
section
variable {K : PySem.W.Frag} {M M1 : Mo} {H H1 : Hp}
theorem Ct.on {Qd : QD} {Q : VK} (c : Ct K M H Qd Q) (s : Stp K M H M1 H1) : Ct K M1 H1 Qd Q := fun d M' v H' s' r q => c d M' v H' (s.trans s') r q
theorem CtB.on {Qd : Bool → Mo → Prop} {Q : Bool → Hp → Prop} (c : CtB K M H Qd Q) (s : Stp K M H M1 H1) : CtB K M1 H1 Qd Q := fun d M' H' s' q => c d M' H' (s.trans s') q
theorem CtA.on {Qd : List Dv → Mo → Prop} {Q : List V → Hp → Prop} (c : CtA K M H Qd Q) (s : Stp K M H M1 H1) : CtA K M1 H1 Qd Q := fun d M' v H' s' r q => c d M' v H' (s.trans s') r q
theorem CtS.on {Dd : EndsD} {Dn : Ends} (c : CtS K M H Dd Dn) (s : Stp K M H M1 H1) : CtS K M1 H1 Dd Dn :=
  ⟨fun sd M' σ H' s' r q => c.nx sd M' σ H' (s.trans s') r q, c.rt.on s, fun sd M' σ H' s' r q => c.bk sd M' σ H' (s.trans s') r q, fun sd M' σ H' s' r q => c.ct sd M' σ H' (s.trans s') r q⟩
end

/-- where a reading begins: M0, H0 the entry of the def -/
structure At (K : PySem.W.Frag) (M0 : Mo) (H0 : Hp) (sd : StD) (M : Mo) (σ : St) (H : Hp) : Prop where
  st : Stp K M0 H0 M H
  rs : Rs K H sd σ
theorem At.on {K : PySem.W.Frag} {M0 M M1 : Mo} {H0 H H1 : Hp} {sd : StD} {σ : St} (a : At K M0 H0 sd M σ H) (s : Stp K M H M1 H1) : At K M0 H0 sd M1 σ H1 := ⟨a.st.trans s, a.rs.keep s.keep⟩
theorem At.here {K : PySem.W.Frag} {M0 M : Mo} {H0 H : Hp} {sd : StD} {σ : St} (a : At K M0 H0 sd M σ H) : Stp K M H M H := Stp.refl a.st.sr
def LE (K : PySem.W.Frag) (M0 : Mo) (H0 : Hp) (t : TED) : TE := fun σ H Q => ∃ sd M Qd, At K M0 H0 sd M σ H ∧ t sd M Qd ∧ Ct K M H Qd Q
def LT (K : PySem.W.Frag) (M0 : Mo) (H0 : Hp) (t : TTD) : TT := fun σ H Q => ∃ sd M Qd, At K M0 H0 sd M σ H ∧ t sd M Qd ∧ CtB K M H Qd Q
def LA (K : PySem.W.Frag) (M0 : Mo) (H0 : Hp) (t : TAD) : TA := fun σ H Q => ∃ sd M Qd, At K M0 H0 sd M σ H ∧ t sd M Qd ∧ CtA K M H Qd Q
def LS (K : PySem.W.Frag) (M0 : Mo) (H0 : Hp) (t : TSD) : TS := fun Dn σ H => ∃ sd M Dd, At K M0 H0 sd M σ H ∧ t Dd sd M ∧ CtS K M H Dd Dn
theorem PE.imp {X : Cx} {e : Expr} {t t' : TE} (h : PE X e t) (w : ∀ σ H Q, t' σ H Q → t σ H Q) : PE X e t' := ⟨fun pins s σ H Q I q => h.run pins s σ H Q I (w _ _ _ q)⟩
theorem PT.imp {X : Cx} {e : Expr} {t t' : TT} (h : PT X e t) (w : ∀ σ H Q, t' σ H Q → t σ H Q) : PT X e t' := ⟨fun pins s σ H Q I q => h.run pins s σ H Q I (w _ _ _ q)⟩
theorem PW.imp {X : Cx} {e : Expr} {t t' : TT} (h : PW X e t) (w : ∀ σ H Q, t' σ H Q → t σ H Q) : PW X e t' := ⟨fun wh pins s σ H Q I q => h.run wh pins s σ H Q I (w _ _ _ q)⟩
theorem PA.imp {X : Cx} {e : List Expr} {t t' : TA} (h : PA X e t) (w : ∀ σ H Q, t' σ H Q → t σ H Q) : PA X e t' := ⟨fun pos pins s σ H Q I q => h.run pos pins s σ H Q I (w _ _ _ q)⟩
theorem PS.imp {X : Cx} {e : Stmt} {t t' : TS} (h : PS X e t) (w : ∀ D σ H, t' D σ H → t D σ H) : PS X e t' := ⟨fun pins s σ H D I q => h.run pins s σ H D I (w _ _ _ q)⟩
theorem PSs.imp {X : Cx} {e : List Stmt} {t t' : TS} (h : PSs X e t) (w : ∀ D σ H, t' D σ H → t D σ H) : PSs X e t' := ⟨fun pins s σ H D I q => h.run pins s σ H D I (w _ _ _ q)⟩

/-- the judgements over data: M, H the def's entry -/
abbrev PEd (X : Cx) (M : Mo) (H : Hp) (e : Expr) (t : TED) : Prop := PE X e (LE X.K M H t)
abbrev PTd (X : Cx) (M : Mo) (H : Hp) (e : Expr) (t : TTD) : Prop := PT X e (LT X.K M H t)
abbrev PWd (X : Cx) (M : Mo) (H : Hp) (e : Expr) (t : TTD) : Prop := PW X e (LT X.K M H t)
abbrev PAd (X : Cx) (M : Mo) (H : Hp) (e : List Expr) (t : TAD) : Prop := PA X e (LA X.K M H t)
abbrev PSd (X : Cx) (M : Mo) (H : Hp) (e : Stmt) (t : TSD) : Prop := PS X e (LS X.K M H t)
abbrev PSsd (X : Cx) (M : Mo) (H : Hp) (e : List Stmt) (t : TSD) : Prop := PSs X e (LS X.K M H t)

section
variable {X : Cx} {M0 : Mo} {H0 : Hp}
/-! ### names, constants -/
def dVar (i : Nat) : TED := fun sd M Q => match sd[i]? with
  | some (some d) => Q d M
  | _ => False
def dC (d : Dv) : TED := fun _ M Q => Q d M
theorem dv (i : Nat) {x : Str} {pos : Pos} (hN : X.N[i]? = some x := by rfl) (hv : Vis X.env.scope x := by first | exact Or.inl rfl | exact Or.inr (Or.inl rfl) | exact Or.inr (Or.inr rfl)) (hd : (x == ("__debug__" : Str)) = false := by decide)
    (hcd : (x == ("__classdict__" : Str)) = false := by decide) : PEd X M0 H0 (.Name x pos) (dVar i) :=
  PE.imp (pe_var hN hv hd hcd) fun σ H Q ⟨sd, M, Qd, a, h, c⟩ => by
    unfold dVar at h
    split at h
    · rename_i d e
      obtain ⟨v, hv, rv⟩ := a.rs.2 i d e
      exact ⟨v, hv, c d M v H a.here rv h⟩
    · exact h.elim
theorem PE.const {e : Expr} {v : V} {d : Dv} (h : PE X e (tC v)) (r : ∀ H, RD X.K H d v) : PEd X M0 H0 e (dC d) :=
  PE.imp h fun σ H Q ⟨sd, M, Qd, a, h, c⟩ => c d M v H a.here (r H) h
theorem de_int {i j pos} : PEd X M0 H0 (.Constant (.int i) j pos) (dC (.int i)) := PE.const pe_int fun _ => by unfold RD; rfl
theorem de_bl {b j pos} : PEd X M0 H0 (.Constant (.bool b) j pos) (dC (.bl b)) := PE.const pe_bl fun _ => by unfold RD; rfl
theorem de_non {j pos} : PEd X M0 H0 (.Constant .none j pos) (dC .non) := PE.const pe_non fun _ => by unfold RD; rfl
theorem de_str {x j pos} : PEd X M0 H0 (.Constant (.str x) j pos) (dC (.str x)) := PE.const pe_str fun _ => by unfold RD; rfl
/-- a module's constant -/
theorem de_globI {x : Str} {i : Int} {t : Tok} {pos : Pos} (hg : Gl X x) (hm : X.mg x = some (.int i t)) (hd : (x == ("__debug__" : Str)) = false := by decide) : PEd X M0 H0 (.Name x pos) (dC (.int i)) := PE.const (pe_glob (v := .int i) hg hm ⟨t, rfl⟩ hd) fun _ => by unfold RD; rfl
theorem de_globS {x z : Str} {t : Tok} {pos : Pos} (hg : Gl X x) (hm : X.mg x = some (.str z t)) (hd : (x == ("__debug__" : Str)) = false := by decide) : PEd X M0 H0 (.Name x pos) (dC (.str z)) := PE.const (pe_glob (v := .str z) hg hm ⟨t, rfl⟩ hd) fun _ => by unfold RD; rfl
theorem de_globR {x : Str} {C : Addr} {pos : Pos} (hg : Gl X x) (hm : X.mg x = some (.ref C)) (hd : (x == ("__debug__" : Str)) = false := by decide) : PEd X M0 H0 (.Name x pos) (dC (.ref C)) := PE.const (pe_glob (v := .ref C) hg hm rfl hd) fun _ => by unfold RD; rfl
theorem de_bltn {x : Str} {n : String} {pos : Pos} (hg : Gl X x) (hm : X.mg x = none) (hv : bootBuiltins x = some (.type n)) (hn : x ≠ "__name__" := by decide) (hd : (x == ("__debug__" : Str)) = false := by decide) : PEd X M0 H0 (.Name x pos) (dC (.ty n)) := PE.const (pe_bltn (v := .ty n) hg hm hv rfl hn hd) fun _ => by unfold RD; rfl

/-! ### operators by values -/
abbrev R2d := Dv → Dv → Mo → QD → Prop
def L2op (K : PySem.W.Frag) (rd : R2d) : R2 := fun x y H Q => ∃ d e M Qd, RD K H d x ∧ RD K H e y ∧ SR K M H ∧ rd d e M Qd ∧ Ct K M H Qd Q
def dOp (rd : R2d) (ta tb : TED) : TED := fun sd M Q => ta sd M fun d M1 => tb sd M1 fun e M2 => rd d e M2 Q
theorem two_imp {ta tb : TED} {rd : R2d} {r : R2} (hr : ∀ x y H Q, L2op X.K rd x y H Q → r x y H Q) : ∀ σ H Q, LE X.K M0 H0 (dOp rd ta tb) σ H Q → tOp r (LE X.K M0 H0 ta) (LE X.K M0 H0 tb) σ H Q := fun σ H Q ⟨sd, M, Qd, a, h, c⟩ =>
  ⟨sd, M, _, a, h, fun d M1 v H1 s1 r1 h1 => ⟨sd, M1, _, a.on s1, h1, fun e M2 u H2 s2 r2 h2 => hr _ _ _ _ ⟨d, e, M2, Qd, r1.keep s2.keep, r2, s2.sr, h2, c.on (s1.trans s2)⟩⟩⟩
section
variable {a b : Expr} {ta tb : TED} {pos : Pos}
theorem de_op {op : Operator} {rd : R2d} (ho : OpR X (binaryOp op) (L2op X.K rd)) (ha : PEd X M0 H0 a ta) (hb : PEd X M0 H0 b tb) : PEd X M0 H0 (.BinOp a op b pos) (dOp rd ta tb) :=
  PE.imp (pe_op ho ha hb) (two_imp fun _ _ _ _ h => h)
theorem de_cmp {op : CmpOp} {rd : R2d} (ho : OpR X (compareOp op) (L2op X.K rd)) (ha : PEd X M0 H0 a ta) (hb : PEd X M0 H0 b tb) (hm : behindInMarks op b = false) : PEd X M0 H0 (.Compare a [op] [b] pos) (dOp rd ta tb) :=
  PE.imp (pe_cmpR ho ha hb hm) (two_imp fun _ _ _ _ h => h)
end
end
end DL

namespace DL
open PySem PySem.Spec PyProof.Rows L2
section
variable {X : Cx} {M0 : Mo} {H0 : Hp}
/-! ### sequences by values -/
def seqL (M : Mo) : Dv → Option (List Dv)
  | .lst ds => some ds
  | .ref a => match M a with
    | some (.lst ds) => some ds
    | _ => none
  | _ => none
def seqT : Dv → Option (List Dv)
  | .tup ds => some ds
  | _ => none
theorem seqL_ok {K : PySem.W.Frag} {M : Mo} {H : Hp} {d : Dv} {v : V} {ds : List Dv} (s : SR K M H) (r : RD K H d v) (h : seqL M d = some ds) : ∃ a vs, v = .ref a ∧ SqL K H a vs ∧ RDs K H ds vs := by
  unfold seqL at h
  split at h
  · cases h
    unfold RD at r
    obtain ⟨a, vs, e, f, q⟩ := r
    exact ⟨a, vs, e, f.seq, q⟩
  · rename_i a
    split at h
    · rename_i ds' e
      cases h
      unfold RD at r
      have o := s a _ e
      simp only [Own] at o
      obtain ⟨vs, hv, q⟩ := o
      exact ⟨a, vs, r, .inl (.inl hv), q⟩
    · cases h
  · cases h
theorem seqT_ok {K : PySem.W.Frag} {H : Hp} {d : Dv} {v : V} {ds : List Dv} (r : RD K H d v) (h : seqT d = some ds) : ∃ a vs, v = .ref a ∧ SqT K H a vs ∧ RDs K H ds vs := by
  unfold seqT at h
  split at h
  · cases h
    unfold RD at r
    exact r
  · cases h

/-! ### operators on ints and texts -/
theorem add_seqs {prog : Program} {w : World} {A : Around} {E : Value → Shared → Prop} {s : Shared} {l b : Addr} {vs ws : List Value} {Q : Value → Shared → Prop} (hl : s.heap.IsList l vs.toArray) (hb : s.heap.IsList b ws.toArray)
    (h : Q (.ref s.heap.objs.size) { s with heap := s.heap.push { cls := .type "list", data := .seq (vs ++ ws).toArray } }) (hsz : vs.length + ws.length ≤ sizeLine) : wpAny (model prog w) A (binaryOp .Add (.ref l) (.ref b)) Q E s := by
  obtain ⟨⟨cls, dd, data, sl⟩, ho, hc, n, hd⟩ := id hl
  obtain ⟨⟨cls2, dd2, data2, sl2⟩, ho2, hc2, n2, hd2⟩ := id hb
  simp only at hc hd hc2 hd2
  subst hc hd hc2 hd2
  have e : vs.toArray ++ ws.toArray = (vs ++ ws).toArray := by simp
  refine concat_meets ⟨_, ho, rfl⟩ ⟨_, ho2, rfl⟩ noFill_list_add seq_list_add PySem.F.slot_list_add PySem.F.entry_list_add (PySem.F.args_list_add_2 _ _) (list_addW l b vs.toArray ws.toArray n n2 dd dd2 sl sl2 (by simpa using hsz)) ⟨ho, ho2, ?_⟩
  rw [e]
  exact h
theorem op_catL : OpR X (binaryOp .Add) (fun x y H Q => ∃ l b xs zs, x = .ref l ∧ y = .ref b ∧ SqL X.K H l xs ∧ SqL X.K H b zs ∧ xs.length + zs.length ≤ sizeLine ∧ ∀ p, H p = none → Q (.ref p) (upd H p (.lst (xs ++ zs)))) := by
  intro pins s σ H x y v u Q I rx ry h
  obtain ⟨l, b, xs, zs, rfl, rfl, hH, hB, hz, q⟩ := h
  cases rx
  cases ry
  obtain ⟨its, r, p, _⟩ := I.list hH
  obtain ⟨its2, r2, p2, _⟩ := I.list hB
  have e1 := r.length
  have e2 := r2.length
  refine add_seqs p.isList p2.isList ?_ (by omega)
  exact ⟨.ref _, _, I.lnew (t' := s.toks) (r.append r2) (by rw [List.length_append]; omega), rfl, q _ I.fresh⟩
def dAdd : R2d := fun d e M Q => match d, e with
  | .int i, .int j => Q (.int (i + j)) M
  | .str x, .str y => x.length + y.length ≤ 16777216 ∧ Q (.str (x ++ y)) M
  | d, e => match seqL M d, seqL M e with
    | some xs, some ys => xs.length + ys.length ≤ 16777216 ∧ ∀ p, M p = none → Q (.ref p) (mup M p (.lst (xs ++ ys)))
    | _, _ => False
/-- from ints -/
theorem RD.int_of {K : PySem.W.Frag} {H : Hp} {i : Int} {v : V} (r : RD K H (.int i) v) : v = .int i := by unfold RD at r; exact r
theorem RD.str_of {K : PySem.W.Frag} {H : Hp} {i : Str} {v : V} (r : RD K H (.str i) v) : v = .str i := by unfold RD at r; exact r
theorem RD.bl_of {K : PySem.W.Frag} {H : Hp} {i : Bool} {v : V} (r : RD K H (.bl i) v) : v = .bl i := by unfold RD at r; exact r
theorem RD.non_of {K : PySem.W.Frag} {H : Hp} {v : V} (r : RD K H .non v) : v = .non := by unfold RD at r; exact r
theorem RD.ref_of {K : PySem.W.Frag} {H : Hp} {a : Addr} {v : V} (r : RD K H (.ref a) v) : v = .ref a := by unfold RD at r; exact r
theorem RD.int {K : PySem.W.Frag} {H : Hp} {i : Int} : RD K H (.int i) (.int i) := by unfold RD; rfl
theorem RD.str {K : PySem.W.Frag} {H : Hp} {i : Str} : RD K H (.str i) (.str i) := by unfold RD; rfl
theorem RD.bl {K : PySem.W.Frag} {H : Hp} {i : Bool} : RD K H (.bl i) (.bl i) := by unfold RD; rfl
theorem RD.non {K : PySem.W.Frag} {H : Hp} : RD K H .non .non := by unfold RD; rfl
theorem RD.ref {K : PySem.W.Frag} {H : Hp} {a : Addr} : RD K H (.ref a) (.ref a) := by unfold RD; rfl
theorem line_eq : (16777216 : Nat) = sizeLine := sizeLine_eq.symm
/-- by ints: a rule -/
theorem opd_I {f : Value → Value → Sem Value} {r : R2} {rd : R2d} (h : OpR X f r) (w : ∀ d e M Qd x y H Q, RD X.K H d x → RD X.K H e y → SR X.K M H → rd d e M Qd → Ct X.K M H Qd Q → r x y H Q) : OpR X f (L2op X.K rd) :=
  fun pins s σ H x y v u Q I rx ry ⟨d, e, M, Qd, r1, r2, sr, q, c⟩ => h pins s σ H x y v u Q I rx ry (w d e M Qd x y H Q r1 r2 sr q c)
theorem od_add : OpR X (binaryOp .Add) (L2op X.K dAdd) := by
  refine opd_I (r := fun x y H Q => rI0 (fun i j => .int (i + j)) x y H Q ∨ (∃ i j, x = .str i ∧ y = .str j ∧ i.length + j.length ≤ sizeLine ∧ Q (.str (i ++ j)) H) ∨ (∃ l b xs zs, x = .ref l ∧ y = .ref b ∧ SqL X.K H l xs ∧ SqL X.K H b zs ∧ xs.length + zs.length ≤ sizeLine ∧ ∀ p, H p = none → Q (.ref p) (upd H p (.lst (xs ++ zs)))))
    (op_add.or (op_add_str.or op_catL)) fun d e M Qd x y H Q r1 r2 sr q c => ?_
  unfold dAdd at q
  split at q
  · exact .inl ⟨_, _, r1.int_of, r2.int_of, c _ M _ H (.refl sr) .int q⟩
  · exact .inr (.inl ⟨_, _, r1.str_of, r2.str_of, by rw [← line_eq]; exact q.1, c _ M _ H (.refl sr) .str q.2⟩)
  · split at q
    · rename_i xs ys h1 h2
      obtain ⟨a, vs, e1, s1, d1⟩ := seqL_ok sr r1 h1
      obtain ⟨b, ws, e2, s2, d2⟩ := seqL_ok sr r2 h2
      obtain ⟨hz, q⟩ := q
      refine .inr (.inr ⟨a, b, vs, ws, e1, e2, s1, s2, by rw [← d1.length, ← d2.length, ← line_eq]; exact hz, fun p hp => ?_⟩)
      have k : Keep H (upd H p (.lst (vs ++ ws))) := Keep.new hp
      exact c _ _ _ _ (Stp.new sr hp (by simp only [Own]; exact ⟨_, upd_same, (d1.keep k).app (d2.keep k)⟩)) .ref (q p (sr.free hp))
    · exact q.elim
/-- two ints, a condition, a value -/
def dI (C : Int → Int → Prop) (g : Int → Int → Dv) : R2d := fun d e M Q => match d, e with
  | .int i, .int j => C i j ∧ Q (g i j) M
  | _, _ => False
def dI0 (g : Int → Int → Dv) : R2d := fun d e M Q => match d, e with
  | .int i, .int j => Q (g i j) M
  | _, _ => False
theorem od_I {f : Value → Value → Sem Value} {C : Int → Int → Prop} {g : Int → Int → Dv} {g' : Int → Int → V} (h : OpR X f (rI C g')) (hg : ∀ i j H, RD X.K H (g i j) (g' i j)) : OpR X f (L2op X.K (dI C g)) :=
  opd_I h fun d e M Qd x y H Q r1 r2 sr q c => by
    unfold dI at q
    split at q
    · exact ⟨_, _, r1.int_of, r2.int_of, q.1, c _ M _ H (.refl sr) (hg _ _ _) q.2⟩
    · exact q.elim
theorem od_I0 {f : Value → Value → Sem Value} {g : Int → Int → Dv} {g' : Int → Int → V} (h : OpR X f (rI0 g')) (hg : ∀ i j H, RD X.K H (g i j) (g' i j)) : OpR X f (L2op X.K (dI0 g)) :=
  opd_I h fun d e M Qd x y H Q r1 r2 sr q c => by
    unfold dI0 at q
    split at q
    · exact ⟨_, _, r1.int_of, r2.int_of, c _ M _ H (.refl sr) (hg _ _ _) q⟩
    · exact q.elim
abbrev dSub : R2d := dI0 fun i j => .int (i - j)
abbrev dFdiv : R2d := dI CDivW fun i j => .int (i / j)
abbrev dMod : R2d := dI (fun _ j => 0 < j) fun i j => .int (i % j)
abbrev dPow : R2d := dI CPow fun i j => .int (i ^ j.toNat)
abbrev dShl : R2d := dI CPow fun i j => .int (i * 2 ^ j.toNat)
abbrev dShr : R2d := dI (fun _ j => 0 ≤ j) fun i j => .int (i / 2 ^ j.toNat)
abbrev dAnd : R2d := dI0 fun i j => .int (Builtin.bitAnd i j)
abbrev dOr : R2d := dI0 fun i j => .int (Builtin.bitOr i j)
theorem od_sub : OpR X (binaryOp .Sub) (L2op X.K dSub) := od_I0 op_sub fun _ _ _ => .int
theorem od_fdiv : OpR X (binaryOp .FloorDiv) (L2op X.K dFdiv) := od_I op_fdivW fun _ _ _ => .int
theorem od_mod : OpR X (binaryOp .Mod) (L2op X.K dMod) := od_I op_mod fun _ _ _ => .int
theorem od_pow : OpR X (binaryOp .Pow) (L2op X.K dPow) := od_I op_pow fun _ _ _ => .int
theorem od_shl : OpR X (binaryOp .LShift) (L2op X.K dShl) := od_I op_shl fun _ _ _ => .int
theorem od_shr : OpR X (binaryOp .RShift) (L2op X.K dShr) := od_I op_shr fun _ _ _ => .int
theorem od_and : OpR X (binaryOp .BitAnd) (L2op X.K dAnd) := od_I0 op_and fun _ _ _ => .int
theorem od_or : OpR X (binaryOp .BitOr) (L2op X.K dOr) := od_I0 op_or fun _ _ _ => .int
theorem od_lt : OpR X (compareOp .Lt) (L2op X.K (dI0 fun i j => .bl (decide (i < j)))) := od_I0 op_lt fun _ _ _ => .bl
theorem od_le : OpR X (compareOp .LtE) (L2op X.K (dI0 fun i j => .bl (decide (i ≤ j)))) := od_I0 op_le fun _ _ _ => .bl
theorem od_gt : OpR X (compareOp .Gt) (L2op X.K (dI0 fun i j => .bl (decide (j < i)))) := od_I0 op_gt fun _ _ _ => .bl
theorem od_ge : OpR X (compareOp .GtE) (L2op X.K (dI0 fun i j => .bl (decide (j ≤ i)))) := od_I0 op_ge fun _ _ _ => .bl

/-! ### == over data -/
mutual
/-- data as the library's data (lists that are owned: of the first rank) -/
def pyD : Dv → Option PyData
  | .non => some .none
  | .bl b => some (.bool b)
  | .int i => some (.int i)
  | .str x => some (.str x)
  | .tup ds => (pyDs ds).map .tuple
  | .lst ds => (pyDs ds).map .list
  | _ => none
def pyDs : List Dv → Option (List PyData)
  | [] => some []
  | d :: ds => match pyD d, pyDs ds with
    | some p, some ps => some (p :: ps)
    | _, _ => none
end
def pyM (M : Mo) : Dv → Option PyData
  | .ref a => match M a with
    | some (.lst ds) => (pyDs ds).map .list
    | _ => none
  | d => pyD d
mutual
theorem pyD_ok {K : PySem.W.Frag} {H : Hp} : ∀ {d : Dv} {v : V} {p : PyData}, RD K H d v → pyD d = some p → Dp K H v p
  | .non, v, p, r, h => by unfold pyD at h; cases h; rw [r.non_of]; exact .non
  | .bl b, v, p, r, h => by unfold pyD at h; cases h; rw [r.bl_of]; exact .bl b
  | .int i, v, p, r, h => by unfold pyD at h; cases h; rw [r.int_of]; exact .int i
  | .str i, v, p, r, h => by unfold pyD at h; cases h; rw [r.str_of]; exact .str i
  | .tup ds, v, p, r, h => by
    unfold pyD at h
    unfold RD at r
    obtain ⟨a, vs, rfl, s, q⟩ := r
    cases e : pyDs ds with
    | none => rw [e] at h; cases h
    | some ps =>
      rw [e] at h
      cases h
      exact .tup s (pyDs_ok q e)
  | .lst ds, v, p, r, h => by
    unfold pyD at h
    unfold RD at r
    obtain ⟨a, vs, rfl, s, q⟩ := r
    cases e : pyDs ds with
    | none => rw [e] at h; cases h
    | some ps =>
      rw [e] at h
      cases h
      exact .lst s.seq (pyDs_ok q e)
  | .ty _, v, p, r, h => by unfold pyD at h; cases h
  | .ref _, v, p, r, h => by unfold pyD at h; cases h
  | .obj _ _, v, p, r, h => by unfold pyD at h; cases h
theorem pyDs_ok {K : PySem.W.Frag} {H : Hp} : ∀ {ds : List Dv} {vs : List V} {ps : List PyData}, RDs K H ds vs → pyDs ds = some ps → DpAll K H vs ps
  | [], vs, ps, r, h => by unfold pyDs at h; cases h; unfold RDs at r; subst r; exact .nil
  | d :: ds, vs, ps, r, h => by
    unfold RDs at r
    obtain ⟨v, w, rfl, r1, r2⟩ := r
    unfold pyDs at h
    split at h
    · rename_i p qs e1 e2
      cases h
      exact .cons (pyD_ok r1 e1) (pyDs_ok r2 e2)
    · cases h
end
theorem pyM_ok {K : PySem.W.Frag} {M : Mo} {H : Hp} {d : Dv} {v : V} {p : PyData} (s : SR K M H) (r : RD K H d v) (h : pyM M d = some p) : Dp K H v p := by
  unfold pyM at h
  split at h
  · rename_i a
    split at h
    · rename_i ds e
      have o := s a _ e
      simp only [Own] at o
      obtain ⟨vs, hv, q⟩ := o
      rw [r.ref_of]
      cases e2 : pyDs ds with
      | none => rw [e2] at h; cases h
      | some ps =>
        rw [e2] at h
        cases h
        exact .lst (.inl (.inl hv)) (pyDs_ok q e2)
    · cases h
  · exact pyD_ok r h
/-- d == e -/
def dEq : R2d := fun d e M Q => match d, e with
  | .int i, .int j => Q (.bl (decide (i = j))) M
  | .str i, .str j => Q (.bl (decide (i = j))) M
  | .bl i, .bl j => Q (.bl (decide (i = j))) M
  | d, e => match pyM M d, pyM M e with
    | some p, some q => SeqAt.shaped p = true ∧ SeqAt.shaped q = true ∧ Q (.bl (PyData.eqv p q)) M
    | _, _ => False
def dNe : R2d := fun d e M Q => match d, e with
  | .int i, .int j => Q (.bl (!decide (i = j))) M
  | .str i, .str j => Q (.bl (!decide (i = j))) M
  | .bl i, .bl j => Q (.bl (!decide (i = j))) M
  | d, e => match pyM M d, pyM M e with
    | some p, some q => SeqAt.shaped p = true ∧ SeqAt.shaped q = true ∧ Q (.bl (!PyData.eqv p q)) M
    | _, _ => False
theorem od_eq (hu : X.A.units + 64 < cLine) : OpR X (compareOp .Eq) (L2op X.K dEq) := by
  refine opd_I (op_eq.or (op_eqD hu)) fun d e M Qd x y H Q r1 r2 sr q c => ?_
  unfold dEq at q
  split at q
  · exact .inl ⟨by rw [r1.int_of, r2.int_of]; rfl, by rw [r1.int_of, r2.int_of]; rw [dec_int, ← Bool.beq_eq_decide_eq] at *; exact c _ M _ H (.refl sr) .bl q⟩
  · exact .inl ⟨by rw [r1.str_of, r2.str_of]; rfl, by rw [r1.str_of, r2.str_of]; rw [dec_str, ← Bool.beq_eq_decide_eq] at *; exact c _ M _ H (.refl sr) .bl q⟩
  · exact .inl ⟨by rw [r1.bl_of, r2.bl_of]; rfl, by rw [r1.bl_of, r2.bl_of]; rw [dec_bl, ← Bool.beq_eq_decide_eq] at *; exact c _ M _ H (.refl sr) .bl q⟩
  · split at q
    · rename_i p p' e1 e2
      exact .inr ⟨_, _, pyM_ok sr r1 e1, pyM_ok sr r2 e2, q.1, q.2.1, c _ M _ H (.refl sr) .bl q.2.2⟩
    · exact q.elim
theorem od_ne (hu : X.A.units + 64 < cLine) : OpR X (compareOp .NotEq) (L2op X.K dNe) := by
  refine opd_I (op_ne.or (op_neD hu)) fun d e M Qd x y H Q r1 r2 sr q c => ?_
  unfold dNe at q
  split at q
  · exact .inl ⟨by rw [r1.int_of, r2.int_of]; rfl, by rw [r1.int_of, r2.int_of]; rw [dec_int, ← Bool.beq_eq_decide_eq] at *; exact c _ M _ H (.refl sr) .bl q⟩
  · exact .inl ⟨by rw [r1.str_of, r2.str_of]; rfl, by rw [r1.str_of, r2.str_of]; rw [dec_str, ← Bool.beq_eq_decide_eq] at *; exact c _ M _ H (.refl sr) .bl q⟩
  · exact .inl ⟨by rw [r1.bl_of, r2.bl_of]; rfl, by rw [r1.bl_of, r2.bl_of]; rw [dec_bl, ← Bool.beq_eq_decide_eq] at *; exact c _ M _ H (.refl sr) .bl q⟩
  · split at q
    · rename_i p p' e1 e2
      exact .inr ⟨_, _, pyM_ok sr r1 e1, pyM_ok sr r2 e2, q.1, q.2.1, c _ M _ H (.refl sr) .bl q.2.2⟩
    · exact q.elim
end
end DL

namespace DL
open PySem PySem.Spec PyProof.Rows L2
section
variable {X : Cx} {M0 : Mo} {H0 : Hp}
/-! ### tests -/
def dTest (t : TED) : TTD := fun sd M Q => t sd M fun d M1 => match d with
  | .bl b => Q b M1
  | _ => False
theorem test_imp {t : TED} {t' : TE} (h : ∀ σ H Q, LE X.K M0 H0 t σ H Q → t' σ H Q) : ∀ σ H Q, LT X.K M0 H0 (dTest t) σ H Q → tTest t' σ H Q := fun σ H Q ⟨sd, M, Qd, a, q, c⟩ =>
  h _ _ _ ⟨sd, M, _, a, q, fun d M' v H' s r q => by
    split at q
    · exact ⟨_, r.bl_of, c _ _ _ s q⟩
    · exact q.elim⟩
/-- a value's truth -/
def dTru (M : Mo) (d : Dv) (Q : Bool → Prop) : Prop := match d with
  | .non => Q false
  | .bl b => Q b
  | .int i => Q (i != 0)
  | .str y => y.length ≤ 16777216 ∧ Q ((y.length : Int) != 0)
  | d => match seqL M d with
    | some ds => Q (!ds.isEmpty)
    | none => match seqT d with
      | some ds => Q (!ds.isEmpty)
      | none => match d with
        | .ref a => match M a with
          | some (.dK kvs) => Q (!kvs.isEmpty)
          | _ => False
        | _ => False
def dTruth (t : TED) : TTD := fun sd M Q => t sd M fun d M1 => dTru M1 d fun b => Q b M1
theorem RDs.empty {K : PySem.W.Frag} {H : Hp} {ds : List Dv} {vs : List V} (r : RDs K H ds vs) : ds.isEmpty = vs.isEmpty := by
  cases ds with
  | nil => unfold RDs at r; subst r; rfl
  | cons d ds => unfold RDs at r; obtain ⟨v, w, rfl, _⟩ := r; rfl
theorem RDk.empty {K : PySem.W.Frag} {H : Hp} {α : Type} {ds : List (α × Dv)} {vs : List (α × V)} (r : RDk K H ds vs) : ds.isEmpty = vs.isEmpty := by
  cases ds with
  | nil => unfold RDk at r; subst r; rfl
  | cons d ds => unfold RDk at r; obtain ⟨v, w, rfl, _⟩ := r; rfl
theorem tru_of {K : PySem.W.Frag} {M : Mo} {H : Hp} {d : Dv} {v : V} {Q : Bool → Prop} (s : SR K M H) (r : RD K H d v) (h : dTru M d Q) : ∃ k, TruV K v H k ∧ Q k := by
  unfold dTru at h
  split at h
  · rw [r.non_of]; exact ⟨_, rfl, h⟩
  · rw [r.bl_of]; exact ⟨_, rfl, h⟩
  · rw [r.int_of]; exact ⟨_, rfl, h⟩
  · rw [r.str_of]; exact ⟨_, ⟨by rw [← line_eq]; exact h.1, rfl⟩, h.2⟩
  · split at h
    · rename_i ds e
      obtain ⟨a, vs, rfl, q, rs⟩ := seqL_ok s r e
      exact ⟨_, .inl ⟨vs, q, rfl⟩, by rw [← rs.empty]; exact h⟩
    · split at h
      · rename_i ds e
        obtain ⟨a, vs, rfl, q, rs⟩ := seqT_ok r e
        exact ⟨_, .inr (.inl ⟨vs, q, rfl⟩), by rw [← rs.empty]; exact h⟩
      · split at h
        · rename_i a _ _ _ _ _ _
          split at h
          · rename_i kvs e
            have o := s a _ e
            simp only [Own] at o
            obtain ⟨vks, hk, rk⟩ := o
            rw [r.ref_of]
            exact ⟨_, .inr (.inr ⟨vks, hk, rfl⟩), by rw [← rk.empty]; exact h⟩
          · exact h.elim
        · exact h.elim
section
variable {a b c e : Expr} {ta tb : TED} {t u : TTD} {pos : Pos} {rest : List Expr}
theorem dt_cmp {op : CmpOp} {rd : R2d} (ho : OpR X (compareOp op) (L2op X.K rd)) (ha : PEd X M0 H0 a ta) (hb : PEd X M0 H0 b tb) (hm : behindInMarks op b = false) : PTd X M0 H0 (.Compare a [op] [b] pos) (dTest (dOp rd ta tb)) :=
  PT.imp (pt_cmpR ho ha hb hm) (test_imp (two_imp fun _ _ _ _ h => h))
theorem dt_val (ha : PEd X M0 H0 a ta) (he : ∀ whole, isTrue a X.env whole = (do let v ← whole; standAt a.pos; holding [v] (truthy v)) := by intro _; rfl) : PTd X M0 H0 a (dTruth ta) :=
  PT.imp (pt_truth ha he) fun σ H Q ⟨sd, M, Qd, w, q, c⟩ => ⟨sd, M, _, w, q, fun d M' v H' s r q => by
    obtain ⟨k, hk, qk⟩ := tru_of s.sr r q
    exact ⟨k, hk, c _ _ _ s qk⟩⟩
def dAnd2 (t u : TTD) : TTD := fun sd M Q => t sd M fun c M1 => if c = true then u sd M1 Q else Q false M1
def dOr2 (t u : TTD) : TTD := fun sd M Q => t sd M fun c M1 => if c = true then Q true M1 else u sd M1 Q
def dNot (t : TTD) : TTD := fun sd M Q => t sd M fun c M1 => Q (!c) M1
theorem dw_and1 (ha : PTd X M0 H0 a t) : PWd X M0 H0 (.BoolOp .And [a] pos) t := pw_and1 ha
theorem dw_or1 (ha : PTd X M0 H0 a t) : PWd X M0 H0 (.BoolOp .Or [a] pos) t := pw_or1 ha
theorem dw_and (ha : PTd X M0 H0 a t) (hb : PWd X M0 H0 (.BoolOp .And (b :: rest) pos) u) : PWd X M0 H0 (.BoolOp .And (a :: b :: rest) pos) (dAnd2 t u) :=
  PW.imp (pw_and ha hb) fun σ H Q ⟨sd, M, Qd, w, q, c⟩ => ⟨sd, M, _, w, q, fun b M' H' s q => by
    cases b with
    | true => rw [if_pos rfl] at q ⊢; exact ⟨sd, M', Qd, w.on s, q, c.on s⟩
    | false => rw [if_neg Bool.false_ne_true] at q ⊢; exact c _ _ _ s q⟩
theorem dw_or (ha : PTd X M0 H0 a t) (hb : PWd X M0 H0 (.BoolOp .Or (b :: rest) pos) u) : PWd X M0 H0 (.BoolOp .Or (a :: b :: rest) pos) (dOr2 t u) :=
  PW.imp (pw_or ha hb) fun σ H Q ⟨sd, M, Qd, w, q, c⟩ => ⟨sd, M, _, w, q, fun b M' H' s q => by
    cases b with
    | false => rw [if_neg Bool.false_ne_true] at q ⊢; exact ⟨sd, M', Qd, w.on s, q, c.on s⟩
    | true => rw [if_pos rfl] at q ⊢; exact c _ _ _ s q⟩
theorem dt_w (h : PWd X M0 H0 e t) : PTd X M0 H0 e t := PW.pt h
theorem dt_not (ha : PTd X M0 H0 a t) : PTd X M0 H0 (.UnaryOp .Not a pos) (dNot t) :=
  PT.imp (pt_not ha) fun σ H Q ⟨sd, M, Qd, w, q, c⟩ => ⟨sd, M, _, w, q, fun b M' H' s q => c _ _ _ s q⟩
/-! ### and, or, not as values of tests -/
def dAndV (ta tb : TED) : TED := fun sd M Q => ta sd M fun d M1 => match d with
  | .bl c => if c = true then tb sd M1 Q else Q (.bl false) M1
  | _ => False
def dOrV (ta tb : TED) : TED := fun sd M Q => ta sd M fun d M1 => match d with
  | .bl c => if c = true then Q (.bl true) M1 else tb sd M1 Q
  | _ => False
def dNotV (ta : TED) : TED := fun sd M Q => ta sd M fun d M1 => match d with
  | .bl c => Q (.bl (!c)) M1
  | _ => False
theorem de_one {op} (h : PEd X M0 H0 a ta) : PEd X M0 H0 (.BoolOp op [a] pos) ta := pe_one h
theorem de_and (ha : PEd X M0 H0 a ta) (hb : PEd X M0 H0 (.BoolOp .And (b :: rest) pos) tb) : PEd X M0 H0 (.BoolOp .And (a :: b :: rest) pos) (dAndV ta tb) :=
  PE.imp (pe_and ha hb) fun σ H Q ⟨sd, M, Qd, w, q, c⟩ => ⟨sd, M, _, w, q, fun d M' v H' s r q => by
    split at q
    · rename_i b
      refine ⟨b, r.bl_of, ?_⟩
      cases b with
      | true => rw [if_pos rfl] at q ⊢; exact ⟨sd, M', Qd, w.on s, q, c.on s⟩
      | false => rw [if_neg Bool.false_ne_true] at q ⊢; exact c _ _ _ _ s .bl q
    · exact q.elim⟩
theorem de_or (ha : PEd X M0 H0 a ta) (hb : PEd X M0 H0 (.BoolOp .Or (b :: rest) pos) tb) : PEd X M0 H0 (.BoolOp .Or (a :: b :: rest) pos) (dOrV ta tb) :=
  PE.imp (pe_or ha hb) fun σ H Q ⟨sd, M, Qd, w, q, c⟩ => ⟨sd, M, _, w, q, fun d M' v H' s r q => by
    split at q
    · rename_i b
      refine ⟨b, r.bl_of, ?_⟩
      cases b with
      | false => rw [if_neg Bool.false_ne_true] at q ⊢; exact ⟨sd, M', Qd, w.on s, q, c.on s⟩
      | true => rw [if_pos rfl] at q ⊢; exact c _ _ _ _ s .bl q
    · exact q.elim⟩
theorem de_not (ha : PEd X M0 H0 a ta) : PEd X M0 H0 (.UnaryOp .Not a pos) (dNotV ta) :=
  PE.imp (pe_not ha) fun σ H Q ⟨sd, M, Qd, w, q, c⟩ => ⟨sd, M, _, w, q, fun d M' v H' s r q => by
    split at q
    · exact ⟨_, r.bl_of, c _ _ _ _ s .bl q⟩
    · exact q.elim⟩
def dIf (t : TTD) (ta tb : TED) : TED := fun sd M Q => t sd M fun c M1 => if c = true then ta sd M1 Q else tb sd M1 Q
theorem de_if (hc : PTd X M0 H0 c t) (ha : PEd X M0 H0 a ta) (hb : PEd X M0 H0 b tb) : PEd X M0 H0 (.IfExp c a b pos) (dIf t ta tb) :=
  PE.imp (pe_ifExp hc ha hb) fun σ H Q ⟨sd, M, Qd, w, q, c⟩ => ⟨sd, M, _, w, q, fun d M' H' s q => by
    cases d with
    | true => rw [if_pos rfl] at q ⊢; exact ⟨sd, M', Qd, w.on s, q, c.on s⟩
    | false => rw [if_neg Bool.false_ne_true] at q ⊢; exact ⟨sd, M', Qd, w.on s, q, c.on s⟩⟩
/-- -a -/
def dNeg (ta : TED) : TED := fun sd M Q => ta sd M fun d M1 => match d with
  | .int i => Q (.int (-i)) M1
  | _ => False
theorem de_neg (ha : PEd X M0 H0 a ta) : PEd X M0 H0 (.UnaryOp .USub a pos) (dNeg ta) :=
  PE.imp (pe_un un_neg ha) fun σ H Q ⟨sd, M, Qd, w, q, c⟩ => ⟨sd, M, _, w, q, fun d M' v H' s r q => by
    split at q
    · exact ⟨_, r.int_of, c _ _ _ _ s .int q⟩
    · exact q.elim⟩
/-- a is None -/
def isN : Dv → Bool
  | .non => true
  | _ => false
def dIsN : R2d := fun d e M Q => match e with
  | .non => Q (.bl (isN d)) M
  | _ => False
def dNotN : R2d := fun d e M Q => match e with
  | .non => Q (.bl (!isN d)) M
  | _ => False
theorem RD.non_iff {K : PySem.W.Frag} {H : Hp} {d : Dv} {v : V} (r : RD K H d v) : decide (v = .non) = isN d := by
  cases d with
  | non => rw [r.non_of]; rfl
  | bl b => rw [r.bl_of]; rfl
  | int b => rw [r.int_of]; rfl
  | str b => rw [r.str_of]; rfl
  | ref b => rw [r.ref_of]; rfl
  | ty n => unfold RD at r; rw [r]; rfl
  | tup ds => unfold RD at r; obtain ⟨_, _, rfl, _⟩ := r; rfl
  | lst ds => unfold RD at r; obtain ⟨_, _, rfl, _⟩ := r; rfl
  | obj C fs => unfold RD at r; obtain ⟨_, _, _, _, rfl, _⟩ := r; rfl
theorem od_isN : OpR X (compareOp .Is) (L2op X.K dIsN) := opd_I op_isN fun d e M Qd x y H Q r1 r2 sr q c => by
  unfold dIsN at q
  split at q
  · rw [← r1.non_iff] at q
    exact ⟨r2.non_of, c _ M _ H (.refl sr) .bl q⟩
  · exact q.elim
theorem od_notN : OpR X (compareOp .IsNot) (L2op X.K dNotN) := opd_I op_notN fun d e M Qd x y H Q r1 r2 sr q c => by
  unfold dNotN at q
  split at q
  · rw [← r1.non_iff] at q
    exact ⟨r2.non_of, c _ M _ H (.refl sr) .bl q⟩
  · exact q.elim
/-! ### a < b < c -/
def dChain (r r' : R2d) (ta tb tc : TED) : TED := fun sd M Q => ta sd M fun x M1 => tb sd M1 fun y M2 => r x y M2 fun z M3 => match z with
  | .bl k => if k = true then tc sd M3 fun u M4 => r' y u M4 Q else Q (.bl false) M3
  | _ => False
theorem chain_imp {ta tb tc : TED} {rd rd' : R2d} : ∀ σ H Q, LE X.K M0 H0 (dChain rd rd' ta tb tc) σ H Q → tChain (L2op X.K rd) (L2op X.K rd') (LE X.K M0 H0 ta) (LE X.K M0 H0 tb) (LE X.K M0 H0 tc) σ H Q := fun σ H Q ⟨sd, M, Qd, a, h, c⟩ =>
  ⟨sd, M, _, a, h, fun d M1 v H1 s1 r1 h1 => ⟨sd, M1, _, a.on s1, h1, fun e M2 u H2 s2 r2 h2 => ⟨d, e, M2, _, r1.keep s2.keep, r2, s2.sr, h2, fun z M3 zv H3 s3 rz h3 => by
    split at h3
    · rename_i k
      refine ⟨k, rz.bl_of, ?_⟩
      have s13 := s1.trans (s2.trans s3)
      cases k with
      | false => rw [if_neg Bool.false_ne_true] at h3 ⊢; exact c _ _ _ _ s13 .bl h3
      | true =>
        rw [if_pos rfl] at h3 ⊢
        exact ⟨sd, M3, _, a.on s13, h3, fun f M4 w H4 s4 r4 h4 => ⟨e, f, M4, Qd, r2.keep (s3.keep.trans s4.keep), r4, s4.sr, h4, c.on (s13.trans s4)⟩⟩
    · exact h3.elim⟩⟩⟩
theorem de_chain {op op' : CmpOp} {rd rd' : R2d} {tc : TED} (ho : OpR X (compareOp op) (L2op X.K rd)) (ho' : OpR X (compareOp op') (L2op X.K rd')) (ha : PEd X M0 H0 a ta) (hb : PEd X M0 H0 b tb) (hc : PEd X M0 H0 c tc)
    (hm : lastMarks [op, op'] [b, c] = false := by with_unfolding_all rfl) : PEd X M0 H0 (.Compare a [op, op'] [b, c] pos) (dChain rd rd' ta tb tc) := PE.imp (pe_chain ho ho' ha hb hc hm) chain_imp
theorem dt_chain {op op' : CmpOp} {rd rd' : R2d} {tc : TED} (ho : OpR X (compareOp op) (L2op X.K rd)) (ho' : OpR X (compareOp op') (L2op X.K rd')) (ha : PEd X M0 H0 a ta) (hb : PEd X M0 H0 b tb) (hc : PEd X M0 H0 c tc)
    (hm : lastMarks [op, op'] [b, c] = false := by with_unfolding_all rfl) : PTd X M0 H0 (.Compare a [op, op'] [b, c] pos) (dTest (dChain rd rd' ta tb tc)) := PT.imp (pt_chain ho ho' ha hb hc hm) (test_imp chain_imp)
end
end
end DL

namespace DL
open PySem PySem.Spec PyProof.Rows L2
section
variable {X : Cx} {M0 : Mo} {H0 : Hp}
/-! ### arguments, displays -/
def dNilA : TAD := fun _ M Q => Q [] M
def dConsA (ta : TED) (tr : TAD) : TAD := fun sd M Q => ta sd M fun d M1 => tr sd M1 fun ds M2 => Q (d :: ds) M2
section
variable {a e o i : Expr} {es : List Expr} {te ta to ti : TED} {t : TAD} {pos : Pos}
theorem da_nil : PAd X M0 H0 [] dNilA := PA.imp pa_nil fun σ H Q ⟨sd, M, Qd, w, q, c⟩ => c _ _ _ _ w.here .nil q
theorem da_cons (ha : PEd X M0 H0 e te) (hr : PAd X M0 H0 es t) (hs : starEach (e :: es) X.env = (false, eval e X.env) :: starEach es X.env := by rfl) : PAd X M0 H0 (e :: es) (dConsA te t) :=
  PA.imp (pa_cons ha hr hs) fun σ H Q ⟨sd, M, Qd, w, q, c⟩ => ⟨sd, M, _, w, q, fun d M1 v H1 s1 r1 q1 => ⟨sd, M1, _, w.on s1, q1, fun ds M2 vs H2 s2 r2 q2 => c _ _ _ _ (s1.trans s2) ((r1.keep s2.keep : RD _ _ _ _) |> fun z => RDs.cons z r2) q2⟩⟩
def dTup (t : TAD) : TED := fun sd M Q => t sd M fun ds M1 => ds.length ≤ 1000 ∧ Q (.tup ds) M1
def dLst (t : TAD) : TED := fun sd M Q => t sd M fun ds M1 => ds.length ≤ 1000 ∧ ∀ p, M1 p = none → Q (.ref p) (mup M1 p (.lst ds))
theorem le_line {n : Nat} (h : n ≤ 1000) : n ≤ sizeLine := by rw [sizeLine_eq]; omega
theorem own_lst {K : PySem.W.Frag} {H : Hp} {p : Addr} {vs : List V} {ds : List Dv} (hp : H p = none) (r : RDs K H ds vs) : Own K (upd H p (.lst vs)) p (.lst ds) := by
  simp only [Own]
  exact ⟨vs, upd_same, r.keep (Keep.new hp)⟩
theorem de_tup {x1} (h : PAd X M0 H0 es t) : PEd X M0 H0 (.Tuple es x1 pos) (dTup t) :=
  PE.imp (pe_tup h) fun σ H Q ⟨sd, M, Qd, w, q, c⟩ => ⟨sd, M, _, w, q, fun ds M1 vs H1 s1 r1 q1 => ⟨by rw [← r1.length]; exact le_line q1.1, fun p hp => by
    have k : Keep H1 (upd H1 p (.tup vs)) := Keep.new hp
    refine c _ M1 _ _ (s1.trans (Stp.new0 s1.sr hp)) ?_ q1.2
    unfold RD
    exact ⟨p, vs, rfl, .inl (.inl upd_same), r1.keep k⟩⟩⟩
theorem de_lst (h : PAd X M0 H0 es t) : PEd X M0 H0 (.List es pos) (dLst t) :=
  PE.imp (pe_lst h) fun σ H Q ⟨sd, M, Qd, w, q, c⟩ => ⟨sd, M, _, w, q, fun ds M1 vs H1 s1 r1 q1 => ⟨by rw [← r1.length]; exact le_line q1.1, fun p hp =>
    c _ _ _ _ (s1.trans (Stp.new s1.sr hp (own_lst hp r1))) .ref (q1.2 p (s1.sr.free hp))⟩⟩
/-- the list (the instance) that e makes stands still from here on -/
def dFrz (te : TED) : TED := fun sd M Q => te sd M fun d M1 => match d with
  | .ref p => match M1 p with
    | some (.lst ds) => Q (.lst ds) (mdl M1 p)
    | some (.ins C fs) => Q (.obj C fs) (mdl M1 p)
    | _ => False
  | d => Q d M1
theorem Inv.frzD {pins : List (Addr × Obj)} {s : Shared} {σ : L2.St} {H : Hp} {M : Mo} {p : Addr} {o : OO} {d : Dv} (I : Inv X pins σ H s) (sr : SR X.K M H) (h : M p = some o)
    (hd : (∃ ds, o = .lst ds ∧ d = .lst ds) ∨ ∃ C fs, o = .ins C fs ∧ d = .obj C fs) : ∃ H', Inv X pins σ H' s ∧ Stp X.K M H (mdl M p) H' ∧ RD X.K H' d (.ref p) := by
  have go : ∀ u : HO, H p = some u → Mut (some u) → (∀ od, Keep H (upd H p (.frz od u)) → RD X.K (upd H p (.frz od u)) d (.ref p)) → ∃ H', Inv X pins σ H' s ∧ Stp X.K M H (mdl M p) H' ∧ RD X.K H' d (.ref p) := by
    intro u hu mu hr
    obtain ⟨od, I1⟩ := I.lock hu mu
    have k : Keep H (upd H p (.frz od u)) := Keep.mut (by rw [hu]; exact mu)
    refine ⟨_, I1, ⟨k, fun a oo e => ?_, fun a o' e => ?_, fun a o' e n => ?_⟩, hr od k⟩
    · by_cases q : a = p
      · subst q
        rw [mdl_same] at e
        cases e
      · rw [mdl_ne q] at e
        exact (sr a oo e).keep k (upd_ne q)
    · by_cases q : a = p
      · subst q
        rw [upd_same]
        intro z
        cases z
      · rw [upd_ne q, e]
        intro z
        cases z
    · have q : a ≠ p := fun z => by subst z; rw [h] at n; cases n
      exact ⟨by rw [upd_ne q]; exact e, by rw [mdl_ne q]; exact n⟩
  have ow := sr p o h
  rcases hd with ⟨ds, rfl, rfl⟩ | ⟨C, fs, rfl, rfl⟩
  · simp only [Own] at ow
    obtain ⟨vs, hv, r⟩ := ow
    refine go _ hv trivial fun od k => ?_
    unfold RD
    exact ⟨p, vs, rfl, .inl ⟨od, upd_same⟩, r.keep k⟩
  · simp only [Own] at ow
    obtain ⟨dx, vfs, hv, r⟩ := ow
    refine go _ hv trivial fun od k => ?_
    unfold RD
    exact ⟨p, od, dx, vfs, rfl, upd_same, r.keep k⟩
theorem de_frz (h : PEd X M0 H0 e te) : PEd X M0 H0 e (dFrz te) := by
  refine ⟨fun pins s σ H Q I ⟨sd, M, Qd, w, q, c⟩ => ?_⟩
  refine thn (h.run pins s σ H (fun v H1 => ∃ d M1, Stp X.K M H M1 H1 ∧ RD X.K H1 d v ∧ match d with
    | .ref p => match M1 p with
      | some (.lst ds) => Qd (.lst ds) (mdl M1 p)
      | some (.ins C fs) => Qd (.obj C fs) (mdl M1 p)
      | _ => False
    | d => Qd d M1) I ⟨sd, M, _, w, q, fun d M1 v H1 s1 r1 q1 => ⟨d, M1, s1, r1, q1⟩⟩) fun u s1 ⟨v, H1, I1, rv, d, M1, s1', r1, q1⟩ => ?_
  have fin : ∀ {d' : Dv}, RD X.K H1 d' v → Qd d' M1 → EP X pins σ Q u s1 := fun r q => ⟨v, H1, I1, rv, c _ _ _ _ s1' r q⟩
  split at q1
  · rename_i p
    have ev := r1.ref_of
    subst ev
    split at q1
    · rename_i ds e
      obtain ⟨H2, I2, s2, r2⟩ := Inv.frzD I1 s1'.sr e (d := .lst ds) (.inl ⟨ds, rfl, rfl⟩)
      exact ⟨_, H2, I2, rv, c _ _ _ _ (s1'.trans s2) r2 q1⟩
    · rename_i C fs e
      obtain ⟨H2, I2, s2, r2⟩ := Inv.frzD I1 s1'.sr e (d := .obj C fs) (.inr ⟨C, fs, rfl, rfl⟩)
      exact ⟨_, H2, I2, rv, c _ _ _ _ (s1'.trans s2) r2 q1⟩
    · exact q1.elim
  · exact fin r1 q1

/-! ### built-ins by values -/
abbrev RNd := List Dv → Mo → QD → Prop
def LNop (K : PySem.W.Frag) (rd : RNd) : List V → Hp → VK → Prop := fun xs H Q => ∃ ds M Qd, RDs K H ds xs ∧ SR K M H ∧ rd ds M Qd ∧ Ct K M H Qd Q
def dCB (rd : RNd) (t : TAD) : TED := fun sd M Q => t sd M fun ds M1 => rd ds M1 Q
theorem cb_imp {rd : RNd} : ∀ σ H Q, LE X.K M0 H0 (dCB rd t) σ H Q → tCB (LNop X.K rd) (LA X.K M0 H0 t) σ H Q := fun σ H Q ⟨sd, M, Qd, w, q, c⟩ =>
  ⟨sd, M, _, w, q, fun ds M1 vs H1 s1 r1 q1 => ⟨ds, M1, Qd, r1, s1.sr, q1, c.on s1⟩⟩
theorem de_callB {id : String} {x : Str} {p : Pos} {rd : RNd} (hc : CallR X (.builtin id) (LNop X.K rd)) (hg : Gl X x) (hm : X.mg x = none) (hv : bootBuiltins x = some (.builtin id)) (ha : PAd X M0 H0 (e :: es) t) (hn : x ≠ "__name__" := by decide) (hdb : (x == ("__debug__" : Str)) = false := by decide)
    (he : starEach (e :: es) X.env = (false, eval e X.env) :: starEach es X.env := by rfl) (hpl : (backTo pos (starEach es X.env)).any (·.1) = false := by rfl) : PEd X M0 H0 (.Call (.Name x p) (e :: es) [] pos) (dCB rd t) :=
  PE.imp (pe_callB hc hg hm hv ha hn hdb he hpl) cb_imp
theorem de_callTy {T : String} {x : Str} {p : Pos} {rd : RNd} (hc : CallR X (.type T) (LNop X.K rd)) (hg : Gl X x) (hm : X.mg x = none) (hv : bootBuiltins x = some (.type T)) (ha : PAd X M0 H0 (e :: es) t) (hn : x ≠ "__name__" := by decide) (hdb : (x == ("__debug__" : Str)) = false := by decide)
    (he : starEach (e :: es) X.env = (false, eval e X.env) :: starEach es X.env := by rfl) (hpl : (backTo pos (starEach es X.env)).any (·.1) = false := by rfl) : PEd X M0 H0 (.Call (.Name x p) (e :: es) [] pos) (dCB rd t) :=
  PE.imp (pe_callTy hc hg hm hv ha hn hdb he hpl) cb_imp
theorem cd_I {f : Value} {r : List V → Hp → VK → Prop} {rd : RNd} (h : CallR X f r) (w : ∀ ds M Qd xs H Q, RDs X.K H ds xs → SR X.K M H → rd ds M Qd → Ct X.K M H Qd Q → r xs H Q) : CallR X f (LNop X.K rd) :=
  fun pins s σ H xs us Q I rv ⟨ds, M, Qd, rs, sr, q, c⟩ => h pins s σ H xs us Q I rv (w ds M Qd xs H Q rs sr q c)
theorem RDs.one {K : PySem.W.Frag} {H : Hp} {d : Dv} {vs : List V} (r : RDs K H [d] vs) : ∃ v, vs = [v] ∧ RD K H d v := by
  unfold RDs at r
  obtain ⟨v, w, rfl, r1, r2⟩ := r
  unfold RDs at r2
  subst r2
  exact ⟨v, rfl, r1⟩
theorem RDs.two {K : PySem.W.Frag} {H : Hp} {d e : Dv} {vs : List V} (r : RDs K H [d, e] vs) : ∃ v u, vs = [v, u] ∧ RD K H d v ∧ RD K H e u := by
  unfold RDs at r
  obtain ⟨v, w, rfl, r1, r2⟩ := r
  obtain ⟨u, rfl, r3⟩ := r2.one
  exact ⟨v, u, rfl, r1, r3⟩
theorem RDs.zero {K : PySem.W.Frag} {H : Hp} {vs : List V} (r : RDs K H [] vs) : vs = [] := by unfold RDs at r; exact r
/-- len(x) -/
def dLen : RNd := fun ds M Q => match ds with
  | [.str x] => x.length ≤ 16777216 ∧ Q (.int x.length) M
  | [d] => match seqL M d with
    | some es => Q (.int es.length) M
    | none => match seqT d with
      | some es => Q (.int es.length) M
      | none => False
  | _ => False
theorem cd_len : CallR X (.builtin "len") (LNop X.K dLen) := cd_I call_len fun ds M Qd xs H Q rs sr q c => by
  unfold dLen at q
  split at q
  · obtain ⟨v, rfl, r⟩ := rs.one
    rw [r.str_of]
    exact ⟨_, _, rfl, ⟨by rw [← line_eq]; exact q.1, rfl⟩, c _ _ _ _ (.refl sr) .int q.2⟩
  · obtain ⟨v, rfl, r⟩ := rs.one
    split at q
    · rename_i es e
      obtain ⟨a, vs, rfl, sq, rr⟩ := seqL_ok sr r e
      exact ⟨_, _, rfl, .inl ⟨vs, sq, rfl⟩, by rw [← rr.length]; exact c _ _ _ _ (.refl sr) .int q⟩
    · split at q
      · rename_i es e
        obtain ⟨a, vs, rfl, sq, rr⟩ := seqT_ok r e
        exact ⟨_, _, rfl, .inr ⟨vs, sq, rfl⟩, by rw [← rr.length]; exact c _ _ _ _ (.refl sr) .int q⟩
      · exact q.elim
  · exact q.elim
/-- min(m, n), max(m, n) -/
def dMin2 : RNd := fun ds M Q => match ds with
  | [.int i, .int j] => Q (.int (if j < i then j else i)) M
  | _ => False
def dMax2 : RNd := fun ds M Q => match ds with
  | [.int i, .int j] => Q (.int (if j > i then j else i)) M
  | _ => False
theorem cd_min2 (hc : X.calm = true) : CallR X (.builtin "min") (LNop X.K dMin2) := cd_I (call_min2 hc) fun ds M Qd xs H Q rs sr q c => by
  unfold dMin2 at q
  split at q
  · obtain ⟨v, u, rfl, r1, r2⟩ := rs.two
    rw [r1.int_of, r2.int_of]
    exact ⟨_, _, rfl, c _ _ _ _ (.refl sr) .int q⟩
  · exact q.elim
theorem cd_max2 (hc : X.calm = true) : CallR X (.builtin "max") (LNop X.K dMax2) := cd_I (call_max2 hc) fun ds M Qd xs H Q rs sr q c => by
  unfold dMax2 at q
  split at q
  · obtain ⟨v, u, rfl, r1, r2⟩ := rs.two
    rw [r1.int_of, r2.int_of]
    exact ⟨_, _, rfl, c _ _ _ _ (.refl sr) .int q⟩
  · exact q.elim
/-- all(xs), any(xs), of truths -/
def blsOf : List Dv → Option (List Bool)
  | [] => some []
  | .bl b :: ds => (blsOf ds).map (b :: ·)
  | _ => none
theorem blsOf_ok {K : PySem.W.Frag} {H : Hp} : ∀ {ds : List Dv} {vs : List V} {bs : List Bool}, RDs K H ds vs → blsOf ds = some bs → vs = bs.map V.bl
  | [], vs, bs, r, h => by unfold blsOf at h; cases h; exact r.zero
  | d :: ds, vs, bs, r, h => by
    unfold RDs at r
    obtain ⟨v, w, rfl, r1, r2⟩ := r
    cases d with
    | bl b =>
      unfold blsOf at h
      cases q : blsOf ds with
      | none => rw [q] at h; cases h
      | some cs =>
        rw [q] at h
        cases h
        rw [r1.bl_of, blsOf_ok r2 q]
        rfl
    | _ => unfold blsOf at h; cases h
def dAll : RNd := fun ds M Q => match ds with
  | [d] => match (seqL M d).bind blsOf with
    | some bs => Q (.bl (bs.all id)) M
    | none => False
  | _ => False
def dAny : RNd := fun ds M Q => match ds with
  | [d] => match (seqL M d).bind blsOf with
    | some bs => Q (.bl (bs.any id)) M
    | none => False
  | _ => False
theorem cd_all (hc : X.calm = true) : CallR X (.builtin "all") (LNop X.K dAll) := cd_I (cr_all hc) fun ds M Qd xs H Q rs sr q c => by
  unfold dAll at q
  split at q
  · rename_i d
    obtain ⟨v, rfl, r⟩ := rs.one
    split at q
    · rename_i bs e
      obtain ⟨es, h1, h2⟩ := Option.bind_eq_some_iff.mp e
      obtain ⟨a, vs, rfl, sq, rr⟩ := seqL_ok sr r h1
      rw [blsOf_ok rr h2] at sq
      exact ⟨a, bs, rfl, sq, c _ _ _ _ (.refl sr) .bl q⟩
    · exact q.elim
  · exact q.elim
theorem cd_any (hc : X.calm = true) : CallR X (.builtin "any") (LNop X.K dAny) := cd_I (cr_any hc) fun ds M Qd xs H Q rs sr q c => by
  unfold dAny at q
  split at q
  · rename_i d
    obtain ⟨v, rfl, r⟩ := rs.one
    split at q
    · rename_i bs e
      obtain ⟨es, h1, h2⟩ := Option.bind_eq_some_iff.mp e
      obtain ⟨a, vs, rfl, sq, rr⟩ := seqL_ok sr r h1
      rw [blsOf_ok rr h2] at sq
      exact ⟨a, bs, rfl, sq, c _ _ _ _ (.refl sr) .bl q⟩
    · exact q.elim
  · exact q.elim
/-- list(x) -/
def dListOf : RNd := fun ds M Q => match ds with
  | [d] => match seqL M d with
    | some es => ∀ p, M p = none → Q (.ref p) (mup M p (.lst es))
    | none => match seqT d with
      | some es => ∀ p, M p = none → Q (.ref p) (mup M p (.lst es))
      | none => False
  | _ => False
theorem cd_list : CallR X (.type "list") (LNop X.K dListOf) := cd_I call_list_of fun ds M Qd xs H Q rs sr q c => by
  unfold dListOf at q
  split at q
  · rename_i d
    obtain ⟨v, rfl, r⟩ := rs.one
    split at q
    · rename_i es e
      obtain ⟨a, vs, rfl, sq, rr⟩ := seqL_ok sr r e
      exact ⟨a, vs, rfl, .inl sq, fun p hp => c _ _ _ _ (Stp.new sr hp (own_lst hp rr)) .ref (q p (sr.free hp))⟩
    · split at q
      · rename_i es e
        obtain ⟨a, vs, rfl, sq, rr⟩ := seqT_ok r e
        exact ⟨a, vs, rfl, .inr sq, fun p hp => c _ _ _ _ (Stp.new sr hp (own_lst hp rr)) .ref (q p (sr.free hp))⟩
      · exact q.elim
  · exact q.elim
/-! ### subscripts -/
def dIx : R2d := fun d e M Q => match e with
  | .int i => match d with
    | .str z => z.length ≤ 16777216 ∧ (match atI z.cps.toList i with
      | some c => Q (.str ⟨#[c]⟩) M
      | none => False)
    | d => match seqL M d with
      | some ds => (match atI ds i with
        | some x => Q x M
        | none => False)
      | none => match seqT d with
        | some ds => (match atI ds i with
          | some x => Q x M
          | none => False)
        | none => False
  | _ => False
theorem RDs.atI {K : PySem.W.Frag} {H : Hp} {ds : List Dv} {vs : List V} {i : Int} {d : Dv} (r : RDs K H ds vs) (h : atI ds i = some d) : ∃ v, atI vs i = some v ∧ RD K H d v := by
  unfold L2.atI at h ⊢
  obtain ⟨j, h1, h2⟩ := Option.bind_eq_some_iff.mp h
  obtain ⟨v, hv, rv⟩ := r.get h2
  exact ⟨v, Option.bind_eq_some_iff.mpr ⟨j, by rw [← r.length]; exact h1, hv⟩, rv⟩
theorem id_I {r : R2} {rd : R2d} (h : IxR X r) (w : ∀ d e M Qd x y H Q, RD X.K H d x → RD X.K H e y → SR X.K M H → rd d e M Qd → Ct X.K M H Qd Q → r x y H Q) : IxR X (L2op X.K rd) :=
  fun va sl pins s σ H x y v u Q I rx ry ⟨d, e, M, Qd, r1, r2, sr, q, c⟩ hs => h va sl pins s σ H x y v u Q I rx ry (w d e M Qd x y H Q r1 r2 sr q c) hs
theorem xd_ix : IxR X (L2op X.K dIx) := id_I ix_seq fun d e M Qd x y H Q r1 r2 sr q c => by
  unfold dIx at q
  split at q
  · rename_i i
    rw [r2.int_of]
    split at q
    · rw [r1.str_of]
      obtain ⟨hz, q⟩ := q
      split at q
      · rename_i ch e
        exact .inr (.inr ⟨_, i, ch, rfl, rfl, by rw [← line_eq]; exact hz, e, c _ _ _ _ (.refl sr) .str q⟩)
      · exact q.elim
    · split at q
      · rename_i es e
        obtain ⟨a, vs, rfl, sq, rr⟩ := seqL_ok sr r1 e
        split at q
        · rename_i z ez
          obtain ⟨v, hv, rv⟩ := rr.atI ez
          exact .inl ⟨a, vs, i, v, rfl, rfl, sq, hv, c _ _ _ _ (.refl sr) rv q⟩
        · exact q.elim
      · split at q
        · rename_i es e
          obtain ⟨a, vs, rfl, sq, rr⟩ := seqT_ok r1 e
          split at q
          · rename_i z ez
            obtain ⟨v, hv, rv⟩ := rr.atI ez
            exact .inr (.inl ⟨a, vs, i, v, rfl, rfl, sq, hv, c _ _ _ _ (.refl sr) rv q⟩)
          · exact q.elim
        · exact q.elim
  · exact q.elim
theorem de_ix {b : Expr} {tb : TED} (ha : PEd X M0 H0 a ta) (hb : PEd X M0 H0 b tb) (hs : PlainIx b := by exact (fun _ _ => rfl)) : PEd X M0 H0 (.Subscript a b pos) (dOp dIx ta tb) :=
  PE.imp (pe_ix xd_ix ha hb hs) (two_imp fun _ _ _ _ h => h)
/-! ### slices -/
abbrev TOD := StD → Mo → (Option Int → Mo → Prop) → Prop
def LO (K : PySem.W.Frag) (M0 : Mo) (H0 : Hp) (t : TOD) : TO := fun σ H Q => ∃ sd M Qd, At K M0 H0 sd M σ H ∧ t sd M Qd ∧ ∀ o M' H', Stp K M H M' H' → Qd o M' → Q o H'
theorem PO.imp {e : Option Expr} {t t' : TO} (h : PO X e t) (w : ∀ σ H Q, t' σ H Q → t σ H Q) : PO X e t' := ⟨fun pins s σ H Q I q => h.run pins s σ H Q I (w _ _ _ q)⟩
abbrev POd (X : Cx) (M : Mo) (H : Hp) (e : Option Expr) (t : TOD) : Prop := PO X e (LO X.K M H t)
def dNo : TOD := fun _ M Q => Q none M
def dPart (t : TED) : TOD := fun sd M Q => t sd M fun d M1 => match d with
  | .int i => Q (some i) M1
  | _ => False
theorem do_none : POd X M0 H0 none dNo := PO.imp po_none fun σ H Q ⟨sd, M, Qd, w, q, c⟩ => c _ _ _ w.here q
theorem do_some (h : PEd X M0 H0 e te) : POd X M0 H0 (some e) (dPart te) := PO.imp (po_some h) fun σ H Q ⟨sd, M, Qd, w, q, c⟩ => ⟨sd, M, _, w, q, fun d M1 v H1 s1 r1 q1 => by
  split at q1
  · exact ⟨_, r1.int_of, c _ _ _ s1 q1⟩
  · exact q1.elim⟩
def cutD (xs : List Dv) (lo hi : Option Int) : List Dv := (xs.drop (HT.sIx xs.length 0 lo)).take (HT.sIx xs.length xs.length hi - HT.sIx xs.length 0 lo)
theorem RDs.cut {K : PySem.W.Frag} {H : Hp} {ds : List Dv} {vs : List V} (r : RDs K H ds vs) (lo hi : Option Int) : RDs K H (cutD ds lo hi) (cutV vs lo hi) := by
  unfold cutD cutV
  rw [r.length]
  exact (r.drop _).take _
def dSlV (d : Dv) (lo hi : Option Int) (M : Mo) (Q : QD) : Prop := match d with
  | .str z => z.length ≤ 16777216 ∧ Q (.str (cutS z lo hi)) M
  | d => match seqL M d with
    | some ds => ∀ p, M p = none → Q (.ref p) (mup M p (.lst (cutD ds lo hi)))
    | none => False
def dSl (te : TED) (tl th : TOD) : TED := fun sd M Q => te sd M fun d M1 => tl sd M1 fun lo M2 => th sd M2 fun hi M3 => dSlV d lo hi M3 Q
theorem de_slice {lo hi : Option Expr} {p2 : Pos} {tl th : TOD} (he : PEd X M0 H0 e te) (hl : POd X M0 H0 lo tl) (hu : POd X M0 H0 hi th) : PEd X M0 H0 (.Subscript e (.Slice lo hi none p2) pos) (dSl te tl th) :=
  PE.imp (pe_slice (sl_str.or sl_list) he hl hu) fun σ H Q ⟨sd, M, Qd, w, q, c⟩ => ⟨sd, M, _, w, q, fun d M1 v H1 s1 r1 q1 => ⟨sd, M1, _, w.on s1, q1, fun l M2 H2 s2 q2 => ⟨sd, M2, _, w.on (s1.trans s2), q2, fun u M3 H3 s3 q3 => by
    have s := s1.trans (s2.trans s3)
    have r3 := r1.keep (s2.keep.trans s3.keep)
    unfold dSlV at q3
    split at q3
    · rw [r3.str_of]
      exact .inl ⟨_, rfl, by rw [← line_eq]; exact q3.1, c _ _ _ _ s .str q3.2⟩
    · split at q3
      · rename_i es e
        obtain ⟨a, vs, rfl, sq, rr⟩ := seqL_ok s3.sr r3 e
        exact .inr ⟨a, vs, rfl, sq, fun p hp => c _ _ _ _ (s.trans (Stp.new s3.sr hp (own_lst hp (rr.cut _ _)))) .ref (q3 p (s3.sr.free hp))⟩
      · exact q3.elim⟩⟩⟩
end
end
end DL

namespace DL
open PySem PySem.Spec PyProof.Rows L2
section
variable {X : Cx} {M0 : Mo} {H0 : Hp}
/-! ### blocks and small statements -/
section
variable {st : Stmt} {rest : List Stmt} {t u : TSD} {e c : Expr} {te : TED} {tc : TTD} {pos : Pos} {a b : List Stmt}
def dNext : TSD := fun D sd M => D.nx sd M
def dSeq (t u : TSD) : TSD := fun D sd M => t { D with nx := u D } sd M
theorem dss_nil : PSsd X M0 H0 [] dNext := PSs.imp pss_nil fun D σ H ⟨sd, M, Dd, w, q, c⟩ => c.nx _ _ _ _ w.here w.rs q
theorem dss_cons (h1 : PSd X M0 H0 st t) (h2 : PSsd X M0 H0 rest u) : PSsd X M0 H0 (st :: rest) (dSeq t u) :=
  PSs.imp (pss_cons h1 h2) fun D σ H ⟨sd, M, Dd, w, q, c⟩ => ⟨sd, M, { Dd with nx := u Dd }, w, q, ⟨fun sd' M' σ' H' s r h => ⟨sd', M', Dd, ⟨w.st.trans s, r⟩, h, c.on s⟩, c.rt, c.bk, c.ct⟩⟩
theorem dss_one (h1 : PSd X M0 H0 st t) : PSsd X M0 H0 [st] t := pss_one h1
theorem ds_pass : PSd X M0 H0 (.Pass pos) dNext := PS.imp ps_pass fun D σ H ⟨sd, M, Dd, w, q, c⟩ => c.nx _ _ _ _ w.here w.rs q
def dBreak : TSD := fun D sd M => D.bk sd M
def dCont : TSD := fun D sd M => D.ct sd M
theorem ds_break : PSd X M0 H0 (.Break pos) dBreak := PS.imp ps_break fun D σ H ⟨sd, M, Dd, w, q, c⟩ => c.bk _ _ _ _ w.here w.rs q
theorem ds_continue : PSd X M0 H0 (.Continue pos) dCont := PS.imp ps_continue fun D σ H ⟨sd, M, Dd, w, q, c⟩ => c.ct _ _ _ _ w.here w.rs q
theorem ds_doc {x j pos'} : PSd X M0 H0 (.Expr (.Constant (.str x) j pos) pos') dNext := PS.imp ps_doc fun D σ H ⟨sd, M, Dd, w, q, c⟩ => c.nx _ _ _ _ w.here w.rs q
def dDrop (te : TED) : TSD := fun D sd M => te sd M fun _ M1 => D.nx sd M1
theorem ds_expr (he : PEd X M0 H0 e te) (hs : swapsWith e none pos.line X.env = pure false := by rfl) : PSd X M0 H0 (.Expr e pos) (dDrop te) :=
  PS.imp (ps_expr he hs) fun D σ H ⟨sd, M, Dd, w, q, c⟩ => ⟨sd, M, _, w, q, fun d M1 v H1 s1 r1 q1 => c.nx _ _ _ _ s1 (w.rs.keep s1.keep) q1⟩
def dRet (te : TED) : TSD := fun D sd M => te sd M D.rt
theorem ds_ret (he : PEd X M0 H0 e te) : PSd X M0 H0 (.Return (some e) pos) (dRet te) :=
  PS.imp (ps_ret he) fun D σ H ⟨sd, M, Dd, w, q, c⟩ => ⟨sd, M, _, w, q, c.rt⟩
def dRetN : TSD := fun D _ M => D.rt .non M
theorem ds_retN : PSd X M0 H0 (.Return none pos) dRetN := PS.imp ps_retN fun D σ H ⟨sd, M, Dd, w, q, c⟩ => c.rt _ _ _ _ w.here .non q
def dIfS (c : TTD) (t u : TSD) : TSD := fun D sd M => c sd M fun b M1 => if b = true then t D sd M1 else u D sd M1
theorem ds_if (hc : PTd X M0 H0 c tc) (ha : PSsd X M0 H0 a t) (hb : PSsd X M0 H0 b u) : PSd X M0 H0 (.If c a b pos) (dIfS tc t u) :=
  PS.imp (ps_if hc ha hb) fun D σ H ⟨sd, M, Dd, w, q, c⟩ => ⟨sd, M, _, w, q, fun k M1 H1 s1 q1 => by
    cases k with
    | true => rw [if_pos rfl] at q1 ⊢; exact ⟨sd, M1, Dd, w.on s1, q1, c.on s1⟩
    | false => rw [if_neg Bool.false_ne_true] at q1 ⊢; exact ⟨sd, M1, Dd, w.on s1, q1, c.on s1⟩⟩
def dNever : TSD := fun _ _ _ => False
theorem ds_never : PSd X M0 H0 st dNever := PS.imp ps_never fun D σ H ⟨sd, M, Dd, w, q, c⟩ => q.elim
theorem dss_never : PSsd X M0 H0 rest dNever := PSs.imp pss_never fun D σ H ⟨sd, M, Dd, w, q, c⟩ => q.elim
end
/-! ### targets -/
abbrev TGD := Dv → StD → Mo → (StD → Mo → Prop) → Prop
abbrev TGsD := List Dv → StD → Mo → (StD → Mo → Prop) → Prop
def CtG (K : PySem.W.Frag) (M : Mo) (H : Hp) (Qd : StD → Mo → Prop) (Q : St → Hp → Prop) : Prop := ∀ sd M' σ H', Stp K M H M' H' → Rs K H' sd σ → Qd sd M' → Q σ H'
def LG (K : PySem.W.Frag) (M0 : Mo) (H0 : Hp) (t : TGD) : TG := fun v σ H Q => ∃ d sd M Qd, At K M0 H0 sd M σ H ∧ RD K H d v ∧ t d sd M Qd ∧ CtG K M H Qd Q
def LGs (K : PySem.W.Frag) (M0 : Mo) (H0 : Hp) (t : TGsD) : TGs := fun vs σ H Q => ∃ ds sd M Qd, At K M0 H0 sd M σ H ∧ RDs K H ds vs ∧ t ds sd M Qd ∧ CtG K M H Qd Q
theorem PG.imp {X : Cx} {e : Expr} {t t' : TG} (h : PG X e t) (w : ∀ v σ H Q, t' v σ H Q → t v σ H Q) : PG X e t' := ⟨fun pins s σ H v u Q I r q => h.run pins s σ H v u Q I r (w _ _ _ _ q)⟩
theorem PGs.imp {X : Cx} {e : List Expr} {t t' : TGs} (h : PGs X e t) (w : ∀ v σ H Q, t' v σ H Q → t v σ H Q) : PGs X e t' := ⟨fun pins s σ H v u Q I r q => h.run pins s σ H v u Q I r (w _ _ _ _ q)⟩
abbrev PGd (X : Cx) (M : Mo) (H : Hp) (e : Expr) (t : TGD) : Prop := PG X e (LG X.K M H t)
abbrev PGsd (X : Cx) (M : Mo) (H : Hp) (e : List Expr) (t : TGsD) : Prop := PGs X e (LGs X.K M H t)
section
variable {e o i tg : Expr} {es : List Expr} {te to ti : TED} {t : TGD} {g : TGD} {u : TGsD} {pos pos' tpos : Pos} {x : Str} {k : Nat}
def gN (i : Nat) : TGD := fun d sd M Q => Q (sd.set i (some d)) M
theorem dg_name {i : Nat} (hN : X.N.Nodup) (hi : X.N[i]? = some x) (hx : Loc X.env.scope x) (hf : X.fn x = true ∨ X.env.scope.names.lookup x = some .local := by first | exact .inl rfl | exact .inr rfl | assumption) : PGd X M0 H0 (.Name x pos) (gN i) :=
  PG.imp (pg_name hN hi hx hf) fun v σ H Q ⟨d, sd, M, Qd, w, r, q, c⟩ => c _ _ _ _ w.here (w.rs.set r i) q
def gNl : TGsD := fun ds sd M Q => ds = [] ∧ Q sd M
def gCn (t : TGD) (u : TGsD) : TGsD := fun ds sd M Q => match ds with
  | d :: r => t d sd M fun sd' M' => u r sd' M' Q
  | [] => False
theorem dgs_nil : PGsd X M0 H0 [] gNl := PGs.imp pgs_nil fun v σ H Q ⟨d, sd, M, Qd, w, r, q, c⟩ => by
  obtain ⟨rfl, q⟩ := q
  exact ⟨r.zero, c _ _ _ _ w.here w.rs q⟩
theorem dgs_cons (h1 : PGd X M0 H0 e t) (h2 : PGsd X M0 H0 es u) (hs : (assignEach (e :: es) X.env).map (·.2) = assign e X.env :: (assignEach es X.env).map (·.2) := by rfl) : PGsd X M0 H0 (e :: es) (gCn t u) :=
  PGs.imp (pgs_cons h1 h2 hs) fun v σ H Q ⟨ds, sd, M, Qd, w, r, q, c⟩ => by
    unfold gCn at q
    split at q
    · rename_i d ds'
      unfold RDs at r
      obtain ⟨v, vr, rfl, r1, r2⟩ := r
      exact ⟨v, vr, rfl, d, sd, M, _, w, r1, q, fun sd' M' σ' H' s rs h => ⟨ds', sd', M', Qd, ⟨w.st.trans s, rs⟩, r2.keep s.keep, h, fun a b c' d' s' r' q' => c a b c' d' (s.trans s') r' q'⟩⟩
    · exact q.elim
def gTp (n : Nat) (t : TGsD) : TGD := fun d sd M Q => match seqT d with
  | some ds => ds.length = n ∧ t ds sd M Q
  | none => False
theorem dg_tup {n : Nat} (hc : X.calm = true) (h : PGsd X M0 H0 es u) (hn : (assignEach es X.env).length = n := by rfl) (hst : (assignEach es X.env).findIdx? (·.1) = none := by rfl) : PGd X M0 H0 (.Tuple es k pos) (gTp n u) :=
  PG.imp (pg_tup hc h hn hst) fun v σ H Q ⟨d, sd, M, Qd, w, r, q, c⟩ => by
    unfold gTp at q
    split at q
    · rename_i ds e
      obtain ⟨a, vs, rfl, sq, rr⟩ := seqT_ok r e
      exact ⟨a, vs, rfl, sq, by rw [← rr.length]; exact q.1, ds, sd, M, Qd, w, rr, q.2, c⟩
    · exact q.elim
/-- o[i] = v, by values -/
abbrev TSetD := Dv → Dv → Dv → Mo → (Mo → Prop) → Prop
def LSet (K : PySem.W.Frag) (t : TSetD) : TSet := fun o i v H Q => ∃ od id d M Qd, RD K H od o ∧ RD K H id i ∧ RD K H d v ∧ SR K M H ∧ t od id d M Qd ∧ ∀ M' H', Stp K M H M' H' → Qd M' → Q H'
def gSb (to ti : TED) (t : TSetD) : TGD := fun d sd M Q => to sd M fun o M1 => ti sd M1 fun i M2 => t o i d M2 fun M3 => Q sd M3
theorem PSet.imp {X : Cx} {t t' : TSet} (h : PSet X t) (w : ∀ o i v H Q, t' o i v H Q → t o i v H Q) : PSet X t' := fun pins s σ H o i v ov iv u Q I r1 r2 r3 q => h pins s σ H o i v ov iv u Q I r1 r2 r3 (w _ _ _ _ _ q)
theorem dg_sub {ts : TSetD} (ho : PEd X M0 H0 o to) (hi : PEd X M0 H0 i ti) (hs : PSet X (LSet X.K ts))
    (ha : ∀ v, assign (.Subscript o i pos) X.env v = (do
      let ov ← holding [v] (eval o X.env)
      let iv ← holding [v, ov] (eval i X.env)
      standAt pos
      holding [v, ov, iv] (setItem ov iv v)
      release [v, ov, iv] []) := by intro _; rfl) : PGd X M0 H0 (.Subscript o i pos) (gSb to ti ts) :=
  PG.imp (pg_sub ho hi hs ha) fun v σ H Q ⟨d, sd, M, Qd, w, r, q, c⟩ => ⟨sd, M, _, w, q, fun od M1 ov H1 s1 r1 q1 => ⟨sd, M1, _, w.on s1, q1, fun id M2 iv H2 s2 r2 q2 =>
    ⟨od, id, d, M2, _, r1.keep s2.keep, r2, r.keep (s1.keep.trans s2.keep), s2.sr, q2, fun M3 H3 s3 q3 => c _ _ _ _ (s1.trans (s2.trans s3)) (w.rs.keep (s1.keep.trans (s2.keep.trans s3.keep))) q3⟩⟩⟩
/-- an item of an owned list is stored -/
def dSetL : TSetD := fun o i d M Q => match o, i with
  | .ref a, .int k => match M a with
    | some (.lst ds) => match ixN ds.length k with
      | some j => Q (mup M a (.lst (ds.set j d)))
      | none => False
    | _ => False
  | _, _ => False
theorem xs_list : PSet X (LSet X.K dSetL) := PSet.imp set_list fun o i v H Q ⟨od, id, d, M, Qd, r1, r2, r3, sr, q, c⟩ => by
  unfold dSetL at q
  split at q
  · rename_i a k
    split at q
    · rename_i ds e
      split at q
      · rename_i j ej
        have ow := sr a _ e
        simp only [Own] at ow
        obtain ⟨vs, hv, rr⟩ := ow
        rw [r1.ref_of, r2.int_of]
        have mu : Mut (H a) := by rw [hv]; trivial
        exact ⟨a, vs, k, j, rfl, rfl, hv, by rw [← rr.length]; exact ej, c _ _ (Stp.set sr e mu (by simp only [Own]; exact ⟨_, upd_same, ((rr.keep (Keep.mut mu)).set (r3.keep (Keep.mut mu)) j)⟩)) q⟩
      · exact q.elim
    · exact q.elim
  · exact q.elim
/-- target = value -/
def dAsg (te : TED) (g : TGD) : TSD := fun D sd M => te sd M fun d M1 => g d sd M1 D.nx
theorem ds_asg (he : PEd X M0 H0 e te) (hg : PGd X M0 H0 tg g) (hs : swapsWithSole [tg] e pos.line X.env = pure false := by rfl) (hw : swappedStores [tg] e X.env = pure none := by rfl)
    (h1 : (assignEach [tg] X.env).map (·.2) = [assign tg X.env] := by rfl) : PSd X M0 H0 (.Assign [tg] e pos) (dAsg te g) :=
  PS.imp (ps_asg he hg hs hw h1) fun D σ H ⟨sd, M, Dd, w, q, c⟩ => ⟨sd, M, _, w, q, fun d M1 v H1 s1 r1 q1 => ⟨d, sd, M1, _, w.on s1, r1, q1, fun sd' M' σ' H' s r h => c.nx _ _ _ _ (s1.trans s) r h⟩⟩
theorem ds_set {i : Nat} (hN : X.N.Nodup) (hi : X.N[i]? = some x) (hx : Loc X.env.scope x) (he : PEd X M0 H0 e te) (hs : swapsWith e (some (.Name x pos')) pos.line X.env = pure false := by rfl) (hf : X.fn x = true ∨ X.env.scope.names.lookup x = some .local := by first | exact .inl rfl | exact .inr rfl | assumption) :
    PSd X M0 H0 (.Assign [.Name x pos'] e pos) (dAsg te (gN i)) :=
  PS.imp (ps_set hN hi hx he hs hf) fun D σ H ⟨sd, M, Dd, w, q, c⟩ => ⟨sd, M, _, w, q, fun d M1 v H1 s1 r1 q1 => c.nx _ _ _ _ s1 ((w.rs.keep s1.keep).set r1 i) q1⟩
/-- a, b = x, y -/
def dPar (i j : Nat) (ta : TAD) : TSD := fun D sd M => ta sd M fun ds M1 => match ds with
  | [d, e] => D.nx ((sd.set i (some d)).set j (some e)) M1
  | _ => False
theorem ds_par {i j : Nat} {x y : Str} {a b : Expr} {ta : TAD} {px py pt : Pos} {kt k2 pt2} (hc : X.calm = true) (hN : X.N.Nodup) (hi : X.N[i]? = some x) (hj : X.N[j]? = some y) (hij : i ≠ j)
    (hx : X.env.scope.names.lookup x = some .local) (hy : X.env.scope.names.lookup y = some .local) (ha : PAd X M0 H0 [a, b] ta)
    (hw : swappedStores [.Tuple [.Name x px, .Name y py] kt pt] (.Tuple [a, b] k2 pt2) X.env = pure (some [x, y]))
    (hs : swapsWithSole [.Tuple [.Name x px, .Name y py] kt pt] (.Tuple [a, b] k2 pt2) pos.line X.env = pure false := by rfl) :
    PSd X M0 H0 (.Assign [.Tuple [.Name x px, .Name y py] kt pt] (.Tuple [a, b] k2 pt2) pos) (dPar i j ta) :=
  PS.imp (ps_par hc hN hi hj hij hx hy ha hw hs) fun D σ H ⟨sd, M, Dd, w, q, c⟩ => ⟨sd, M, _, w, q, fun ds M1 vs H1 s1 r1 q1 => by
    split at q1
    · rename_i d e
      obtain ⟨v, u, rfl, r1, r2⟩ := r1.two
      exact ⟨v, u, rfl, c.nx _ _ _ _ s1 (((w.rs.keep s1.keep).set r1 i).set r2 j) q1⟩
    · exact q1.elim⟩
/-- name op= e -/
def LIp (K : PySem.W.Frag) (rd : R2d) : TIp := L2op K rd
def dAug (i : Nat) (te : TED) (rd : R2d) : TSD := fun D sd M => match sd[i]? with
  | some (some x) => te sd M fun y M1 => rd x y M1 fun z M2 => D.nx (sd.set i (some z)) M2
  | _ => False
theorem ds_aug {i : Nat} {op : Operator} {rd : R2d} (hN : X.N.Nodup) (hi : X.N[i]? = some x) (hx : Loc X.env.scope x) (he : PEd X M0 H0 e te) (ho : PIp X op (L2op X.K rd)) (hf : X.fn x = true ∨ X.env.scope.names.lookup x = some .local := by first | exact .inl rfl | exact .inr rfl | assumption) :
    PSd X M0 H0 (.AugAssign (.Name x pos') op e pos) (dAug i te rd) :=
  PS.imp (ps_aug hN hi hx he ho hf) fun D σ H ⟨sd, M, Dd, w, q, c⟩ => by
    unfold dAug at q
    split at q
    · rename_i d ed
      obtain ⟨v, hv, rv⟩ := w.rs.2 i d ed
      exact ⟨v, hv, sd, M, _, w, q, fun y M1 u H1 s1 r1 q1 => ⟨d, y, M1, _, rv.keep s1.keep, r1, s1.sr, q1, fun z M2 zv H2 s2 r2 q2 => c.nx _ _ _ _ (s1.trans s2) ((w.rs.keep (s1.keep.trans s2.keep)).set r2 i) q2⟩⟩
    · exact q.elim
end
theorem ip_of {op : Operator} {r : R2} {rd : R2d} (h : OpR X (inplaceOp op) r) (w : ∀ d e M Qd x y H Q, RD X.K H d x → RD X.K H e y → SR X.K M H → rd d e M Qd → Ct X.K M H Qd Q → r x y H Q) : PIp X op (L2op X.K rd) :=
  fun pins s σ H x y v u Q I rx ry ⟨d, e, M, Qd, r1, r2, sr, q, c⟩ => h pins s σ H x y v u Q I rx ry (w d e M Qd x y H Q r1 r2 sr q c)
/-- += on ints and texts -/
def dIAdd : R2d := fun d e M Q => match d, e with
  | .int i, .int j => Q (.int (i + j)) M
  | .str x, .str y => x.length + y.length ≤ 16777216 ∧ Q (.str (x ++ y)) M
  | _, _ => False
theorem xi_add : PIp X .Add (L2op X.K dIAdd) := ip_of (iop_add.or iop_add_str) fun d e M Qd x y H Q r1 r2 sr q c => by
  unfold dIAdd at q
  split at q
  · exact .inl ⟨_, _, r1.int_of, r2.int_of, c _ M _ H (.refl sr) .int q⟩
  · exact .inr ⟨_, _, r1.str_of, r2.str_of, by rw [← line_eq]; exact q.1, c _ M _ H (.refl sr) .str q.2⟩
  · exact q.elim
theorem xi_sub : PIp X .Sub (L2op X.K dSub) := ip_of iop_sub fun d e M Qd x y H Q r1 r2 sr q c => by
  unfold dSub dI0 at q
  split at q
  · exact ⟨_, _, r1.int_of, r2.int_of, c _ M _ H (.refl sr) .int q⟩
  · exact q.elim
theorem xi_or : PIp X .BitOr (L2op X.K dOr) := ip_of iop_or fun d e M Qd x y H Q r1 r2 sr q c => by
  unfold dOr dI0 at q
  split at q
  · exact ⟨_, _, r1.int_of, r2.int_of, c _ M _ H (.refl sr) .int q⟩
  · exact q.elim
/-! ### while -/
section
variable {c tg iter : Expr} {body : List Stmt} {tc : TTD} {tb : TSD} {pos : Pos}
def dWhile (c : TTD) (tb : TSD) : TSD := fun D sd M => ∃ W : Nat → StD → Mo → Prop, (∃ m, W m sd M) ∧ ∀ m sd M, W m sd M →
  c sd M fun b M1 => if b = true then tb { D with nx := fun sd' M' => ∃ m', m' < m ∧ W m' sd' M', ct := fun sd' M' => ∃ m', m' < m ∧ W m' sd' M', bk := D.nx } sd M1 else D.nx sd M1
theorem ds_while (hp : PassesOwn (model X.prog X.w) X.A X.env X.xe) (hc : PTd X M0 H0 c tc) (hb : PSsd X M0 H0 body tb) : PSd X M0 H0 (.While c body [] pos) (dWhile tc tb) :=
  PS.imp (ps_while hp hc hb) fun D σ H ⟨sd, M, Dd, w, ⟨W, ⟨m0, w0⟩, turn⟩, c⟩ => by
    refine ⟨fun m σ' H' => ∃ sd' M', Stp X.K M H M' H' ∧ Rs X.K H' sd' σ' ∧ W m sd' M', ⟨m0, sd, M, w.here, w.rs, w0⟩, ?_⟩
    rintro m σ' H' ⟨sd', M', s, r, hW⟩
    refine ⟨sd', M', _, ⟨w.st.trans s, r⟩, turn m sd' M' hW, fun b M1 H1 s1 q1 => ?_⟩
    have r1 := r.keep s1.keep
    have ss := s.trans s1
    cases b with
    | true =>
      rw [if_pos rfl] at q1
      refine iteT ?_
      refine ⟨fun σ2 H2 => ∃ m', m' < m ∧ ∃ sd2 M2, Stp X.K M H M2 H2 ∧ Rs X.K H2 sd2 σ2 ∧ W m' sd2 M2, fun σ2 H2 h => h, sd', M1, _, ⟨w.st.trans ss, r1⟩, q1, ⟨fun sd2 M2 σ2 H2 s2 r2 h => ?_, c.rt.on ss, fun sd2 M2 σ2 H2 s2 r2 h => c.nx _ _ _ _ (ss.trans s2) r2 h, fun sd2 M2 σ2 H2 s2 r2 h => ?_⟩⟩
      · obtain ⟨m', hm, hw⟩ := h
        exact ⟨m', hm, sd2, M2, ss.trans s2, r2, hw⟩
      · obtain ⟨m', hm, hw⟩ := h
        exact ⟨m', hm, sd2, M2, ss.trans s2, r2, hw⟩
    | false =>
      rw [if_neg Bool.false_ne_true] at q1
      exact iteF (c.nx _ _ _ _ ss r1 q1)
/-! ### for -/
/-- what is walked: its items, and what must hold at each turn -/
structure ItD where
  ds : List Dv
  ok : Mo → Prop
abbrev TID := StD → Mo → (ItD → Mo → Prop) → Prop
/-- the walk J' of the heap from (M, H) on gives J's items -/
structure ItRel (K : PySem.W.Frag) (J : ItD) (M : Mo) (H : Hp) (J' : It) : Prop where
  go : ∀ i d M1 H1, Stp K M H M1 H1 → J.ok M1 → J.ds[i]? = some d → J'.go i H1 ∧ ∀ x H2, J'.yld i H1 x H2 → Stp K M1 H1 M1 H2 ∧ RD K H2 d x
  stop : ∀ M1 H1, Stp K M H M1 H1 → J.ok M1 → J'.stop J.ds.length H1
def LI (K : PySem.W.Frag) (M0 : Mo) (H0 : Hp) (t : TID) : TI := fun σ H R => ∃ sd M Rd, At K M0 H0 sd M σ H ∧ t sd M Rd ∧ ∀ J M' J' H', Stp K M H M' H' → ItRel K J M' H' J' → Rd J M' → R J' H'
theorem PI.imp {X : Cx} {tg e : Expr} {t t' : TI} (h : PI X tg e t) (w : ∀ σ H Q, t' σ H Q → t σ H Q) : PI X tg e t' := ⟨fun pins s σ H Q I q => h.run pins s σ H Q I (w _ _ _ q)⟩
abbrev PId (X : Cx) (M : Mo) (H : Hp) (tg e : Expr) (t : TID) : Prop := PI X tg e (LI X.K M H t)
def dFor (wi : TID) (g : TGD) (tb : TSD) : TSD := fun D sd M => wi sd M fun J M1 => ∃ W : Nat → StD → Mo → Prop, W 0 sd M1 ∧ (∀ i sd M, i ≤ J.ds.length → W i sd M → J.ok M) ∧
  (∀ i d sd M, J.ds[i]? = some d → W i sd M → g d sd M fun sd2 M2 => tb { D with nx := W (i + 1), ct := W (i + 1), bk := D.nx } sd2 M2) ∧ ∀ sd M, W J.ds.length sd M → D.nx sd M
theorem ds_for {wi : TID} {g : TGD} (hp : PassesOwn (model X.prog X.w) X.A X.env X.xe) (hc : X.calm = true) (hi : PId X M0 H0 tg iter wi) (hg : PGd X M0 H0 tg g) (hb : PSsd X M0 H0 body tb)
    (hs : ∀ x, foldedSetIterable iter X.env x = pure x := by intro _; rfl) : PSd X M0 H0 (.For tg iter body [] pos) (dFor wi g tb) :=
  PS.imp (ps_for hp hc hi hg hb hs) fun D σ H ⟨sd, M, Dd, w, q, c⟩ => by
    refine ⟨sd, M, _, w, q, ?_⟩
    rintro J M1 J' H1 s1 jr ⟨W, w0, hok, turn, done⟩
    have w1 := w.on s1
    refine ⟨fun i m σ' H' => m = J.ds.length - i ∧ i ≤ J.ds.length ∧ ∃ sd' M', Stp X.K M1 H1 M' H' ∧ Rs X.K H' sd' σ' ∧ W i sd' M', ⟨J.ds.length, rfl, Nat.zero_le _, sd, M1, w1.here, w1.rs, w0⟩, ?_⟩
    rintro i m σ' H' ⟨rfl, hi', sd', M', s, r, hW⟩
    have ok := hok i sd' M' hi' hW
    by_cases hlt : i < J.ds.length
    · obtain ⟨g1, g2⟩ := jr.go i J.ds[i] M' H' s ok (by simp [hlt])
      refine .inr ⟨g1, fun σ2 H2 => ∃ sd2 M2, Stp X.K M1 H1 M2 H2 ∧ Rs X.K H2 sd2 σ2 ∧ W (i + 1) sd2 M2, fun σ2 H2 h => ⟨J.ds.length - (i + 1), by omega, rfl, hlt, h⟩, fun x H2 y => ?_⟩
      obtain ⟨s2, rx⟩ := g2 x H2 y
      have ss := s.trans s2
      refine ⟨J.ds[i], sd', M', _, ⟨w1.st.trans ss, r.keep s2.keep⟩, rx, turn i _ sd' M' (by simp [hlt]) hW, fun sd3 M3 σ3 H3 s3 r3 q3 => ?_⟩
      have s13 := ss.trans s3
      exact ⟨sd3, M3, _, ⟨w1.st.trans s13, r3⟩, q3, ⟨fun sd4 M4 σ4 H4 s4 r4 h => ⟨sd4, M4, s13.trans s4, r4, h⟩, c.rt.on (s1.trans s13), fun sd4 M4 σ4 H4 s4 r4 h => c.nx _ _ _ _ (s1.trans (s13.trans s4)) r4 h, fun sd4 M4 σ4 H4 s4 r4 h => ⟨sd4, M4, s13.trans s4, r4, h⟩⟩⟩
    · have e : i = J.ds.length := by omega
      subst e
      exact .inl ⟨jr.stop M' H' s ok, c.nx _ _ _ _ (s1.trans s) r (done sd' M' hW)⟩
/-- a list walked -/
def iSeq (t : TED) : TID := fun sd M R => t sd M fun d M1 => match d with
  | .lst ds => R ⟨ds, fun _ => True⟩ M1
  | .ref a => match M1 a with
    | some (.lst ds) => R ⟨ds, fun M => M a = some (.lst ds)⟩ M1
    | _ => False
  | _ => False
/-- list by its address: what stands there -/
theorem itl_rel {K : PySem.W.Frag} {M : Mo} {H : Hp} {a : Addr} {ds : List Dv} {ok : Mo → Prop} (h : ∀ M1 H1, Stp K M H M1 H1 → ok M1 → ∃ vs, SqL K H1 a vs ∧ RDs K H1 ds vs) : ItRel K ⟨ds, ok⟩ M H (Itl K a) :=
  ⟨fun i d M1 H1 s o e => by
    obtain ⟨vs, sq, rr⟩ := h M1 H1 s o
    obtain ⟨v, hv, rv⟩ := rr.get e
    refine ⟨⟨vs, v, sq, hv⟩, fun x H2 y => ?_⟩
    obtain ⟨rfl, y⟩ := y
    have := y vs sq
    rw [hv] at this
    cases this
    exact ⟨.refl s.sr, rv⟩, fun M1 H1 s o => by
    obtain ⟨vs, sq, rr⟩ := h M1 H1 s o
    exact ⟨vs, sq, by rw [← rr.length]; exact Nat.le_refl _⟩⟩
end
end
end DL

namespace DL
open PySem PySem.Spec PyProof.Rows L2
section
variable {X : Cx} {M0 : Mo} {H0 : Hp}
/-! ### what is walked -/
section
variable {e e2 tg : Expr} {te : TED} {ta : TAD} {p pos tpos : Pos}
theorem own_at {K : PySem.W.Frag} {M : Mo} {H : Hp} {a : Addr} {ds : List Dv} (s : SR K M H) (h : M a = some (.lst ds)) : ∃ vs, H a = some (.lst vs) ∧ RDs K H ds vs := by
  have o := s a _ h
  simp only [Own] at o
  exact o
theorem itl_own {K : PySem.W.Frag} {M : Mo} {H : Hp} {a : Addr} {ds : List Dv} : ItRel K ⟨ds, fun M => M a = some (.lst ds)⟩ M H (Itl K a) :=
  itl_rel fun M1 H1 s o => by
    obtain ⟨vs, hv, r⟩ := own_at s.sr o
    exact ⟨vs, .inl (.inl hv), r⟩
theorem itl_fz {K : PySem.W.Frag} {M : Mo} {H : Hp} {a : Addr} {ds : List Dv} {vs : List V} (f : FzL K H a vs) (r : RDs K H ds vs) : ItRel K ⟨ds, fun _ => True⟩ M H (Itl K a) :=
  itl_rel fun M1 H1 s o => ⟨vs, (s.keep.fz f).seq, r.keep s.keep⟩
/-- a list, as it stands at each turn -/
theorem di_list (he : PEd X M0 H0 e te) : PId X M0 H0 tg e (iSeq te) :=
  PI.imp (pi_list he) fun σ H R ⟨sd, M, Rd, w, q, c⟩ => ⟨sd, M, _, w, q, fun d M1 v H1 s1 r1 q1 => by
    split at q1
    · rename_i ds
      unfold RD at r1
      obtain ⟨a, vs, rfl, f, rr⟩ := r1
      exact ⟨a, rfl, ⟨vs, f.seq⟩, c _ _ _ _ s1 (itl_fz f rr) q1⟩
    · rename_i a
      split at q1
      · rename_i ds e
        obtain ⟨vs, hv, rr⟩ := own_at s1.sr e
        rw [r1.ref_of]
        exact ⟨a, rfl, ⟨vs, .inl (.inl hv)⟩, c _ _ _ _ s1 itl_own q1⟩
      · exact q1.elim
    · exact q1.elim⟩
/-- a tuple -/
def iTupD (t : TED) : TID := fun sd M R => t sd M fun d M1 => match d with
  | .tup ds => R ⟨ds, fun _ => True⟩ M1
  | _ => False
theorem di_tup (he : PEd X M0 H0 e te) : PId X M0 H0 tg e (iTupD te) :=
  PI.imp (pi_tup he) fun σ H R ⟨sd, M, Rd, w, q, c⟩ => ⟨sd, M, _, w, q, fun d M1 v H1 s1 r1 q1 => by
    split at q1
    · rename_i ds
      unfold RD at r1
      obtain ⟨a, vs, rfl, f, rr⟩ := r1
      refine ⟨a, rfl, ⟨vs, f⟩, c _ _ _ _ s1 ⟨fun i d M2 H2 s o e => ?_, fun M2 H2 s o => ?_⟩ q1⟩
      · obtain ⟨v, hv, rv⟩ := (rr.keep s.keep).get e
        refine ⟨⟨vs, v, s.keep.seqT f, hv⟩, fun x H3 y => ?_⟩
        obtain ⟨rfl, y⟩ := y
        have z := y vs (s.keep.seqT f)
        rw [hv] at z
        cases z
        exact ⟨.refl s.sr, rv⟩
      · exact ⟨vs, s.keep.seqT f, by rw [← rr.length]; exact Nat.le_refl _⟩
    · exact q1.elim⟩
def rngD (lo : Int) (n : Nat) : List Dv := (List.range n).map fun i => .int (lo + (i : Nat))
theorem rngD_length (lo : Int) (n : Nat) : (rngD lo n).length = n := by unfold rngD; simp
theorem rngD_get {lo : Int} {n i : Nat} {d : Dv} (h : (rngD lo n)[i]? = some d) : i < n ∧ d = .int (lo + (i : Nat)) := by
  have hi : i < n := by
    have := (List.getElem?_eq_some_iff.mp h).1
    rwa [rngD_length] at this
  refine ⟨hi, ?_⟩
  unfold rngD at h
  rw [List.getElem?_map, List.getElem?_range hi] at h
  exact (Option.some.inj h).symm
theorem itr_rel {K : PySem.W.Frag} {M : Mo} {H : Hp} {lo : Int} {n : Nat} : ItRel K ⟨rngD lo n, fun _ => True⟩ M H (Itr lo n) :=
  ⟨fun i d M1 H1 s o e => by
    obtain ⟨hi, rfl⟩ := rngD_get e
    refine ⟨hi, fun x H2 y => ?_⟩
    obtain ⟨rfl, rfl⟩ := y
    exact ⟨.refl s.sr, .int⟩, fun M1 H1 s o => by show n ≤ _; rw [rngD_length]; exact Nat.le_refl _⟩
def iRng1D (ta : TAD) : TID := fun sd M R => ta sd M fun ds M1 => match ds with
  | [.int j] => j < 4611686018427387904 ∧ -4611686018427387904 ≤ j ∧ R ⟨rngD 0 j.toNat, fun _ => True⟩ M1
  | _ => False
def iRng2D (ta : TAD) : TID := fun sd M R => ta sd M fun ds M1 => match ds with
  | [.int i, .int j] => (i < 4611686018427387904 ∧ -4611686018427387904 ≤ i ∧ j < 4611686018427387904 ∧ -4611686018427387904 ≤ j) ∧ R ⟨rngD i (j - i).toNat, fun _ => True⟩ M1
  | _ => False
theorem di_range1 (hg : Gl X "range") (hm : X.mg "range" = none) (ha : PAd X M0 H0 [e] ta) (hs : starEach [e] X.env = [(false, eval e X.env)] := by rfl) : PId X M0 H0 tg (.Call (.Name "range" p) [e] [] pos) (iRng1D ta) :=
  PI.imp (pi_range1 hg hm ha hs) fun σ H R ⟨sd, M, Rd, w, q, c⟩ => ⟨sd, M, _, w, q, fun d M1 v H1 s1 r1 q1 => by
    split at q1
    · rename_i j
      obtain ⟨v, rfl, r⟩ := r1.one
      rw [r.int_of]
      obtain ⟨h1, h2, q1⟩ := q1
      exact ⟨j, rfl, h2, h1, c _ _ _ _ s1 itr_rel q1⟩
    · exact q1.elim⟩
theorem di_range2 (hg : Gl X "range") (hm : X.mg "range" = none) (ha : PAd X M0 H0 [e, e2] ta) (hs : starEach [e, e2] X.env = [(false, eval e X.env), (false, eval e2 X.env)] := by rfl) (hs2 : starEach [e2] X.env = [(false, eval e2 X.env)] := by rfl) :
    PId X M0 H0 tg (.Call (.Name "range" p) [e, e2] [] pos) (iRng2D ta) :=
  PI.imp (pi_range2 hg hm ha hs hs2) fun σ H R ⟨sd, M, Rd, w, q, c⟩ => ⟨sd, M, _, w, q, fun d M1 v H1 s1 r1 q1 => by
    split at q1
    · rename_i i j
      obtain ⟨v, u, rfl, r, r'⟩ := r1.two
      rw [r.int_of, r'.int_of]
      obtain ⟨⟨h1, h2, h3, h4⟩, q1⟩ := q1
      exact ⟨i, j, rfl, ⟨h2, h1, h4, h3⟩, c _ _ _ _ s1 itr_rel q1⟩
    · exact q1.elim⟩
/-- a text's signs -/
def signsD (x : Str) : List Dv := x.cps.toList.map fun c => .str ⟨#[c]⟩
theorem signsD_get {x : Str} {i : Nat} {d : Dv} (h : (signsD x)[i]? = some d) : ∃ c, x.cps[i]? = some c ∧ d = .str ⟨#[c]⟩ := by
  unfold signsD at h
  rw [List.getElem?_map] at h
  cases e : x.cps.toList[i]? with
  | none => rw [e] at h; cases h
  | some c =>
    rw [e] at h
    exact ⟨c, by rw [← Array.getElem?_toList]; exact e, (Option.some.inj h).symm⟩
theorem its_rel {K : PySem.W.Frag} {M : Mo} {H : Hp} {x : Str} : ItRel K ⟨signsD x, fun _ => True⟩ M H (Its x) :=
  ⟨fun i d M1 H1 s o e => by
    obtain ⟨c, hc, rfl⟩ := signsD_get e
    refine ⟨(Array.getElem?_eq_some_iff.mp hc).1, fun v H2 y => ?_⟩
    obtain ⟨rfl, c', hc', rfl⟩ := y
    rw [hc] at hc'
    cases hc'
    exact ⟨.refl s.sr, .str⟩, fun M1 H1 s o => by show x.cps.size ≤ _; unfold signsD; simp⟩
def iStrD (t : TED) : TID := fun sd M R => t sd M fun d M1 => match d with
  | .str x => R ⟨signsD x, fun _ => True⟩ M1
  | _ => False
theorem di_str (he : PEd X M0 H0 e te) : PId X M0 H0 tg e (iStrD te) :=
  PI.imp (pi_str he) fun σ H R ⟨sd, M, Rd, w, q, c⟩ => ⟨sd, M, _, w, q, fun d M1 v H1 s1 r1 q1 => by
    split at q1
    · rename_i x
      exact ⟨x, r1.str_of, c _ _ _ _ s1 its_rel q1⟩
    · exact q1.elim⟩
/-- pairs of numbers and items -/
def enumD (n : Nat) : List Dv → List Dv
  | [] => []
  | d :: ds => .tup [.int (n : Nat), d] :: enumD (n + 1) ds
theorem enumD_length : ∀ (ds : List Dv) (n : Nat), (enumD n ds).length = ds.length
  | [], _ => rfl
  | d :: ds, n => by unfold enumD; rw [List.length_cons, List.length_cons, enumD_length ds]
theorem enumD_get : ∀ {ds : List Dv} {n i : Nat} {d : Dv}, (enumD n ds)[i]? = some d → ∃ x, ds[i]? = some x ∧ d = .tup [.int ((n + i : Nat) : Int), x]
  | [], _, _, _, h => by unfold enumD at h; simp at h
  | x :: ds, n, 0, d, h => by unfold enumD at h; simp at h; exact ⟨x, rfl, h.symm⟩
  | x :: ds, n, i + 1, d, h => by
    unfold enumD at h
    obtain ⟨y, hy, e⟩ := enumD_get (ds := ds) (n := n + 1) (i := i) (by simpa using h)
    refine ⟨y, by simpa using hy, ?_⟩
    rw [e]
    have : n + 1 + i = n + (i + 1) := by omega
    rw [this]
theorem RD.pair {K : PySem.W.Frag} {H : Hp} {T : Addr} {x y : V} {d e : Dv} (h1 : RD K H d x) (h2 : RD K H e y) (hT : H T = none) : RD K (upd H T (.tup [x, y])) (.tup [d, e]) (.ref T) := by
  have k : Keep H (upd H T (.tup [x, y])) := Keep.new hT
  unfold RD
  exact ⟨T, [x, y], rfl, .inl (.inl upd_same), .cons (h1.keep k) (.cons (h2.keep k) .nil)⟩
theorem ite_rel {K : PySem.W.Frag} {M : Mo} {H : Hp} {a : Addr} {ds : List Dv} {ok : Mo → Prop} (h : ∀ M1 H1, Stp K M H M1 H1 → ok M1 → ∃ vs, SqL K H1 a vs ∧ RDs K H1 ds vs) : ItRel K ⟨enumD 0 ds, ok⟩ M H (Ite K a) :=
  ⟨fun i d M1 H1 s o e => by
    obtain ⟨vs, sq, rr⟩ := h M1 H1 s o
    obtain ⟨y, hy, rfl⟩ := enumD_get e
    obtain ⟨v, hv, rv⟩ := rr.get hy
    refine ⟨⟨vs, v, sq, hv⟩, fun x H2 z => ?_⟩
    obtain ⟨T, x', rfl, hT, rfl, z⟩ := z
    have := z vs sq
    rw [hv] at this
    cases this
    refine ⟨Stp.new0 s.sr hT, ?_⟩
    rw [Nat.zero_add]
    exact RD.pair .int rv hT, fun M1 H1 s o => by
    obtain ⟨vs, sq, rr⟩ := h M1 H1 s o
    exact ⟨vs, sq, by rw [← rr.length]; show _ ≤ (enumD 0 ds).length; rw [enumD_length]; exact Nat.le_refl _⟩⟩
def iEnumD (ta : TAD) : TID := fun sd M R => ta sd M fun ds M1 => match ds with
  | [.lst xs] => R ⟨enumD 0 xs, fun _ => True⟩ M1
  | [.ref a] => match M1 a with
    | some (.lst xs) => R ⟨enumD 0 xs, fun M => M a = some (.lst xs)⟩ M1
    | _ => False
  | _ => False
theorem di_enum {elts : List Expr} {kk : Nat} (hg : Gl X "enumerate") (hm : X.mg "enumerate" = none) (ha : PAd X M0 H0 [e] ta) (hs : starEach [e] X.env = [(false, eval e X.env)] := by rfl) :
    PId X M0 H0 (.Tuple elts kk tpos) (.Call (.Name "enumerate" p) [e] [] pos) (iEnumD ta) :=
  PI.imp (pi_enum hg hm ha hs) fun σ H R ⟨sd, M, Rd, w, q, c⟩ => ⟨sd, M, _, w, q, fun d M1 v H1 s1 r1 q1 => by
    split at q1
    · rename_i ds
      obtain ⟨v, rfl, r⟩ := r1.one
      unfold RD at r
      obtain ⟨a, vs, rfl, f, rr⟩ := r
      exact ⟨a, vs, rfl, f.seq, c _ _ _ _ s1 (ite_rel fun M2 H2 s o => ⟨vs, (s.keep.fz f).seq, rr.keep s.keep⟩) q1⟩
    · rename_i a
      obtain ⟨v, rfl, r⟩ := r1.one
      split at q1
      · rename_i ds e
        obtain ⟨vs, hv, rr⟩ := own_at s1.sr e
        rw [r.ref_of]
        exact ⟨a, vs, rfl, .inl (.inl hv), c _ _ _ _ s1 (ite_rel fun M2 H2 s o => by
          obtain ⟨vs, hv, r⟩ := own_at s.sr o
          exact ⟨vs, .inl (.inl hv), r⟩) q1⟩
      · exact q1.elim
    · exact q1.elim⟩
end
/-! ### targets of a comprehension -/
inductive Tgt where
  | nm (i : Nat) | tp (ts : List Tgt)
mutual
def hG (K : PySem.W.Frag) : Tgt → TG
  | .nm i => gName i
  | .tp ts => gTup K ts.length (hGs K ts)
def hGs (K : PySem.W.Frag) : List Tgt → TGs
  | [] => gNil
  | t :: ts => gCons (hG K t) (hGs K ts)
end
mutual
def dG : Tgt → TGD
  | .nm i => gN i
  | .tp ts => gTp ts.length (dGs ts)
def dGs : List Tgt → TGsD
  | [] => gNl
  | t :: ts => gCn (dG t) (dGs ts)
end
mutual
def slotsT : Tgt → List Nat
  | .nm i => [i]
  | .tp ts => slotsTs ts
def slotsTs : List Tgt → List Nat
  | [] => []
  | t :: ts => slotsT t ++ slotsTs ts
end
mutual
theorem hG_imp {K : PySem.W.Frag} : ∀ (t : Tgt) (v : V) (σ : L2.St) (H : Hp) (Q : L2.St → Hp → Prop), LG K M0 H0 (dG t) v σ H Q → hG K t v σ H Q
  | .nm i, v, σ, H, Q, h => by
    unfold dG at h
    unfold hG
    obtain ⟨d, sd, M, Qd, w, r, q, c⟩ := h
    exact c _ _ _ _ w.here (w.rs.set r i) q
  | .tp ts, v, σ, H, Q, h => by
    unfold dG at h
    unfold hG
    obtain ⟨d, sd, M, Qd, w, r, q, c⟩ := h
    unfold gTp at q
    split at q
    · rename_i ds e
      obtain ⟨a, vs, rfl, sq, rr⟩ := seqT_ok r e
      exact ⟨a, vs, rfl, sq, by rw [← rr.length]; exact q.1, hGs_imp ts vs σ H Q ⟨ds, sd, M, Qd, w, rr, q.2, c⟩⟩
    · exact q.elim
theorem hGs_imp {K : PySem.W.Frag} : ∀ (ts : List Tgt) (vs : List V) (σ : L2.St) (H : Hp) (Q : L2.St → Hp → Prop), LGs K M0 H0 (dGs ts) vs σ H Q → hGs K ts vs σ H Q
  | [], vs, σ, H, Q, h => by
    unfold dGs at h
    unfold hGs
    obtain ⟨ds, sd, M, Qd, w, r, ⟨rfl, q⟩, c⟩ := h
    exact ⟨r.zero, c _ _ _ _ w.here w.rs q⟩
  | t :: ts, vs, σ, H, Q, h => by
    unfold dGs at h
    unfold hGs
    obtain ⟨ds, sd, M, Qd, w, r, q, c⟩ := h
    unfold gCn at q
    split at q
    · rename_i d ds'
      unfold RDs at r
      obtain ⟨v, vr, rfl, r1, r2⟩ := r
      exact ⟨v, vr, rfl, hG_imp t v σ H _ ⟨d, sd, M, _, w, r1, q, fun sd' M' σ' H' s rs h => hGs_imp ts vr σ' H' Q ⟨ds', sd', M', Qd, ⟨w.st.trans s, rs⟩, r2.keep s.keep, h, fun a b c' d' s' r' q' => c a b c' d' (s.trans s') r' q'⟩⟩⟩
    · exact q.elim
end
theorem wipe_set {σ : L2.St} {i : Nat} {o : Option V} : ∀ {vs : List Nat}, i ∈ vs → wipe (σ.set i o) vs = wipe σ vs
  | [], h => by simp at h
  | v :: vs, h => by
    unfold wipe
    by_cases e : i ∈ vs
    · rw [wipe_set e]
    · have ev : i = v := by
        rcases List.mem_cons.mp h with z | z
        · exact z
        · exact absurd z e
      subst ev
      have : ∀ (ws : List Nat) (σ : L2.St), i ∉ ws → wipe (σ.set i o) ws = (wipe σ ws).set i o := by
        intro ws
        induction ws with
        | nil => intro σ _; rfl
        | cons w ws ih =>
          intro σ hn
          unfold wipe
          rw [ih σ (fun z => hn (List.mem_cons_of_mem _ z))]
          rw [List.set_comm _ _ (fun z : w = i => hn (by rw [z]; exact List.mem_cons_self))]
      rw [this vs σ e, List.set_set]
mutual
theorem hG_wipe {K : PySem.W.Frag} {vs : List Nat} : ∀ (t : Tgt), (∀ i ∈ slotsT t, i ∈ vs) → ∀ (v : V) (σ : L2.St) (H : Hp) (Q : L2.St → Hp → Prop), hG K t v σ H Q → hG K t v σ H fun σ2 H2 => wipe σ2 vs = wipe σ vs ∧ Q σ2 H2
  | .nm i, hs, v, σ, H, Q, h => by
    unfold hG at h ⊢
    exact ⟨wipe_set (hs i (by unfold slotsT; simp)), h⟩
  | .tp ts, hs, v, σ, H, Q, h => by
    unfold hG at h ⊢
    obtain ⟨a, xs, e1, e2, e3, h⟩ := h
    exact ⟨a, xs, e1, e2, e3, hGs_wipe ts (fun i hi => hs i (by unfold slotsT; exact hi)) xs σ H Q h⟩
theorem hGs_wipe {K : PySem.W.Frag} {vs : List Nat} : ∀ (ts : List Tgt), (∀ i ∈ slotsTs ts, i ∈ vs) → ∀ (xs : List V) (σ : L2.St) (H : Hp) (Q : L2.St → Hp → Prop), hGs K ts xs σ H Q → hGs K ts xs σ H fun σ2 H2 => wipe σ2 vs = wipe σ vs ∧ Q σ2 H2
  | [], hs, xs, σ, H, Q, h => by
    unfold hGs at h ⊢
    exact ⟨h.1, rfl, h.2⟩
  | t :: ts, hs, xs, σ, H, Q, h => by
    unfold hGs at h ⊢
    obtain ⟨v, r, e, h⟩ := h
    refine ⟨v, r, e, ?_⟩
    have h1 := hG_wipe (vs := vs) t (fun i hi => hs i (by unfold slotsTs; exact List.mem_append_left _ hi)) v σ H _ h
    -- the rest, at each end of the first
    exact hG_mono t v σ H _ _ (fun σ2 H2 ⟨e2, z⟩ => by
      have h2 := hGs_wipe (vs := vs) ts (fun i hi => hs i (by unfold slotsTs; exact List.mem_append_right _ hi)) r σ2 H2 Q z
      exact hGs_mono ts r σ2 H2 _ _ (fun σ3 H3 ⟨e3, z3⟩ => ⟨e3.trans e2, z3⟩) h2) h1
theorem hG_mono {K : PySem.W.Frag} : ∀ (t : Tgt) (v : V) (σ : L2.St) (H : Hp) (Q Q' : L2.St → Hp → Prop), (∀ a b, Q a b → Q' a b) → hG K t v σ H Q → hG K t v σ H Q'
  | .nm i, v, σ, H, Q, Q', m, h => by
    unfold hG at h ⊢
    exact m _ _ h
  | .tp ts, v, σ, H, Q, Q', m, h => by
    unfold hG at h ⊢
    obtain ⟨a, xs, e1, e2, e3, h⟩ := h
    exact ⟨a, xs, e1, e2, e3, hGs_mono ts xs σ H Q Q' m h⟩
theorem hGs_mono {K : PySem.W.Frag} : ∀ (ts : List Tgt) (xs : List V) (σ : L2.St) (H : Hp) (Q Q' : L2.St → Hp → Prop), (∀ a b, Q a b → Q' a b) → hGs K ts xs σ H Q → hGs K ts xs σ H Q'
  | [], xs, σ, H, Q, Q', m, h => by
    unfold hGs at h ⊢
    exact ⟨h.1, m _ _ h.2⟩
  | t :: ts, xs, σ, H, Q, Q', m, h => by
    unfold hGs at h ⊢
    obtain ⟨v, r, e, h⟩ := h
    exact ⟨v, r, e, hG_mono t v σ H _ _ (fun σ2 H2 z => hGs_mono ts r σ2 H2 _ _ m z) h⟩
end
theorem wipe_in {σ : L2.St} {i : Nat} : ∀ {vs : List Nat}, i ∈ vs → (wipe σ vs)[i]? = if i < σ.length then some none else none
  | [], h => by simp at h
  | v :: vs, h => by
    unfold wipe
    by_cases e : v = i
    · subst e
      by_cases l : v < σ.length
      · rw [if_pos l, List.getElem?_set_self (by rw [wipe_length]; exact l)]
      · rw [if_neg l, List.getElem?_eq_none (by rw [List.length_set, wipe_length]; omega)]
    · rw [List.getElem?_set_ne e]
      exact wipe_in ((List.mem_cons.mp h).resolve_left (fun z => e z.symm))
theorem wipe_wipe (σ : L2.St) (vs : List Nat) : wipe (wipe σ vs) vs = wipe σ vs := by
  refine List.ext_getElem? fun i => ?_
  by_cases h : i ∈ vs
  · rw [wipe_in h, wipe_in h, wipe_length]
  · rw [wipe_out h]
/-! ### comprehensions -/
def wipeD (sd : StD) : List Nat → StD
  | [] => sd
  | v :: vs => (wipeD sd vs).set v none
theorem Rs.wipe {K : PySem.W.Frag} {H : Hp} {sd : StD} {σ : L2.St} (r : Rs K H sd σ) : ∀ vs : List Nat, Rs K H (wipeD sd vs) (L2.wipe σ vs)
  | [] => r
  | v :: vs => by
    unfold wipeD L2.wipe
    exact (Rs.wipe r vs).setN none v
structure PTsD (X : Cx) (M : Mo) (H : Hp) (ifs : List Expr) (t : TTD) : Prop where
  run : PTs X ifs (LT X.K M H t)
def dYes : TTD := fun _ M Q => Q true M
theorem PTs.imp {X : Cx} {e : List Expr} {t t' : TT} (h : PTs X e t) (w : ∀ σ H Q, t' σ H Q → t σ H Q) : PTs X e t' := ⟨fun pins s σ H Q I q => h.run pins s σ H Q I (w _ _ _ q)⟩
theorem dts_nil : PTsD X M0 H0 [] dYes := ⟨PTs.imp pts_nil fun σ H Q ⟨sd, M, Qd, w, q, c⟩ => c _ _ _ w.here q⟩
theorem dts_one {c : Expr} {t : TTD} (h : PTd X M0 H0 c t) : PTsD X M0 H0 [c] t := ⟨pts_one h⟩
def dLc (wi : TID) (g : Tgt) (tt : TTD) (te : TED) (vs : List Nat) : TED := fun sd M Q => wi sd M fun J M1 => J.ds.length ≤ 16777216 ∧ ∃ W : Nat → List Dv → Mo → Prop, W 0 [] M1 ∧
  (∀ i acc M, i ≤ J.ds.length → W i acc M → J.ok M) ∧
  (∀ i d acc M, J.ds[i]? = some d → acc.length ≤ i → W i acc M → dG g d (wipeD sd vs) M fun sd2 M2 => tt sd2 M2 fun b M3 =>
    if b = true then te sd2 M3 fun y M4 => W (i + 1) (acc ++ [y]) M4 else W (i + 1) acc M3) ∧
  ∀ acc M, acc.length ≤ J.ds.length → W J.ds.length acc M → ∀ p, M p = none → Q (.ref p) (mup M p (.lst acc))
theorem lc_imp {wi : TID} {g : Tgt} {tt : TTD} {te : TED} {vs : List Nat} (hv : ∀ i ∈ slotsT g, i ∈ vs) : ∀ σ H Q, LE X.K M0 H0 (dLc wi g tt te vs) σ H Q → tLc (LI X.K M0 H0 wi) (hG X.K g) (LT X.K M0 H0 tt) (LE X.K M0 H0 te) vs σ H Q := fun σ H Q ⟨sd, M, Qd, w, q, c⟩ => by
  refine ⟨sd, M, _, w, q, ?_⟩
  rintro J M1 J' H1 s1 jr ⟨hz, W, w0, hok, turn, done⟩ D hD
  have w1 := w.on s1
  -- with the new list at D, which is tracked, not owned
  refine ⟨fun i m H' => m = J.ds.length - i ∧ i ≤ J.ds.length ∧ ∃ M' acc vacc, Stp X.K M1 H1 M' H' ∧ M' D = none ∧ H' D = some (.lst vacc) ∧ RDs X.K H' acc vacc ∧ acc.length ≤ i ∧ W i acc M',
    ⟨J.ds.length, rfl, Nat.zero_le _, M1, [], [], Stp.new0 s1.sr hD, s1.sr.free hD, upd_same, .nil, Nat.zero_le _, w0⟩, ?_⟩
  rintro i m H' ⟨rfl, hi, M', acc, vacc, s, mD, eD, ra, la, hW⟩
  have ok := hok i acc M' hi hW
  by_cases hlt : i < J.ds.length
  · obtain ⟨g1, g2⟩ := jr.go i J.ds[i] M' H' s ok (by simp [hlt])
    refine .inr ⟨g1, fun H2 => ∃ M2 acc2 vacc2, Stp X.K M1 H1 M2 H2 ∧ M2 D = none ∧ H2 D = some (.lst vacc2) ∧ RDs X.K H2 acc2 vacc2 ∧ acc2.length ≤ i + 1 ∧ W (i + 1) acc2 M2, fun H2 h => ⟨J.ds.length - (i + 1), by omega, rfl, hlt, h⟩, fun x H2 y => ?_⟩
    obtain ⟨s2, rx⟩ := g2 x H2 y
    obtain ⟨eD2, _⟩ := s2.same D _ eD mD
    have s12 := s.trans s2
    have ws : At X.K M0 H0 (wipeD sd vs) M' (L2.wipe σ vs) H2 := ⟨w1.st.trans s12, (w1.rs.wipe vs).keep s12.keep⟩
    refine hG_mono g x _ _ _ _ (fun σ2 H3 z => ⟨z.1.trans (wipe_wipe σ vs), z.2⟩) (hG_wipe (vs := vs) g hv x (L2.wipe σ vs) H2 _ (hG_imp (M0 := M0) (H0 := H0) g x _ _ _ ⟨J.ds[i], _, M', _, ws, rx, turn i _ acc M' (by simp [hlt]) la hW, fun sd3 M3 σ3 H3 s3 r3 q3 => ?_⟩))
    have s13 := s12.trans s3
    refine ⟨sd3, M3, _, ⟨w1.st.trans s13, r3⟩, q3, fun b M4 H4 s4 q4 => ?_⟩
    have s14 := s13.trans s4
    obtain ⟨e4, m4⟩ := (s2.trans (s3.trans s4)).same D _ eD mD
    have ra4 : RDs X.K H4 acc vacc := ra.keep (s2.trans (s3.trans s4)).keep
    cases b with
    | true =>
      rw [if_pos rfl] at q4
      refine iteT ⟨sd3, M4, _, ⟨w1.st.trans s14, r3.keep s4.keep⟩, q4, fun d5 M5 v5 H5 s5 r5 q5 => ?_⟩
      obtain ⟨e5, m5⟩ := s5.same D _ e4 m4
      have mu : Mut (H5 D) := by rw [e5]; trivial
      have k : Keep H5 (upd H5 D (.lst (vacc ++ [v5]))) := Keep.mut mu
      have s15 := s14.trans s5
      refine ⟨vacc, e5, ?_, M5, acc ++ [d5], vacc ++ [v5], ?_, m5, upd_same, ((ra4.keep s5.keep).keep k).app (.cons (r5.keep k) .nil), ?_, q5⟩
      · have := ra.length
        rw [← line_eq]
        omega
      · refine ⟨s15.keep.trans k, fun a o e => ?_, fun a o h => ?_, fun a o h n => ?_⟩
        · have q : a ≠ D := fun z => by subst z; rw [m5] at e; cases e
          exact (s15.sr a o e).keep k (upd_ne q)
        · by_cases q : a = D
          · subst q
            rw [upd_same]
            intro z
            cases z
          · rw [upd_ne q]
            exact s15.old a o h
        · have q : a ≠ D := ne_of_none h hD
          rw [upd_ne q]
          exact s15.same a o h n
      · rw [List.length_append]
        show acc.length + 1 ≤ i + 1
        omega
    | false =>
      rw [if_neg Bool.false_ne_true] at q4
      exact iteF ⟨M4, acc, vacc, s14, m4, e4, ra4, by omega, q4⟩
  · have e : i = J.ds.length := by omega
    subst e
    exact .inl ⟨jr.stop M' H' s ok, c _ _ _ _ (s1.trans (Stp.take s.sr eD mD ra s hD)) .ref (done acc M' la hW D mD)⟩
section
variable {elt tg iter : Expr} {ifs : List Expr} {scope : Scope} {own : List (Str × Nat)} {pos : Pos} {wi : TID} {g : Tgt} {tt : TTD} {te : TED}
/-- [elt for target in iter if ..] as a value -/
theorem de_lc (hc : X.calm = true) (hN : X.N.Nodup) (hi : PId X M0 H0 tg iter wi) (ok : BlkOk X.N X.env.scope scope own)
    (hg : ∀ (s : Shared) (H : Hp) (C : Addr) (cl : List (Str × Addr)) (fp : List Addr), PG (X.blk s H scope (compEnvC scope cl C X.env) fp) tg (hG X.K g))
    (ht : ∀ (s : Shared) (H : Hp) (C : Addr) (cl : List (Str × Addr)) (fp : List Addr), PTsD (X.blk s H scope (compEnvC scope cl C X.env) fp) M0 H0 ifs tt)
    (he : ∀ (s : Shared) (H : Hp) (C : Addr) (cl : List (Str × Addr)) (fp : List Addr), PEd (X.blk s H scope (compEnvC scope cl C X.env) fp) M0 H0 elt te)
    (hv : (slotsT g).all (fun i => (own.map (·.2)).contains i) = true := by decide) (hs : ∀ x, foldedSetIterable iter X.env x = pure x := by intro _; rfl) :
    PEd X M0 H0 (.ListComp elt [⟨tg, iter, ifs, 0⟩] scope pos) (dLc wi g tt te (own.map (·.2))) :=
  PE.imp (pe_lc hc hN hi ok hg (fun s H C cl fp => (ht s H C cl fp).run) he hs) (lc_imp fun i hi => by
    have h := List.all_eq_true.mp hv i hi
    simpa using h)
/-- y = [..] -/
theorem ds_setLc {i : Nat} {y : Str} {py spos : Pos} (hc : X.calm = true) (hN : X.N.Nodup) (hy : X.N[i]? = some y) (hyl : X.env.scope.names.lookup y = some .local)
    (hsw : swapsWith (.ListComp elt [⟨tg, iter, ifs, 0⟩] scope pos) (some (.Name y py)) spos.line X.env = pure true) (hi : PId X M0 H0 tg iter wi) (ok : BlkOk X.N X.env.scope scope own)
    (hg : ∀ (s : Shared) (H : Hp) (C : Addr) (cl : List (Str × Addr)) (fp : List Addr), PG (X.blk s H scope (compEnvC scope cl C X.env) fp) tg (hG X.K g))
    (ht : ∀ (s : Shared) (H : Hp) (C : Addr) (cl : List (Str × Addr)) (fp : List Addr), PTsD (X.blk s H scope (compEnvC scope cl C X.env) fp) M0 H0 ifs tt)
    (he : ∀ (s : Shared) (H : Hp) (C : Addr) (cl : List (Str × Addr)) (fp : List Addr), PEd (X.blk s H scope (compEnvC scope cl C X.env) fp) M0 H0 elt te)
    (hv : (slotsT g).all (fun i => (own.map (·.2)).contains i) = true := by decide) (hs : ∀ x, foldedSetIterable iter X.env x = pure x := by intro _; rfl) :
    PSd X M0 H0 (.Assign [.Name y py] (.ListComp elt [⟨tg, iter, ifs, 0⟩] scope pos) spos) (dAsg (dLc wi g tt te (own.map (·.2))) (gN i)) :=
  PS.imp (ps_setLc hc hN hy hyl hsw hi ok hg (fun s H C cl fp => (ht s H C cl fp).run) he hs) fun D σ H ⟨sd, M, Dd, w, q, c⟩ =>
    lc_imp (fun i hi => by
      have h := List.all_eq_true.mp hv i hi
      simpa using h) σ H _ ⟨sd, M, _, w, q, fun d M1 v H1 s1 r1 q1 => c.nx _ _ _ _ s1 ((w.rs.keep s1.keep).set r1 i) q1⟩
end
end
end DL

namespace DL
open PySem PySem.Spec PyProof.Rows L2
/-! ### what a def promises, over data -/
/-- an error: its class, its one field -/
abbrev EXD := Addr → Dv → Mo → Prop
abbrev SpD := List Dv → Mo → QD → EXD → Prop
def CtX (K : PySem.W.Frag) (M : Mo) (H : Hp) (Ed : EXD) (E : XK) : Prop := ∀ C d M' a v f H', Stp K M H M' H' → H' a = some (.xd [(f, v)]) → RD K H' d v → Ed C d M' → E (.ref C) (some a) H'
theorem CtX.on {K : PySem.W.Frag} {M M1 : Mo} {H H1 : Hp} {Ed : EXD} {E : XK} (c : CtX K M H Ed E) (s : Stp K M H M1 H1) : CtX K M1 H1 Ed E := fun C d M' a v f H' s' h r q => c C d M' a v f H' (s.trans s') h r q
def LSp (K : PySem.W.Frag) (sp : SpD) : Sp := fun vs H Q E => ∃ ds M Qd Ed, RDs K H ds vs ∧ SR K M H ∧ sp ds M Qd Ed ∧ Ct K M H Qd Q ∧ CtX K M H Ed E
abbrev Ed0 : EXD := fun _ _ _ => False
theorem ctx0 {K : PySem.W.Frag} {M : Mo} {H : Hp} {E : XK} : CtX K M H Ed0 E := fun _ _ _ _ _ _ _ _ _ _ q => q.elim
/-- what one owns may be let go -/
def Sub (M M' : Mo) : Prop := ∀ a o, M a = some o → M' a = some o
theorem Sub.refl (M : Mo) : Sub M M := fun _ _ h => h
theorem Sub.trans {M M1 M2 : Mo} (a : Sub M M1) (b : Sub M1 M2) : Sub M M2 := fun c o h => b c o (a c o h)
theorem Sub.new {M : Mo} {p : Addr} {o : OO} (h : M p = none) : Sub M (mup M p o) := fun c u e => by
  rw [mup_ne (fun z => by subst z; rw [h] at e; cases e)]
  exact e
theorem Sub.mup {M M' : Mo} {p : Addr} {o : OO} (h : Sub M M') : Sub (mup M p o) (mup M' p o) := fun c u e => by
  by_cases z : c = p
  · subst z
    rw [mup_same] at e ⊢
    exact e
  · rw [mup_ne z] at e ⊢
    exact h c u e
def Fg (Q : QD) : QD := fun d M' => ∃ M, Sub M M' ∧ Q d M
theorem Fg.here {Q : QD} {d : Dv} {M : Mo} (h : Q d M) : Fg Q d M := ⟨M, .refl M, h⟩
theorem Stp.sub {K : PySem.W.Frag} {M M1 M2 : Mo} {H H1 : Hp} (s : Stp K M H M1 H1) (h : Sub M2 M1) : Stp K M H M2 H1 :=
  ⟨s.keep, fun a o e => s.sr a o (h a o e), s.old, fun a o e n => by
    obtain ⟨e1, e2⟩ := s.same a o e n
    refine ⟨e1, ?_⟩
    cases q : M2 a with
    | none => rfl
    | some u =>
      have := h a u q
      rw [e2] at this
      cases this⟩
def startD (N : List Str) (ds : List Dv) : StD := ds.map some ++ List.replicate (N.length - ds.length) none
theorem start_rs {K : PySem.W.Frag} {H : Hp} {N : List Str} {ds : List Dv} {vs : List V} (r : RDs K H ds vs) : Rs K H (startD N ds) (L2.start N vs) := by
  unfold startD L2.start
  refine ⟨by rw [List.length_append, List.length_append, List.length_map, List.length_map, List.length_replicate, List.length_replicate, r.length], fun i d h => ?_⟩
  by_cases hi : i < ds.length
  · rw [List.getElem?_append_left (by simpa using hi), List.getElem?_map] at h
    rw [List.getElem?_append_left (by rw [List.length_map, ← r.length]; exact hi), List.getElem?_map]
    cases e : ds[i]? with
    | none => rw [e] at h; cases h
    | some d' =>
      rw [e] at h
      cases h
      obtain ⟨v, hv, rv⟩ := r.get e
      exact ⟨v, by rw [hv]; rfl, rv⟩
  · rw [List.getElem?_append_right (by simpa using hi), List.getElem?_replicate] at h
    split at h <;> cases h
section
variable {P : Program} {w : World} {K : PySem.W.Frag} {mg : Str → Option Value} {base : Heap}
/-- THE RULE for a def over data -/
theorem okD {x qual : Str} {st : Stmt} {f : Addr} {fd : FuncData} {N ps : List Str} {k : Nat} {sp : SpD} (F : Fun K x qual st f fd) (S : FnScope N ps (defScope st)) (len : ∀ ds M Q E, sp ds M Q E → ds.length = ps.length)
    (hbody : ∀ (cdv : Value) (A : Around) (outer : List Env) (s : Shared) (H : Hp) (M : Mo) (ds : List Dv) (Qd : QD) (Ed : EXD) (E : XK), Room k (A.deeper (envOfC qual (defScope st) s.heap.objs.size f cdv)) → CtX K M H Ed E → sp ds M Qd Ed →
      ∃ t, PSsd (cxOf (L2.CX P w) P w K mg base N qual (defScope st) f cdv A outer s H E) M H (defBody st) t ∧ t { nx := fun _ M' => Fg Qd .non M', rt := Fg Qd } (startD N ds) M) : FnOk P w K mg base (L2.CX P w) (k + 1) f fd ps (LSp K sp) := by
  refine F.okX S (fun vs H Q E h => ?_) (fun cdv A outer s H vs Q E hr h => ?_)
  · obtain ⟨ds, M, Qd, Ed, r, sr, h, _, _⟩ := h
    rw [← r.length]
    exact len ds M Qd Ed h
  · obtain ⟨ds, M, Qd, Ed, r, sr, h, c, cx⟩ := h
    obtain ⟨t, ht, hq⟩ := hbody cdv A outer s H M ds Qd Ed E hr cx h
    refine ⟨LS K M H t, ht, startD N ds, M, _, ⟨.refl sr, start_rs r⟩, hq, ⟨fun sd M' σ H' s rs ⟨M2, hs, q⟩ => c .non M2 .non H' (s.sub hs) .non q, fun d M' v H' s r ⟨M2, hs, q⟩ => c d M2 v H' (s.sub hs) r q, fun _ _ _ _ _ _ q => q.elim, fun _ _ _ _ _ _ q => q.elim⟩⟩
end
section
variable {X : Cx} {M0 : Mo} {H0 : Hp}
/-- f(..) -/
def dCall (sp : SpD) (dvs : List Dv) (Ed : EXD) (t : TAD) : TED := fun sd M Q => t sd M fun ds M1 => sp (ds ++ dvs) M1 Q Ed
section
variable {CX : CXT} {k : Nat} {f : Addr} {fd : FuncData} {ps : List Str} {sp : SpD} {ddvs : List Dv} {dvs : List V} {us : List Value} {Ed : EXD} {E : XK} {x : Str} {p pos : Pos} {e : Expr} {es : List Expr} {t tk : TAD}
theorem call_imp (hdd : ∀ H, RDs X.K H ddvs dvs) (hE : CtX X.K M0 H0 Ed E) : ∀ σ H Q, LE X.K M0 H0 (dCall sp ddvs Ed t) σ H Q → tCall (LSp X.K sp) dvs E (LA X.K M0 H0 t) σ H Q := fun σ H Q ⟨sd, M, Qd, w, q, c⟩ =>
  ⟨sd, M, _, w, q, fun ds M1 vs H1 s1 r1 q1 => ⟨ds ++ ddvs, M1, Qd, Ed, r1.app (hdd H1), s1.sr, q1, c.on s1, hE.on (w.st.trans s1)⟩⟩
theorem de_call (F : FnOk X.prog X.w X.K X.mg X.base CX k f fd ps (LSp X.K sp)) (hr : Room k X.A) (hg : Gl X x) (hm : X.mg x = some (.ref f)) (hk : PySem.W.keepIn X.K (.ref f) = true) (hb : Binds X.K fd ps us) (hd : Vals dvs us) (hdd : ∀ H, RDs X.K H ddvs dvs)
    (hx : Passes CX X E) (hE : CtX X.K M0 H0 Ed E) (ha : PAd X M0 H0 (e :: es) t) (hdb : (x == ("__debug__" : Str)) = false := by decide) (he : starEach (e :: es) X.env = (false, eval e X.env) :: starEach es X.env := by rfl) (hpl : (backTo pos (starEach es X.env)).any (·.1) = false := by rfl) :
    PEd X M0 H0 (.Call (.Name x p) (e :: es) [] pos) (dCall sp ddvs Ed t) := PE.imp (pe_call F hr hg hm hk hb hd hx ha hdb he hpl) (call_imp hdd hE)
theorem tnil_imp : ∀ σ H Q, LA X.K M0 H0 dNilA σ H Q → tNil σ H Q := fun σ H Q ⟨sd, M, Qd, w, q, c⟩ => c _ _ _ _ w.here .nil q
theorem de_call0 (F : FnOk X.prog X.w X.K X.mg X.base CX k f fd ps (LSp X.K sp)) (hr : Room k X.A) (hg : Gl X x) (hm : X.mg x = some (.ref f)) (hk : PySem.W.keepIn X.K (.ref f) = true) (hb : Binds X.K fd ps us) (hd : Vals dvs us) (hdd : ∀ H, RDs X.K H ddvs dvs)
    (hx : Passes CX X E) (hE : CtX X.K M0 H0 Ed E) (hdb : (x == ("__debug__" : Str)) = false := by decide) :
    PEd X M0 H0 (.Call (.Name x p) [] [] pos) (dCall sp ddvs Ed dNilA) := PE.imp (pe_call0 F hr hg hm hk hb hd hx hdb) fun σ H Q h => tnil_imp (M0 := M0) (H0 := H0) σ H _ (call_imp hdd hE σ H Q h)
/-- f(e, .., k = v, ..) -/
def dCallK (sp : SpD) (gD : List Dv → List Dv → List Dv) (Ed : EXD) (t tk : TAD) : TED := fun sd M Q => t sd M fun ds M1 => tk sd M1 fun zs M2 => sp (gD ds zs) M2 Q Ed
abbrev PKd (X : Cx) (M : Mo) (H : Hp) (ks : List Keyword) (t : TAD) : Prop := PK X ks (LA X.K M H t)
theorem PK.imp {X : Cx} {e : List Keyword} {t t' : TA} (h : PK X e t) (w : ∀ σ H Q, t' σ H Q → t σ H Q) : PK X e t' := ⟨fun pos pins s σ H Q I q => h.run pos pins s σ H Q I (w _ _ _ q)⟩
theorem dk_nil : PKd X M0 H0 [] dNilA := PK.imp pk_nil tnil_imp
theorem dk_cons {te : TED} {kws : List Keyword} {nm : Option Str} {kpos : Pos} (ha : PEd X M0 H0 e te) (hr : PKd X M0 H0 kws t) : PKd X M0 H0 (⟨nm, e, kpos⟩ :: kws) (dConsA te t) :=
  PK.imp (pk_cons ha hr) fun σ H Q ⟨sd, M, Qd, w, q, c⟩ => ⟨sd, M, _, w, q, fun d M1 v H1 s1 r1 q1 => ⟨sd, M1, _, w.on s1, q1, fun ds M2 vs H2 s2 r2 q2 => c _ _ _ _ (s1.trans s2) (RDs.cons (r1.keep s2.keep) r2) q2⟩⟩
theorem de_callK {ks : List Str} {kws : List Keyword} {g : List Value → List Value → List Value} {gV : List V → List V → List V} {gD : List Dv → List Dv → List Dv} (F : FnOk X.prog X.w X.K X.mg X.base CX k f fd ps (LSp X.K sp)) (hr : Room k X.A) (hg : Gl X x) (hm : X.mg x = some (.ref f)) (hk : PySem.W.keepIn X.K (.ref f) = true)
    (hb : KBinds X.K fd ps ks g gV) (hgd : ∀ {H ds vs zs ws}, RDs X.K H ds vs → RDs X.K H zs ws → RDs X.K H (gD ds zs) (gV vs ws)) (hx : Passes CX X E) (hE : CtX X.K M0 H0 Ed E)
    (ha : PAd X M0 H0 (e :: es) t) (hkw : PKd X M0 H0 kws tk) (hall : (backToKw pos (keywordEach kws X.env)).all (·.1.isSome) = true := by rfl) (hks : (backToKw pos (keywordEach kws X.env)).filterMap (·.1) = ks := by rfl)
    (hdb : (x == ("__debug__" : Str)) = false := by decide) (he : starEach (e :: es) X.env = (false, eval e X.env) :: starEach es X.env := by rfl)
    (hpl : ((backTo pos (starEach (e :: es) X.env)).any (·.1) || (backToKw pos (keywordEach kws X.env)).any (·.1.isNone)) = false := by rfl) : PEd X M0 H0 (.Call (.Name x p) (e :: es) kws pos) (dCallK sp gD Ed t tk) :=
  PE.imp (pe_callK F hr hg hm hk hb hx ha hkw hall hks hdb he hpl) fun σ H Q ⟨sd, M, Qd, w, q, c⟩ => ⟨sd, M, _, w, q, fun ds M1 vs H1 s1 r1 q1 => ⟨sd, M1, _, w.on s1, q1, fun zs M2 ws H2 s2 r2 q2 =>
    ⟨gD ds zs, M2, Qd, Ed, hgd (r1.keep s2.keep) r2, s2.sr, q2, c.on (s1.trans s2), hE.on (w.st.trans (s1.trans s2))⟩⟩⟩
end
/-! ### products -/
def dMul : R2d := fun d e M Q => match d, e with
  | .int i, .int j => CMul i j ∧ Q (.int (i * j)) M
  | _, _ => False
theorem od_mul : OpR X (binaryOp .Mult) (L2op X.K dMul) := opd_I op_mul fun d e M Qd x y H Q r1 r2 sr q c => by
  unfold dMul at q
  split at q
  · exact ⟨_, _, r1.int_of, r2.int_of, q.1, c _ M _ H (.refl sr) .int q.2⟩
  · exact q.elim
/-! ### methods of built-in types by values -/
abbrev RMd := Dv → List Dv → Mo → QD → Prop
def LMop (K : PySem.W.Frag) (rd : RMd) : V → List V → Hp → VK → Prop := fun x xs H Q => ∃ d ds M Qd, RD K H d x ∧ RDs K H ds xs ∧ SR K M H ∧ rd d ds M Qd ∧ Ct K M H Qd Q
def tyD (T : String) (d : Dv) (M : Mo) : Prop := match d with
  | .str _ => T = "str"
  | .int _ => T = "int"
  | .lst _ => T = "list"
  | .ref a => match M a with
    | some (.lst _) => T = "list"
    | some (.dK _) => T = "dict"
    | some (.dT _) => T = "dict"
    | _ => False
  | _ => False
theorem ty_of {K : PySem.W.Frag} {M : Mo} {H : Hp} {d : Dv} {v : V} {T : String} (s : SR K M H) (r : RD K H d v) (h : tyD T d M) : tyV K T v H := by
  unfold tyD at h
  split at h
  · rw [r.str_of]; exact h
  · rw [r.int_of]; exact h
  · unfold RD at r
    obtain ⟨a, vs, rfl, f, _⟩ := r
    exact .inl ⟨h, vs, f.seq⟩
  · rw [r.ref_of]
    split at h
    · rename_i a _ ds e
      obtain ⟨vs, hv, _⟩ := own_at s e
      exact .inl ⟨h, vs, .inl (.inl hv)⟩
    · rename_i a _ kvs e
      have o := s _ _ e
      simp only [Own] at o
      obtain ⟨vks, hv, _⟩ := o
      exact .inr (.inr (.inl ⟨h, .inl ⟨_, hv⟩⟩))
    · rename_i a _ kvs e
      have o := s _ _ e
      simp only [Own] at o
      obtain ⟨vks, hv, _⟩ := o
      exact .inr (.inr (.inl ⟨h, .inr ⟨_, hv⟩⟩))
    · exact h.elim
  · exact h.elim
def dBM0 (T : String) (rd : RMd) (to : TED) : TED := fun sd M Q => to sd M fun d M1 => tyD T d M1 ∧ rd d [] M1 Q
def dBM (T : String) (rd : RMd) (to : TED) (t : TAD) : TED := fun sd M Q => to sd M fun d M1 => tyD T d M1 ∧ t sd M1 fun ds M2 => rd d ds M2 Q
section
variable {o e : Expr} {es : List Expr} {to te : TED} {t : TAD} {name : Str} {apos cpos : Pos} {T id : String} {rd : RMd}
theorem de_bm0 (pa : PlainAttrs T) (slot : Slot T name id) (hty : typeOf (.builtin id) = pure (.type "method_descriptor")) (hm : MtR X id (LMop X.K rd)) (ho : PEd X M0 H0 o to)
    (hbase : attributeBase o name X.env (eval o X.env) = eval o X.env := by rfl) (hline : (apos.endLine == cpos.line) = true := by rfl) : PEd X M0 H0 (.Call (.Attribute o name apos) [] [] cpos) (dBM0 T rd to) :=
  PE.imp (pe_bm0 pa slot hty hm ho hbase hline) fun σ H Q ⟨sd, M, Qd, w, q, c⟩ => ⟨sd, M, _, w, q, fun d M1 v H1 s1 r1 q1 => ⟨ty_of s1.sr r1 q1.1, d, [], M1, Qd, r1, .nil, s1.sr, q1.2, c.on s1⟩⟩
theorem de_bm (pa : PlainAttrs T) (slot : Slot T name id) (hty : typeOf (.builtin id) = pure (.type "method_descriptor")) (hm : MtR X id (LMop X.K rd)) (ho : PEd X M0 H0 o to) (ha : PAd X M0 H0 (e :: es) t)
    (hbase : attributeBase o name X.env (eval o X.env) = eval o X.env := by rfl)
    (hfew : ((backTo cpos (starEach (e :: es) X.env)).all (fun x => !x.1) && (backToKw cpos (keywordEach [] X.env)).all (fun x => x.1.isSome)
      && decide ((e :: es).length + ([] : List Keyword).length + (if ([] : List Keyword).isEmpty then 0 else 1) < 30)) = true := by rfl)
    (hline : (apos.endLine == cpos.line) = true := by rfl) (hs : starEach (e :: es) X.env = (false, eval e X.env) :: starEach es X.env := by rfl) (hplain : (backTo cpos (starEach es X.env)).any (·.1) = false := by rfl) :
    PEd X M0 H0 (.Call (.Attribute o name apos) (e :: es) [] cpos) (dBM T rd to t) :=
  PE.imp (pe_bm pa slot hty hm ho ha hbase hfew hline hs hplain) fun σ H Q ⟨sd, M, Qd, w, q, c⟩ => ⟨sd, M, _, w, q, fun d M1 v H1 s1 r1 q1 => ⟨ty_of s1.sr r1 q1.1, sd, M1, _, w.on s1, q1.2, fun ds M2 vs H2 s2 r2 q2 => ⟨d, ds, M2, Qd, r1.keep s2.keep, r2, s2.sr, q2, c.on (s1.trans s2)⟩⟩⟩
end
theorem md_I {id : String} {r : V → List V → Hp → VK → Prop} {rd : RMd} (h : MtR X id r) (w : ∀ d ds M Qd x xs H Q, RD X.K H d x → RDs X.K H ds xs → SR X.K M H → rd d ds M Qd → Ct X.K M H Qd Q → r x xs H Q) : MtR X id (LMop X.K rd) :=
  fun pins s σ H x xs v us Q I rx rs ⟨d, ds, M, Qd, r1, r2, sr, q, c⟩ => h pins s σ H x xs v us Q I rx rs (w d ds M Qd x xs H Q r1 r2 sr q c)
/-- xs.append(y) -/
def dAppend : RMd := fun d ds M Q => match d, ds with
  | .ref a, [y] => match M a with
    | some (.lst xs) => xs.length < 16777216 ∧ Q .non (mup M a (.lst (xs ++ [y])))
    | _ => False
  | _, _ => False
theorem stp_lst {K : PySem.W.Frag} {M : Mo} {H : Hp} {a : Addr} {ds es : List Dv} {vs ws : List V} (sr : SR K M H) (h : M a = some (.lst ds)) (hv : H a = some (.lst vs)) (r : ∀ H', Keep H H' → RDs K H' es ws) : Stp K M H (mup M a (.lst es)) (upd H a (.lst ws)) := by
  have mu : Mut (H a) := by rw [hv]; trivial
  refine Stp.set sr h mu ?_
  simp only [Own]
  exact ⟨ws, upd_same, r _ (Keep.mut mu)⟩
theorem md_append : MtR X "list.append" (LMop X.K dAppend) := md_I mt_append fun d ds M Qd x xs H Q r1 r2 sr q c => by
  unfold dAppend at q
  split at q
  · rename_i a y
    split at q
    · rename_i zs e
      obtain ⟨vs, hv, rr⟩ := own_at sr e
      obtain ⟨u, rfl, ru⟩ := r2.one
      rw [r1.ref_of]
      exact ⟨a, vs, u, rfl, rfl, hv, by rw [← rr.length, ← line_eq]; exact q.1, c _ _ _ _ (stp_lst sr e hv fun H' k => (rr.keep k).app (.cons (ru.keep k) .nil)) .non q.2⟩
    · exact q.elim
  · exact q.elim
/-- s.join(xs) -/
def strsOf : List Dv → Option (List Str)
  | [] => some []
  | .str b :: ds => (strsOf ds).map (b :: ·)
  | _ => none
theorem strsOf_ok {K : PySem.W.Frag} {H : Hp} : ∀ {ds : List Dv} {vs : List V} {bs : List Str}, RDs K H ds vs → strsOf ds = some bs → vs = bs.map V.str
  | [], vs, bs, r, h => by unfold strsOf at h; cases h; exact r.zero
  | d :: ds, vs, bs, r, h => by
    unfold RDs at r
    obtain ⟨v, w, rfl, r1, r2⟩ := r
    cases d with
    | str b =>
      unfold strsOf at h
      cases q : strsOf ds with
      | none => rw [q] at h; cases h
      | some cs =>
        rw [q] at h
        cases h
        rw [r1.str_of, strsOf_ok r2 q]
        rfl
    | _ => unfold strsOf at h; cases h
theorem strsOf_map (bs : List Str) : strsOf (bs.map Dv.str) = some bs := by
  induction bs with
  | nil => rfl
  | cons b bs ih => rw [List.map_cons]; unfold strsOf; rw [ih]; rfl
theorem blsOf_map (bs : List Bool) : blsOf (bs.map Dv.bl) = some bs := by
  induction bs with
  | nil => rfl
  | cons b bs ih => rw [List.map_cons]; unfold blsOf; rw [ih]; rfl
def dJoin : RMd := fun d ds M Q => match d, ds with
  | .str a, [y] => match (seqL M y).bind strsOf with
    | some ys => (ys.map (·.length)).sum + ys.length * a.length ≤ 16777216 ∧ Q (.str (Txt.join a ys)) M
    | none => False
  | _, _ => False
theorem md_join : MtR X "str.join" (LMop X.K dJoin) := md_I mt_join fun d ds M Qd x xs H Q r1 r2 sr q c => by
  unfold dJoin at q
  split at q
  · rename_i a y
    split at q
    · rename_i ys e
      obtain ⟨es, h1, h2⟩ := Option.bind_eq_some_iff.mp e
      obtain ⟨u, rfl, ru⟩ := r2.one
      obtain ⟨p, vs, rfl, sq, rr⟩ := seqL_ok sr ru h1
      rw [strsOf_ok rr h2] at sq
      rw [r1.str_of]
      exact ⟨a, p, ys, rfl, rfl, .inl sq, q.1, c _ _ _ _ (.refl sr) .str q.2⟩
    · exact q.elim
  · exact q.elim
/-! ### isinstance against built-in classes -/
/-- the built-in class of a value -/
def tyN (M : Mo) : Dv → Option String
  | .non => some "NoneType"
  | .bl _ => some "bool"
  | .int _ => some "int"
  | .str _ => some "str"
  | .lst _ => some "list"
  | .tup _ => some "tuple"
  | .ref a => match M a with
    | some (.lst _) => some "list"
    | some (.dK _) => some "dict"
    | some (.dT _) => some "dict"
    | _ => none
  | _ => none
theorem tyN_ok {K : PySem.W.Frag} {M : Mo} {H : Hp} {d : Dv} {v : V} {n : String} (s : SR K M H) (r : RD K H d v) (h : tyN M d = some n) : TyX K H v (.type n) := by
  unfold tyN at h
  split at h
  · cases h; rw [r.non_of]; exact .base .non
  · cases h; rw [r.bl_of]; exact .base (.bl _)
  · cases h; rw [r.int_of]; exact .base (.int _)
  · cases h; rw [r.str_of]; exact .base (.str _)
  · cases h
    unfold RD at r
    obtain ⟨a, vs, rfl, f, _⟩ := r
    rcases f with ⟨o, f⟩ | ⟨o, its, n, f, f2, _⟩
    · exact .base (.frz f)
    · exact .kList f f2
  · cases h
    unfold RD at r
    obtain ⟨a, vs, rfl, f, _⟩ := r
    rcases f with (f | ⟨o, f⟩) | ⟨o, its, n, f, f2, _⟩
    · exact .base (.tup f)
    · exact .fTuple f
    · exact .kTuple f f2
  · rw [r.ref_of]
    split at h
    · rename_i a _ ds e
      cases h
      obtain ⟨vs, hv, _⟩ := own_at s e
      exact .base (.lst hv)
    · rename_i a _ kvs e
      cases h
      have o := s _ _ e
      simp only [Own] at o
      obtain ⟨vks, hv, _⟩ := o
      exact .base (.dK hv)
    · rename_i a _ kvs e
      cases h
      have o := s _ _ e
      simp only [Own] at o
      obtain ⟨vks, hv, _⟩ := o
      exact .base (.dT hv)
    · cases h
  · cases h
def isiB (a b : String) : Bool := a == b || (a == "bool" && b == "int")
def knownT (b : String) : Bool := b == "int" || b == "str" || b == "bool" || b == "list" || b == "tuple" || b == "dict"
theorem kit_known {a b : String} (ha : a = "NoneType" ∨ a = "bool" ∨ a = "int" ∨ a = "str" ∨ a = "list" ∨ a = "tuple" ∨ a = "dict") (hb : knownT b = true) : kitB a b = some (isiB a b) := by
  have hb' : b = "int" ∨ b = "str" ∨ b = "bool" ∨ b = "list" ∨ b = "tuple" ∨ b = "dict" := by
    unfold knownT at hb
    simpa [or_assoc] using hb
  rcases ha with rfl | rfl | rfl | rfl | rfl | rfl | rfl <;> rcases hb' with rfl | rfl | rfl | rfl | rfl | rfl <;> decide +kernel
theorem tyN_cases {M : Mo} {d : Dv} {a : String} (h : tyN M d = some a) : a = "NoneType" ∨ a = "bool" ∨ a = "int" ∨ a = "str" ∨ a = "list" ∨ a = "tuple" ∨ a = "dict" := by
  unfold tyN at h
  split at h
  · cases h; simp
  · cases h; simp
  · cases h; simp
  · cases h; simp
  · cases h; simp
  · cases h; simp
  · split at h
    · cases h; simp
    · cases h; simp
    · cases h; simp
    · cases h
  · cases h
/-- isinstance(x, T), T a built-in class -/
def dIsi : RNd := fun ds M Q => match ds with
  | [d, .ty b] => match tyN M d with
    | some a => knownT b = true ∧ Q (.bl (isiB a b)) M
    | none => False
  | _ => False
theorem cd_isi : CallR X (.builtin "isinstance") (LNop X.K dIsi) := cd_I call_isi fun ds M Qd xs H Q rs sr q c => by
  unfold dIsi at q
  split at q
  · rename_i d b
    obtain ⟨v, u, rfl, r1, r2⟩ := rs.two
    have eu : u = .ty b := by unfold RD at r2; exact r2
    subst eu
    split at q
    · rename_i a e
      exact ⟨v, .ty b, .type a, .type b, _, rfl, .ty b, tyN_ok sr r1 e, kit_ty (kit_known (tyN_cases e) q.1), c _ _ _ _ (.refl sr) .bl q.2⟩
    · exact q.elim
  · exact q.elim
end
end DL

namespace DL
open PySem PySem.Spec PyProof.Rows L2
/-- a def of the text: where it stands, how it binds, what it promises -/
structure FnD (P : Program) (w : World) (K : PySem.W.Frag) (mg : Str → Option Value) (base : Heap) (x : Str) (k : Nat) (ps : List Str) (B : FuncData → Prop) (sp : SpD) : Prop where
  ex : ∃ f fd, mg x = some (.ref f) ∧ PySem.W.keepIn K (.ref f) = true ∧ B fd ∧ FnOk P w K mg base (L2.CX P w) k f fd ps (LSp K sp)
section
variable {X : Cx} {M0 : Mo} {H0 : Hp} {k : Nat} {ps : List Str} {B : FuncData → Prop} {sp : SpD} {ddvs : List Dv} {dvs : List V} {us : List Value} {Ed : EXD} {E : XK} {x : Str} {p pos : Pos} {e : Expr} {es : List Expr} {t tk : TAD}
theorem de_callF (F : FnD X.prog X.w X.K X.mg X.base x k ps B sp) (hr : Room k X.A) (hg : Gl X x) (hb : ∀ fd, B fd → Binds X.K fd ps us) (hd : Vals dvs us) (hdd : ∀ H, RDs X.K H ddvs dvs)
    (hx : Passes (L2.CX X.prog X.w) X E) (hE : CtX X.K M0 H0 Ed E) (ha : PAd X M0 H0 (e :: es) t) (hdb : (x == ("__debug__" : Str)) = false := by decide) (he : starEach (e :: es) X.env = (false, eval e X.env) :: starEach es X.env := by rfl) (hpl : (backTo pos (starEach es X.env)).any (·.1) = false := by rfl) :
    PEd X M0 H0 (.Call (.Name x p) (e :: es) [] pos) (dCall sp ddvs Ed t) := by
  obtain ⟨f, fd, hm, hk, b, F⟩ := F.ex
  exact de_call F hr hg hm hk (hb fd b) hd hdd hx hE ha hdb he hpl
theorem de_callF0 (F : FnD X.prog X.w X.K X.mg X.base x k ps B sp) (hr : Room k X.A) (hg : Gl X x) (hb : ∀ fd, B fd → Binds X.K fd ps us) (hd : Vals dvs us) (hdd : ∀ H, RDs X.K H ddvs dvs)
    (hx : Passes (L2.CX X.prog X.w) X E) (hE : CtX X.K M0 H0 Ed E) (hdb : (x == ("__debug__" : Str)) = false := by decide) : PEd X M0 H0 (.Call (.Name x p) [] [] pos) (dCall sp ddvs Ed dNilA) := by
  obtain ⟨f, fd, hm, hk, b, F⟩ := F.ex
  exact de_call0 F hr hg hm hk (hb fd b) hd hdd hx hE hdb
theorem rdn {K : PySem.W.Frag} (H : Hp) : RDs K H [] [] := .nil
end
/-- the def's own errors go out -/
theorem passB {X : Cx} {E : XK} (tk : L2.Takes X (fun cls d _ H => E cls d H)) : Passes (L2.CX X.prog X.w) X E := passes_call tk fun _ _ _ _ h => h
end DL

namespace DL
open PySem PySem.Spec PyProof.Rows L2
/-! ### the readings, step by step, backwards -/
def kB (d : Dv) (R : Bool → Prop) : Prop := match d with | .bl b => R b | _ => False
def kI (d : Dv) (R : Int → Prop) : Prop := match d with | .int i => R i | _ => False
section
variable {M : Mo} {Q : QD} {d e : Dv} {i j : Int} {x y : Str} {xs ys ds es : List Dv} {a : Addr} {sd : StD} {D : EndsD}
theorem i_nx {a b : StD → Mo → Prop} {r : QD} {c : StD → Mo → Prop} (h : a sd M) : (EndsD.mk a r b c).nx sd M := h
theorem i_rt {a b : StD → Mo → Prop} {r : QD} {c : StD → Mo → Prop} (h : r d M) : (EndsD.mk a r b c).rt d M := h
theorem i_seq {t u : TSD} (h : t { D with nx := u D } sd M) : dSeq t u D sd M := h
theorem i_next (h : D.nx sd M) : dNext D sd M := h
theorem i_asg {te : TED} {g : TGD} (h : te sd M fun d M1 => g d sd M1 D.nx) : dAsg te g D sd M := h
theorem i_if {c : TTD} {t u : TSD} (h : c sd M fun b M1 => if b = true then t D sd M1 else u D sd M1) : dIfS c t u D sd M := h
theorem i_ret {te : TED} (h : te sd M D.rt) : dRet te D sd M := h
theorem i_retN (h : D.rt .non M) : dRetN D sd M := h
theorem i_drop {te : TED} (h : te sd M fun _ M1 => D.nx sd M1) : dDrop te D sd M := h
theorem i_brk (h : D.bk sd M) : dBreak D sd M := h
theorem i_cnt (h : D.ct sd M) : dCont D sd M := h
theorem i_c (h : Q d M) : dC d sd M Q := h
theorem i_var {n : Nat} (e : sd[n]? = some (some d)) (h : Q d M) : dVar n sd M Q := by unfold dVar; rw [e]; exact h
theorem i_op {rd : R2d} {ta tb : TED} (h : ta sd M fun d M1 => tb sd M1 fun e M2 => rd d e M2 Q) : dOp rd ta tb sd M Q := h
theorem i_neg {ta : TED} (h : ta sd M fun d M1 => kI d fun i => Q (.int (-i)) M1) : dNeg ta sd M Q := h
theorem i_kI {R : Int → Prop} (h : R i) : kI (.int i) R := h
theorem i_kB {R : Bool → Prop} {b : Bool} (h : R b) : kB (.bl b) R := h
theorem i_ifx {c : TTD} {ta tb : TED} (h : c sd M fun k M1 => if k = true then ta sd M1 Q else tb sd M1 Q) : dIf c ta tb sd M Q := h
theorem i_gN {n : Nat} {R : StD → Mo → Prop} (h : R (sd.set n (some d)) M) : gN n d sd M R := h
theorem i_gTp {n : Nat} {t : TGsD} {R : StD → Mo → Prop} (hn : ds.length = n) (h : t ds sd M R) : gTp n t (.tup ds) sd M R := ⟨hn, h⟩
theorem i_gCn {t : TGD} {u : TGsD} {R : StD → Mo → Prop} (h : t d sd M fun sd' M' => u ds sd' M' R) : gCn t u (d :: ds) sd M R := h
theorem i_gNl {R : StD → Mo → Prop} (h : R sd M) : gNl [] sd M R := ⟨rfl, h⟩
theorem i_gSb {to ti : TED} {t : TSetD} {R : StD → Mo → Prop} (h : to sd M fun o M1 => ti sd M1 fun i M2 => t o i d M2 fun M3 => R sd M3) : gSb to ti t d sd M R := h
theorem i_setL {R : Mo → Prop} {k : Nat} (h1 : M a = some (.lst ds)) (h2 : ixN ds.length i = some k) (q : R (mup M a (.lst (ds.set k d)))) : dSetL (.ref a) (.int i) d M R := by
  unfold dSetL; simp only [h1, h2]; exact q
theorem i_aug {n : Nat} {te : TED} {rd : R2d} (e : sd[n]? = some (some d)) (h : te sd M fun y M1 => rd d y M1 fun z M2 => D.nx (sd.set n (some z)) M2) : dAug n te rd D sd M := by unfold dAug; simp only [e]; exact h
theorem i_nilA {R : List Dv → Mo → Prop} (h : R [] M) : dNilA sd M R := h
theorem i_consA {ta : TED} {tr : TAD} {R : List Dv → Mo → Prop} (h : ta sd M fun d M1 => tr sd M1 fun ds M2 => R (d :: ds) M2) : dConsA ta tr sd M R := h
theorem i_tup {t : TAD} (h : t sd M fun ds M1 => ds.length ≤ 1000 ∧ Q (.tup ds) M1) : dTup t sd M Q := h
theorem i_lst {t : TAD} (h : t sd M fun ds M1 => ds.length ≤ 1000 ∧ ∀ p, M1 p = none → Q (.ref p) (mup M1 p (.lst ds))) : dLst t sd M Q := h
theorem i_cb {rd : RNd} {t : TAD} (h : t sd M fun ds M1 => rd ds M1 Q) : dCB rd t sd M Q := h
theorem i_bm {T : String} {rd : RMd} {to : TED} {t : TAD} (h : to sd M fun d M1 => tyD T d M1 ∧ t sd M1 fun ds M2 => rd d ds M2 Q) : dBM T rd to t sd M Q := h
theorem i_bm0 {T : String} {rd : RMd} {to : TED} (h : to sd M fun d M1 => tyD T d M1 ∧ rd d [] M1 Q) : dBM0 T rd to sd M Q := h
theorem i_call {sp : SpD} {Ed : EXD} {t : TAD} (h : t sd M fun ds M1 => sp ds M1 Q Ed) : dCall sp [] Ed t sd M Q := by
  unfold dCall
  simp only [List.append_nil]
  exact h
theorem i_callV {sp : SpD} {dvs : List Dv} {Ed : EXD} {t : TAD} (h : t sd M fun ds M1 => sp (ds ++ dvs) M1 Q Ed) : dCall sp dvs Ed t sd M Q := h
theorem i_test {t : TED} {R : Bool → Mo → Prop} (h : t sd M fun d M1 => kB d fun b => R b M1) : dTest t sd M R := h
theorem i_truth {t : TED} {R : Bool → Mo → Prop} (h : t sd M fun d M1 => dTru M1 d fun b => R b M1) : dTruth t sd M R := h
theorem i_truB {b : Bool} {R : Bool → Prop} (h : R b) : dTru M (.bl b) R := h
theorem i_truI {R : Bool → Prop} (h : R (i != 0)) : dTru M (.int i) R := h
theorem i_truS {R : Bool → Prop} (hl : x.length ≤ 16777216) (h : R ((x.length : Int) != 0)) : dTru M (.str x) R := ⟨hl, h⟩
theorem i_truN {R : Bool → Prop} (h : R false) : dTru M .non R := h
theorem i_truT {R : Bool → Prop} (h : R (!ds.isEmpty)) : dTru M (.tup ds) R := h
theorem i_truL {R : Bool → Prop} (h : R (!ds.isEmpty)) : dTru M (.lst ds) R := h
theorem i_truR {R : Bool → Prop} (h1 : M a = some (.lst ds)) (q : R (!ds.isEmpty)) : dTru M (.ref a) R := by unfold dTru seqL; simp only [h1]; exact q
theorem i_and2 {t u : TTD} {R : Bool → Mo → Prop} (h : t sd M fun c M1 => if c = true then u sd M1 R else R false M1) : dAnd2 t u sd M R := h
theorem i_or2 {t u : TTD} {R : Bool → Mo → Prop} (h : t sd M fun c M1 => if c = true then R true M1 else u sd M1 R) : dOr2 t u sd M R := h
theorem i_not {t : TTD} {R : Bool → Mo → Prop} (h : t sd M fun c M1 => R (!c) M1) : dNot t sd M R := h
theorem i_andV {ta tb : TED} (h : ta sd M fun d M1 => kB d fun c => if c = true then tb sd M1 Q else Q (.bl false) M1) : dAndV ta tb sd M Q := h
theorem i_orV {ta tb : TED} (h : ta sd M fun d M1 => kB d fun c => if c = true then Q (.bl true) M1 else tb sd M1 Q) : dOrV ta tb sd M Q := h
theorem i_notV {ta : TED} (h : ta sd M fun d M1 => kB d fun c => Q (.bl (!c)) M1) : dNotV ta sd M Q := h
theorem i_chain {r r' : R2d} {ta tb tc : TED} (h : ta sd M fun x M1 => tb sd M1 fun y M2 => r x y M2 fun z M3 => kB z fun k => if k = true then tc sd M3 fun u M4 => r' y u M4 Q else Q (.bl false) M3) : dChain r r' ta tb tc sd M Q := h
theorem i_I {C : Int → Int → Prop} {g : Int → Int → Dv} (hc : C i j) (h : Q (g i j) M) : dI C g (.int i) (.int j) M Q := ⟨hc, h⟩
theorem i_I0 {g : Int → Int → Dv} (h : Q (g i j) M) : dI0 g (.int i) (.int j) M Q := h
theorem i_addI (h : Q (.int (i + j)) M) : dAdd (.int i) (.int j) M Q := h
theorem i_addS (hl : x.length + y.length ≤ 16777216) (h : Q (.str (x ++ y)) M) : dAdd (.str x) (.str y) M Q := ⟨hl, h⟩
theorem i_addL (h1 : seqL M d = some xs) (h2 : seqL M e = some ys) (h3 : xs.length + ys.length ≤ 16777216) (q : ∀ p, M p = none → Q (.ref p) (mup M p (.lst (xs ++ ys)))) : dAdd d e M Q := by
  unfold dAdd
  split
  · simp [seqL] at h1
  · simp [seqL] at h1
  · simp only [h1, h2]
    exact ⟨h3, q⟩
theorem i_mulI (hc : CMul i j) (h : Q (.int (i * j)) M) : dMul (.int i) (.int j) M Q := ⟨hc, h⟩
theorem i_iaddI (h : Q (.int (i + j)) M) : dIAdd (.int i) (.int j) M Q := h
theorem i_iaddS (hl : x.length + y.length ≤ 16777216) (h : Q (.str (x ++ y)) M) : dIAdd (.str x) (.str y) M Q := ⟨hl, h⟩
theorem i_eqI (h : Q (.bl (decide (i = j))) M) : dEq (.int i) (.int j) M Q := h
theorem i_eqS (h : Q (.bl (decide (x = y))) M) : dEq (.str x) (.str y) M Q := h
theorem i_eqB {b c : Bool} (h : Q (.bl (decide (b = c))) M) : dEq (.bl b) (.bl c) M Q := h
theorem i_neI (h : Q (.bl (!decide (i = j))) M) : dNe (.int i) (.int j) M Q := h
theorem i_neS (h : Q (.bl (!decide (x = y))) M) : dNe (.str x) (.str y) M Q := h
theorem i_neB {b c : Bool} (h : Q (.bl (!decide (b = c))) M) : dNe (.bl b) (.bl c) M Q := h
theorem i_isN (h : Q (.bl (isN d)) M) : dIsN d .non M Q := h
theorem i_notN (h : Q (.bl (!isN d)) M) : dNotN d .non M Q := h
theorem i_ixL (h1 : seqL M d = some ds) (h2 : L2.atI ds i = some e) (q : Q e M) : dIx d (.int i) M Q := by
  unfold dIx
  split
  · rename_i k r
    injection r with r
    subst r
    split
    · simp [seqL] at h1
    · simp only [h1, h2]
      exact q
  · rename_i r
    exact absurd rfl (r i)
theorem i_ixT (h2 : L2.atI ds i = some e) (q : Q e M) : dIx (.tup ds) (.int i) M Q := by
  unfold dIx
  simp only [seqL, seqT, h2]
  exact q
theorem i_ixS {c : Nat} (hx : L2.atI x.cps.toList i = some c) (hl : x.length ≤ 16777216) (q : Q (.str ⟨#[c]⟩) M) : dIx (.str x) (.int i) M Q := by
  unfold dIx
  simp only [hx]
  exact ⟨hl, q⟩
theorem i_lenS (hl : x.length ≤ 16777216) (q : Q (.int x.length) M) : dLen [.str x] M Q := ⟨hl, q⟩
theorem i_lenL (h1 : seqL M d = some ds) (q : Q (.int ds.length) M) : dLen [d] M Q := by
  unfold dLen
  split
  · simp_all [seqL]
  · rename_i r
    injection r with r
    subst r
    simp only [h1]
    exact q
  · rename_i r1 r2
    exact absurd rfl (r2 d)
theorem i_lenT (q : Q (.int ds.length) M) : dLen [.tup ds] M Q := q
theorem i_min (q : Q (.int (if j < i then j else i)) M) : dMin2 [.int i, .int j] M Q := q
theorem i_max (q : Q (.int (if j > i then j else i)) M) : dMax2 [.int i, .int j] M Q := q
theorem i_all {bs : List Bool} (h : seqL M d = some ds) (hb : blsOf ds = some bs) (q : Q (.bl (bs.all id)) M) : dAll [d] M Q := by unfold dAll; simp only [h, Option.bind_some, hb]; exact q
theorem i_any {bs : List Bool} (h : seqL M d = some ds) (hb : blsOf ds = some bs) (q : Q (.bl (bs.any id)) M) : dAny [d] M Q := by unfold dAny; simp only [h, Option.bind_some, hb]; exact q
theorem i_listOf (h1 : seqL M d = some ds) (q : ∀ p, M p = none → Q (.ref p) (mup M p (.lst ds))) : dListOf [d] M Q := by unfold dListOf; simp only [h1]; exact q
theorem i_listOfT (q : ∀ p, M p = none → Q (.ref p) (mup M p (.lst ds))) : dListOf [.tup ds] M Q := by unfold dListOf; simp only [seqL, seqT]; exact q
theorem i_sl {te : TED} {tl th : TOD} (h : te sd M fun d M1 => tl sd M1 fun lo M2 => th sd M2 fun hi M3 => dSlV d lo hi M3 Q) : dSl te tl th sd M Q := h
theorem i_no {R : Option Int → Mo → Prop} (h : R none M) : dNo sd M R := h
theorem i_part {t : TED} {R : Option Int → Mo → Prop} (h : t sd M fun d M1 => kI d fun i => R (some i) M1) : dPart t sd M R := h
theorem i_slS {lo hi : Option Int} (hl : x.length ≤ 16777216) (h : Q (.str (cutS x lo hi)) M) : dSlV (.str x) lo hi M Q := ⟨hl, h⟩
theorem i_slL {lo hi : Option Int} (h1 : seqL M d = some ds) (q : ∀ p, M p = none → Q (.ref p) (mup M p (.lst (cutD ds lo hi)))) : dSlV d lo hi M Q := by
  unfold dSlV
  split
  · simp [seqL] at h1
  · simp only [h1]
    exact q
theorem i_append {v : Dv} (h1 : M a = some (.lst ds)) (h2 : ds.length < 16777216) (q : Q .non (mup M a (.lst (ds ++ [v])))) : dAppend (.ref a) [v] M Q := by unfold dAppend; simp only [h1]; exact ⟨h2, q⟩
theorem i_join {zs : List Str} (h : seqL M d = some ds) (hz : strsOf ds = some zs) (hl : (zs.map (·.length)).sum + zs.length * x.length ≤ 16777216) (q : Q (.str (Txt.join x zs)) M) : dJoin (.str x) [d] M Q := by
  unfold dJoin; simp only [h, Option.bind_some, hz]; exact ⟨hl, q⟩
theorem i_isi {b n : String} (h : tyN M d = some n) (hk : knownT b = true) (q : Q (.bl (isiB n b)) M) : dIsi [d, .ty b] M Q := by unfold dIsi; simp only [h]; exact ⟨hk, q⟩
theorem e_seqR (h : M a = some (.lst ds)) : seqL M (.ref a) = some ds := by unfold seqL; simp only [h]
theorem e_seqL : seqL M (.lst ds) = some ds := rfl
theorem e_tyR {T : String} (h : M a = some (.lst ds)) (q : T = "list") : tyD T (.ref a) M := by unfold tyD; simp only [h]; exact q
theorem e_tyNR (h : M a = some (.lst ds)) : tyN M (.ref a) = some "list" := by unfold tyN; simp only [h]
theorem e_ix {n k : Nat} (h : k < n) : ixN n (k : Int) = some k := by
  unfold ixN
  rw [if_pos (by omega), if_pos (by omega)]
  simp
theorem e_ixI {n : Nat} {i : Int} (h0 : 0 ≤ i) (h : i < n) : ixN n i = some i.toNat := by
  unfold ixN
  rw [if_pos h0, if_pos h]
theorem e_atI {α : Type} {zs : List α} {i : Int} {z : α} (h0 : 0 ≤ i) (h : zs[i.toNat]? = some z) : L2.atI zs i = some z := by
  have e : ((i.toNat : Nat) : Int) = i := by omega
  rw [← e]
  exact L2.atI_nat h
theorem mne {a b : Addr} {o : OO} (h : M b = some o) (h' : M a = none) : b ≠ a := fun z => by subst z; rw [h] at h'; cases h'
theorem mne2 {a b : Addr} {o : OO} (h' : M a = none) (h : M b = some o) : b ≠ a := mne h h'
theorem i_ifT {c : Bool} {A B : Prop} (e : c = true) (h : A) : if c = true then A else B := by rw [if_pos e]; exact h
theorem i_ifF {c : Bool} {A B : Prop} (e : c = false) (h : B) : if c = true then A else B := by rw [e]; exact iteF h
theorem i_ifd {p A B : Prop} [Decidable p] (h1 : p → A) (h2 : ¬ p → B) : if (decide p) = true then A else B := by
  by_cases h : p
  · rw [decide_eq_true h]; exact h1 h
  · rw [decide_eq_false h]; exact iteF (h2 h)
theorem i_ifn {p A B : Prop} [Decidable p] (h1 : ¬ p → A) (h2 : p → B) : if (!decide p) = true then A else B := by
  by_cases h : p
  · rw [decide_eq_true h]; exact iteF (h2 h)
  · rw [decide_eq_false h]; exact h1 h
theorem i_ifb {b : Bool} {A B : Prop} (h1 : b = true → A) (h2 : b = false → B) : if b = true then A else B := by
  cases b with
  | true => exact h1 rfl
  | false => exact iteF (h2 rfl)
theorem i_ift {A B : Prop} (h : A) : if true = true then A else B := iteT h
theorem i_iff {A B : Prop} (h : B) : if false = true then A else B := iteF h
theorem i_for {wi : TID} {g : TGD} {tb : TSD} (h : wi sd M fun J M1 => ∃ W : Nat → StD → Mo → Prop, W 0 sd M1 ∧ (∀ i sd M, i ≤ J.ds.length → W i sd M → J.ok M) ∧
  (∀ i d sd M, J.ds[i]? = some d → W i sd M → g d sd M fun sd2 M2 => tb { D with nx := W (i + 1), ct := W (i + 1), bk := D.nx } sd2 M2) ∧ ∀ sd M, W J.ds.length sd M → D.nx sd M) : dFor wi g tb D sd M := h
theorem i_rng1 {ta : TAD} {R : ItD → Mo → Prop} (h : ta sd M fun ds M1 => ∃ j, ds = [.int j] ∧ j < 4611686018427387904 ∧ -4611686018427387904 ≤ j ∧ R ⟨rngD 0 j.toNat, fun _ => True⟩ M1)
    (mono : ∀ sd M (R R' : List Dv → Mo → Prop), (∀ a b, R a b → R' a b) → ta sd M R → ta sd M R') : iRng1D ta sd M R :=
  mono _ _ _ _ (fun ds M1 ⟨j, e, h⟩ => by subst e; exact h) h
def kR1 (ds : List Dv) (F : Int → Prop) : Prop := match ds with
  | [.int j] => F j
  | _ => False
def kR2 (ds : List Dv) (F : Int → Int → Prop) : Prop := match ds with
  | [.int i, .int j] => F i j
  | _ => False
theorem i_kR1 {F : Int → Prop} (h : F i) : kR1 [.int i] F := h
theorem i_kR2 {F : Int → Int → Prop} (h : F i j) : kR2 [.int i, .int j] F := h
theorem i_rngA {ta : TAD} {R : ItD → Mo → Prop} (h : ta sd M fun ds M1 => kR1 ds fun j => j < 4611686018427387904 ∧ -4611686018427387904 ≤ j ∧ R ⟨rngD 0 j.toNat, fun _ => True⟩ M1) : iRng1D ta sd M R := h
theorem i_rngB {ta : TAD} {R : ItD → Mo → Prop} (h : ta sd M fun ds M1 => kR2 ds fun i j => (i < 4611686018427387904 ∧ -4611686018427387904 ≤ i ∧ j < 4611686018427387904 ∧ -4611686018427387904 ≤ j) ∧ R ⟨rngD i (j - i).toNat, fun _ => True⟩ M1) : iRng2D ta sd M R := h
def kSq (M : Mo) (d : Dv) (F : List Dv → (Mo → Prop) → Prop) : Prop := match d with
  | .lst ds => F ds fun _ => True
  | .ref a => match M a with
    | some (.lst ds) => F ds fun M => M a = some (.lst ds)
    | _ => False
  | _ => False
theorem i_seqI {t : TED} {R : ItD → Mo → Prop} (h : t sd M fun d M1 => kSq M1 d fun ds ok => R ⟨ds, ok⟩ M1) : iSeq t sd M R := h
theorem i_kSqL {F : List Dv → (Mo → Prop) → Prop} (h : F ds fun _ => True) : kSq M (.lst ds) F := h
theorem i_kSqR {F : List Dv → (Mo → Prop) → Prop} (h1 : M a = some (.lst ds)) (q : F ds fun M => M a = some (.lst ds)) : kSq M (.ref a) F := by unfold kSq; simp only [h1]; exact q
def kStr (d : Dv) (F : Str → Prop) : Prop := match d with
  | .str x => F x
  | _ => False
theorem i_kStr {F : Str → Prop} (h : F x) : kStr (.str x) F := h
theorem i_strI {t : TED} {R : ItD → Mo → Prop} (h : t sd M fun d M1 => kStr d fun x => R ⟨signsD x, fun _ => True⟩ M1) : iStrD t sd M R := h
def kTup (d : Dv) (F : List Dv → Prop) : Prop := match d with
  | .tup ds => F ds
  | _ => False
theorem i_kTup {F : List Dv → Prop} (h : F ds) : kTup (.tup ds) F := h
theorem i_tupI {t : TED} {R : ItD → Mo → Prop} (h : t sd M fun d M1 => kTup d fun ds => R ⟨ds, fun _ => True⟩ M1) : iTupD t sd M R := h
def kEn (M : Mo) (ds : List Dv) (F : List Dv → (Mo → Prop) → Prop) : Prop := match ds with
  | [.lst xs] => F (enumD 0 xs) fun _ => True
  | [.ref a] => match M a with
    | some (.lst xs) => F (enumD 0 xs) fun M => M a = some (.lst xs)
    | _ => False
  | _ => False
theorem i_enI {t : TAD} {R : ItD → Mo → Prop} (h : t sd M fun ds M1 => kEn M1 ds fun es ok => R ⟨es, ok⟩ M1) : iEnumD t sd M R := by
  unfold iEnumD
  unfold kEn at h
  exact h
theorem i_kEnL {F : List Dv → (Mo → Prop) → Prop} (h : F (enumD 0 ds) fun _ => True) : kEn M [.lst ds] F := h
theorem i_kEnR {F : List Dv → (Mo → Prop) → Prop} (h1 : M a = some (.lst ds)) (q : F (enumD 0 ds) fun M => M a = some (.lst ds)) : kEn M [.ref a] F := by unfold kEn; simp only [h1]; exact q
theorem i_lc {wi : TID} {g : Tgt} {tt : TTD} {te : TED} {vs : List Nat} (h : wi sd M fun J M1 => J.ds.length ≤ 16777216 ∧ ∃ W : Nat → List Dv → Mo → Prop, W 0 [] M1 ∧
  (∀ i acc M, i ≤ J.ds.length → W i acc M → J.ok M) ∧
  (∀ i d acc M, J.ds[i]? = some d → acc.length ≤ i → W i acc M → dG g d (wipeD sd vs) M fun sd2 M2 => tt sd2 M2 fun b M3 =>
    if b = true then te sd2 M3 fun y M4 => W (i + 1) (acc ++ [y]) M4 else W (i + 1) acc M3) ∧
  ∀ acc M, acc.length ≤ J.ds.length → W J.ds.length acc M → ∀ p, M p = none → Q (.ref p) (mup M p (.lst acc))) : dLc wi g tt te vs sd M Q := h
theorem i_yes {R : Bool → Mo → Prop} (h : R true M) : dYes sd M R := h
theorem i_dGn {n : Nat} {R : StD → Mo → Prop} (h : R (sd.set n (some d)) M) : dG (.nm n) d sd M R := by unfold dG; exact h
theorem i_dGt {ts : List Tgt} {R : StD → Mo → Prop} (h : gTp ts.length (dGs ts) d sd M R) : dG (.tp ts) d sd M R := by unfold dG; exact h
theorem i_dGc {t : Tgt} {ts : List Tgt} {R : StD → Mo → Prop} (h : dG t d sd M fun sd' M' => dGs ts ds sd' M' R) : dGs (t :: ts) (d :: ds) sd M R := by unfold dGs gCn; exact h
theorem i_dG0 {R : StD → Mo → Prop} (h : R sd M) : dGs [] [] sd M R := by unfold dGs; exact ⟨rfl, h⟩
/-- over lo, lo + 1, .. -/
theorem lc_rng {lo : Int} {n : Nat} {g : Tgt} {tt : TTD} {te : TED} {sw : StD} {F : List Dv → Mo → Prop} (W : Nat → List Dv → Mo → Prop) (hn : n ≤ 16777216) (h0 : W 0 [] M)
    (hs : ∀ i acc M, i < n → acc.length ≤ i → W i acc M → dG g (.int (lo + (i : Nat))) sw M fun sd2 M2 => tt sd2 M2 fun b M3 => if b = true then te sd2 M3 fun y M4 => W (i + 1) (acc ++ [y]) M4 else W (i + 1) acc M3)
    (hd : ∀ acc M, acc.length ≤ n → W n acc M → F acc M) :
    (ItD.mk (rngD lo n) fun _ => True).ds.length ≤ 16777216 ∧ ∃ W : Nat → List Dv → Mo → Prop, W 0 [] M ∧ (∀ i acc M, i ≤ (ItD.mk (rngD lo n) fun _ => True).ds.length → W i acc M → (ItD.mk (rngD lo n) fun _ => True).ok M) ∧
      (∀ i d acc M, (ItD.mk (rngD lo n) fun _ => True).ds[i]? = some d → acc.length ≤ i → W i acc M → dG g d sw M fun sd2 M2 => tt sd2 M2 fun b M3 => if b = true then te sd2 M3 fun y M4 => W (i + 1) (acc ++ [y]) M4 else W (i + 1) acc M3) ∧
      ∀ acc M, acc.length ≤ (ItD.mk (rngD lo n) fun _ => True).ds.length → W (ItD.mk (rngD lo n) fun _ => True).ds.length acc M → F acc M := by
  refine ⟨by show (rngD lo n).length ≤ _; rw [rngD_length]; exact hn, W, h0, fun _ _ _ _ _ => trivial, fun i d acc M e hl hw => ?_, fun acc M hl hw => ?_⟩
  · obtain ⟨hi, rfl⟩ := rngD_get e
    exact hs i acc M hi hl hw
  · have e : (ItD.mk (rngD lo n) fun _ => True).ds.length = n := rngD_length lo n
    rw [e] at hw hl
    exact hd acc M hl hw
theorem for_rng {lo : Int} {n : Nat} {g : TGD} {tb : TSD} (W : Nat → StD → Mo → Prop) (h0 : W 0 sd M)
    (hs : ∀ i sd M, i < n → W i sd M → g (.int (lo + (i : Nat))) sd M fun sd2 M2 => tb { D with nx := W (i + 1), ct := W (i + 1), bk := D.nx } sd2 M2) (hd : ∀ sd M, W n sd M → D.nx sd M) :
    ∃ W : Nat → StD → Mo → Prop, W 0 sd M ∧ (∀ i sd M, i ≤ (ItD.mk (rngD lo n) fun _ => True).ds.length → W i sd M → (ItD.mk (rngD lo n) fun _ => True).ok M) ∧
  (∀ i d sd M, (ItD.mk (rngD lo n) fun _ => True).ds[i]? = some d → W i sd M → g d sd M fun sd2 M2 => tb { D with nx := W (i + 1), ct := W (i + 1), bk := D.nx } sd2 M2) ∧ ∀ sd M, W (ItD.mk (rngD lo n) fun _ => True).ds.length sd M → D.nx sd M := by
  refine ⟨W, h0, fun _ _ _ _ _ => trivial, fun i d sd M e hw => ?_, fun sd M hw => ?_⟩
  · obtain ⟨hi, rfl⟩ := rngD_get e
    exact hs i sd M hi hw
  · have e : (ItD.mk (rngD lo n) fun _ => True).ds.length = n := rngD_length lo n
    rw [e] at hw
    exact hd sd M hw
theorem for_own {ds : List Dv} {g : TGD} {tb : TSD} (W : Nat → StD → Mo → Prop) (h0 : W 0 sd M) (hok : ∀ i sd M, i ≤ ds.length → W i sd M → M a = some (.lst ds))
    (hs : ∀ i d sd M, ds[i]? = some d → W i sd M → g d sd M fun sd2 M2 => tb { D with nx := W (i + 1), ct := W (i + 1), bk := D.nx } sd2 M2) (hd : ∀ sd M, W ds.length sd M → D.nx sd M) :
    ∃ W : Nat → StD → Mo → Prop, W 0 sd M ∧ (∀ i sd M, i ≤ (ItD.mk ds fun M => M a = some (.lst ds)).ds.length → W i sd M → (ItD.mk ds fun M => M a = some (.lst ds)).ok M) ∧
  (∀ i d sd M, (ItD.mk ds fun M => M a = some (.lst ds)).ds[i]? = some d → W i sd M → g d sd M fun sd2 M2 => tb { D with nx := W (i + 1), ct := W (i + 1), bk := D.nx } sd2 M2) ∧ ∀ sd M, W (ItD.mk ds fun M => M a = some (.lst ds)).ds.length sd M → D.nx sd M := ⟨W, h0, hok, hs, hd⟩
theorem for_fz {ds : List Dv} {g : TGD} {tb : TSD} (W : Nat → StD → Mo → Prop) (h0 : W 0 sd M)
    (hs : ∀ i d sd M, ds[i]? = some d → W i sd M → g d sd M fun sd2 M2 => tb { D with nx := W (i + 1), ct := W (i + 1), bk := D.nx } sd2 M2) (hd : ∀ sd M, W ds.length sd M → D.nx sd M) :
    ∃ W : Nat → StD → Mo → Prop, W 0 sd M ∧ (∀ i sd M, i ≤ (ItD.mk ds fun _ => True).ds.length → W i sd M → (ItD.mk ds fun _ => True).ok M) ∧
  (∀ i d sd M, (ItD.mk ds fun _ => True).ds[i]? = some d → W i sd M → g d sd M fun sd2 M2 => tb { D with nx := W (i + 1), ct := W (i + 1), bk := D.nx } sd2 M2) ∧ ∀ sd M, W (ItD.mk ds fun _ => True).ds.length sd M → D.nx sd M := ⟨W, h0, fun _ _ _ _ _ => trivial, hs, hd⟩
theorem lc_own {ds : List Dv} {g : Tgt} {tt : TTD} {te : TED} {sw : StD} {F : List Dv → Mo → Prop} (W : Nat → List Dv → Mo → Prop) (hn : ds.length ≤ 16777216) (h0 : W 0 [] M) (hok : ∀ i acc M, i ≤ ds.length → W i acc M → M a = some (.lst ds))
    (hs : ∀ i d acc M, ds[i]? = some d → acc.length ≤ i → W i acc M → dG g d sw M fun sd2 M2 => tt sd2 M2 fun b M3 => if b = true then te sd2 M3 fun y M4 => W (i + 1) (acc ++ [y]) M4 else W (i + 1) acc M3)
    (hd : ∀ acc M, acc.length ≤ ds.length → W ds.length acc M → F acc M) :
    (ItD.mk ds fun M => M a = some (.lst ds)).ds.length ≤ 16777216 ∧ ∃ W : Nat → List Dv → Mo → Prop, W 0 [] M ∧ (∀ i acc M, i ≤ (ItD.mk ds fun M => M a = some (.lst ds)).ds.length → W i acc M → (ItD.mk ds fun M => M a = some (.lst ds)).ok M) ∧
      (∀ i d acc M, (ItD.mk ds fun M => M a = some (.lst ds)).ds[i]? = some d → acc.length ≤ i → W i acc M → dG g d sw M fun sd2 M2 => tt sd2 M2 fun b M3 => if b = true then te sd2 M3 fun y M4 => W (i + 1) (acc ++ [y]) M4 else W (i + 1) acc M3) ∧
      ∀ acc M, acc.length ≤ (ItD.mk ds fun M => M a = some (.lst ds)).ds.length → W (ItD.mk ds fun M => M a = some (.lst ds)).ds.length acc M → F acc M := ⟨hn, W, h0, hok, hs, hd⟩
theorem lc_fz {ds : List Dv} {g : Tgt} {tt : TTD} {te : TED} {sw : StD} {F : List Dv → Mo → Prop} (W : Nat → List Dv → Mo → Prop) (hn : ds.length ≤ 16777216) (h0 : W 0 [] M)
    (hs : ∀ i d acc M, ds[i]? = some d → acc.length ≤ i → W i acc M → dG g d sw M fun sd2 M2 => tt sd2 M2 fun b M3 => if b = true then te sd2 M3 fun y M4 => W (i + 1) (acc ++ [y]) M4 else W (i + 1) acc M3)
    (hd : ∀ acc M, acc.length ≤ ds.length → W ds.length acc M → F acc M) :
    (ItD.mk ds fun _ => True).ds.length ≤ 16777216 ∧ ∃ W : Nat → List Dv → Mo → Prop, W 0 [] M ∧ (∀ i acc M, i ≤ (ItD.mk ds fun _ => True).ds.length → W i acc M → (ItD.mk ds fun _ => True).ok M) ∧
      (∀ i d acc M, (ItD.mk ds fun _ => True).ds[i]? = some d → acc.length ≤ i → W i acc M → dG g d sw M fun sd2 M2 => tt sd2 M2 fun b M3 => if b = true then te sd2 M3 fun y M4 => W (i + 1) (acc ++ [y]) M4 else W (i + 1) acc M3) ∧
      ∀ acc M, acc.length ≤ (ItD.mk ds fun _ => True).ds.length → W (ItD.mk ds fun _ => True).ds.length acc M → F acc M := ⟨hn, W, h0, fun _ _ _ _ _ => trivial, hs, hd⟩
/-- while, by an invariant and a measure -/
theorem i_while {c : TTD} {tb : TSD} (W : Nat → StD → Mo → Prop) (m : Nat) (h0 : W m sd M) (turn : ∀ m sd M, W m sd M → c sd M fun b M1 => if b = true then tb { D with nx := fun sd' M' => ∃ m', m' < m ∧ W m' sd' M', ct := fun sd' M' => ∃ m', m' < m ∧ W m' sd' M', bk := D.nx } sd M1 else D.nx sd M1) : dWhile c tb D sd M :=
  ⟨W, ⟨m, h0⟩, turn⟩
end
end DL
namespace DL
open PySem PySem.Spec PyProof.Rows L2
theorem i_new {M : Mo} {F : Addr → Prop} (h : ∀ p, M p = none → F p) : ∀ p, M p = none → F p := h
theorem cutS_take (x : Str) (k : Nat) : cutS x none (some (k : Int)) = ⟨(x.cps.toList.take k).toArray⟩ := by
  unfold cutS
  rw [HT.sIx_none, HT.sIx_nat, List.drop_zero, Nat.sub_zero]
  have e : x.length = x.cps.toList.length := by simp [Str.length]
  have e2 : x.cps.toList.take (min k x.length) = x.cps.toList.take k := by rw [e, List.take_eq_take_iff]; omega
  rw [e2]
theorem cutS_drop (x : Str) (k : Nat) : cutS x (some (k : Int)) none = ⟨(x.cps.toList.drop k).toArray⟩ := by
  unfold cutS
  rw [HT.sIx_none, HT.sIx_nat]
  have e : x.length = x.cps.toList.length := by simp [Str.length]
  rw [e]
  by_cases h : k ≤ x.cps.toList.length
  · rw [Nat.min_eq_left h, List.take_of_length_le (by rw [List.length_drop]; exact Nat.le_refl _)]
  · rw [List.drop_of_length_le (by omega), List.drop_of_length_le (by omega)]
    simp
theorem str_len (x : Str) : x.length = x.cps.toList.length := by simp [Str.length]
theorem cut_mem {ds : List Dv} {lo hi : Option Int} {d : Dv} (h : d ∈ cutD ds lo hi) : d ∈ ds := List.mem_of_mem_drop (List.mem_of_mem_take h)
theorem cut_len (ds : List Dv) (lo hi : Option Int) : (cutD ds lo hi).length ≤ ds.length := by
  unfold cutD
  rw [List.length_take, List.length_drop]
  omega
theorem join0_lenS : ∀ zs : List Str, (Str.join (Str.ofString "") zs).length = (zs.map (·.length)).sum
  | [] => rfl
  | [x] => by
    show x.length = x.length + 0
    omega
  | x :: y :: r => by
    show (x ++ Str.ofString "" ++ Str.join (Str.ofString "") (y :: r)).length = x.length + ((y :: r).map (·.length)).sum
    rw [PySem.Str.length_append, PySem.Str.length_append, join0_lenS (y :: r)]
    show x.length + 0 + _ = _
    omega
theorem join0_len (zs : List Str) : (Txt.join (Str.ofString "") zs).length = (zs.map (·.length)).sum := by
  rw [TL.join_eq]
  exact join0_lenS zs
theorem sum_ones {zs : List Str} (h : ∀ t ∈ zs, t.length = 1) : (zs.map (·.length)).sum = zs.length := by
  induction zs with
  | nil => rfl
  | cons z zs ih =>
    rw [List.map_cons, List.sum_cons, ih (fun t ht => h t (List.mem_cons_of_mem _ ht)), h z List.mem_cons_self, List.length_cons]
    omega
theorem cmul_l {i j : Int} (h : -18446744073709551616 < i) (h' : i < 18446744073709551616) : CMul i j := .inl ⟨h, h'⟩
theorem cmul_r {i j : Int} (h : -18446744073709551616 < j) (h' : j < 18446744073709551616) : CMul i j := .inr ⟨h, h'⟩
theorem cdivw {i j : Int} (h : 0 < j) (h' : j < 18446744073709551616) : CDivW i j := wide_div h (b := 64) (by omega) (by decide) (by decide)
end DL

namespace DL
open PySem PySem.Spec PyProof.Rows L2
/-- the law's own promise: at up to n whole numbers it answers True -/
def spLaw (n : Nat) : SpD := fun ds M Q E => match ds with
  | [.lst xs] => (∃ ns : List Int, xs = ns.map .int ∧ ns.length ≤ n) ∧ ∀ M', Q (.bl true) M'
  | _ => False
theorem rd_ints {K : PySem.W.Frag} {H : Hp} : ∀ ns : List Int, RDs K H (ns.map .int) (ns.map V.int)
  | [] => .nil
  | n :: ns => .cons (by unfold RD; rfl) (rd_ints ns)
theorem hsp_law {K : PySem.W.Frag} {n : Nat} {H : Hp} {a : Addr} {ns : List Int} (hl : ns.length ≤ n) (hO : L2.Only H) (hS : SqL K H a (ns.map V.int)) : LSp K (spLaw n) [.ref a] H (fun v _ => v = .bl true) (fun _ _ _ => False) := by
  have hF : FzL K H a (ns.map V.int) := by
    rcases hS with (h | ⟨o, h⟩) | h
    · rcases hO a with q | ⟨o, xs, q⟩
      · rw [q] at h
        cases h
      · rw [q] at h
        cases h
    · exact .inl ⟨o, h⟩
    · exact .inr h
  refine ⟨[.lst (ns.map .int)], fun _ => none, fun d _ => d = .bl true, Ed0, .cons ?_ .nil, (fun _ _ h => by cases h), ⟨⟨ns, rfl, hl⟩, fun _ => rfl⟩, ?_, ctx0⟩
  · unfold RD
    exact ⟨a, _, rfl, hF, rd_ints ns⟩
  · intro d M' v H' _ r e
    subst e
    unfold RD at r
    exact r
theorem hcx_law {P : Program} {w : World} {H : Hp} {s : Shared} {e : Value} {s' : Shared} (h : L2.CX P w [] H s (fun _ _ _ => False) e s') : False := by
  obtain ⟨_, _, _, _, _, _, _, _, _, _, _, _, q⟩ := h
  exact q
end DL

namespace Lw
open PySem PySem.Spec PyProof.Rows L2 DL
def topS (i : Nat) : Stmt := PySem.Challenge.pw_markseam_k02_the_common_start.main.body.getD i (.Pass ⟨0, 0, 0, 0⟩)
abbrev s_common_start : Stmt := topS 1
theorem sc_common_start : FnScope ["one", "other", "many"] ["one", "other"] (defScope s_common_start) := ⟨rfl, rfl, rfl, by decide +kernel, rfl, by decide +kernel, by decide +kernel⟩
abbrev s__law_mixed : Stmt := topS 3
theorem sc__law_mixed : FnScope ["_law_cell", "_law_k", "_law_number"] ["_law_cell", "_law_k"] (defScope s__law_mixed) := ⟨rfl, rfl, rfl, by decide +kernel, rfl, by decide +kernel, by decide +kernel⟩
abbrev s__law_source : Stmt := topS 4
theorem sc__law_source : FnScope ["_law_cell"] ["_law_cell"] (defScope s__law_source) := ⟨rfl, rfl, rfl, by decide +kernel, rfl, by decide +kernel, by decide +kernel⟩
abbrev s__law_take : Stmt := topS 5
theorem sc__law_take : FnScope ["_law_source_here", "_law_many", "_law_found"] ["_law_source_here", "_law_many"] (defScope s__law_take) := ⟨rfl, rfl, rfl, by decide +kernel, rfl, by decide +kernel, by decide +kernel⟩
abbrev s__law_text : Stmt := topS 6
theorem sc__law_text : FnScope ["_law_source_here", "_law_signs", "_law_most", "_law_k"] ["_law_source_here", "_law_signs", "_law_most"] (defScope s__law_text) := ⟨rfl, rfl, rfl, by decide +kernel, rfl, by decide +kernel, by decide +kernel⟩
abbrev s__law_right : Stmt := topS 7
theorem sc__law_right : FnScope ["_law_one", "_law_other", "_law_found", "_law_many"] ["_law_one", "_law_other"] (defScope s__law_right) := ⟨rfl, rfl, rfl, by decide +kernel, rfl, by decide +kernel, by decide +kernel⟩
abbrev s_law : Stmt := topS 8
theorem sc_law : FnScope ["_law_script", "_law_cell", "_law_source_here", "_law_signs", "_law_way", "_law_begin", "_law_one", "_law_other"] ["_law_script"] (defScope s_law) := ⟨rfl, rfl, rfl, by decide +kernel, rfl, by decide +kernel, by decide +kernel⟩
structure Tn (mg : Str → Option Value) : Prop where
  n_isinstance : mg "isinstance" = none
  n_len : mg "len" = none
  n_min : mg "min" = none
  n_range : mg "range" = none
  n_str : mg "str" = none
local macro_rules | `(tactic| walk_at "ne") => `(tactic| first | with_reducible assumption | (apply Ne.symm; with_reducible assumption) | ((with_reducible apply mne2); (case h' => with_reducible assumption); (case h => walk_at "lk")) | ((apply Ne.symm); (with_reducible apply mne2); (case h' => with_reducible assumption); (case h => walk_at "lk")))
local macro_rules | `(tactic| walk_at "lk") => `(tactic| first | with_reducible assumption | with_reducible exact mup_same | (refine (mup_ne ?_).trans ?_; (walk_at "ne"); (walk_at "lk")))
local macro_rules | `(tactic| walk_at "sq") => `(tactic| first | exact e_seqL | exact e_seqR (by walk_at "lk"))
local macro_rules | `(tactic| walk_at "sd") => `(tactic| first | with_reducible assumption | omega | exact cmul_l (by omega) (by omega) | exact cmul_r (by omega) (by omega) | exact cdivw (by omega) (by omega) | (show (0 : Int) < _; omega) | exact ⟨by decide, by decide, by decide⟩ | decide | (simp only [List.length_cons, List.length_nil, List.length_append, List.length_map, PySem.Str.length_append] <;> omega))
local macro_rules | `(tactic| walk_at "at") => `(tactic| first | exact L2.atI_nat (j := 0) rfl | exact L2.atI_nat (j := 1) rfl | exact L2.atI_nat (j := 2) rfl | exact L2.atI_nat (j := 3) rfl)
local macro_rules | `(tactic| walk_at "xn") => `(tactic| first | exact e_ix (k := 0) (Nat.le_of_ble_eq_true rfl) | exact e_ix (k := 1) (Nat.le_of_ble_eq_true rfl) | exact e_ix (k := 2) (Nat.le_of_ble_eq_true rfl) | exact e_ix (k := 3) (Nat.le_of_ble_eq_true rfl))
local macro_rules | `(tactic| walk_at "st") => `(tactic| first
  | with_reducible refine i_var rfl ?_ | with_reducible refine i_c ?_ | with_reducible refine i_op ?_ | with_reducible refine i_I0 ?_ | with_reducible refine i_addI ?_
  | with_reducible refine i_seq ?_ | with_reducible refine i_asg ?_ | with_reducible refine i_gN ?_ | with_reducible refine i_nx ?_ | with_reducible refine i_rt ?_ | with_reducible refine i_if ?_ | with_reducible refine i_test ?_ | with_reducible refine i_kB ?_ | with_reducible refine i_kI ?_ | with_reducible refine i_next ?_ | with_reducible refine i_ret ?_ | with_reducible refine i_retN ?_
  | with_reducible refine i_ift ?_ | with_reducible refine i_iff ?_ | ((with_reducible refine i_ifT ?_ ?_); (first | with_reducible rfl | decide)) | ((with_reducible refine i_ifF ?_ ?_); (first | with_reducible rfl | decide))
  | with_reducible refine i_consA ?_ | with_reducible refine i_nilA ?_ | with_reducible refine i_call ?_ | with_reducible refine i_cb ?_ | with_reducible refine i_drop ?_
  | ((with_reducible refine i_I ?_ ?_); (walk_at "sd"))
  | ((with_reducible refine i_mulI ?_ ?_); (walk_at "sd")) | ((with_reducible refine i_addS ?_ ?_); (walk_at "sd")) | ((with_reducible apply i_addL); (case h1 => walk_at "sq"); (case h2 => walk_at "sq"); (case h3 => walk_at "sd"))
  | with_reducible refine i_neg ?_ | with_reducible refine i_ifx ?_ | ((with_reducible refine i_gTp ?_ ?_); rfl) | with_reducible refine i_gCn ?_ | with_reducible refine i_gNl ?_ | with_reducible refine i_gSb ?_
  | ((with_reducible apply i_setL); (case h1 => walk_at "lk"); (case h2 => walk_at "xn"))
  | with_reducible refine i_aug rfl ?_ | with_reducible refine i_iaddI ?_ | ((with_reducible refine i_iaddS ?_ ?_); (walk_at "sd"))
  | (with_reducible refine i_lst ?_) | (with_reducible refine i_tup ?_)
  | with_reducible refine i_bm ?_ | with_reducible refine i_bm0 ?_ | with_reducible refine i_truth ?_ | with_reducible refine i_truB ?_ | with_reducible refine i_truI ?_ | ((with_reducible refine i_truS ?_ ?_); (walk_at "sd")) | with_reducible refine i_truN ?_ | with_reducible refine i_truT ?_ | with_reducible refine i_truL ?_ | ((with_reducible apply i_truR); (case h1 => walk_at "lk"))
  | with_reducible refine i_and2 ?_ | with_reducible refine i_or2 ?_ | with_reducible refine i_not ?_ | with_reducible refine i_andV ?_ | with_reducible refine i_orV ?_ | with_reducible refine i_notV ?_ | with_reducible refine i_chain ?_
  | with_reducible refine i_eqI ?_ | with_reducible refine i_eqS ?_ | with_reducible refine i_eqB ?_ | with_reducible refine i_neI ?_ | with_reducible refine i_neS ?_ | with_reducible refine i_neB ?_ | with_reducible refine i_isN ?_ | with_reducible refine i_notN ?_
  | ((with_reducible apply i_ixL); (case h1 => walk_at "sq"); (case h2 => walk_at "at")) | ((with_reducible apply i_ixT); (case h2 => walk_at "at"))
  | ((with_reducible refine i_lenS ?_ ?_); (walk_at "sd")) | (with_reducible refine i_lenT ?_) | ((with_reducible apply i_lenL); (case h1 => walk_at "sq")) | with_reducible refine i_min ?_ | with_reducible refine i_max ?_
  | ((with_reducible apply i_listOf); (case h1 => walk_at "sq")) | with_reducible refine i_listOfT ?_
  | with_reducible refine i_sl ?_ | with_reducible refine i_no ?_ | with_reducible refine i_part ?_ | ((with_reducible refine i_slS ?_ ?_); (walk_at "sd")) | ((with_reducible apply i_slL); (case h1 => walk_at "sq"))
  | ((with_reducible apply i_append); (case h1 => walk_at "lk"); (case h2 => walk_at "sd"))
  | (with_reducible refine i_isi rfl rfl ?_)
  | ((with_reducible refine ⟨?_, ?_⟩); (show List.length _ ≤ 1000; exact Nat.le_of_ble_eq_true rfl))
  | ((with_reducible refine ⟨?_, ?_⟩); (show tyD _ _ _; first | exact Eq.refl _ | exact e_tyR (by walk_at "lk") rfl))
  | with_reducible refine i_for ?_ | with_reducible refine i_lc ?_ | with_reducible refine i_rngA ?_ | with_reducible refine i_rngB ?_ | with_reducible refine i_kR1 ?_ | with_reducible refine i_kR2 ?_ | with_reducible refine i_seqI ?_ | with_reducible refine i_kSqL ?_ | ((with_reducible apply i_kSqR); (case h1 => walk_at "lk"))
  | with_reducible refine i_strI ?_ | with_reducible refine i_kStr ?_ | with_reducible refine i_tupI ?_ | with_reducible refine i_kTup ?_ | with_reducible refine i_enI ?_ | with_reducible refine i_kEnL ?_ | ((with_reducible apply i_kEnR); (case h1 => walk_at "lk"))
  | with_reducible refine i_yes ?_ | with_reducible refine i_dGn ?_ | with_reducible refine i_dGt ?_ | with_reducible refine i_dGc ?_ | with_reducible refine i_dG0 ?_
  | ((with_reducible refine i_new ?_); intro p hp)
  | ((with_reducible refine And.intro ?_ ?_); (walk_at "sd")))
local macro_rules | `(tactic| walk_at "dd") => `(tactic| repeat walk_at "st")
local macro_rules | `(tactic| walk_at "fg") => `(tactic| repeat (first | exact Sub.refl _ | exact Sub.new ‹_› | (refine Sub.trans ?_ (Sub.new ‹_›)) | refine Sub.mup ?_))

/-- the list of draws at a -/
def Src (M : Mo) (a : Addr) : Prop := ∃ x y z : Int, M a = some (.lst [.int x, .int y, .int z])
def sp__law_mixed : SpD := fun ds M Q E => match ds with
  | [.int c, .int k] => ∀ r : Int, 0 ≤ r → r < 2147483563 → Q (.int r) M
  | _ => False
def sp__law_source : SpD := fun ds M Q E => match ds with
  | [.int c] => ∀ p, M p = none → Q (.ref p) (mup M p (.lst [.int c, .int c, .int 0]))
  | _ => False
def sp__law_take : SpD := fun ds M Q E => match ds with
  | [.ref a, .int m] => Src M a ∧ 0 < m ∧ m < 1073741824 ∧ ∀ r x y z : Int, 0 ≤ r → r < m → Q (.int r) (mup M a (.lst [.int x, .int y, .int z]))
  | _ => False
def sp__law_text : SpD := fun ds M Q E => match ds with
  | [.ref a, .str s, .int m] => Src M a ∧ 0 < s.length ∧ s.length ≤ 1000 ∧ 0 ≤ m ∧ m < 100000 ∧ ∀ (t : Str) (x y z : Int), t.length ≤ m → Q (.str t) (mup M a (.lst [.int x, .int y, .int z]))
  | _ => False
def sp__law_right : SpD := fun ds M Q E => match ds with
  | [.str a, .str b] => a.length ≤ 100000 ∧ b.length ≤ 100000 ∧ Q (.bl true) M
  | _ => False
def csL : List Nat → List Nat → List Nat
  | a :: x, b :: y => if a = b then a :: csL x y else []
  | _, _ => []
theorem csL_stop : ∀ (a b : List Nat) (k : Nat), a.take k = b.take k → k ≤ a.length → k ≤ b.length → (∀ (h1 : k < a.length) (h2 : k < b.length), a[k] ≠ b[k]) → csL a b = a.take k
  | [], b, k, _, h1, _, _ => by
    have : k = 0 := by simpa using h1
    subst this
    unfold csL
    rfl
  | x :: a, [], k, _, _, h2, _ => by
    have : k = 0 := by simpa using h2
    subst this
    unfold csL
    rfl
  | x :: a, y :: b, 0, _, _, _, h => by
    have hn : ¬ x = y := h (by simp) (by simp)
    unfold csL
    rw [if_neg hn]
    rfl
  | x :: a, y :: b, k + 1, e, h1, h2, h => by
    rw [List.take_succ_cons, List.take_succ_cons] at e
    obtain ⟨e1, e2⟩ := List.cons.inj e
    unfold csL
    rw [if_pos e1, csL_stop a b k e2 (by simpa using h1) (by simpa using h2) (fun q1 q2 e => h (by rw [List.length_cons]; omega) (by rw [List.length_cons]; omega) (by rw [List.getElem_cons_succ, List.getElem_cons_succ]; exact e)), List.take_succ_cons]
theorem take_ext {a b : List Nat} {k : Nat} (e : a.take k = b.take k) (h1 : k < a.length) (h2 : k < b.length) (h : a[k] = b[k]) : a.take (k + 1) = b.take (k + 1) := by
  rw [List.take_succ_eq_append_getElem h1, List.take_succ_eq_append_getElem h2, e, h]
theorem sign_eq {c d : Nat} : (({ cps := #[c] } : Str) = { cps := #[d] }) ↔ c = d := by
  constructor
  · intro h
    injection h with h
    simpa using h
  · intro h
    rw [h]
theorem u_mixed {M : Mo} {c k : Int} {Q : QD} {E : EXD} (h : ∀ r : Int, 0 ≤ r → r < 2147483563 → Q (.int r) M) : sp__law_mixed [.int c, .int k] M Q E := h
theorem u_source {M : Mo} {c : Int} {Q : QD} {E : EXD} (h : ∀ p, M p = none → Q (.ref p) (mup M p (.lst [.int c, .int c, .int 0]))) : sp__law_source [.int c] M Q E := h
theorem u_take {M : Mo} {a : Addr} {m : Int} {Q : QD} {E : EXD} (h1 : Src M a) (h2 : 0 < m) (h3 : m < 1073741824) (h : ∀ r x y z : Int, 0 ≤ r → r < m → Q (.int r) (mup M a (.lst [.int x, .int y, .int z]))) : sp__law_take [.ref a, .int m] M Q E := ⟨h1, h2, h3, h⟩
theorem u_right {M : Mo} {a b : Str} {Q : QD} {E : EXD} (h1 : a.length ≤ 100000) (h2 : b.length ≤ 100000) (h : Q (.bl true) M) : sp__law_right [.str a, .str b] M Q E := ⟨h1, h2, h⟩
theorem u_text {M : Mo} {a : Addr} {s : Str} {m : Int} {Q : QD} {E : EXD} (h1 : Src M a) (h2 : 0 < s.length) (h3 : s.length ≤ 1000) (h4 : 0 ≤ m) (h5 : m < 100000) (h : ∀ (t : Str) (x y z : Int), t.length ≤ m → Q (.str t) (mup M a (.lst [.int x, .int y, .int z]))) : sp__law_text [.ref a, .str s, .int m] M Q E := ⟨h1, h2, h3, h4, h5, h⟩
theorem src_mk {M : Mo} {a : Addr} {x y z : Int} (h : M a = some (.lst [.int x, .int y, .int z])) : Src M a := ⟨x, y, z, h⟩
local macro_rules | `(tactic| walk_at "src") => `(tactic| ((apply src_mk); (walk_at "lk")))
local macro_rules | `(tactic| walk_at "st") => `(tactic| first
  | ((with_reducible refine u_mixed ?_); (intro r hr0 hr1)) | ((with_reducible refine u_source ?_); (intro p hp))
  | ((with_reducible refine u_right ?_ ?_ ?_); (walk_at "sd"); (walk_at "sd"))
  | ((with_reducible refine u_take ?_ ?_ ?_ ?_); (walk_at "src"); (walk_at "sd"); (walk_at "sd"); (intro r x y z hr0 hr1); (try (with_reducible rw [mup_mup])))
  | ((with_reducible refine u_text ?_ ?_ ?_ ?_ ?_ ?_); (walk_at "src"); (walk_at "sd"); (walk_at "sd"); (walk_at "sd"); (walk_at "sd"); (intro t x y z ht); (try (with_reducible rw [mup_mup]))))
def sp_common_start : SpD := fun ds M Q E => match ds with
  | [.str a, .str b] => a.length ≤ 1000000 ∧ b.length ≤ 1000000 ∧ Q (.str ⟨(csL a.cps.toList b.cps.toList).toArray⟩) M
  | _ => False
abbrev sp_law : SpD := spLaw 63
def cs (a b : Str) : Str := ⟨(csL a.cps.toList b.cps.toList).toArray⟩
theorem u_cs {M : Mo} {a b : Str} {Q : QD} {E : EXD} (h1 : a.length ≤ 1000000) (h2 : b.length ≤ 1000000) (h : Q (.str (cs a b)) M) : sp_common_start [.str a, .str b] M Q E := ⟨h1, h2, h⟩
theorem csL_comm : ∀ a b : List Nat, csL a b = csL b a
  | [], [] => rfl
  | [], _ :: _ => rfl
  | _ :: _, [] => rfl
  | x :: a, y :: b => by
    unfold csL
    by_cases h : x = y
    · subst h
      rw [if_pos rfl, if_pos rfl, csL_comm a b]
    · rw [if_neg h, if_neg (fun e => h e.symm)]
theorem csL_self : ∀ a : List Nat, csL a a = a
  | [] => rfl
  | x :: a => by
    unfold csL
    rw [if_pos rfl, csL_self a]
theorem csL_pre : ∀ a b : List Nat, a.take (csL a b).length = csL a b
  | [], b => by unfold csL; rfl
  | x :: a, [] => by unfold csL; rfl
  | x :: a, y :: b => by
    unfold csL
    by_cases h : x = y
    · rw [if_pos h, List.length_cons, List.take_succ_cons, csL_pre a b]
    · rw [if_neg h]
      rfl
theorem csL_ne : ∀ (a b : List Nat) (h1 : (csL a b).length < a.length) (h2 : (csL a b).length < b.length), a[(csL a b).length] ≠ b[(csL a b).length]
  | [], b, h1, _ => by simp at h1
  | x :: a, [], _, h2 => by simp at h2
  | x :: a, y :: b, h1, h2 => by
    by_cases h : x = y
    · have e : csL (x :: a) (y :: b) = x :: csL a b := by
        show (if x = y then x :: csL a b else []) = _
        rw [if_pos h]
      have q := csL_ne a b (by rw [e, List.length_cons, List.length_cons] at h1; omega) (by rw [e, List.length_cons, List.length_cons] at h2; omega)
      intro z
      refine q ?_
      simpa only [e, List.length_cons, List.getElem_cons_succ] using z
    · have e : csL (x :: a) (y :: b) = [] := by
        show (if x = y then x :: csL a b else []) = _
        rw [if_neg h]
      intro z
      refine h ?_
      simpa only [e, List.length_nil, List.getElem_cons_zero] using z
theorem cs_len (a b : Str) : (cs a b).length = (csL a.cps.toList b.cps.toList).length := by simp [cs, Str.length]
theorem cs_comm (a b : Str) : cs a b = cs b a := by unfold cs; rw [csL_comm]
theorem cs_self (a : Str) : cs a a = a := by unfold cs; rw [csL_self]
theorem cs_cut (a b : Str) : cutS a none (some ((cs a b).length : Nat)) = cs a b := by
  rw [cutS_take, cs_len, csL_pre]
  rfl
theorem cs_le (a b : Str) : (cs a b).length ≤ a.length := by
  rw [cs_len, str_len]
  have := congrArg List.length (csL_pre a.cps.toList b.cps.toList)
  rw [List.length_take] at this
  omega
section
variable {P : Program} {w : World} {K : PySem.W.Frag} {mg : Str → Option Value} {base : Heap}
/- common_start: slots 0 one, 1 other, 2 many -/
theorem ok_common_start (T : Tn mg) {f : Addr} {fd : FuncData} (F : Fun K "common_start" "common_start" s_common_start f fd) (gm : mg "common_start" = some (.ref f))  : FnD P w K mg base "common_start" 1 ["one", "other"] (fun fd => Binds K fd ["one", "other"] []) sp_common_start := by
  refine ⟨⟨f, fd, gm, F.kp, F.binds (ps := ["one", "other"]) (fun _ _ _ _ _ _ us hl => match us, hl with | [_, _], _ => rfl), okD F sc_common_start (fun ds M Q E h => ?_) (fun cdv A outer s H M ds Qd Ed E hr cx h => ?_)⟩⟩
  · unfold sp_common_start at h
    split at h <;> first | rfl | exact h.elim
  · refine ⟨_, (dss_cons (ds_set (i := 2) sc_common_start.nd rfl (Or.inl rfl) de_int)
      (dss_cons (ds_while (passes_of rfl) (dt_w (dw_and (dt_cmp od_lt (dv 2) (de_callB (cd_min2 rfl) (by rfl) T.n_min (by decide +kernel) (da_cons (de_callB cd_len (by rfl) T.n_len (by decide +kernel) (da_cons (dv 0) da_nil)) (da_cons (de_callB cd_len (by rfl) T.n_len (by decide +kernel) (da_cons (dv 1) da_nil)) da_nil))) (nomark _)) (dw_and1 (dt_cmp (od_eq hr.units) (de_ix (dv 0) (dv 2)) (de_ix (dv 1) (dv 2)) (nomark _))))) (dss_one (ds_aug (i := 2) sc_common_start.nd rfl (Or.inl rfl) de_int xi_add)))
      (dss_one (ds_ret (de_slice (dv 0) do_none (do_some (dv 2))))))), ?_⟩
    unfold sp_common_start at h; split at h
    · rename_i a b
      obtain ⟨ha, hb, h⟩ := h
      walk_at "dd"
      refine i_while (fun m sd M' => ∃ k : Nat, sd = [some (.str a), some (.str b), some (.int k)] ∧ M' = M ∧ k ≤ a.cps.toList.length ∧ k ≤ b.cps.toList.length ∧ a.cps.toList.take k = b.cps.toList.take k ∧ m = a.cps.toList.length - k) a.cps.toList.length ⟨0, rfl, rfl, Nat.zero_le _, Nat.zero_le _, rfl, rfl⟩ ?_
      rintro m sd M' ⟨k, rfl, rfl, ka, kb, ek, rfl⟩
      have la := str_len a
      have lb := str_len b
      have fin : (∀ (h1 : k < a.cps.toList.length) (h2 : k < b.cps.toList.length), a.cps.toList[k] ≠ b.cps.toList[k]) → Fg Qd (Dv.str (cutS a none (some (k : Int)))) M' := fun hh => by
        rw [csL_stop _ _ k ek ka kb hh] at h
        rw [cutS_take]
        exact .here h
      walk_at "dd"
      refine i_ifd (fun c1 => ?_) (fun c1 => ?_)
      · have h1 : k < a.cps.toList.length := by split at c1 <;> omega
        have h2 : k < b.cps.toList.length := by split at c1 <;> omega
        walk_at "dd"
        refine i_ixS (L2.atI_nat (List.getElem?_eq_getElem h1)) (by omega) ?_
        walk_at "dd"
        refine i_ixS (L2.atI_nat (List.getElem?_eq_getElem h2)) (by omega) ?_
        walk_at "dd"
        refine i_ifd (fun c2 => ?_) (fun c2 => ?_)
        · walk_at "dd"
          exact ⟨_, by omega, k + 1, rfl, rfl, by omega, by omega, take_ext ek h1 h2 (sign_eq.mp c2), rfl⟩
        · walk_at "dd"
          exact fin fun _ _ e => c2 (sign_eq.mpr e)
      · walk_at "dd"
        exact fin fun q1 q2 => by split at c1 <;> omega
    · exact h.elim
/- _law_mixed: slots 0 _law_cell, 1 _law_k, 2 _law_number -/
theorem ok__law_mixed (T : Tn mg) {f : Addr} {fd : FuncData} (F : Fun K "_law_mixed" "_law_mixed" s__law_mixed f fd) (gm : mg "_law_mixed" = some (.ref f))  : FnD P w K mg base "_law_mixed" 1 ["_law_cell", "_law_k"] (fun fd => Binds K fd ["_law_cell", "_law_k"] []) sp__law_mixed := by
  refine ⟨⟨f, fd, gm, F.kp, F.binds (ps := ["_law_cell", "_law_k"]) (fun _ _ _ _ _ _ us hl => match us, hl with | [_, _], _ => rfl), okD F sc__law_mixed (fun ds M Q E h => ?_) (fun cdv A outer s H M ds Qd Ed E hr cx h => ?_)⟩⟩
  · unfold sp__law_mixed at h
    split at h <;> first | rfl | exact h.elim
  · refine ⟨_, (dss_cons (ds_set (i := 2) sc__law_mixed.nd rfl (Or.inl rfl) (de_op od_mod (de_op od_mul (de_op od_add (de_op od_mod (dv 0) de_int) de_int) (de_op od_add (de_op od_mul (dv 1) de_int) de_int)) de_int))
      (dss_cons (ds_set (i := 2) sc__law_mixed.nd rfl (Or.inl rfl) (de_op od_mod (de_op od_mul (de_op od_add (dv 2) (de_op od_mul (de_op od_mod (de_op od_fdiv (dv 0) de_int) de_int) (de_op od_add (dv 1) de_int))) de_int) de_int))
      (dss_cons (ds_set (i := 2) sc__law_mixed.nd rfl (Or.inl rfl) (de_op od_mod (de_op od_mul (dv 2) (de_op od_add (de_op od_add (de_op od_fdiv (dv 2) de_int) de_int) (dv 1))) de_int))
      (dss_one (ds_ret (de_op od_mod (de_op od_mul (dv 2) (de_op od_add (de_op od_fdiv (dv 2) de_int) de_int)) de_int)))))), ?_⟩
    unfold sp__law_mixed at h; split at h
    · walk_at "dd"
      exact .here (h _ (by omega) (by omega))
    · exact h.elim
/- _law_source: slots 0 _law_cell -/
theorem ok__law_source (T : Tn mg) {f : Addr} {fd : FuncData} (F : Fun K "_law_source" "_law_source" s__law_source f fd) (gm : mg "_law_source" = some (.ref f))  : FnD P w K mg base "_law_source" 1 ["_law_cell"] (fun fd => Binds K fd ["_law_cell"] []) sp__law_source := by
  refine ⟨⟨f, fd, gm, F.kp, F.binds (ps := ["_law_cell"]) (fun _ _ _ _ _ _ us hl => match us, hl with | [_], _ => rfl), okD F sc__law_source (fun ds M Q E h => ?_) (fun cdv A outer s H M ds Qd Ed E hr cx h => ?_)⟩⟩
  · unfold sp__law_source at h
    split at h <;> first | rfl | exact h.elim
  · refine ⟨_, (dss_one (ds_ret (de_lst (da_cons (dv 0) (da_cons (dv 0) (da_cons de_int da_nil)))))), ?_⟩
    unfold sp__law_source at h; split at h
    · walk_at "dd"
      exact .here (h _ (by assumption))
    · exact h.elim
/- _law_take: slots 0 _law_source_here, 1 _law_many, 2 _law_found -/
theorem ok__law_take (T : Tn mg) {f : Addr} {fd : FuncData} (F : Fun K "_law_take" "_law_take" s__law_take f fd) (gm : mg "_law_take" = some (.ref f)) (G__law_mixed : FnD P w K mg base "_law_mixed" 1 ["_law_cell", "_law_k"] (fun fd => Binds K fd ["_law_cell", "_law_k"] []) sp__law_mixed) : FnD P w K mg base "_law_take" 2 ["_law_source_here", "_law_many"] (fun fd => Binds K fd ["_law_source_here", "_law_many"] []) sp__law_take := by
  refine ⟨⟨f, fd, gm, F.kp, F.binds (ps := ["_law_source_here", "_law_many"]) (fun _ _ _ _ _ _ us hl => match us, hl with | [_, _], _ => rfl), okD F sc__law_take (fun ds M Q E h => ?_) (fun cdv A outer s H M ds Qd Ed E hr cx h => ?_)⟩⟩
  · unfold sp__law_take at h
    split at h <;> first | rfl | exact h.elim
  · refine ⟨_, (dss_cons (ds_if (dt_cmp od_ge (de_ix (dv 0) de_int) (de_op od_pow de_int de_int) (nomark _)) (dss_cons (ds_set (i := 2) sc__law_take.nd rfl (Or.inl rfl) (de_op od_mod (de_ix (dv 0) de_int) (dv 1)))
      (dss_cons (ds_asg (de_op od_fdiv (de_ix (dv 0) de_int) (dv 1)) (dg_sub (dv 0) de_int xs_list))
      (dss_one (ds_ret (dv 2))))) dss_nil)
      (dss_cons (ds_asg (de_op od_add (de_ix (dv 0) de_int) de_int) (dg_sub (dv 0) de_int xs_list))
      (dss_one (ds_ret (de_op od_mod (de_callF G__law_mixed (hr.mono (by decide)) (by rfl) (fun _ h => h) .nil rdn passL ctx0 (da_cons (de_ix (dv 0) de_int) (da_cons (de_ix (dv 0) de_int) da_nil))) (dv 1)))))), ?_⟩
    unfold sp__law_take at h; split at h
    · rename_i a m
      obtain ⟨⟨x, y, z, hM⟩, h0, h1, h⟩ := h
      walk_at "dd"
      refine i_ifd (fun _ => ?_) (fun _ => ?_)
      · walk_at "dd"
        exact .here (h _ _ _ _ (Int.emod_nonneg _ (by omega)) (Int.emod_lt_of_pos _ h0))
      · walk_at "dd"
        exact .here (h _ _ _ _ (Int.emod_nonneg _ (by omega)) (Int.emod_lt_of_pos _ h0))
    · exact h.elim
/- _law_text: slots 0 _law_source_here, 1 _law_signs, 2 _law_most, 3 _law_k -/
theorem ok__law_text (T : Tn mg) {f : Addr} {fd : FuncData} (F : Fun K "_law_text" "_law_text" s__law_text f fd) (gm : mg "_law_text" = some (.ref f)) (G__law_take : FnD P w K mg base "_law_take" 2 ["_law_source_here", "_law_many"] (fun fd => Binds K fd ["_law_source_here", "_law_many"] []) sp__law_take) : FnD P w K mg base "_law_text" 3 ["_law_source_here", "_law_signs", "_law_most"] (fun fd => Binds K fd ["_law_source_here", "_law_signs", "_law_most"] []) sp__law_text := by
  refine ⟨⟨f, fd, gm, F.kp, F.binds (ps := ["_law_source_here", "_law_signs", "_law_most"]) (fun _ _ _ _ _ _ us hl => match us, hl with | [_, _, _], _ => rfl), okD F sc__law_text (fun ds M Q E h => ?_) (fun cdv A outer s H M ds Qd Ed E hr cx h => ?_)⟩⟩
  · unfold sp__law_text at h
    split at h <;> first | rfl | exact h.elim
  · refine ⟨_, (dss_one (ds_ret (de_bm PySem.F.plainAttrs_str PySem.F.slot_str_join PySem.F.type_str_join md_join de_str (da_cons (de_lc (g := (.nm 3)) rfl sc__law_text.nd (di_range1 (by rfl) T.n_range (da_cons (de_callF G__law_take (hr.mono (by decide)) (by rfl) (fun _ h => h) .nil rdn passL ctx0 (da_cons (dv 0) (da_cons (de_op od_add (dv 2) de_int) da_nil))) da_nil)) (blkOk_by (N := ["_law_source_here", "_law_signs", "_law_most", "_law_k"]) (own := [("_law_k", 3)]) (sc := defScope s__law_text) (by decide +kernel)) (fun _ _ _ _ _ => (pg_name (i := 3) sc__law_text.nd rfl (Or.inl rfl))) (fun _ _ _ _ _ => dts_nil) (fun _ _ _ _ _ => (de_ix (dv 1) (de_callF G__law_take (hr.mono (by decide)) (by rfl) (fun _ h => h) .nil rdn passL ctx0 (da_cons (dv 0) (da_cons (de_callB cd_len (by rfl) T.n_len (by decide +kernel) (da_cons (dv 1) da_nil)) da_nil)))))) da_nil)))), ?_⟩
    unfold sp__law_text at h; split at h
    · rename_i a s m
      obtain ⟨⟨x, y, z, hM⟩, h0, h1, h2, h3, h⟩ := h
      walk_at "dd"
      rename_i n x1 y1 z1 _ _
      have ls := str_len s
      refine lc_rng (fun i acc M' => ∃ (zs : List Str) (x y z : Int), acc = zs.map .str ∧ zs.length = i ∧ (∀ t ∈ zs, t.length = 1) ∧ M' = mup M a (.lst [.int x, .int y, .int z])) ?_ ⟨[], x1, y1, z1, rfl, rfl, fun _ q => (nomatch q), rfl⟩ ?_ ?_
      · omega
      · rintro i acc M' hi hl ⟨zs, x2, y2, z2, rfl, hz, h1s, rfl⟩
        walk_at "dd"
        rename_i r _ _ _ _ _
        have hr : r.toNat < s.cps.toList.length := by omega
        refine i_ixS (e_atI (by omega) (List.getElem?_eq_getElem hr)) (by omega) ?_
        refine ⟨zs ++ [⟨#[s.cps.toList[r.toNat]]⟩], _, _, _, by rw [List.map_append]; rfl, by rw [List.length_append, hz]; rfl, fun t ht => ?_, rfl⟩
        rcases List.mem_append.mp ht with q | q
        · exact h1s t q
        · rw [List.mem_singleton.mp q]
          rfl
      · rintro acc M' hl ⟨zs, x2, y2, z2, rfl, hz, h1s, rfl⟩ p hp
        walk_at "dd"
        have hs : (zs.map (·.length)).sum = zs.length := sum_ones h1s
        refine i_join (zs := zs) (by walk_at "sq") (strsOf_map zs) ?_ ?_
        · rw [hs]
          show zs.length + zs.length * 0 ≤ _
          omega
        · walk_at "dd"
          refine ⟨_, ?_, h _ x2 y2 z2 ?_⟩
          rotate_left
          · rw [join0_len, hs]
            omega
          · walk_at "fg"
    · exact h.elim
/- _law_right: slots 0 _law_one, 1 _law_other, 2 _law_found, 3 _law_many -/
theorem ok__law_right (T : Tn mg) {f : Addr} {fd : FuncData} (F : Fun K "_law_right" "_law_right" s__law_right f fd) (gm : mg "_law_right" = some (.ref f)) (G_common_start : FnD P w K mg base "common_start" 1 ["one", "other"] (fun fd => Binds K fd ["one", "other"] []) sp_common_start) : FnD P w K mg base "_law_right" 2 ["_law_one", "_law_other"] (fun fd => Binds K fd ["_law_one", "_law_other"] []) sp__law_right := by
  refine ⟨⟨f, fd, gm, F.kp, F.binds (ps := ["_law_one", "_law_other"]) (fun _ _ _ _ _ _ us hl => match us, hl with | [_, _], _ => rfl), okD F sc__law_right (fun ds M Q E h => ?_) (fun cdv A outer s H M ds Qd Ed E hr cx h => ?_)⟩⟩
  · unfold sp__law_right at h
    split at h <;> first | rfl | exact h.elim
  · refine ⟨_, (dss_cons (ds_set (i := 2) sc__law_right.nd rfl (Or.inl rfl) (de_callF G_common_start (hr.mono (by decide)) (by rfl) (fun _ h => h) .nil rdn passL ctx0 (da_cons (dv 0) (da_cons (dv 1) da_nil))))
      (dss_cons (ds_if (dt_not (dt_val (de_callB cd_isi (by rfl) T.n_isinstance (by decide +kernel) (da_cons (dv 2) (da_cons (de_bltn (n := "str") (by rfl) T.n_str (by decide +kernel)) da_nil))))) (dss_one (ds_ret de_bl)) dss_nil)
      (dss_cons (ds_set (i := 3) sc__law_right.nd rfl (Or.inl rfl) (de_callB cd_len (by rfl) T.n_len (by decide +kernel) (da_cons (dv 2) da_nil)))
      (dss_cons (ds_if (dt_w (dw_or (dt_cmp (od_ne hr.units) (de_slice (dv 0) do_none (do_some (dv 3))) (dv 2) (nomark _)) (dw_or1 (dt_cmp (od_ne hr.units) (de_slice (dv 1) do_none (do_some (dv 3))) (dv 2) (nomark _))))) (dss_one (ds_ret de_bl)) dss_nil)
      (dss_cons (ds_if (dt_w (dw_and (dt_cmp od_lt (dv 3) (de_callB cd_len (by rfl) T.n_len (by decide +kernel) (da_cons (dv 0) da_nil)) (nomark _)) (dw_and (dt_cmp od_lt (dv 3) (de_callB cd_len (by rfl) T.n_len (by decide +kernel) (da_cons (dv 1) da_nil)) (nomark _)) (dw_and1 (dt_cmp (od_eq hr.units) (de_ix (dv 0) (dv 3)) (de_ix (dv 1) (dv 3)) (nomark _)))))) (dss_one (ds_ret de_bl)) dss_nil)
      (dss_one (ds_ret (de_and (de_cmp (od_eq hr.units) (de_callF G_common_start (hr.mono (by decide)) (by rfl) (fun _ h => h) .nil rdn passL ctx0 (da_cons (dv 1) (da_cons (dv 0) da_nil))) (dv 2) (nomark _)) (de_one (de_cmp (od_eq hr.units) (de_callF G_common_start (hr.mono (by decide)) (by rfl) (fun _ h => h) .nil rdn passL ctx0 (da_cons (dv 0) (da_cons (dv 0) da_nil))) (dv 0) (nomark _))))))))))), ?_⟩
    unfold sp__law_right at h; split at h
    · rename_i a b
      obtain ⟨ha, hb, h⟩ := h
      have l1 := cs_le a b
      have l2 := cs_le b a
      rw [cs_comm] at l2
      walk_at "dd"
      refine u_cs (by omega) (by omega) ?_
      walk_at "dd"
      refine i_ifn (fun hn => absurd (cs_cut a b) hn) (fun _ => ?_)
      walk_at "dd"
      refine i_ifn (fun hn => absurd (by rw [cs_comm a b]; exact cs_cut b a) hn) (fun _ => ?_)
      walk_at "dd"
      have hh : ∀ (h1 : (cs a b).length < a.cps.toList.length) (h2 : (cs a b).length < b.cps.toList.length), a.cps.toList[(cs a b).length] ≠ b.cps.toList[(cs a b).length] := by
        rw [cs_len]
        exact csL_ne a.cps.toList b.cps.toList
      have la := str_len a
      have lb := str_len b
      have e1 : cs b a = cs a b := cs_comm b a
      have fin : Fg Qd (.bl true) M := .here h
      have rest : dAndV (dOp dEq (dCall sp_common_start [] Ed0 (dConsA (dVar 1) (dConsA (dVar 0) dNilA))) (dVar 2)) (dOp dEq (dCall sp_common_start [] Ed0 (dConsA (dVar 0) (dConsA (dVar 0) dNilA))) (dVar 0)) [some (.str a), some (.str b), some (.str (cs a b)), some (.int (cs a b).length)] M (Fg Qd) := by
        walk_at "dd"
        refine u_cs (by omega) (by omega) ?_
        rw [e1]
        walk_at "dd"
        refine i_ifT (decide_eq_true rfl) ?_
        walk_at "dd"
        refine u_cs (by omega) (by omega) ?_
        rw [cs_self]
        walk_at "dd"
        rw [decide_eq_true rfl]
        exact fin
      refine i_ifd (fun c1 => ?_) (fun c1 => ?_)
      · walk_at "dd"
        refine i_ifd (fun c2 => ?_) (fun c2 => ?_)
        · walk_at "dd"
          refine i_ixS (L2.atI_nat (List.getElem?_eq_getElem (show (cs a b).length < a.cps.toList.length by omega))) (by omega) ?_
          walk_at "dd"
          refine i_ixS (L2.atI_nat (List.getElem?_eq_getElem (show (cs a b).length < b.cps.toList.length by omega))) (by omega) ?_
          walk_at "dd"
          refine i_ifd (fun c3 => absurd (sign_eq.mp c3) (hh (by omega) (by omega))) (fun c3 => ?_)
          walk_at "dd"
          exact rest
        · walk_at "dd"
          exact rest
      · walk_at "dd"
        exact rest
    · exact h.elim
/- law: slots 0 _law_script, 1 _law_cell, 2 _law_source_here, 3 _law_signs, 4 _law_way, 5 _law_begin, 6 _law_one, 7 _law_other -/
theorem ok_law (T : Tn mg) {f : Addr} {fd : FuncData} (F : Fun K "law" "law" s_law f fd) (G__law_right : FnD P w K mg base "_law_right" 2 ["_law_one", "_law_other"] (fun fd => Binds K fd ["_law_one", "_law_other"] []) sp__law_right) (G__law_text : FnD P w K mg base "_law_text" 3 ["_law_source_here", "_law_signs", "_law_most"] (fun fd => Binds K fd ["_law_source_here", "_law_signs", "_law_most"] []) sp__law_text) (G__law_take : FnD P w K mg base "_law_take" 2 ["_law_source_here", "_law_many"] (fun fd => Binds K fd ["_law_source_here", "_law_many"] []) sp__law_take) (G__law_source : FnD P w K mg base "_law_source" 1 ["_law_cell"] (fun fd => Binds K fd ["_law_cell"] []) sp__law_source) : FnOk P w K mg base (L2.CX P w) 4 f fd ["_law_script"] (LSp K sp_law) := by
  refine okD F sc_law (fun ds M Q E h => ?_) (fun cdv A outer s H M ds Qd Ed E hr cx h => ?_)
  · unfold sp_law spLaw at h
    split at h <;> first | rfl | exact h.elim
  · refine ⟨_, (dss_cons (ds_for (passes_of rfl) rfl (di_list (de_slice (de_op od_add (dv 0) (de_lst (da_cons de_int da_nil))) do_none (do_some de_int))) (dg_name (i := 1) sc_law.nd rfl (Or.inl rfl)) (dss_cons (ds_set (i := 2) sc_law.nd rfl (Or.inl rfl) (de_callF G__law_source (hr.mono (by decide)) (by rfl) (fun _ h => h) .nil rdn passL ctx0 (da_cons (dv 1) da_nil)))
      (dss_cons (ds_set (i := 3) sc_law.nd rfl (Or.inl rfl) (de_ix (de_lst (da_cons de_str (da_cons de_str da_nil))) (de_callF G__law_take (hr.mono (by decide)) (by rfl) (fun _ h => h) .nil rdn passL ctx0 (da_cons (dv 2) (da_cons de_int da_nil)))))
      (dss_cons (ds_set (i := 4) sc_law.nd rfl (Or.inl rfl) (de_callF G__law_take (hr.mono (by decide)) (by rfl) (fun _ h => h) .nil rdn passL ctx0 (da_cons (dv 2) (da_cons de_int da_nil))))
      (dss_cons (ds_set (i := 5) sc_law.nd rfl (Or.inl rfl) (de_callF G__law_text (hr.mono (by decide)) (by rfl) (fun _ h => h) .nil rdn passL ctx0 (da_cons (dv 2) (da_cons (dv 3) (da_cons de_int da_nil)))))
      (dss_cons (ds_set (i := 6) sc_law.nd rfl (Or.inl rfl) (de_op od_add (dv 5) (de_callF G__law_text (hr.mono (by decide)) (by rfl) (fun _ h => h) .nil rdn passL ctx0 (da_cons (dv 2) (da_cons (dv 3) (da_cons de_int da_nil))))))
      (dss_cons (ds_set (i := 7) sc_law.nd rfl (Or.inl rfl) (de_op od_add (dv 5) (de_callF G__law_text (hr.mono (by decide)) (by rfl) (fun _ h => h) .nil rdn passL ctx0 (da_cons (dv 2) (da_cons (dv 3) (da_cons de_int da_nil))))))
      (dss_cons (ds_if (dt_cmp (od_eq hr.units) (dv 4) de_int (nomark _)) (dss_one (ds_set (i := 7) sc_law.nd rfl (Or.inl rfl) (dv 5))) dss_nil)
      (dss_cons (ds_if (dt_cmp (od_eq hr.units) (dv 4) de_int (nomark _)) (dss_one (ds_set (i := 7) sc_law.nd rfl (Or.inl rfl) (dv 6))) dss_nil)
      (dss_cons (ds_if (dt_cmp (od_eq hr.units) (dv 4) de_int (nomark _)) (dss_one (ds_set (i := 6) sc_law.nd rfl (Or.inl rfl) de_str)) dss_nil)
      (dss_one (ds_if (dt_w (dw_or (dt_not (dt_val (de_callF G__law_right (hr.mono (by decide)) (by rfl) (fun _ h => h) .nil rdn passL ctx0 (da_cons (dv 6) (da_cons (dv 7) da_nil))))) (dw_or (dt_not (dt_val (de_callF G__law_right (hr.mono (by decide)) (by rfl) (fun _ h => h) .nil rdn passL ctx0 (da_cons (de_op od_add (dv 6) (dv 7)) (da_cons (dv 6) da_nil))))) (dw_or1 (dt_not (dt_val (de_callF G__law_right (hr.mono (by decide)) (by rfl) (fun _ h => h) .nil rdn passL ctx0 (da_cons (de_op od_add (dv 6) de_str) (da_cons (de_op od_add (dv 6) de_str) da_nil))))))))) (dss_one (ds_ret de_bl)) dss_nil))))))))))))
      (dss_one (ds_ret de_bl))), ?_⟩
    unfold sp_law spLaw at h; split at h
    · rename_i xs
      obtain ⟨⟨ns, rfl, hn⟩, h⟩ := h
      walk_at "dd"
      rename_i p1 hp1 p2 hp2 p3 hp3
      refine for_own (fun i sd M' => (∃ x1 x2 x3 x4 x5 x6 x7, sd = [some (.lst (ns.map .int)), x1, x2, x3, x4, x5, x6, x7]) ∧ M' p3 = some (.lst (DL.cutD (List.map Dv.int ns ++ [Dv.int 0]) none (some 3)))) ⟨⟨_, _, _, _, _, _, _, rfl⟩, mup_same⟩ (fun _ _ _ _ hw => hw.2) ?_ ?_
      · rintro i d sd M' hd ⟨⟨x1, x2, x3, x4, x5, x6, x7, rfl⟩, hM⟩
        obtain ⟨c, rfl⟩ : ∃ c : Int, d = .int c := by
          have := cut_mem (List.mem_of_getElem? hd)
          rcases List.mem_append.mp this with q | q
          · obtain ⟨c, _, e⟩ := List.mem_map.mp q
            exact ⟨c, e.symm⟩
          · exact ⟨0, List.mem_singleton.mp q⟩
        walk_at "dd"
        rename_i p hp r x y z hr0 hr1
        obtain ⟨sg, hs1, hs2, hs3⟩ : ∃ sg : Str, L2.atI [Dv.str (Str.ofString "ABCDEFGHIJKLMNOPQRSTUVWXYZabcdefghijklmnopqrstuvwxyz"), Dv.str (Str.ofString "kQ")] r = some (.str sg) ∧ 0 < sg.length ∧ sg.length ≤ 1000 := by
          have : r = 0 ∨ r = 1 := by omega
          rcases this with rfl | rfl
          · exact ⟨_, L2.atI_nat (j := 0) rfl, by decide +kernel, by decide +kernel⟩
          · exact ⟨_, L2.atI_nat (j := 1) rfl, by decide +kernel, by decide +kernel⟩
        refine i_ixL (by walk_at "sq") hs1 ?_
        walk_at "dd"
        have la : (Str.ofString "a").length = 1 := by decide +kernel
        have lb : (Str.ofString "b").length = 1 := by decide +kernel
        have le : (Str.ofString "").length = 0 := by decide +kernel
        refine i_ifd (fun _ => ?_) (fun _ => ?_) <;> walk_at "dd" <;> refine i_ifd (fun _ => ?_) (fun _ => ?_) <;> walk_at "dd" <;> refine i_ifd (fun _ => ?_) (fun _ => ?_) <;> walk_at "dd"
        all_goals first | (refine ⟨⟨_, _, _, _, _, _, _, rfl⟩, ?_⟩; walk_at "lk") | walk_at "lk"
      · rintro sd M' ⟨⟨x1, x2, x3, x4, x5, x6, x7, rfl⟩, hM⟩
        walk_at "dd"
        exact .here (h _)
    · exact h.elim

end
theorem all_mk {P : Program} {w : World} {K : PySem.W.Frag} {h : Heap} {mg : Str → Option Value} {fa f1 f2 f3 f4 f5 f6 f7 : Addr} (X : K.In h) (G : h.Ns mainGlobals mg) (hfa : mg "law" = some (.ref fa))
    {od1 an1 od2 an2 od3 an3 od4 an4 od5 an5 od6 an6 od7 an7 : Option Addr} {sl1 sl2 sl3 sl4 sl5 sl6 sl7 : Array (Option Value)} {oc1 kV1 dc1 pm1 cd1 ct1 oc2 kV2 dc2 pm2 cd2 ct2 oc3 kV3 dc3 pm3 cd3 ct3 oc4 kV4 dc4 pm4 cd4 ct4 oc5 kV5 dc5 pm5 cd5 ct5 oc6 kV6 dc6 pm6 cd6 ct6 oc7 kV7 dc7 pm7 cd7 ct7 : Value}
    (a1 : PySem.W.nsIn K mainGlobals "common_start" = some (some (.ref f1))) (l1 : K.lookup f1 = some ⟨oc1, od1, .func (PySem.W.fnOf "common_start" "common_start" (defArgs s_common_start) (defBody s_common_start) (defScope s_common_start) .none kV1 dc1 pm1 an1 cd1 ct1), sl1⟩) (c1 : PySem.W.codeIn K cd1 "common_start" = true) (k1 : PySem.W.keepIn K (.ref f1) = true)
    (a2 : PySem.W.nsIn K mainGlobals "_law_mixed" = some (some (.ref f2))) (l2 : K.lookup f2 = some ⟨oc2, od2, .func (PySem.W.fnOf "_law_mixed" "_law_mixed" (defArgs s__law_mixed) (defBody s__law_mixed) (defScope s__law_mixed) .none kV2 dc2 pm2 an2 cd2 ct2), sl2⟩) (c2 : PySem.W.codeIn K cd2 "_law_mixed" = true) (k2 : PySem.W.keepIn K (.ref f2) = true)
    (a3 : PySem.W.nsIn K mainGlobals "_law_source" = some (some (.ref f3))) (l3 : K.lookup f3 = some ⟨oc3, od3, .func (PySem.W.fnOf "_law_source" "_law_source" (defArgs s__law_source) (defBody s__law_source) (defScope s__law_source) .none kV3 dc3 pm3 an3 cd3 ct3), sl3⟩) (c3 : PySem.W.codeIn K cd3 "_law_source" = true) (k3 : PySem.W.keepIn K (.ref f3) = true)
    (a4 : PySem.W.nsIn K mainGlobals "_law_take" = some (some (.ref f4))) (l4 : K.lookup f4 = some ⟨oc4, od4, .func (PySem.W.fnOf "_law_take" "_law_take" (defArgs s__law_take) (defBody s__law_take) (defScope s__law_take) .none kV4 dc4 pm4 an4 cd4 ct4), sl4⟩) (c4 : PySem.W.codeIn K cd4 "_law_take" = true) (k4 : PySem.W.keepIn K (.ref f4) = true)
    (a5 : PySem.W.nsIn K mainGlobals "_law_text" = some (some (.ref f5))) (l5 : K.lookup f5 = some ⟨oc5, od5, .func (PySem.W.fnOf "_law_text" "_law_text" (defArgs s__law_text) (defBody s__law_text) (defScope s__law_text) .none kV5 dc5 pm5 an5 cd5 ct5), sl5⟩) (c5 : PySem.W.codeIn K cd5 "_law_text" = true) (k5 : PySem.W.keepIn K (.ref f5) = true)
    (a6 : PySem.W.nsIn K mainGlobals "_law_right" = some (some (.ref f6))) (l6 : K.lookup f6 = some ⟨oc6, od6, .func (PySem.W.fnOf "_law_right" "_law_right" (defArgs s__law_right) (defBody s__law_right) (defScope s__law_right) .none kV6 dc6 pm6 an6 cd6 ct6), sl6⟩) (c6 : PySem.W.codeIn K cd6 "_law_right" = true) (k6 : PySem.W.keepIn K (.ref f6) = true)
    (a7 : PySem.W.nsIn K mainGlobals "law" = some (some (.ref f7))) (l7 : K.lookup f7 = some ⟨oc7, od7, .func (PySem.W.fnOf "law" "law" (defArgs s_law) (defBody s_law) (defScope s_law) .none kV7 dc7 pm7 an7 cd7 ct7), sl7⟩) (c7 : PySem.W.codeIn K cd7 "law" = true) (k7 : PySem.W.keepIn K (.ref f7) = true)
    (z_isinstance : PySem.W.nsIn K mainGlobals "isinstance" = some none)
    (z_len : PySem.W.nsIn K mainGlobals "len" = some none)
    (z_min : PySem.W.nsIn K mainGlobals "min" = some none)
    (z_range : PySem.W.nsIn K mainGlobals "range" = some none)
    (z_str : PySem.W.nsIn K mainGlobals "str" = some none)
    : ∃ fd : FuncData, (∀ (s : Shared) (v : Value), BindsTo s fd ⟨[v], []⟩ [("_law_script", v)]) ∧ ∀ base : Heap, K.In base → base.Ns mainGlobals mg → FnOk P w K mg base (L2.CX P w) 4 fa fd ["_law_script"] (LSp K sp_law) := by
  have e := hfa.symm.trans (PySem.W.mg_of X G a7)
  cases e
  have F1 := fun_mk (st := s_common_start) l1 c1 k1
  have F2 := fun_mk (st := s__law_mixed) l2 c2 k2
  have F3 := fun_mk (st := s__law_source) l3 c3 k3
  have F4 := fun_mk (st := s__law_take) l4 c4 k4
  have F5 := fun_mk (st := s__law_text) l5 c5 k5
  have F6 := fun_mk (st := s__law_right) l6 c6 k6
  have F7 := fun_mk (st := s_law) l7 c7 k7
  have T : Tn mg := ⟨PySem.W.mg_none_of X G z_isinstance, PySem.W.mg_none_of X G z_len, PySem.W.mg_none_of X G z_min, PySem.W.mg_none_of X G z_range, PySem.W.mg_none_of X G z_str⟩
  refine ⟨PySem.W.fnOf "law" "law" (defArgs s_law) (defBody s_law) (defScope s_law) .none kV7 dc7 pm7 an7 cd7 ct7, fun s v => .of_eq rfl, fun base _ _ => ?_⟩
  have G_common_start := ok_common_start (P := P) (w := w) (base := base) T F1 (PySem.W.mg_of X G a1)
  have G__law_mixed := ok__law_mixed (P := P) (w := w) (base := base) T F2 (PySem.W.mg_of X G a2)
  have G__law_source := ok__law_source (P := P) (w := w) (base := base) T F3 (PySem.W.mg_of X G a3)
  have G__law_take := ok__law_take (P := P) (w := w) (base := base) T F4 (PySem.W.mg_of X G a4) G__law_mixed
  have G__law_text := ok__law_text (P := P) (w := w) (base := base) T F5 (PySem.W.mg_of X G a5) G__law_take
  have G__law_right := ok__law_right (P := P) (w := w) (base := base) T F6 (PySem.W.mg_of X G a6) G_common_start
  exact ok_law (P := P) (w := w) (base := base) T F7 G__law_right G__law_text G__law_take G__law_source
end Lw
open PySem PySem.W PyProof.Rows
set_option maxHeartbeats 0 in
theorem PySem.Challenge.cw_markseam_k02_the_common_start_holds : PySem.Challenge.rw_markseam_k02_the_common_start.Holds := by
  w_on; o_law; k_head; (case hw => w_witness2)
  k_fill
  refine L2.walk_of (l := PySem.Challenge.rw_markseam_k02_the_common_start) (n := 63) (k := 4) (x := "_law_script") (CX := fun w => L2.CX PySem.Challenge.rw_markseam_k02_the_common_start.prog w) (sp := fun w => DL.LSp _ Lw.sp_law) rfl (by decide) rfl ⟨rfl, by decide, by decide⟩ (fun w h Y => PySem.W.kIn_of Y) ?F (fun _ _ a ns hl hO hS => DL.hsp_law hl hO hS) (fun _ _ _ _ _ h => DL.hcx_law h)
  case F =>
    intro w mg fa h KX G hmg
    refine' Lw.all_mk KX G hmg ?a1 ?l1 ?c1 ?k1 ?a2 ?l2 ?c2 ?k2 ?a3 ?l3 ?c3 ?k3 ?a4 ?l4 ?c4 ?k4 ?a5 ?l5 ?c5 ?k5 ?a6 ?l6 ?c6 ?k6 ?a7 ?l7 ?c7 ?k7 ?z_isinstance ?z_len ?z_min ?z_range ?z_str
    (case a1 => k_is); (case l1 => k_is); (case c1 => k_is); (case k1 => k_is); (case a2 => k_is); (case l2 => k_is); (case c2 => k_is); (case k2 => k_is); (case a3 => k_is); (case l3 => k_is); (case c3 => k_is); (case k3 => k_is); (case a4 => k_is); (case l4 => k_is); (case c4 => k_is); (case k4 => k_is); (case a5 => k_is); (case l5 => k_is); (case c5 => k_is); (case k5 => k_is); (case a6 => k_is); (case l6 => k_is); (case c6 => k_is); (case k6 => k_is); (case a7 => k_is); (case l7 => k_is); (case c7 => k_is); (case k7 => k_is); (case z_isinstance => k_is); (case z_len => k_is); (case z_min => k_is); (case z_range => k_is); (case z_str => k_is)
