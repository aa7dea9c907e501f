import PyProof.Rows.All
import Wide.All
import OpenK.AllK
import Wide.FinOn
import HandS.ForMost
import HandS.Exc
import HandS.ExcOwn
import HandS.ExcInit
import HandS.WordsExc
import HandS.Wide
import HandS.Lambda
import HandS.EndTab
import HandS.EndOwn
import HandS.ExcField
import HandS.TryMany
import HandS.IsInst
import HandS.Flow
import HandS.StrMore
import HandS.Defaults
import HandS.Strs
import HandS.ClsMeth
import HandS.ExcIs
import PyProof.StrOps2
import PyProof.ZipIter
import HandS.Iter
import PyProof.Draws
import PyProof.EnumMake
import HandS.Style
import PyProof.SliceStr2
import HandS.MakeKw
import HandS.MakeKwOnly
import KE.OsArith
import KE.BitLaws
import PyProof.ListMulRoad
import HandS.SlotsOwn
import HandS.OwnEq
import HandS.FStr
import HandS.More
import KE.KCallOwn
import KE.KFmtOwn
import PyProof.CollectStr
import PyProof.InstEq
import HandS.Set
import HandS.Conv
import HandS.SortInts
import HandS.SortKw
import KE.KMinKey
import KE.GoesZip
import KE.GoesEnumKw
import KE.GoesMore
import PyProof.TupleIter
import KE.KDictCopyH
import HandS.SetTxt0
import KE.KDictZip
import KE.KDictPairs
import HandS.DictComp
import KE.SortKeyHeap
import KE.SortCalls
import KE.SortData
import PySem.Challenge.RW_markseam_k14_marks_in_order
set_option Elab.async false
set_option linter.all false
set_option maxRecDepth 100000
set_option maxHeartbeats 4000000
namespace DL
open PySem PySem.Spec PyProof.Rows L2
abbrev St := L2.St

/-! ### data: values without the heap; lists that stand still are trees -/
inductive Dv where
  | non | bl (b : Bool) | int (i : Int) | str (x : Str) | ty (n : String) | ref (a : Addr)
  | tup (ds : List Dv) | lst (ds : List Dv) | obj (c : Str) (fs : List (Str × Dv)) | dct (kvs : List (Key × Dv)) | dctT (kvs : List (List Key × Dv))
instance : Inhabited Dv := ⟨.non⟩

/-- a list that stands still: locked, or an object of the module -/
def FzL (K : PySem.W.Frag) (H : Hp) (a : Addr) (xs : List V) : Prop :=
  (∃ o, H a = some (.frz o (.lst xs))) ∨
    ∃ (o : Obj) (its : Array Value) (n : Nat), K.lookup a = some o ∧ o.cls = .type "list" ∧ o.dict = none ∧ o.data = .seq its n ∧ its.size ≤ sizeLine ∧ Vals xs its.toList
theorem FzL.seq {K : PySem.W.Frag} {H : Hp} {a : Addr} {xs : List V} (h : FzL K H a xs) : SqL K H a xs := by
  rcases h with ⟨o, h⟩ | h
  · exact .inl (.inr ⟨o, h⟩)
  · exact .inr h
mutual
def RD (K : PySem.W.Frag) (H : Hp) : Dv → V → Prop
  | .non, v => v = .non
  | .bl b, v => v = .bl b
  | .int i, v => v = .int i
  | .str x, v => v = .str x
  | .ty n, v => v = .ty n
  | .ref a, v => v = .ref a
  | .tup ds, v => ∃ a vs, v = .ref a ∧ SqT K H a vs ∧ RDs K H ds vs
  | .lst ds, v => ∃ a vs, v = .ref a ∧ FzL K H a vs ∧ RDs K H ds vs
  | .obj c fs, v => ∃ a o C dx vfs, v = .ref a ∧ PySem.W.nsIn K mainGlobals c = some (some (.ref C)) ∧ H a = some (.frz o (.ins C dx vfs)) ∧ RDf K H fs vfs
  | .dct kvs, v => ∃ a o vks, v = .ref a ∧ H a = some (.frz o (.dK vks)) ∧ RDk1 K H kvs vks
  | .dctT kvs, v => ∃ a o vks, v = .ref a ∧ H a = some (.frz o (.dT vks)) ∧ RDk2 K H kvs vks
def RDs (K : PySem.W.Frag) (H : Hp) : List Dv → List V → Prop
  | [], vs => vs = []
  | d :: ds, vs => ∃ v r, vs = v :: r ∧ RD K H d v ∧ RDs K H ds r
def RDf (K : PySem.W.Frag) (H : Hp) : List (Str × Dv) → List (Str × V) → Prop
  | [], vs => vs = []
  | (f, d) :: ds, vs => ∃ v r, vs = (f, v) :: r ∧ RD K H d v ∧ RDf K H ds r
def RDk1 (K : PySem.W.Frag) (H : Hp) : List (Key × Dv) → List (Key × V) → Prop
  | [], vs => vs = []
  | (f, d) :: ds, vs => ∃ v r, vs = (f, v) :: r ∧ RD K H d v ∧ RDk1 K H ds r
def RDk2 (K : PySem.W.Frag) (H : Hp) : List (List Key × Dv) → List (List Key × V) → Prop
  | [], vs => vs = []
  | (f, d) :: ds, vs => ∃ v r, vs = (f, v) :: r ∧ RD K H d v ∧ RDk2 K H ds r
end

/-- what stands still, stands -/
def Mutd : Option HO → Prop
  | some (.ext _) => False
  | o => Mut o
theorem Mutd.mut : ∀ {o : Option HO}, Mutd o → Mut o
  | none, h => h
  | some o, h => by
    cases o <;> first | exact h | exact h.elim
/-- no table of code objects -/
def NT (o : HO) : Prop := ∀ ps, o ≠ .tbl ps
theorem nt_lst {xs : List V} : NT (.lst xs) := fun _ z => by cases z
structure Keep (H H' : Hp) : Prop where
  tups : ∀ b xs, H b = some (.tup xs) → H' b = some (.tup xs)
  frzs : ∀ b o u, H b = some (.frz o u) → H' b = some (.frz o u)
  cods : ∀ b q, H b = some (LamX.CodeO b q) → H' b = some (LamX.CodeO b q)
theorem Keep.refl (H : Hp) : Keep H H := ⟨fun _ _ h => h, fun _ _ _ h => h, fun _ _ h => h⟩
theorem Keep.trans {H H1 H2 : Hp} (a : Keep H H1) (b : Keep H1 H2) : Keep H H2 := ⟨fun c x h => b.tups c x (a.tups c x h), fun c o u h => b.frzs c o u (a.frzs c o u h), fun c q h => b.cods c q (a.cods c q h)⟩
theorem Keep.seqT {K : PySem.W.Frag} {H H' : Hp} (k : Keep H H') {a : Addr} {xs : List V} (h : SqT K H a xs) : SqT K H' a xs := by
  rcases h with (h | ⟨o, h⟩) | h
  · exact .inl (.inl (k.tups _ _ h))
  · exact .inl (.inr ⟨o, k.frzs _ _ _ h⟩)
  · exact .inr h
theorem Keep.fz {K : PySem.W.Frag} {H H' : Hp} (k : Keep H H') {a : Addr} {xs : List V} (h : FzL K H a xs) : FzL K H' a xs := by
  rcases h with ⟨o, h⟩ | h
  · exact .inl ⟨o, k.frzs _ _ _ h⟩
  · exact .inr h
theorem Keep.new {H : Hp} {p : Addr} {o : HO} (h : H p = none) : Keep H (upd H p o) :=
  ⟨fun b xs e => by rw [upd_ne (ne_of_none e h)]; exact e, fun b o u e => by rw [upd_ne (ne_of_none e h)]; exact e, fun b q e => by rw [upd_ne (ne_of_none e h)]; exact e⟩
theorem Keep.mut {H : Hp} {p : Addr} {o : HO} (h : Mutd (H p)) : Keep H (upd H p o) :=
  ⟨fun b xs e => by rw [upd_ne (fun z => by subst z; rw [e] at h; exact h)]; exact e, fun b o u e => by rw [upd_ne (fun z => by subst z; rw [e] at h; exact h)]; exact e, fun b q e => by rw [upd_ne (fun z => by subst z; rw [e] at h; exact h)]; exact e⟩

mutual
theorem RD.keep {K : PySem.W.Frag} {H H' : Hp} (k : Keep H H') : ∀ {d : Dv} {v : V}, RD K H d v → RD K H' d v
  | .non, _, h => h
  | .bl _, _, h => h
  | .int _, _, h => h
  | .str _, _, h => h
  | .ty _, _, h => h
  | .ref _, _, h => h
  | .tup ds, v, h => by
    unfold RD at h ⊢
    obtain ⟨a, vs, e, s, r⟩ := h
    exact ⟨a, vs, e, k.seqT s, RDs.keep k r⟩
  | .lst ds, v, h => by
    unfold RD at h ⊢
    obtain ⟨a, vs, e, s, r⟩ := h
    exact ⟨a, vs, e, k.fz s, RDs.keep k r⟩
  | .obj C fs, v, h => by
    unfold RD at h ⊢
    obtain ⟨a, o, C, dx, vs, e, n, s, r⟩ := h
    exact ⟨a, o, C, dx, vs, e, n, k.frzs _ _ _ s, RDf.keep k r⟩
  | .dct kvs, v, h => by
    unfold RD at h ⊢
    obtain ⟨a, o, vs, e, s, r⟩ := h
    exact ⟨a, o, vs, e, k.frzs _ _ _ s, RDk1.keep k r⟩
  | .dctT kvs, v, h => by
    unfold RD at h ⊢
    obtain ⟨a, o, vs, e, s, r⟩ := h
    exact ⟨a, o, vs, e, k.frzs _ _ _ s, RDk2.keep k r⟩
theorem RDs.keep {K : PySem.W.Frag} {H H' : Hp} (k : Keep H H') : ∀ {ds : List Dv} {vs : List V}, RDs K H ds vs → RDs K H' ds vs
  | [], _, h => h
  | d :: ds, vs, h => by
    unfold RDs at h ⊢
    obtain ⟨v, r, e, h1, h2⟩ := h
    exact ⟨v, r, e, RD.keep k h1, RDs.keep k h2⟩
theorem RDf.keep {K : PySem.W.Frag} {H H' : Hp} (k : Keep H H') : ∀ {ds : List (Str × Dv)} {vs : List (Str × V)}, RDf K H ds vs → RDf K H' ds vs
  | [], _, h => h
  | (f, d) :: ds, vs, h => by
    unfold RDf at h ⊢
    obtain ⟨v, r, e, h1, h2⟩ := h
    exact ⟨v, r, e, RD.keep k h1, RDf.keep k h2⟩
theorem RDk1.keep {K : PySem.W.Frag} {H H' : Hp} (k : Keep H H') : ∀ {ds : List (Key × Dv)} {vs : List (Key × V)}, RDk1 K H ds vs → RDk1 K H' ds vs
  | [], _, h => h
  | (f, d) :: ds, vs, h => by
    unfold RDk1 at h ⊢
    obtain ⟨v, r, e, h1, h2⟩ := h
    exact ⟨v, r, e, RD.keep k h1, RDk1.keep k h2⟩
theorem RDk2.keep {K : PySem.W.Frag} {H H' : Hp} (k : Keep H H') : ∀ {ds : List (List Key × Dv)} {vs : List (List Key × V)}, RDk2 K H ds vs → RDk2 K H' ds vs
  | [], _, h => h
  | (f, d) :: ds, vs, h => by
    unfold RDk2 at h ⊢
    obtain ⟨v, r, e, h1, h2⟩ := h
    exact ⟨v, r, e, RD.keep k h1, RDk2.keep k h2⟩
end
section
variable {K : PySem.W.Frag} {H : Hp}
theorem RDs.length : ∀ {ds : List Dv} {vs : List V}, RDs K H ds vs → ds.length = vs.length
  | [], vs, h => by unfold RDs at h; subst h; rfl
  | d :: ds, vs, h => by
    unfold RDs at h
    obtain ⟨v, r, e, h1, h2⟩ := h
    subst e
    rw [List.length_cons, List.length_cons, RDs.length h2]
theorem RDs.nil : RDs K H [] [] := by unfold RDs; rfl
theorem RDs.cons {d : Dv} {v : V} {ds : List Dv} {vs : List V} (h : RD K H d v) (r : RDs K H ds vs) : RDs K H (d :: ds) (v :: vs) := by unfold RDs; exact ⟨v, vs, rfl, h, r⟩
theorem RDs.app : ∀ {ds es : List Dv} {vs ws : List V}, RDs K H ds vs → RDs K H es ws → RDs K H (ds ++ es) (vs ++ ws)
  | [], es, vs, ws, h, h' => by unfold RDs at h; subst h; exact h'
  | d :: ds, es, vs, ws, h, h' => by
    unfold RDs at h
    obtain ⟨v, r, e, h1, h2⟩ := h
    subst e
    exact RDs.cons h1 (RDs.app h2 h')
theorem RDs.get : ∀ {ds : List Dv} {vs : List V} {i : Nat} {d : Dv}, RDs K H ds vs → ds[i]? = some d → ∃ v, vs[i]? = some v ∧ RD K H d v
  | [], vs, i, d, h, e => by simp at e
  | d :: ds, vs, 0, d', h, e => by
    unfold RDs at h
    obtain ⟨v, r, e1, h1, h2⟩ := h
    subst e1
    simp at e
    subst e
    exact ⟨v, rfl, h1⟩
  | d :: ds, vs, i + 1, d', h, e => by
    unfold RDs at h
    obtain ⟨v, r, e1, h1, h2⟩ := h
    subst e1
    obtain ⟨u, hu, ru⟩ := RDs.get (i := i) h2 (by simpa using e)
    exact ⟨u, by simpa using hu, ru⟩
theorem RDs.set {d : Dv} {v : V} (h : RD K H d v) : ∀ {ds : List Dv} {vs : List V} (i : Nat), RDs K H ds vs → RDs K H (ds.set i d) (vs.set i v)
  | [], vs, i, r => by unfold RDs at r; subst r; exact RDs.nil
  | e :: ds, vs, 0, r => by
    unfold RDs at r
    obtain ⟨u, w, e1, h1, h2⟩ := r
    subst e1
    exact RDs.cons h h2
  | e :: ds, vs, i + 1, r => by
    unfold RDs at r
    obtain ⟨u, w, e1, h1, h2⟩ := r
    subst e1
    exact RDs.cons h1 (RDs.set h i h2)
theorem RDs.take : ∀ {ds : List Dv} {vs : List V} (n : Nat), RDs K H ds vs → RDs K H (ds.take n) (vs.take n)
  | ds, vs, 0, _ => by simp; exact RDs.nil
  | [], vs, n + 1, h => by unfold RDs at h; subst h; exact RDs.nil
  | d :: ds, vs, n + 1, h => by
    unfold RDs at h
    obtain ⟨v, r, e, h1, h2⟩ := h
    subst e
    exact RDs.cons h1 (RDs.take n h2)
theorem RDs.drop : ∀ {ds : List Dv} {vs : List V} (n : Nat), RDs K H ds vs → RDs K H (ds.drop n) (vs.drop n)
  | ds, vs, 0, h => h
  | [], vs, n + 1, h => by unfold RDs at h; subst h; exact RDs.nil
  | d :: ds, vs, n + 1, h => by
    unfold RDs at h
    obtain ⟨v, r, e, h1, h2⟩ := h
    subst e
    exact RDs.drop n h2
theorem RDs.reverse : ∀ {ds : List Dv} {vs : List V}, RDs K H ds vs → RDs K H ds.reverse vs.reverse
  | [], vs, h => by unfold RDs at h; subst h; exact RDs.nil
  | d :: ds, vs, h => by
    unfold RDs at h
    obtain ⟨v, r, e, h1, h2⟩ := h
    subst e
    rw [List.reverse_cons, List.reverse_cons]
    exact RDs.app (RDs.reverse h2) (RDs.cons h1 RDs.nil)
theorem RDf.lookup : ∀ {fs : List (Str × Dv)} {vfs : List (Str × V)} {f : Str} {d : Dv}, RDf K H fs vfs → fs.lookup f = some d → ∃ v, vfs.lookup f = some v ∧ RD K H d v
  | [], vs, f, d, h, e => by simp at e
  | (g, d) :: ds, vs, f, d', h, e => by
    unfold RDf at h
    obtain ⟨v, r, e1, h1, h2⟩ := h
    subst e1
    rw [List.lookup_cons] at e ⊢
    cases q : f == g with
    | true =>
      rw [q] at e
      cases e
      exact ⟨v, rfl, h1⟩
    | false =>
      rw [q] at e
      exact RDf.lookup h2 e
theorem RDf.lookup_none : ∀ {fs : List (Str × Dv)} {vfs : List (Str × V)} {f : Str}, RDf K H fs vfs → fs.lookup f = none → vfs.lookup f = none
  | [], vs, f, h, e => by unfold RDf at h; subst h; rfl
  | (g, d) :: ds, vs, f, h, e => by
    unfold RDf at h
    obtain ⟨v, r, e1, h1, h2⟩ := h
    subst e1
    rw [List.lookup_cons] at e ⊢
    cases q : f == g with
    | true =>
      rw [q] at e
      cases e
    | false =>
      rw [q] at e
      exact RDf.lookup_none h2 e
theorem RDf.length : ∀ {ds : List (Str × Dv)} {vs : List (Str × V)}, RDf K H ds vs → ds.length = vs.length
  | [], vs, h => by unfold RDf at h; subst h; rfl
  | (f, d) :: ds, vs, h => by
    unfold RDf at h
    obtain ⟨v, r, e, h1, h2⟩ := h
    subst e
    rw [List.length_cons, List.length_cons, RDf.length h2]
/-- a field stored -/
def putD (f : Str) (v : Dv) : List (Str × Dv) → List (Str × Dv)
  | [] => [(f, v)]
  | (g, u) :: r => if f = g then (g, v) :: r else (g, u) :: putD f v r
end

/-! ### the objects that one owns -/
inductive OO where
  | lst (ds : List Dv) | ins (c : Str) (fs : List (Str × Dv)) | xd (fs : List (Str × Dv)) | dK (kvs : List (Key × Dv)) | dT (kvs : List (List Key × Dv)) | tab (q : Str)
abbrev Mo := Addr → Option OO
def mup (M : Mo) (a : Addr) (o : OO) : Mo := fun b => if b = a then some o else M b
def mdl (M : Mo) (a : Addr) : Mo := fun b => if b = a then none else M b
theorem mup_same {M : Mo} {a : Addr} {o : OO} : mup M a o a = some o := if_pos rfl
theorem mup_ne {M : Mo} {a b : Addr} {o : OO} (h : b ≠ a) : mup M a o b = M b := if_neg h
theorem mdl_same {M : Mo} {a : Addr} : mdl M a a = none := if_pos rfl
theorem mdl_ne {M : Mo} {a b : Addr} (h : b ≠ a) : mdl M a b = M b := if_neg h
theorem mup_mup {M : Mo} {a : Addr} {o u : OO} : mup (mup M a o) a u = mup M a u := by
  funext b; unfold mup; split <;> rfl
theorem mdl_mup {M : Mo} {a : Addr} {o : OO} (h : M a = none) : mdl (mup M a o) a = M := by
  funext b
  unfold mdl mup
  by_cases e : b = a
  · rw [if_pos e, e, h]
  · rw [if_neg e, if_neg e]
theorem mup_eq {M : Mo} {a : Addr} {o : OO} (h : M a = some o) : mup M a o = M := by
  funext b
  unfold mup
  by_cases e : b = a
  · rw [if_pos e, e, h]
  · rw [if_neg e]
def RDk (K : PySem.W.Frag) (H : Hp) {α : Type} : List (α × Dv) → List (α × V) → Prop
  | [], vs => vs = []
  | (f, d) :: ds, vs => ∃ v r, vs = (f, v) :: r ∧ RD K H d v ∧ RDk K H ds r
theorem RDk.keep {K : PySem.W.Frag} {H H' : Hp} {α : Type} (k : Keep H H') : ∀ {ds : List (α × Dv)} {vs : List (α × V)}, RDk K H ds vs → RDk K H' ds vs
  | [], _, h => h
  | (f, d) :: ds, vs, h => by
    unfold RDk at h ⊢
    obtain ⟨v, r, e, h1, h2⟩ := h
    exact ⟨v, r, e, RD.keep k h1, RDk.keep k h2⟩
theorem rdk1 {K : PySem.W.Frag} {H : Hp} : ∀ {ds : List (Key × Dv)} {vs : List (Key × V)}, RDk1 K H ds vs ↔ RDk K H ds vs
  | [], vs => by unfold RDk1 RDk; exact Iff.rfl
  | (f, d) :: ds, vs => by
    unfold RDk1 RDk
    exact ⟨fun ⟨v, r, e, h1, h2⟩ => ⟨v, r, e, h1, rdk1.mp h2⟩, fun ⟨v, r, e, h1, h2⟩ => ⟨v, r, e, h1, rdk1.mpr h2⟩⟩
theorem rdk2 {K : PySem.W.Frag} {H : Hp} : ∀ {ds : List (List Key × Dv)} {vs : List (List Key × V)}, RDk2 K H ds vs ↔ RDk K H ds vs
  | [], vs => by unfold RDk2 RDk; exact Iff.rfl
  | (f, d) :: ds, vs => by
    unfold RDk2 RDk
    exact ⟨fun ⟨v, r, e, h1, h2⟩ => ⟨v, r, e, h1, rdk2.mp h2⟩, fun ⟨v, r, e, h1, h2⟩ => ⟨v, r, e, h1, rdk2.mpr h2⟩⟩
def Own (K : PySem.W.Frag) (H : Hp) (a : Addr) : OO → Prop
  | .lst ds => ∃ vs, H a = some (.lst vs) ∧ RDs K H ds vs
  | .ins c fs => ∃ C dx vfs, PySem.W.nsIn K mainGlobals c = some (some (.ref C)) ∧ H a = some (.ins C dx vfs) ∧ RDf K H fs vfs
  | .xd fs => ∃ vfs, H a = some (.xd vfs) ∧ RDf K H fs vfs
  | .dK kvs => ∃ vks, H a = some (.dK vks) ∧ RDk K H kvs vks
  | .dT kvs => ∃ vks, H a = some (.dT vks) ∧ RDk K H kvs vks
  | .tab q => LamX.TabS H a q
theorem Own.there {K : PySem.W.Frag} {H : Hp} {a : Addr} {o : OO} (h : Own K H a o) : ∃ u, H a = some u := by
  cases o <;> simp only [Own] at h
  · obtain ⟨_, e, _⟩ := h; exact ⟨_, e⟩
  · obtain ⟨_, _, _, _, e, _⟩ := h; exact ⟨_, e⟩
  · obtain ⟨_, e, _⟩ := h; exact ⟨_, e⟩
  · obtain ⟨_, e, _⟩ := h; exact ⟨_, e⟩
  · obtain ⟨_, e, _⟩ := h; exact ⟨_, e⟩
  · obtain ⟨_, e, _⟩ := h; exact ⟨_, e⟩
theorem Own.keep {K : PySem.W.Frag} {H H' : Hp} {a : Addr} {o : OO} (k : Keep H H') (e : H' a = H a) (h : Own K H a o) : Own K H' a o := by
  cases o <;> simp only [Own] at h ⊢ <;> (try rw [e])
  · obtain ⟨x, e, r⟩ := h; exact ⟨x, e, r.keep k⟩
  · obtain ⟨x, y, z, n, e, r⟩ := h; exact ⟨x, y, z, n, e, r.keep k⟩
  · obtain ⟨x, e, r⟩ := h; exact ⟨x, e, r.keep k⟩
  · obtain ⟨x, e, r⟩ := h; exact ⟨x, e, r.keep k⟩
  · obtain ⟨x, e, r⟩ := h; exact ⟨x, e, r.keep k⟩
  · obtain ⟨ps, h1, h2, h3⟩ := h
    refine ⟨ps, e.trans h1, h2, fun pos cv hc => ?_⟩
    obtain ⟨c, e1, e2⟩ := h3 pos cv hc
    exact ⟨c, e1, k.cods _ _ e2⟩
def SR (K : PySem.W.Frag) (M : Mo) (H : Hp) : Prop := ∀ a o, M a = some o → Own K H a o
theorem SR.free {K : PySem.W.Frag} {M : Mo} {H : Hp} (s : SR K M H) {a : Addr} (h : H a = none) : M a = none := by
  cases e : M a with
  | none => rfl
  | some o =>
    obtain ⟨u, q⟩ := (s a o e).there
    rw [h] at q
    cases q

/-- from one moment to a later one: what is not owned stays as it is -/
structure Stp (K : PySem.W.Frag) (M : Mo) (H : Hp) (M' : Mo) (H' : Hp) : Prop where
  keep : Keep H H'
  sr : SR K M' H'
  old : ∀ a o, H a = some o → H' a ≠ none
  same : ∀ a o, H a = some o → NT o → M a = none → H' a = some o ∧ M' a = none
section
variable {K : PySem.W.Frag} {M M1 M2 : Mo} {H H1 H2 : Hp}
theorem Stp.refl (s : SR K M H) : Stp K M H M H := ⟨Keep.refl H, s, fun a o h z => by (rw [h] at z; cases z), fun _ _ h _ n => ⟨h, n⟩⟩
theorem Stp.trans (a : Stp K M H M1 H1) (b : Stp K M1 H1 M2 H2) : Stp K M H M2 H2 := by
  refine ⟨a.keep.trans b.keep, b.sr, fun c o h => ?_, fun c o h nt n => ?_⟩
  · cases e : H1 c with
    | none => exact absurd e (a.old c o h)
    | some o' => exact b.old c o' e
  · obtain ⟨e1, e2⟩ := a.same c o h nt n
    exact b.same c o e1 nt e2
/-- a new object that is tracked, not owned -/
theorem Stp.new0 (s : SR K M H) {p : Addr} {u : HO} (hp : H p = none) : Stp K M H M (upd H p u) := by
  have k : Keep H (upd H p u) := Keep.new hp
  refine ⟨k, fun a o e => ?_, fun a o h => ?_, fun a o h _ n => ⟨by rw [upd_ne (ne_of_none h hp)]; exact h, n⟩⟩
  · obtain ⟨u', hu⟩ := (s a o e).there
    exact (s a o e).keep k (upd_ne (ne_of_none hu hp))
  · rw [upd_ne (ne_of_none h hp), h]
    intro z
    cases z
/-- a new object that is owned -/
theorem Stp.new (s : SR K M H) {p : Addr} {u : HO} {oo : OO} (hp : H p = none) (h : Own K (upd H p u) p oo) : Stp K M H (mup M p oo) (upd H p u) := by
  have k : Keep H (upd H p u) := Keep.new hp
  refine ⟨k, fun a o e => ?_, fun a o h => ?_, fun a o h _ n => ⟨by rw [upd_ne (ne_of_none h hp)]; exact h, by rw [mup_ne (ne_of_none h hp)]; exact n⟩⟩
  · by_cases q : a = p
    · subst q
      rw [mup_same] at e
      cases e
      exact h
    · rw [mup_ne q] at e
      exact (s a o e).keep k (upd_ne q)
  · rw [upd_ne (ne_of_none h hp), h]
    intro z
    cases z
/-- an owned object is changed -/
theorem Stp.set (s : SR K M H) {p : Addr} {u : HO} {oo o1 : OO} (hp : M p = some o1) (hm : Mutd (H p)) (h : Own K (upd H p u) p oo) : Stp K M H (mup M p oo) (upd H p u) := by
  have k : Keep H (upd H p u) := Keep.mut hm
  refine ⟨k, fun a o e => ?_, fun a o h => ?_, fun a o h _ n => ?_⟩
  · by_cases q : a = p
    · subst q
      rw [mup_same] at e
      cases e
      exact h
    · rw [mup_ne q] at e
      exact (s a o e).keep k (upd_ne q)
  · by_cases q : a = p
    · subst q
      rw [upd_same]
      intro z
      cases z
    · rw [upd_ne q, h]
      intro z
      cases z
  · have q : a ≠ p := fun z => by subst z; rw [hp] at n; cases n
    exact ⟨by rw [upd_ne q]; exact h, by rw [mup_ne q]; exact n⟩
/-- a tracked list that is not owned is owned from here on -/
theorem Stp.take (s : SR K M H) {p : Addr} {vs : List V} {ds : List Dv} (hp : H p = some (.lst vs)) (hm : M p = none) (r : RDs K H ds vs) {H0 : Hp} {M0 : Mo} (st : Stp K M0 H0 M H) (h0 : H0 p = none) : Stp K M0 H0 (mup M p (.lst ds)) H := by
  refine ⟨st.keep, fun a o e => ?_, st.old, fun a o h nt n => ?_⟩
  · by_cases q : a = p
    · subst q
      rw [mup_same] at e
      cases e
      simp only [Own]
      exact ⟨vs, hp, r⟩
    · rw [mup_ne q] at e
      exact s a o e
  · obtain ⟨e1, e2⟩ := st.same a o h nt n
    refine ⟨e1, ?_⟩
    rw [mup_ne (ne_of_none h h0)]
    exact e2
end

/-! ### the readings over data -/
abbrev StD := List (Option Dv)
abbrev QD := Dv → Mo → Prop
abbrev TED := StD → Mo → QD → Prop
abbrev TTD := StD → Mo → (Bool → Mo → Prop) → Prop
abbrev TAD := StD → Mo → (List Dv → Mo → Prop) → Prop
structure EndsD where
  nx : StD → Mo → Prop
  rt : QD
  bk : StD → Mo → Prop := fun _ _ => False
  ct : StD → Mo → Prop := fun _ _ => False
abbrev TSD := EndsD → StD → Mo → Prop
def Rs (K : PySem.W.Frag) (H : Hp) (sd : StD) (σ : St) : Prop := sd.length = σ.length ∧ ∀ (i : Nat) (d : Dv), sd[i]? = some (some d) → ∃ v, σ[i]? = some (some v) ∧ RD K H d v
section
variable {K : PySem.W.Frag} {H H' : Hp} {sd : StD} {σ : St}
theorem Rs.keep (k : Keep H H') (r : Rs K H sd σ) : Rs K H' sd σ := ⟨r.1, fun i d e => let ⟨v, h, q⟩ := r.2 i d e; ⟨v, h, q.keep k⟩⟩
theorem Rs.set {d : Dv} {v : V} (r : Rs K H sd σ) (q : RD K H d v) (i : Nat) : Rs K H (sd.set i (some d)) (σ.set i (some v)) := by
  refine ⟨by rw [List.length_set, List.length_set, r.1], fun j e h => ?_⟩
  by_cases c : i = j
  · subst c
    by_cases l : i < sd.length
    · rw [List.getElem?_set_self l] at h
      cases h
      exact ⟨v, List.getElem?_set_self (by rw [← r.1]; exact l), q⟩
    · rw [List.getElem?_eq_none (by rw [List.length_set]; omega)] at h
      cases h
  · rw [List.getElem?_set_ne c] at h
    obtain ⟨w, hw, qw⟩ := r.2 j e h
    exact ⟨w, by rw [List.getElem?_set_ne c]; exact hw, qw⟩
theorem Rs.setN (r : Rs K H sd σ) (o : Option V) (i : Nat) : Rs K H (sd.set i none) (σ.set i o) := by
  refine ⟨by rw [List.length_set, List.length_set, r.1], fun j e h => ?_⟩
  by_cases c : i = j
  · subst c
    by_cases l : i < sd.length
    · rw [List.getElem?_set_self l] at h
      cases h
    · rw [List.getElem?_eq_none (by rw [List.length_set]; omega)] at h
      cases h
  · rw [List.getElem?_set_ne c] at h
    obtain ⟨w, hw, qw⟩ := r.2 j e h
    exact ⟨w, by rw [List.getElem?_set_ne c]; exact hw, qw⟩
theorem Rs.setNL (r : Rs K H sd σ) (i : Nat) : Rs K H (sd.set i none) σ := by
  refine ⟨by rw [List.length_set, r.1], fun j e h => ?_⟩
  by_cases c : i = j
  · subst c
    by_cases l : i < sd.length
    · rw [List.getElem?_set_self l] at h
      cases h
    · rw [List.getElem?_eq_none (by rw [List.length_set]; omega)] at h
      cases h
  · rw [List.getElem?_set_ne c] at h
    exact r.2 j e h
end

/-- what holds of the end: values -/
def Ct (K : PySem.W.Frag) (M : Mo) (H : Hp) (Qd : QD) (Q : VK) : Prop := ∀ d M' v H', Stp K M H M' H' → RD K H' d v → Qd d M' → Q v H'
def CtB (K : PySem.W.Frag) (M : Mo) (H : Hp) (Qd : Bool → Mo → Prop) (Q : Bool → Hp → Prop) : Prop := ∀ b M' H', Stp K M H M' H' → Qd b M' → Q b H'
def CtA (K : PySem.W.Frag) (M : Mo) (H : Hp) (Qd : List Dv → Mo → Prop) (Q : List V → Hp → Prop) : Prop := ∀ ds M' vs H', Stp K M H M' H' → RDs K H' ds vs → Qd ds M' → Q vs H'
structure CtS (K : PySem.W.Frag) (M : Mo) (H : Hp) (Dd : EndsD) (Dn : Ends) : Prop where
  nx : ∀ sd M' σ H', Stp K M H M' H' → Rs K H' sd σ → Dd.nx sd M' → Dn.nx σ H'
  rt : Ct K M H Dd.rt Dn.rt
  bk : ∀ sd M' σ H', Stp K M H M' H' → Rs K H' sd σ → Dd.bk sd M' → Dn.bk σ H'
  ct : ∀ sd M' σ H', Stp K M H M' H' → Rs K H' sd σ → Dd.ct sd M' → Dn.ct σ H'
section
variable {K : PySem.W.Frag} {M M1 : Mo} {H H1 : Hp}
theorem Ct.on {Qd : QD} {Q : VK} (c : Ct K M H Qd Q) (s : Stp K M H M1 H1) : Ct K M1 H1 Qd Q := fun d M' v H' s' r q => c d M' v H' (s.trans s') r q
theorem CtB.on {Qd : Bool → Mo → Prop} {Q : Bool → Hp → Prop} (c : CtB K M H Qd Q) (s : Stp K M H M1 H1) : CtB K M1 H1 Qd Q := fun d M' H' s' q => c d M' H' (s.trans s') q
theorem CtA.on {Qd : List Dv → Mo → Prop} {Q : List V → Hp → Prop} (c : CtA K M H Qd Q) (s : Stp K M H M1 H1) : CtA K M1 H1 Qd Q := fun d M' v H' s' r q => c d M' v H' (s.trans s') r q
theorem CtS.on {Dd : EndsD} {Dn : Ends} (c : CtS K M H Dd Dn) (s : Stp K M H M1 H1) : CtS K M1 H1 Dd Dn :=
  ⟨fun sd M' σ H' s' r q => c.nx sd M' σ H' (s.trans s') r q, c.rt.on s, fun sd M' σ H' s' r q => c.bk sd M' σ H' (s.trans s') r q, fun sd M' σ H' s' r q => c.ct sd M' σ H' (s.trans s') r q⟩
end

/-- where a reading begins: M0, H0 the entry of the def -/
structure At (K : PySem.W.Frag) (M0 : Mo) (H0 : Hp) (sd : StD) (M : Mo) (σ : St) (H : Hp) : Prop where
  st : Stp K M0 H0 M H
  rs : Rs K H sd σ
theorem At.on {K : PySem.W.Frag} {M0 M M1 : Mo} {H0 H H1 : Hp} {sd : StD} {σ : St} (a : At K M0 H0 sd M σ H) (s : Stp K M H M1 H1) : At K M0 H0 sd M1 σ H1 := ⟨a.st.trans s, a.rs.keep s.keep⟩
theorem At.here {K : PySem.W.Frag} {M0 M : Mo} {H0 H : Hp} {sd : StD} {σ : St} (a : At K M0 H0 sd M σ H) : Stp K M H M H := Stp.refl a.st.sr
def LE (K : PySem.W.Frag) (M0 : Mo) (H0 : Hp) (t : TED) : TE := fun σ H Q => ∃ sd M Qd, At K M0 H0 sd M σ H ∧ t sd M Qd ∧ Ct K M H Qd Q
def LT (K : PySem.W.Frag) (M0 : Mo) (H0 : Hp) (t : TTD) : TT := fun σ H Q => ∃ sd M Qd, At K M0 H0 sd M σ H ∧ t sd M Qd ∧ CtB K M H Qd Q
def LA (K : PySem.W.Frag) (M0 : Mo) (H0 : Hp) (t : TAD) : TA := fun σ H Q => ∃ sd M Qd, At K M0 H0 sd M σ H ∧ t sd M Qd ∧ CtA K M H Qd Q
def LS (K : PySem.W.Frag) (M0 : Mo) (H0 : Hp) (t : TSD) : TS := fun Dn σ H => ∃ sd M Dd, At K M0 H0 sd M σ H ∧ t Dd sd M ∧ CtS K M H Dd Dn
theorem PE.imp {X : Cx} {e : Expr} {t t' : TE} (h : PE X e t) (w : ∀ σ H Q, t' σ H Q → t σ H Q) : PE X e t' := ⟨fun pins s σ H Q I q => h.run pins s σ H Q I (w _ _ _ q)⟩
theorem PT.imp {X : Cx} {e : Expr} {t t' : TT} (h : PT X e t) (w : ∀ σ H Q, t' σ H Q → t σ H Q) : PT X e t' := ⟨fun pins s σ H Q I q => h.run pins s σ H Q I (w _ _ _ q)⟩
theorem PW.imp {X : Cx} {e : Expr} {t t' : TT} (h : PW X e t) (w : ∀ σ H Q, t' σ H Q → t σ H Q) : PW X e t' := ⟨fun wh pins s σ H Q I q => h.run wh pins s σ H Q I (w _ _ _ q)⟩
theorem PA.imp {X : Cx} {e : List Expr} {t t' : TA} (h : PA X e t) (w : ∀ σ H Q, t' σ H Q → t σ H Q) : PA X e t' := ⟨fun pos pins s σ H Q I q => h.run pos pins s σ H Q I (w _ _ _ q)⟩
theorem PS.imp {X : Cx} {e : Stmt} {t t' : TS} (h : PS X e t) (w : ∀ D σ H, t' D σ H → t D σ H) : PS X e t' := ⟨fun pins s σ H D I q => h.run pins s σ H D I (w _ _ _ q)⟩
theorem PSs.imp {X : Cx} {e : List Stmt} {t t' : TS} (h : PSs X e t) (w : ∀ D σ H, t' D σ H → t D σ H) : PSs X e t' := ⟨fun pins s σ H D I q => h.run pins s σ H D I (w _ _ _ q)⟩

/-- the judgements over data: M, H the def's entry -/
abbrev PEd (X : Cx) (M : Mo) (H : Hp) (e : Expr) (t : TED) : Prop := PE X e (LE X.K M H t)
abbrev PTd (X : Cx) (M : Mo) (H : Hp) (e : Expr) (t : TTD) : Prop := PT X e (LT X.K M H t)
abbrev PWd (X : Cx) (M : Mo) (H : Hp) (e : Expr) (t : TTD) : Prop := PW X e (LT X.K M H t)
abbrev PAd (X : Cx) (M : Mo) (H : Hp) (e : List Expr) (t : TAD) : Prop := PA X e (LA X.K M H t)
abbrev PSd (X : Cx) (M : Mo) (H : Hp) (e : Stmt) (t : TSD) : Prop := PS X e (LS X.K M H t)
abbrev PSsd (X : Cx) (M : Mo) (H : Hp) (e : List Stmt) (t : TSD) : Prop := PSs X e (LS X.K M H t)

section
variable {X : Cx} {M0 : Mo} {H0 : Hp}
/-! ### names, constants -/
def dVar (i : Nat) : TED := fun sd M Q => match sd[i]? with
  | some (some d) => Q d M
  | _ => False
def dC (d : Dv) : TED := fun _ M Q => Q d M
theorem dv (i : Nat) {x : Str} {pos : Pos} (hN : X.N[i]? = some x := by rfl) (hv : Vis X.env.scope x := by first | exact Or.inl rfl | exact Or.inr (Or.inl rfl) | exact Or.inr (Or.inr rfl)) (hd : (x == ("__debug__" : Str)) = false := by decide)
    (hcd : (x == ("__classdict__" : Str)) = false := by decide) : PEd X M0 H0 (.Name x pos) (dVar i) :=
  PE.imp (pe_var hN hv hd hcd) fun σ H Q ⟨sd, M, Qd, a, h, c⟩ => by
    unfold dVar at h
    split at h
    · rename_i d e
      obtain ⟨v, hv, rv⟩ := a.rs.2 i d e
      exact ⟨v, hv, c d M v H a.here rv h⟩
    · exact h.elim
theorem PE.const {e : Expr} {v : V} {d : Dv} (h : PE X e (tC v)) (r : ∀ H, RD X.K H d v) : PEd X M0 H0 e (dC d) :=
  PE.imp h fun σ H Q ⟨sd, M, Qd, a, h, c⟩ => c d M v H a.here (r H) h
theorem de_int {i j pos} : PEd X M0 H0 (.Constant (.int i) j pos) (dC (.int i)) := PE.const pe_int fun _ => by unfold RD; rfl
theorem de_bl {b j pos} : PEd X M0 H0 (.Constant (.bool b) j pos) (dC (.bl b)) := PE.const pe_bl fun _ => by unfold RD; rfl
theorem de_non {j pos} : PEd X M0 H0 (.Constant .none j pos) (dC .non) := PE.const pe_non fun _ => by unfold RD; rfl
theorem de_str {x j pos} : PEd X M0 H0 (.Constant (.str x) j pos) (dC (.str x)) := PE.const pe_str fun _ => by unfold RD; rfl
/-- a module's constant -/
theorem de_globI {x : Str} {i : Int} {t : Tok} {pos : Pos} (hg : Gl X x) (hm : X.mg x = some (.int i t)) (hd : (x == ("__debug__" : Str)) = false := by decide) : PEd X M0 H0 (.Name x pos) (dC (.int i)) := PE.const (pe_glob (v := .int i) hg hm ⟨t, rfl⟩ hd) fun _ => by unfold RD; rfl
theorem de_globS {x z : Str} {t : Tok} {pos : Pos} (hg : Gl X x) (hm : X.mg x = some (.str z t)) (hd : (x == ("__debug__" : Str)) = false := by decide) : PEd X M0 H0 (.Name x pos) (dC (.str z)) := PE.const (pe_glob (v := .str z) hg hm ⟨t, rfl⟩ hd) fun _ => by unfold RD; rfl
theorem de_globR {x : Str} {C : Addr} {pos : Pos} (hg : Gl X x) (hm : X.mg x = some (.ref C)) (hd : (x == ("__debug__" : Str)) = false := by decide) : PEd X M0 H0 (.Name x pos) (dC (.ref C)) := PE.const (pe_glob (v := .ref C) hg hm rfl hd) fun _ => by unfold RD; rfl
theorem de_bltn {x : Str} {n : String} {pos : Pos} (hg : Gl X x) (hm : X.mg x = none) (hv : bootBuiltins x = some (.type n)) (hn : x ≠ "__name__" := by decide) (hd : (x == ("__debug__" : Str)) = false := by decide) : PEd X M0 H0 (.Name x pos) (dC (.ty n)) := PE.const (pe_bltn (v := .ty n) hg hm hv rfl hn hd) fun _ => by unfold RD; rfl

/-! ### operators by values -/
abbrev R2d := Dv → Dv → Mo → QD → Prop
def L2op (K : PySem.W.Frag) (rd : R2d) : R2 := fun x y H Q => ∃ d e M Qd, RD K H d x ∧ RD K H e y ∧ SR K M H ∧ rd d e M Qd ∧ Ct K M H Qd Q
def dOp (rd : R2d) (ta tb : TED) : TED := fun sd M Q => ta sd M fun d M1 => tb sd M1 fun e M2 => rd d e M2 Q
theorem two_imp {ta tb : TED} {rd : R2d} {r : R2} (hr : ∀ x y H Q, L2op X.K rd x y H Q → r x y H Q) : ∀ σ H Q, LE X.K M0 H0 (dOp rd ta tb) σ H Q → tOp r (LE X.K M0 H0 ta) (LE X.K M0 H0 tb) σ H Q := fun σ H Q ⟨sd, M, Qd, a, h, c⟩ =>
  ⟨sd, M, _, a, h, fun d M1 v H1 s1 r1 h1 => ⟨sd, M1, _, a.on s1, h1, fun e M2 u H2 s2 r2 h2 => hr _ _ _ _ ⟨d, e, M2, Qd, r1.keep s2.keep, r2, s2.sr, h2, c.on (s1.trans s2)⟩⟩⟩
section
variable {a b : Expr} {ta tb : TED} {pos : Pos}
theorem de_op {op : Operator} {rd : R2d} (ho : OpR X (binaryOp op) (L2op X.K rd)) (ha : PEd X M0 H0 a ta) (hb : PEd X M0 H0 b tb) : PEd X M0 H0 (.BinOp a op b pos) (dOp rd ta tb) :=
  PE.imp (pe_op ho ha hb) (two_imp fun _ _ _ _ h => h)
theorem de_cmp {op : CmpOp} {rd : R2d} (ho : OpR X (compareOp op) (L2op X.K rd)) (ha : PEd X M0 H0 a ta) (hb : PEd X M0 H0 b tb) (hm : behindInMarks op b = false) : PEd X M0 H0 (.Compare a [op] [b] pos) (dOp rd ta tb) :=
  PE.imp (pe_cmpR ho ha hb hm) (two_imp fun _ _ _ _ h => h)
end
end
end DL

namespace DL
open PySem PySem.Spec PyProof.Rows L2
section
variable {X : Cx} {M0 : Mo} {H0 : Hp}
/-! ### sequences by values -/
def seqL (M : Mo) : Dv → Option (List Dv)
  | .lst ds => some ds
  | .ref a => match M a with
    | some (.lst ds) => some ds
    | _ => none
  | _ => none
def seqT : Dv → Option (List Dv)
  | .tup ds => some ds
  | _ => none
theorem seqL_ok {K : PySem.W.Frag} {M : Mo} {H : Hp} {d : Dv} {v : V} {ds : List Dv} (s : SR K M H) (r : RD K H d v) (h : seqL M d = some ds) : ∃ a vs, v = .ref a ∧ SqL K H a vs ∧ RDs K H ds vs := by
  unfold seqL at h
  split at h
  · cases h
    unfold RD at r
    obtain ⟨a, vs, e, f, q⟩ := r
    exact ⟨a, vs, e, f.seq, q⟩
  · rename_i a
    split at h
    · rename_i ds' e
      cases h
      unfold RD at r
      have o := s a _ e
      simp only [Own] at o
      obtain ⟨vs, hv, q⟩ := o
      exact ⟨a, vs, r, .inl (.inl hv), q⟩
    · cases h
  · cases h
theorem seqT_ok {K : PySem.W.Frag} {H : Hp} {d : Dv} {v : V} {ds : List Dv} (r : RD K H d v) (h : seqT d = some ds) : ∃ a vs, v = .ref a ∧ SqT K H a vs ∧ RDs K H ds vs := by
  unfold seqT at h
  split at h
  · cases h
    unfold RD at r
    exact r
  · cases h

/-! ### operators on ints and texts -/
theorem add_seqs {prog : Program} {w : World} {A : Around} {E : Value → Shared → Prop} {s : Shared} {l b : Addr} {vs ws : List Value} {Q : Value → Shared → Prop} (hl : s.heap.IsList l vs.toArray) (hb : s.heap.IsList b ws.toArray)
    (h : Q (.ref s.heap.objs.size) { s with heap := s.heap.push { cls := .type "list", data := .seq (vs ++ ws).toArray } }) (hsz : vs.length + ws.length ≤ sizeLine) : wpAny (model prog w) A (binaryOp .Add (.ref l) (.ref b)) Q E s := by
  obtain ⟨⟨cls, dd, data, sl⟩, ho, hc, n, hd⟩ := id hl
  obtain ⟨⟨cls2, dd2, data2, sl2⟩, ho2, hc2, n2, hd2⟩ := id hb
  simp only at hc hd hc2 hd2
  subst hc hd hc2 hd2
  have e : vs.toArray ++ ws.toArray = (vs ++ ws).toArray := by simp
  refine concat_meets ⟨_, ho, rfl⟩ ⟨_, ho2, rfl⟩ noFill_list_add seq_list_add PySem.F.slot_list_add PySem.F.entry_list_add (PySem.F.args_list_add_2 _ _) (list_addW l b vs.toArray ws.toArray n n2 dd dd2 sl sl2 (by simpa using hsz)) ⟨ho, ho2, ?_⟩
  rw [e]
  exact h
theorem op_catL : OpR X (binaryOp .Add) (fun x y H Q => ∃ l b xs zs, x = .ref l ∧ y = .ref b ∧ SqL X.K H l xs ∧ SqL X.K H b zs ∧ xs.length + zs.length ≤ sizeLine ∧ ∀ p, H p = none → Q (.ref p) (upd H p (.lst (xs ++ zs)))) := by
  intro pins s σ H x y v u Q I rx ry h
  obtain ⟨l, b, xs, zs, rfl, rfl, hH, hB, hz, q⟩ := h
  cases rx
  cases ry
  obtain ⟨its, r, p, _⟩ := I.list hH
  obtain ⟨its2, r2, p2, _⟩ := I.list hB
  have e1 := r.length
  have e2 := r2.length
  refine add_seqs p.isList p2.isList ?_ (by omega)
  exact ⟨.ref _, _, I.lnew (t' := s.toks) (r.append r2) (by rw [List.length_append]; omega), rfl, q _ I.fresh⟩
def dAdd : R2d := fun d e M Q => match d, e with
  | .int i, .int j => Q (.int (i + j)) M
  | .str x, .str y => x.length + y.length ≤ 16777216 ∧ Q (.str (x ++ y)) M
  | d, e => match seqL M d, seqL M e with
    | some xs, some ys => xs.length + ys.length ≤ 16777216 ∧ ∀ p, M p = none → Q (.ref p) (mup M p (.lst (xs ++ ys)))
    | _, _ => False
/-- from ints -/
theorem RD.int_of {K : PySem.W.Frag} {H : Hp} {i : Int} {v : V} (r : RD K H (.int i) v) : v = .int i := by unfold RD at r; exact r
theorem RD.str_of {K : PySem.W.Frag} {H : Hp} {i : Str} {v : V} (r : RD K H (.str i) v) : v = .str i := by unfold RD at r; exact r
theorem RD.bl_of {K : PySem.W.Frag} {H : Hp} {i : Bool} {v : V} (r : RD K H (.bl i) v) : v = .bl i := by unfold RD at r; exact r
theorem RD.non_of {K : PySem.W.Frag} {H : Hp} {v : V} (r : RD K H .non v) : v = .non := by unfold RD at r; exact r
theorem RD.ref_of {K : PySem.W.Frag} {H : Hp} {a : Addr} {v : V} (r : RD K H (.ref a) v) : v = .ref a := by unfold RD at r; exact r
theorem RD.int {K : PySem.W.Frag} {H : Hp} {i : Int} : RD K H (.int i) (.int i) := by unfold RD; rfl
theorem RD.str {K : PySem.W.Frag} {H : Hp} {i : Str} : RD K H (.str i) (.str i) := by unfold RD; rfl
theorem RD.bl {K : PySem.W.Frag} {H : Hp} {i : Bool} : RD K H (.bl i) (.bl i) := by unfold RD; rfl
theorem RD.non {K : PySem.W.Frag} {H : Hp} : RD K H .non .non := by unfold RD; rfl
theorem RD.ref {K : PySem.W.Frag} {H : Hp} {a : Addr} : RD K H (.ref a) (.ref a) := by unfold RD; rfl
theorem line_eq : (16777216 : Nat) = sizeLine := sizeLine_eq.symm
/-- by ints: a rule -/
theorem opd_I {f : Value → Value → Sem Value} {r : R2} {rd : R2d} (h : OpR X f r) (w : ∀ d e M Qd x y H Q, RD X.K H d x → RD X.K H e y → SR X.K M H → rd d e M Qd → Ct X.K M H Qd Q → r x y H Q) : OpR X f (L2op X.K rd) :=
  fun pins s σ H x y v u Q I rx ry ⟨d, e, M, Qd, r1, r2, sr, q, c⟩ => h pins s σ H x y v u Q I rx ry (w d e M Qd x y H Q r1 r2 sr q c)
theorem od_add : OpR X (binaryOp .Add) (L2op X.K dAdd) := by
  refine opd_I (r := fun x y H Q => rI0 (fun i j => .int (i + j)) x y H Q ∨ (∃ i j, x = .str i ∧ y = .str j ∧ i.length + j.length ≤ sizeLine ∧ Q (.str (i ++ j)) H) ∨ (∃ l b xs zs, x = .ref l ∧ y = .ref b ∧ SqL X.K H l xs ∧ SqL X.K H b zs ∧ xs.length + zs.length ≤ sizeLine ∧ ∀ p, H p = none → Q (.ref p) (upd H p (.lst (xs ++ zs)))))
    (op_add.or (op_add_str.or op_catL)) fun d e M Qd x y H Q r1 r2 sr q c => ?_
  unfold dAdd at q
  split at q
  · exact .inl ⟨_, _, r1.int_of, r2.int_of, c _ M _ H (.refl sr) .int q⟩
  · exact .inr (.inl ⟨_, _, r1.str_of, r2.str_of, by rw [← line_eq]; exact q.1, c _ M _ H (.refl sr) .str q.2⟩)
  · split at q
    · rename_i xs ys h1 h2
      obtain ⟨a, vs, e1, s1, d1⟩ := seqL_ok sr r1 h1
      obtain ⟨b, ws, e2, s2, d2⟩ := seqL_ok sr r2 h2
      obtain ⟨hz, q⟩ := q
      refine .inr (.inr ⟨a, b, vs, ws, e1, e2, s1, s2, by rw [← d1.length, ← d2.length, ← line_eq]; exact hz, fun p hp => ?_⟩)
      have k : Keep H (upd H p (.lst (vs ++ ws))) := Keep.new hp
      exact c _ _ _ _ (Stp.new sr hp (by simp only [Own]; exact ⟨_, upd_same, (d1.keep k).app (d2.keep k)⟩)) .ref (q p (sr.free hp))
    · exact q.elim
/-- two ints, a condition, a value -/
def dI (C : Int → Int → Prop) (g : Int → Int → Dv) : R2d := fun d e M Q => match d, e with
  | .int i, .int j => C i j ∧ Q (g i j) M
  | _, _ => False
def dI0 (g : Int → Int → Dv) : R2d := fun d e M Q => match d, e with
  | .int i, .int j => Q (g i j) M
  | _, _ => False
theorem od_I {f : Value → Value → Sem Value} {C : Int → Int → Prop} {g : Int → Int → Dv} {g' : Int → Int → V} (h : OpR X f (rI C g')) (hg : ∀ i j H, RD X.K H (g i j) (g' i j)) : OpR X f (L2op X.K (dI C g)) :=
  opd_I h fun d e M Qd x y H Q r1 r2 sr q c => by
    unfold dI at q
    split at q
    · exact ⟨_, _, r1.int_of, r2.int_of, q.1, c _ M _ H (.refl sr) (hg _ _ _) q.2⟩
    · exact q.elim
theorem od_I0 {f : Value → Value → Sem Value} {g : Int → Int → Dv} {g' : Int → Int → V} (h : OpR X f (rI0 g')) (hg : ∀ i j H, RD X.K H (g i j) (g' i j)) : OpR X f (L2op X.K (dI0 g)) :=
  opd_I h fun d e M Qd x y H Q r1 r2 sr q c => by
    unfold dI0 at q
    split at q
    · exact ⟨_, _, r1.int_of, r2.int_of, c _ M _ H (.refl sr) (hg _ _ _) q⟩
    · exact q.elim
abbrev dSub : R2d := dI0 fun i j => .int (i - j)
abbrev dFdiv : R2d := dI CDivW fun i j => .int (i / j)
abbrev dMod : R2d := dI (fun _ j => 0 < j) fun i j => .int (i % j)
abbrev dPow : R2d := dI CPow fun i j => .int (i ^ j.toNat)
abbrev dShl : R2d := dI CPow fun i j => .int (i * 2 ^ j.toNat)
abbrev dShr : R2d := dI (fun _ j => 0 ≤ j) fun i j => .int (i / 2 ^ j.toNat)
abbrev dAnd : R2d := dI0 fun i j => .int (Builtin.bitAnd i j)
abbrev dOr : R2d := dI0 fun i j => .int (Builtin.bitOr i j)
theorem od_sub : OpR X (binaryOp .Sub) (L2op X.K dSub) := od_I0 op_sub fun _ _ _ => .int
theorem od_fdiv : OpR X (binaryOp .FloorDiv) (L2op X.K dFdiv) := od_I op_fdivW fun _ _ _ => .int
theorem od_mod : OpR X (binaryOp .Mod) (L2op X.K dMod) := od_I op_mod fun _ _ _ => .int
theorem od_pow : OpR X (binaryOp .Pow) (L2op X.K dPow) := od_I op_pow fun _ _ _ => .int
theorem od_shl : OpR X (binaryOp .LShift) (L2op X.K dShl) := od_I op_shl fun _ _ _ => .int
theorem od_shr : OpR X (binaryOp .RShift) (L2op X.K dShr) := od_I op_shr fun _ _ _ => .int
theorem od_and : OpR X (binaryOp .BitAnd) (L2op X.K dAnd) := od_I0 op_and fun _ _ _ => .int
theorem od_or : OpR X (binaryOp .BitOr) (L2op X.K dOr) := od_I0 op_or fun _ _ _ => .int
theorem od_lt : OpR X (compareOp .Lt) (L2op X.K (dI0 fun i j => .bl (decide (i < j)))) := od_I0 op_lt fun _ _ _ => .bl
theorem od_le : OpR X (compareOp .LtE) (L2op X.K (dI0 fun i j => .bl (decide (i ≤ j)))) := od_I0 op_le fun _ _ _ => .bl
theorem od_gt : OpR X (compareOp .Gt) (L2op X.K (dI0 fun i j => .bl (decide (j < i)))) := od_I0 op_gt fun _ _ _ => .bl
theorem od_ge : OpR X (compareOp .GtE) (L2op X.K (dI0 fun i j => .bl (decide (j ≤ i)))) := od_I0 op_ge fun _ _ _ => .bl

/-! ### == over data -/
mutual
/-- data as the library's data (lists that are owned: of the first rank) -/
def pyD : Dv → Option PyData
  | .non => some .none
  | .bl b => some (.bool b)
  | .int i => some (.int i)
  | .str x => some (.str x)
  | .tup ds => (pyDs ds).map .tuple
  | .lst ds => (pyDs ds).map .list
  | _ => none
def pyDs : List Dv → Option (List PyData)
  | [] => some []
  | d :: ds => match pyD d, pyDs ds with
    | some p, some ps => some (p :: ps)
    | _, _ => none
end
def pyM (M : Mo) : Dv → Option PyData
  | .ref a => match M a with
    | some (.lst ds) => (pyDs ds).map .list
    | _ => none
  | d => pyD d
mutual
theorem pyD_ok {K : PySem.W.Frag} {H : Hp} : ∀ {d : Dv} {v : V} {p : PyData}, RD K H d v → pyD d = some p → Dp K H v p
  | .non, v, p, r, h => by unfold pyD at h; cases h; rw [r.non_of]; exact .non
  | .bl b, v, p, r, h => by unfold pyD at h; cases h; rw [r.bl_of]; exact .bl b
  | .int i, v, p, r, h => by unfold pyD at h; cases h; rw [r.int_of]; exact .int i
  | .str i, v, p, r, h => by unfold pyD at h; cases h; rw [r.str_of]; exact .str i
  | .tup ds, v, p, r, h => by
    unfold pyD at h
    unfold RD at r
    obtain ⟨a, vs, rfl, s, q⟩ := r
    cases e : pyDs ds with
    | none => rw [e] at h; cases h
    | some ps =>
      rw [e] at h
      cases h
      exact .tup s (pyDs_ok q e)
  | .lst ds, v, p, r, h => by
    unfold pyD at h
    unfold RD at r
    obtain ⟨a, vs, rfl, s, q⟩ := r
    cases e : pyDs ds with
    | none => rw [e] at h; cases h
    | some ps =>
      rw [e] at h
      cases h
      exact .lst s.seq (pyDs_ok q e)
  | .ty _, v, p, r, h => by unfold pyD at h; cases h
  | .ref _, v, p, r, h => by unfold pyD at h; cases h
  | .obj _ _, v, p, r, h => by unfold pyD at h; cases h
  | .dct _, v, p, r, h => by unfold pyD at h; cases h
  | .dctT _, v, p, r, h => by unfold pyD at h; cases h
theorem pyDs_ok {K : PySem.W.Frag} {H : Hp} : ∀ {ds : List Dv} {vs : List V} {ps : List PyData}, RDs K H ds vs → pyDs ds = some ps → DpAll K H vs ps
  | [], vs, ps, r, h => by unfold pyDs at h; cases h; unfold RDs at r; subst r; exact .nil
  | d :: ds, vs, ps, r, h => by
    unfold RDs at r
    obtain ⟨v, w, rfl, r1, r2⟩ := r
    unfold pyDs at h
    split at h
    · rename_i p qs e1 e2
      cases h
      exact .cons (pyD_ok r1 e1) (pyDs_ok r2 e2)
    · cases h
end
theorem pyM_ok {K : PySem.W.Frag} {M : Mo} {H : Hp} {d : Dv} {v : V} {p : PyData} (s : SR K M H) (r : RD K H d v) (h : pyM M d = some p) : Dp K H v p := by
  unfold pyM at h
  split at h
  · rename_i a
    split at h
    · rename_i ds e
      have o := s a _ e
      simp only [Own] at o
      obtain ⟨vs, hv, q⟩ := o
      rw [r.ref_of]
      cases e2 : pyDs ds with
      | none => rw [e2] at h; cases h
      | some ps =>
        rw [e2] at h
        cases h
        exact .lst (.inl (.inl hv)) (pyDs_ok q e2)
    · cases h
  · exact pyD_ok r h
/-- d == e -/
def dEq : R2d := fun d e M Q => match d, e with
  | .int i, .int j => Q (.bl (decide (i = j))) M
  | .str i, .str j => Q (.bl (decide (i = j))) M
  | .bl i, .bl j => Q (.bl (decide (i = j))) M
  | d, e => match pyM M d, pyM M e with
    | some p, some q => SeqAt.shaped p = true ∧ SeqAt.shaped q = true ∧ Q (.bl (PyData.eqv p q)) M
    | _, _ => False
def dNe : R2d := fun d e M Q => match d, e with
  | .int i, .int j => Q (.bl (!decide (i = j))) M
  | .str i, .str j => Q (.bl (!decide (i = j))) M
  | .bl i, .bl j => Q (.bl (!decide (i = j))) M
  | d, e => match pyM M d, pyM M e with
    | some p, some q => SeqAt.shaped p = true ∧ SeqAt.shaped q = true ∧ Q (.bl (!PyData.eqv p q)) M
    | _, _ => False
theorem od_eq (hu : X.A.units + 64 < cLine) : OpR X (compareOp .Eq) (L2op X.K dEq) := by
  refine opd_I (op_eq.or (op_eqD hu)) fun d e M Qd x y H Q r1 r2 sr q c => ?_
  unfold dEq at q
  split at q
  · exact .inl ⟨by rw [r1.int_of, r2.int_of]; rfl, by rw [r1.int_of, r2.int_of]; rw [dec_int, ← Bool.beq_eq_decide_eq] at *; exact c _ M _ H (.refl sr) .bl q⟩
  · exact .inl ⟨by rw [r1.str_of, r2.str_of]; rfl, by rw [r1.str_of, r2.str_of]; rw [dec_str, ← Bool.beq_eq_decide_eq] at *; exact c _ M _ H (.refl sr) .bl q⟩
  · exact .inl ⟨by rw [r1.bl_of, r2.bl_of]; rfl, by rw [r1.bl_of, r2.bl_of]; rw [dec_bl, ← Bool.beq_eq_decide_eq] at *; exact c _ M _ H (.refl sr) .bl q⟩
  · split at q
    · rename_i p p' e1 e2
      exact .inr ⟨_, _, pyM_ok sr r1 e1, pyM_ok sr r2 e2, q.1, q.2.1, c _ M _ H (.refl sr) .bl q.2.2⟩
    · exact q.elim
theorem od_ne (hu : X.A.units + 64 < cLine) : OpR X (compareOp .NotEq) (L2op X.K dNe) := by
  refine opd_I (op_ne.or (op_neD hu)) fun d e M Qd x y H Q r1 r2 sr q c => ?_
  unfold dNe at q
  split at q
  · exact .inl ⟨by rw [r1.int_of, r2.int_of]; rfl, by rw [r1.int_of, r2.int_of]; rw [dec_int, ← Bool.beq_eq_decide_eq] at *; exact c _ M _ H (.refl sr) .bl q⟩
  · exact .inl ⟨by rw [r1.str_of, r2.str_of]; rfl, by rw [r1.str_of, r2.str_of]; rw [dec_str, ← Bool.beq_eq_decide_eq] at *; exact c _ M _ H (.refl sr) .bl q⟩
  · exact .inl ⟨by rw [r1.bl_of, r2.bl_of]; rfl, by rw [r1.bl_of, r2.bl_of]; rw [dec_bl, ← Bool.beq_eq_decide_eq] at *; exact c _ M _ H (.refl sr) .bl q⟩
  · split at q
    · rename_i p p' e1 e2
      exact .inr ⟨_, _, pyM_ok sr r1 e1, pyM_ok sr r2 e2, q.1, q.2.1, c _ M _ H (.refl sr) .bl q.2.2⟩
    · exact q.elim
end
end DL

namespace DL
open PySem PySem.Spec PyProof.Rows L2
section
variable {X : Cx} {M0 : Mo} {H0 : Hp}
/-! ### tests -/
def dTest (t : TED) : TTD := fun sd M Q => t sd M fun d M1 => match d with
  | .bl b => Q b M1
  | _ => False
theorem test_imp {t : TED} {t' : TE} (h : ∀ σ H Q, LE X.K M0 H0 t σ H Q → t' σ H Q) : ∀ σ H Q, LT X.K M0 H0 (dTest t) σ H Q → tTest t' σ H Q := fun σ H Q ⟨sd, M, Qd, a, q, c⟩ =>
  h _ _ _ ⟨sd, M, _, a, q, fun d M' v H' s r q => by
    split at q
    · exact ⟨_, r.bl_of, c _ _ _ s q⟩
    · exact q.elim⟩
/-- a value's truth -/
def dTru (M : Mo) (d : Dv) (Q : Bool → Prop) : Prop := match d with
  | .non => Q false
  | .bl b => Q b
  | .int i => Q (i != 0)
  | .str y => y.length ≤ 16777216 ∧ Q ((y.length : Int) != 0)
  | d => match seqL M d with
    | some ds => Q (!ds.isEmpty)
    | none => match seqT d with
      | some ds => Q (!ds.isEmpty)
      | none => match d with
        | .ref a => match M a with
          | some (.dK kvs) => Q (!kvs.isEmpty)
          | _ => False
        | _ => False
def dTruth (t : TED) : TTD := fun sd M Q => t sd M fun d M1 => dTru M1 d fun b => Q b M1
theorem RDs.empty {K : PySem.W.Frag} {H : Hp} {ds : List Dv} {vs : List V} (r : RDs K H ds vs) : ds.isEmpty = vs.isEmpty := by
  cases ds with
  | nil => unfold RDs at r; subst r; rfl
  | cons d ds => unfold RDs at r; obtain ⟨v, w, rfl, _⟩ := r; rfl
theorem RDk.empty {K : PySem.W.Frag} {H : Hp} {α : Type} {ds : List (α × Dv)} {vs : List (α × V)} (r : RDk K H ds vs) : ds.isEmpty = vs.isEmpty := by
  cases ds with
  | nil => unfold RDk at r; subst r; rfl
  | cons d ds => unfold RDk at r; obtain ⟨v, w, rfl, _⟩ := r; rfl
theorem tru_of {K : PySem.W.Frag} {M : Mo} {H : Hp} {d : Dv} {v : V} {Q : Bool → Prop} (s : SR K M H) (r : RD K H d v) (h : dTru M d Q) : ∃ k, TruV K v H k ∧ Q k := by
  unfold dTru at h
  split at h
  · rw [r.non_of]; exact ⟨_, rfl, h⟩
  · rw [r.bl_of]; exact ⟨_, rfl, h⟩
  · rw [r.int_of]; exact ⟨_, rfl, h⟩
  · rw [r.str_of]; exact ⟨_, ⟨by rw [← line_eq]; exact h.1, rfl⟩, h.2⟩
  · split at h
    · rename_i ds e
      obtain ⟨a, vs, rfl, q, rs⟩ := seqL_ok s r e
      exact ⟨_, .inl ⟨vs, q, rfl⟩, by rw [← rs.empty]; exact h⟩
    · split at h
      · rename_i ds e
        obtain ⟨a, vs, rfl, q, rs⟩ := seqT_ok r e
        exact ⟨_, .inr (.inl ⟨vs, q, rfl⟩), by rw [← rs.empty]; exact h⟩
      · split at h
        · rename_i a _ _ _ _ _ _
          split at h
          · rename_i kvs e
            have o := s a _ e
            simp only [Own] at o
            obtain ⟨vks, hk, rk⟩ := o
            rw [r.ref_of]
            exact ⟨_, .inr (.inr ⟨vks, hk, rfl⟩), by rw [← rk.empty]; exact h⟩
          · exact h.elim
        · exact h.elim
section
variable {a b c e : Expr} {ta tb : TED} {t u : TTD} {pos : Pos} {rest : List Expr}
theorem dt_cmp {op : CmpOp} {rd : R2d} (ho : OpR X (compareOp op) (L2op X.K rd)) (ha : PEd X M0 H0 a ta) (hb : PEd X M0 H0 b tb) (hm : behindInMarks op b = false) : PTd X M0 H0 (.Compare a [op] [b] pos) (dTest (dOp rd ta tb)) :=
  PT.imp (pt_cmpR ho ha hb hm) (test_imp (two_imp fun _ _ _ _ h => h))
theorem dt_val (ha : PEd X M0 H0 a ta) (he : ∀ whole, isTrue a X.env whole = (do let v ← whole; standAt a.pos; holding [v] (truthy v)) := by intro _; rfl) : PTd X M0 H0 a (dTruth ta) :=
  PT.imp (pt_truth ha he) fun σ H Q ⟨sd, M, Qd, w, q, c⟩ => ⟨sd, M, _, w, q, fun d M' v H' s r q => by
    obtain ⟨k, hk, qk⟩ := tru_of s.sr r q
    exact ⟨k, hk, c _ _ _ s qk⟩⟩
def dAnd2 (t u : TTD) : TTD := fun sd M Q => t sd M fun c M1 => if c = true then u sd M1 Q else Q false M1
def dOr2 (t u : TTD) : TTD := fun sd M Q => t sd M fun c M1 => if c = true then Q true M1 else u sd M1 Q
def dNot (t : TTD) : TTD := fun sd M Q => t sd M fun c M1 => Q (!c) M1
theorem dw_and1 (ha : PTd X M0 H0 a t) : PWd X M0 H0 (.BoolOp .And [a] pos) t := pw_and1 ha
theorem dw_or1 (ha : PTd X M0 H0 a t) : PWd X M0 H0 (.BoolOp .Or [a] pos) t := pw_or1 ha
theorem dw_and (ha : PTd X M0 H0 a t) (hb : PWd X M0 H0 (.BoolOp .And (b :: rest) pos) u) : PWd X M0 H0 (.BoolOp .And (a :: b :: rest) pos) (dAnd2 t u) :=
  PW.imp (pw_and ha hb) fun σ H Q ⟨sd, M, Qd, w, q, c⟩ => ⟨sd, M, _, w, q, fun b M' H' s q => by
    cases b with
    | true => rw [if_pos rfl] at q ⊢; exact ⟨sd, M', Qd, w.on s, q, c.on s⟩
    | false => rw [if_neg Bool.false_ne_true] at q ⊢; exact c _ _ _ s q⟩
theorem dw_or (ha : PTd X M0 H0 a t) (hb : PWd X M0 H0 (.BoolOp .Or (b :: rest) pos) u) : PWd X M0 H0 (.BoolOp .Or (a :: b :: rest) pos) (dOr2 t u) :=
  PW.imp (pw_or ha hb) fun σ H Q ⟨sd, M, Qd, w, q, c⟩ => ⟨sd, M, _, w, q, fun b M' H' s q => by
    cases b with
    | false => rw [if_neg Bool.false_ne_true] at q ⊢; exact ⟨sd, M', Qd, w.on s, q, c.on s⟩
    | true => rw [if_pos rfl] at q ⊢; exact c _ _ _ s q⟩
theorem dt_w (h : PWd X M0 H0 e t) : PTd X M0 H0 e t := PW.pt h
theorem dt_not (ha : PTd X M0 H0 a t) : PTd X M0 H0 (.UnaryOp .Not a pos) (dNot t) :=
  PT.imp (pt_not ha) fun σ H Q ⟨sd, M, Qd, w, q, c⟩ => ⟨sd, M, _, w, q, fun b M' H' s q => c _ _ _ s q⟩
/-! ### and, or, not as values of tests -/
def dAndV (ta tb : TED) : TED := fun sd M Q => ta sd M fun d M1 => match d with
  | .bl c => if c = true then tb sd M1 Q else Q (.bl false) M1
  | _ => False
def dOrV (ta tb : TED) : TED := fun sd M Q => ta sd M fun d M1 => match d with
  | .bl c => if c = true then Q (.bl true) M1 else tb sd M1 Q
  | _ => False
def dNotV (ta : TED) : TED := fun sd M Q => ta sd M fun d M1 => match d with
  | .bl c => Q (.bl (!c)) M1
  | _ => False
theorem de_one {op} (h : PEd X M0 H0 a ta) : PEd X M0 H0 (.BoolOp op [a] pos) ta := pe_one h
theorem de_and (ha : PEd X M0 H0 a ta) (hb : PEd X M0 H0 (.BoolOp .And (b :: rest) pos) tb) : PEd X M0 H0 (.BoolOp .And (a :: b :: rest) pos) (dAndV ta tb) :=
  PE.imp (pe_and ha hb) fun σ H Q ⟨sd, M, Qd, w, q, c⟩ => ⟨sd, M, _, w, q, fun d M' v H' s r q => by
    split at q
    · rename_i b
      refine ⟨b, r.bl_of, ?_⟩
      cases b with
      | true => rw [if_pos rfl] at q ⊢; exact ⟨sd, M', Qd, w.on s, q, c.on s⟩
      | false => rw [if_neg Bool.false_ne_true] at q ⊢; exact c _ _ _ _ s .bl q
    · exact q.elim⟩
theorem de_or (ha : PEd X M0 H0 a ta) (hb : PEd X M0 H0 (.BoolOp .Or (b :: rest) pos) tb) : PEd X M0 H0 (.BoolOp .Or (a :: b :: rest) pos) (dOrV ta tb) :=
  PE.imp (pe_or ha hb) fun σ H Q ⟨sd, M, Qd, w, q, c⟩ => ⟨sd, M, _, w, q, fun d M' v H' s r q => by
    split at q
    · rename_i b
      refine ⟨b, r.bl_of, ?_⟩
      cases b with
      | false => rw [if_neg Bool.false_ne_true] at q ⊢; exact ⟨sd, M', Qd, w.on s, q, c.on s⟩
      | true => rw [if_pos rfl] at q ⊢; exact c _ _ _ _ s .bl q
    · exact q.elim⟩
theorem de_not (ha : PEd X M0 H0 a ta) : PEd X M0 H0 (.UnaryOp .Not a pos) (dNotV ta) :=
  PE.imp (pe_not ha) fun σ H Q ⟨sd, M, Qd, w, q, c⟩ => ⟨sd, M, _, w, q, fun d M' v H' s r q => by
    split at q
    · exact ⟨_, r.bl_of, c _ _ _ _ s .bl q⟩
    · exact q.elim⟩
def dIf (t : TTD) (ta tb : TED) : TED := fun sd M Q => t sd M fun c M1 => if c = true then ta sd M1 Q else tb sd M1 Q
theorem de_if (hc : PTd X M0 H0 c t) (ha : PEd X M0 H0 a ta) (hb : PEd X M0 H0 b tb) : PEd X M0 H0 (.IfExp c a b pos) (dIf t ta tb) :=
  PE.imp (pe_ifExp hc ha hb) fun σ H Q ⟨sd, M, Qd, w, q, c⟩ => ⟨sd, M, _, w, q, fun d M' H' s q => by
    cases d with
    | true => rw [if_pos rfl] at q ⊢; exact ⟨sd, M', Qd, w.on s, q, c.on s⟩
    | false => rw [if_neg Bool.false_ne_true] at q ⊢; exact ⟨sd, M', Qd, w.on s, q, c.on s⟩⟩
/-- -a -/
def dNeg (ta : TED) : TED := fun sd M Q => ta sd M fun d M1 => match d with
  | .int i => Q (.int (-i)) M1
  | _ => False
theorem de_neg (ha : PEd X M0 H0 a ta) : PEd X M0 H0 (.UnaryOp .USub a pos) (dNeg ta) :=
  PE.imp (pe_un un_neg ha) fun σ H Q ⟨sd, M, Qd, w, q, c⟩ => ⟨sd, M, _, w, q, fun d M' v H' s r q => by
    split at q
    · exact ⟨_, r.int_of, c _ _ _ _ s .int q⟩
    · exact q.elim⟩
/-- a is None -/
def isN : Dv → Bool
  | .non => true
  | _ => false
def dIsN : R2d := fun d e M Q => match e with
  | .non => Q (.bl (isN d)) M
  | _ => False
def dNotN : R2d := fun d e M Q => match e with
  | .non => Q (.bl (!isN d)) M
  | _ => False
theorem RD.non_iff {K : PySem.W.Frag} {H : Hp} {d : Dv} {v : V} (r : RD K H d v) : decide (v = .non) = isN d := by
  cases d with
  | non => rw [r.non_of]; rfl
  | bl b => rw [r.bl_of]; rfl
  | int b => rw [r.int_of]; rfl
  | str b => rw [r.str_of]; rfl
  | ref b => rw [r.ref_of]; rfl
  | ty n => unfold RD at r; rw [r]; rfl
  | tup ds => unfold RD at r; obtain ⟨_, _, rfl, _⟩ := r; rfl
  | lst ds => unfold RD at r; obtain ⟨_, _, rfl, _⟩ := r; rfl
  | obj C fs => unfold RD at r; obtain ⟨_, _, _, _, _, rfl, _⟩ := r; rfl
  | dct C => unfold RD at r; obtain ⟨_, _, _, rfl, _⟩ := r; rfl
  | dctT C => unfold RD at r; obtain ⟨_, _, _, rfl, _⟩ := r; rfl
theorem od_isN : OpR X (compareOp .Is) (L2op X.K dIsN) := opd_I op_isN fun d e M Qd x y H Q r1 r2 sr q c => by
  unfold dIsN at q
  split at q
  · rw [← r1.non_iff] at q
    exact ⟨r2.non_of, c _ M _ H (.refl sr) .bl q⟩
  · exact q.elim
theorem od_notN : OpR X (compareOp .IsNot) (L2op X.K dNotN) := opd_I op_notN fun d e M Qd x y H Q r1 r2 sr q c => by
  unfold dNotN at q
  split at q
  · rw [← r1.non_iff] at q
    exact ⟨r2.non_of, c _ M _ H (.refl sr) .bl q⟩
  · exact q.elim
/-! ### a < b < c -/
def dChain (r r' : R2d) (ta tb tc : TED) : TED := fun sd M Q => ta sd M fun x M1 => tb sd M1 fun y M2 => r x y M2 fun z M3 => match z with
  | .bl k => if k = true then tc sd M3 fun u M4 => r' y u M4 Q else Q (.bl false) M3
  | _ => False
theorem chain_imp {ta tb tc : TED} {rd rd' : R2d} : ∀ σ H Q, LE X.K M0 H0 (dChain rd rd' ta tb tc) σ H Q → tChain (L2op X.K rd) (L2op X.K rd') (LE X.K M0 H0 ta) (LE X.K M0 H0 tb) (LE X.K M0 H0 tc) σ H Q := fun σ H Q ⟨sd, M, Qd, a, h, c⟩ =>
  ⟨sd, M, _, a, h, fun d M1 v H1 s1 r1 h1 => ⟨sd, M1, _, a.on s1, h1, fun e M2 u H2 s2 r2 h2 => ⟨d, e, M2, _, r1.keep s2.keep, r2, s2.sr, h2, fun z M3 zv H3 s3 rz h3 => by
    split at h3
    · rename_i k
      refine ⟨k, rz.bl_of, ?_⟩
      have s13 := s1.trans (s2.trans s3)
      cases k with
      | false => rw [if_neg Bool.false_ne_true] at h3 ⊢; exact c _ _ _ _ s13 .bl h3
      | true =>
        rw [if_pos rfl] at h3 ⊢
        exact ⟨sd, M3, _, a.on s13, h3, fun f M4 w H4 s4 r4 h4 => ⟨e, f, M4, Qd, r2.keep (s3.keep.trans s4.keep), r4, s4.sr, h4, c.on (s13.trans s4)⟩⟩
    · exact h3.elim⟩⟩⟩
theorem de_chain {op op' : CmpOp} {rd rd' : R2d} {tc : TED} (ho : OpR X (compareOp op) (L2op X.K rd)) (ho' : OpR X (compareOp op') (L2op X.K rd')) (ha : PEd X M0 H0 a ta) (hb : PEd X M0 H0 b tb) (hc : PEd X M0 H0 c tc)
    (hm : lastMarks [op, op'] [b, c] = false := by with_unfolding_all rfl) : PEd X M0 H0 (.Compare a [op, op'] [b, c] pos) (dChain rd rd' ta tb tc) := PE.imp (pe_chain ho ho' ha hb hc hm) chain_imp
theorem dt_chain {op op' : CmpOp} {rd rd' : R2d} {tc : TED} (ho : OpR X (compareOp op) (L2op X.K rd)) (ho' : OpR X (compareOp op') (L2op X.K rd')) (ha : PEd X M0 H0 a ta) (hb : PEd X M0 H0 b tb) (hc : PEd X M0 H0 c tc)
    (hm : lastMarks [op, op'] [b, c] = false := by with_unfolding_all rfl) : PTd X M0 H0 (.Compare a [op, op'] [b, c] pos) (dTest (dChain rd rd' ta tb tc)) := PT.imp (pt_chain ho ho' ha hb hc hm) (test_imp chain_imp)
end
end
end DL

namespace DL
open PySem PySem.Spec PyProof.Rows L2
section
variable {X : Cx} {M0 : Mo} {H0 : Hp}
/-! ### arguments, displays -/
def dNilA : TAD := fun _ M Q => Q [] M
def dConsA (ta : TED) (tr : TAD) : TAD := fun sd M Q => ta sd M fun d M1 => tr sd M1 fun ds M2 => Q (d :: ds) M2
section
variable {a e o i : Expr} {es : List Expr} {te ta to ti : TED} {t : TAD} {pos : Pos}
theorem da_nil : PAd X M0 H0 [] dNilA := PA.imp pa_nil fun σ H Q ⟨sd, M, Qd, w, q, c⟩ => c _ _ _ _ w.here .nil q
theorem da_cons (ha : PEd X M0 H0 e te) (hr : PAd X M0 H0 es t) (hs : starEach (e :: es) X.env = (false, eval e X.env) :: starEach es X.env := by rfl) : PAd X M0 H0 (e :: es) (dConsA te t) :=
  PA.imp (pa_cons ha hr hs) fun σ H Q ⟨sd, M, Qd, w, q, c⟩ => ⟨sd, M, _, w, q, fun d M1 v H1 s1 r1 q1 => ⟨sd, M1, _, w.on s1, q1, fun ds M2 vs H2 s2 r2 q2 => c _ _ _ _ (s1.trans s2) ((r1.keep s2.keep : RD _ _ _ _) |> fun z => RDs.cons z r2) q2⟩⟩
def dTup (t : TAD) : TED := fun sd M Q => t sd M fun ds M1 => ds.length ≤ 1000 ∧ Q (.tup ds) M1
def dLst (t : TAD) : TED := fun sd M Q => t sd M fun ds M1 => ds.length ≤ 1000 ∧ ∀ p, M1 p = none → Q (.ref p) (mup M1 p (.lst ds))
theorem le_line {n : Nat} (h : n ≤ 1000) : n ≤ sizeLine := by rw [sizeLine_eq]; omega
theorem own_lst {K : PySem.W.Frag} {H : Hp} {p : Addr} {vs : List V} {ds : List Dv} (hp : H p = none) (r : RDs K H ds vs) : Own K (upd H p (.lst vs)) p (.lst ds) := by
  simp only [Own]
  exact ⟨vs, upd_same, r.keep (Keep.new hp)⟩
theorem de_tup {x1} (h : PAd X M0 H0 es t) : PEd X M0 H0 (.Tuple es x1 pos) (dTup t) :=
  PE.imp (pe_tup h) fun σ H Q ⟨sd, M, Qd, w, q, c⟩ => ⟨sd, M, _, w, q, fun ds M1 vs H1 s1 r1 q1 => ⟨by rw [← r1.length]; exact le_line q1.1, fun p hp => by
    have k : Keep H1 (upd H1 p (.tup vs)) := Keep.new hp
    refine c _ M1 _ _ (s1.trans (Stp.new0 s1.sr hp)) ?_ q1.2
    unfold RD
    exact ⟨p, vs, rfl, .inl (.inl upd_same), r1.keep k⟩⟩⟩
theorem de_lst (h : PAd X M0 H0 es t) : PEd X M0 H0 (.List es pos) (dLst t) :=
  PE.imp (pe_lst h) fun σ H Q ⟨sd, M, Qd, w, q, c⟩ => ⟨sd, M, _, w, q, fun ds M1 vs H1 s1 r1 q1 => ⟨by rw [← r1.length]; exact le_line q1.1, fun p hp =>
    c _ _ _ _ (s1.trans (Stp.new s1.sr hp (own_lst hp r1))) .ref (q1.2 p (s1.sr.free hp))⟩⟩
/-- the list (the instance, the dict) that e makes stands still from here on -/
def frzV : OO → Option Dv
  | .lst ds => some (.lst ds)
  | .ins c fs => some (.obj c fs)
  | .dK kvs => some (.dct kvs)
  | .dT kvs => some (.dctT kvs)
  | _ => none
def kFz (d : Dv) (M : Mo) (Q : QD) : Prop := match d with
  | .ref p => ∃ o d', M p = some o ∧ frzV o = some d' ∧ Q d' (mdl M p)
  | d => Q d M
def dFrz (te : TED) : TED := fun sd M Q => te sd M fun d M1 => kFz d M1 Q
theorem Inv.frzD {pins : List (Addr × Obj)} {s : Shared} {σ : L2.St} {H : Hp} {M : Mo} {p : Addr} {o : OO} {d : Dv} (I : Inv X pins σ H s) (sr : SR X.K M H) (h : M p = some o)
    (hd : frzV o = some d) : ∃ H', Inv X pins σ H' s ∧ Stp X.K M H (mdl M p) H' ∧ RD X.K H' d (.ref p) := by
  have go : ∀ u : HO, H p = some u → Mutd (some u) → (∀ od, Keep H (upd H p (.frz od u)) → RD X.K (upd H p (.frz od u)) d (.ref p)) → ∃ H', Inv X pins σ H' s ∧ Stp X.K M H (mdl M p) H' ∧ RD X.K H' d (.ref p) := by
    intro u hu mu hr
    obtain ⟨od, I1⟩ := I.lock hu mu.mut
    have k : Keep H (upd H p (.frz od u)) := Keep.mut (by rw [hu]; exact mu)
    refine ⟨_, I1, ⟨k, fun a oo e => ?_, fun a o' e => ?_, fun a o' e nt n => ?_⟩, hr od k⟩
    · by_cases q : a = p
      · subst q
        rw [mdl_same] at e
        cases e
      · rw [mdl_ne q] at e
        exact (sr a oo e).keep k (upd_ne q)
    · by_cases q : a = p
      · subst q
        rw [upd_same]
        intro z
        cases z
      · rw [upd_ne q, e]
        intro z
        cases z
    · have q : a ≠ p := fun z => by subst z; rw [h] at n; cases n
      exact ⟨by rw [upd_ne q]; exact e, by rw [mdl_ne q]; exact n⟩
  have ow := sr p o h
  unfold frzV at hd
  split at hd
  · cases hd
    simp only [Own] at ow
    obtain ⟨vs, hv, r⟩ := ow
    refine go _ hv trivial fun od k => ?_
    unfold RD
    exact ⟨p, vs, rfl, .inl ⟨od, upd_same⟩, r.keep k⟩
  · cases hd
    simp only [Own] at ow
    obtain ⟨Ca, dx, vfs, hn, hv, r⟩ := ow
    refine go _ hv trivial fun od k => ?_
    unfold RD
    exact ⟨p, od, Ca, dx, vfs, rfl, hn, upd_same, r.keep k⟩
  · cases hd
    simp only [Own] at ow
    obtain ⟨vfs, hv, r⟩ := ow
    refine go _ hv trivial fun od k => ?_
    unfold RD
    exact ⟨p, od, vfs, rfl, upd_same, rdk1.mpr (r.keep k)⟩
  · cases hd
    simp only [Own] at ow
    obtain ⟨vfs, hv, r⟩ := ow
    refine go _ hv trivial fun od k => ?_
    unfold RD
    exact ⟨p, od, vfs, rfl, upd_same, rdk2.mpr (r.keep k)⟩
  · cases hd
theorem de_frz (h : PEd X M0 H0 e te) : PEd X M0 H0 e (dFrz te) := by
  refine ⟨fun pins s σ H Q I ⟨sd, M, Qd, w, q, c⟩ => ?_⟩
  refine thn (h.run pins s σ H (fun v H1 => ∃ d M1, Stp X.K M H M1 H1 ∧ RD X.K H1 d v ∧ kFz d M1 Qd) I ⟨sd, M, _, w, q, fun d M1 v H1 s1 r1 q1 => ⟨d, M1, s1, r1, q1⟩⟩) fun u s1 ⟨v, H1, I1, rv, d, M1, s1', r1, q1⟩ => ?_
  have fin : ∀ {d' : Dv}, RD X.K H1 d' v → Qd d' M1 → EP X pins σ Q u s1 := fun r q => ⟨v, H1, I1, rv, c _ _ _ _ s1' r q⟩
  unfold kFz at q1
  split at q1
  · rename_i p
    have ev := r1.ref_of
    subst ev
    obtain ⟨o, d', e, ed, q1⟩ := q1
    obtain ⟨H2, I2, s2, r2⟩ := Inv.frzD I1 s1'.sr e ed
    exact ⟨_, H2, I2, rv, c _ _ _ _ (s1'.trans s2) r2 q1⟩
  · exact fin r1 q1

/-! ### built-ins by values -/
abbrev RNd := List Dv → Mo → QD → Prop
def LNop (K : PySem.W.Frag) (rd : RNd) : List V → Hp → VK → Prop := fun xs H Q => ∃ ds M Qd, RDs K H ds xs ∧ SR K M H ∧ rd ds M Qd ∧ Ct K M H Qd Q
def dCB (rd : RNd) (t : TAD) : TED := fun sd M Q => t sd M fun ds M1 => rd ds M1 Q
theorem cb_imp {rd : RNd} : ∀ σ H Q, LE X.K M0 H0 (dCB rd t) σ H Q → tCB (LNop X.K rd) (LA X.K M0 H0 t) σ H Q := fun σ H Q ⟨sd, M, Qd, w, q, c⟩ =>
  ⟨sd, M, _, w, q, fun ds M1 vs H1 s1 r1 q1 => ⟨ds, M1, Qd, r1, s1.sr, q1, c.on s1⟩⟩
theorem de_callB {id : String} {x : Str} {p : Pos} {rd : RNd} (hc : CallR X (.builtin id) (LNop X.K rd)) (hg : Gl X x) (hm : X.mg x = none) (hv : bootBuiltins x = some (.builtin id)) (ha : PAd X M0 H0 (e :: es) t) (hn : x ≠ "__name__" := by decide) (hdb : (x == ("__debug__" : Str)) = false := by decide)
    (he : starEach (e :: es) X.env = (false, eval e X.env) :: starEach es X.env := by rfl) (hpl : (backTo pos (starEach es X.env)).any (·.1) = false := by rfl) : PEd X M0 H0 (.Call (.Name x p) (e :: es) [] pos) (dCB rd t) :=
  PE.imp (pe_callB hc hg hm hv ha hn hdb he hpl) cb_imp
theorem de_callTy {T : String} {x : Str} {p : Pos} {rd : RNd} (hc : CallR X (.type T) (LNop X.K rd)) (hg : Gl X x) (hm : X.mg x = none) (hv : bootBuiltins x = some (.type T)) (ha : PAd X M0 H0 (e :: es) t) (hn : x ≠ "__name__" := by decide) (hdb : (x == ("__debug__" : Str)) = false := by decide)
    (he : starEach (e :: es) X.env = (false, eval e X.env) :: starEach es X.env := by rfl) (hpl : (backTo pos (starEach es X.env)).any (·.1) = false := by rfl) : PEd X M0 H0 (.Call (.Name x p) (e :: es) [] pos) (dCB rd t) :=
  PE.imp (pe_callTy hc hg hm hv ha hn hdb he hpl) cb_imp
theorem cd_I {f : Value} {r : List V → Hp → VK → Prop} {rd : RNd} (h : CallR X f r) (w : ∀ ds M Qd xs H Q, RDs X.K H ds xs → SR X.K M H → rd ds M Qd → Ct X.K M H Qd Q → r xs H Q) : CallR X f (LNop X.K rd) :=
  fun pins s σ H xs us Q I rv ⟨ds, M, Qd, rs, sr, q, c⟩ => h pins s σ H xs us Q I rv (w ds M Qd xs H Q rs sr q c)
theorem RDs.one {K : PySem.W.Frag} {H : Hp} {d : Dv} {vs : List V} (r : RDs K H [d] vs) : ∃ v, vs = [v] ∧ RD K H d v := by
  unfold RDs at r
  obtain ⟨v, w, rfl, r1, r2⟩ := r
  unfold RDs at r2
  subst r2
  exact ⟨v, rfl, r1⟩
theorem RDs.two {K : PySem.W.Frag} {H : Hp} {d e : Dv} {vs : List V} (r : RDs K H [d, e] vs) : ∃ v u, vs = [v, u] ∧ RD K H d v ∧ RD K H e u := by
  unfold RDs at r
  obtain ⟨v, w, rfl, r1, r2⟩ := r
  obtain ⟨u, rfl, r3⟩ := r2.one
  exact ⟨v, u, rfl, r1, r3⟩
theorem RDs.zero {K : PySem.W.Frag} {H : Hp} {vs : List V} (r : RDs K H [] vs) : vs = [] := by unfold RDs at r; exact r
/-- len(x) -/
def dLen : RNd := fun ds M Q => match ds with
  | [.str x] => x.length ≤ 16777216 ∧ Q (.int x.length) M
  | [d] => match seqL M d with
    | some es => Q (.int es.length) M
    | none => match seqT d with
      | some es => Q (.int es.length) M
      | none => False
  | _ => False
theorem cd_len : CallR X (.builtin "len") (LNop X.K dLen) := cd_I call_len fun ds M Qd xs H Q rs sr q c => by
  unfold dLen at q
  split at q
  · obtain ⟨v, rfl, r⟩ := rs.one
    rw [r.str_of]
    exact ⟨_, _, rfl, ⟨by rw [← line_eq]; exact q.1, rfl⟩, c _ _ _ _ (.refl sr) .int q.2⟩
  · obtain ⟨v, rfl, r⟩ := rs.one
    split at q
    · rename_i es e
      obtain ⟨a, vs, rfl, sq, rr⟩ := seqL_ok sr r e
      exact ⟨_, _, rfl, .inl ⟨vs, sq, rfl⟩, by rw [← rr.length]; exact c _ _ _ _ (.refl sr) .int q⟩
    · split at q
      · rename_i es e
        obtain ⟨a, vs, rfl, sq, rr⟩ := seqT_ok r e
        exact ⟨_, _, rfl, .inr ⟨vs, sq, rfl⟩, by rw [← rr.length]; exact c _ _ _ _ (.refl sr) .int q⟩
      · exact q.elim
  · exact q.elim
/-- min(m, n), max(m, n) -/
def dMin2 : RNd := fun ds M Q => match ds with
  | [.int i, .int j] => Q (.int (if j < i then j else i)) M
  | _ => False
def dMax2 : RNd := fun ds M Q => match ds with
  | [.int i, .int j] => Q (.int (if j > i then j else i)) M
  | _ => False
theorem cd_min2 (hc : X.calm = true) : CallR X (.builtin "min") (LNop X.K dMin2) := cd_I (call_min2 hc) fun ds M Qd xs H Q rs sr q c => by
  unfold dMin2 at q
  split at q
  · obtain ⟨v, u, rfl, r1, r2⟩ := rs.two
    rw [r1.int_of, r2.int_of]
    exact ⟨_, _, rfl, c _ _ _ _ (.refl sr) .int q⟩
  · exact q.elim
theorem cd_max2 (hc : X.calm = true) : CallR X (.builtin "max") (LNop X.K dMax2) := cd_I (call_max2 hc) fun ds M Qd xs H Q rs sr q c => by
  unfold dMax2 at q
  split at q
  · obtain ⟨v, u, rfl, r1, r2⟩ := rs.two
    rw [r1.int_of, r2.int_of]
    exact ⟨_, _, rfl, c _ _ _ _ (.refl sr) .int q⟩
  · exact q.elim
/-- all(xs), any(xs), of truths -/
def blsOf : List Dv → Option (List Bool)
  | [] => some []
  | .bl b :: ds => (blsOf ds).map (b :: ·)
  | _ => none
theorem blsOf_ok {K : PySem.W.Frag} {H : Hp} : ∀ {ds : List Dv} {vs : List V} {bs : List Bool}, RDs K H ds vs → blsOf ds = some bs → vs = bs.map V.bl
  | [], vs, bs, r, h => by unfold blsOf at h; cases h; exact r.zero
  | d :: ds, vs, bs, r, h => by
    unfold RDs at r
    obtain ⟨v, w, rfl, r1, r2⟩ := r
    cases d with
    | bl b =>
      unfold blsOf at h
      cases q : blsOf ds with
      | none => rw [q] at h; cases h
      | some cs =>
        rw [q] at h
        cases h
        rw [r1.bl_of, blsOf_ok r2 q]
        rfl
    | _ => unfold blsOf at h; cases h
def dAll : RNd := fun ds M Q => match ds with
  | [d] => match (seqL M d).bind blsOf with
    | some bs => Q (.bl (bs.all id)) M
    | none => False
  | _ => False
def dAny : RNd := fun ds M Q => match ds with
  | [d] => match (seqL M d).bind blsOf with
    | some bs => Q (.bl (bs.any id)) M
    | none => False
  | _ => False
theorem cd_all (hc : X.calm = true) : CallR X (.builtin "all") (LNop X.K dAll) := cd_I (cr_all hc) fun ds M Qd xs H Q rs sr q c => by
  unfold dAll at q
  split at q
  · rename_i d
    obtain ⟨v, rfl, r⟩ := rs.one
    split at q
    · rename_i bs e
      obtain ⟨es, h1, h2⟩ := Option.bind_eq_some_iff.mp e
      obtain ⟨a, vs, rfl, sq, rr⟩ := seqL_ok sr r h1
      rw [blsOf_ok rr h2] at sq
      exact ⟨a, bs, rfl, sq, c _ _ _ _ (.refl sr) .bl q⟩
    · exact q.elim
  · exact q.elim
theorem cd_any (hc : X.calm = true) : CallR X (.builtin "any") (LNop X.K dAny) := cd_I (cr_any hc) fun ds M Qd xs H Q rs sr q c => by
  unfold dAny at q
  split at q
  · rename_i d
    obtain ⟨v, rfl, r⟩ := rs.one
    split at q
    · rename_i bs e
      obtain ⟨es, h1, h2⟩ := Option.bind_eq_some_iff.mp e
      obtain ⟨a, vs, rfl, sq, rr⟩ := seqL_ok sr r h1
      rw [blsOf_ok rr h2] at sq
      exact ⟨a, bs, rfl, sq, c _ _ _ _ (.refl sr) .bl q⟩
    · exact q.elim
  · exact q.elim
/-- list(x) -/
def dListOf : RNd := fun ds M Q => match ds with
  | [d] => match seqL M d with
    | some es => ∀ p, M p = none → Q (.ref p) (mup M p (.lst es))
    | none => match seqT d with
      | some es => ∀ p, M p = none → Q (.ref p) (mup M p (.lst es))
      | none => False
  | _ => False
theorem cd_list : CallR X (.type "list") (LNop X.K dListOf) := cd_I call_list_of fun ds M Qd xs H Q rs sr q c => by
  unfold dListOf at q
  split at q
  · rename_i d
    obtain ⟨v, rfl, r⟩ := rs.one
    split at q
    · rename_i es e
      obtain ⟨a, vs, rfl, sq, rr⟩ := seqL_ok sr r e
      exact ⟨a, vs, rfl, .inl sq, fun p hp => c _ _ _ _ (Stp.new sr hp (own_lst hp rr)) .ref (q p (sr.free hp))⟩
    · split at q
      · rename_i es e
        obtain ⟨a, vs, rfl, sq, rr⟩ := seqT_ok r e
        exact ⟨a, vs, rfl, .inr sq, fun p hp => c _ _ _ _ (Stp.new sr hp (own_lst hp rr)) .ref (q p (sr.free hp))⟩
      · exact q.elim
  · exact q.elim
/-! ### subscripts -/
def dIx : R2d := fun d e M Q => match e with
  | .int i => match d with
    | .str z => z.length ≤ 16777216 ∧ (match atI z.cps.toList i with
      | some c => Q (.str ⟨#[c]⟩) M
      | none => False)
    | d => match seqL M d with
      | some ds => (match atI ds i with
        | some x => Q x M
        | none => False)
      | none => match seqT d with
        | some ds => (match atI ds i with
          | some x => Q x M
          | none => False)
        | none => False
  | _ => False
theorem RDs.atI {K : PySem.W.Frag} {H : Hp} {ds : List Dv} {vs : List V} {i : Int} {d : Dv} (r : RDs K H ds vs) (h : atI ds i = some d) : ∃ v, atI vs i = some v ∧ RD K H d v := by
  unfold L2.atI at h ⊢
  obtain ⟨j, h1, h2⟩ := Option.bind_eq_some_iff.mp h
  obtain ⟨v, hv, rv⟩ := r.get h2
  exact ⟨v, Option.bind_eq_some_iff.mpr ⟨j, by rw [← r.length]; exact h1, hv⟩, rv⟩
theorem id_I {r : R2} {rd : R2d} (h : IxR X r) (w : ∀ d e M Qd x y H Q, RD X.K H d x → RD X.K H e y → SR X.K M H → rd d e M Qd → Ct X.K M H Qd Q → r x y H Q) : IxR X (L2op X.K rd) :=
  fun va sl pins s σ H x y v u Q I rx ry ⟨d, e, M, Qd, r1, r2, sr, q, c⟩ hs => h va sl pins s σ H x y v u Q I rx ry (w d e M Qd x y H Q r1 r2 sr q c) hs
theorem xd_ix : IxR X (L2op X.K dIx) := id_I ix_seq fun d e M Qd x y H Q r1 r2 sr q c => by
  unfold dIx at q
  split at q
  · rename_i i
    rw [r2.int_of]
    split at q
    · rw [r1.str_of]
      obtain ⟨hz, q⟩ := q
      split at q
      · rename_i ch e
        exact .inr (.inr ⟨_, i, ch, rfl, rfl, by rw [← line_eq]; exact hz, e, c _ _ _ _ (.refl sr) .str q⟩)
      · exact q.elim
    · split at q
      · rename_i es e
        obtain ⟨a, vs, rfl, sq, rr⟩ := seqL_ok sr r1 e
        split at q
        · rename_i z ez
          obtain ⟨v, hv, rv⟩ := rr.atI ez
          exact .inl ⟨a, vs, i, v, rfl, rfl, sq, hv, c _ _ _ _ (.refl sr) rv q⟩
        · exact q.elim
      · split at q
        · rename_i es e
          obtain ⟨a, vs, rfl, sq, rr⟩ := seqT_ok r1 e
          split at q
          · rename_i z ez
            obtain ⟨v, hv, rv⟩ := rr.atI ez
            exact .inr (.inl ⟨a, vs, i, v, rfl, rfl, sq, hv, c _ _ _ _ (.refl sr) rv q⟩)
          · exact q.elim
        · exact q.elim
  · exact q.elim
theorem de_ix {b : Expr} {tb : TED} (ha : PEd X M0 H0 a ta) (hb : PEd X M0 H0 b tb) (hs : PlainIx b := by exact (fun _ _ => rfl)) : PEd X M0 H0 (.Subscript a b pos) (dOp dIx ta tb) :=
  PE.imp (pe_ix xd_ix ha hb hs) (two_imp fun _ _ _ _ h => h)
/-! ### slices -/
abbrev TOD := StD → Mo → (Option Int → Mo → Prop) → Prop
def LO (K : PySem.W.Frag) (M0 : Mo) (H0 : Hp) (t : TOD) : TO := fun σ H Q => ∃ sd M Qd, At K M0 H0 sd M σ H ∧ t sd M Qd ∧ ∀ o M' H', Stp K M H M' H' → Qd o M' → Q o H'
theorem PO.imp {e : Option Expr} {t t' : TO} (h : PO X e t) (w : ∀ σ H Q, t' σ H Q → t σ H Q) : PO X e t' := ⟨fun pins s σ H Q I q => h.run pins s σ H Q I (w _ _ _ q)⟩
abbrev POd (X : Cx) (M : Mo) (H : Hp) (e : Option Expr) (t : TOD) : Prop := PO X e (LO X.K M H t)
def dNo : TOD := fun _ M Q => Q none M
def dPart (t : TED) : TOD := fun sd M Q => t sd M fun d M1 => match d with
  | .int i => Q (some i) M1
  | _ => False
theorem do_none : POd X M0 H0 none dNo := PO.imp po_none fun σ H Q ⟨sd, M, Qd, w, q, c⟩ => c _ _ _ w.here q
theorem do_some (h : PEd X M0 H0 e te) : POd X M0 H0 (some e) (dPart te) := PO.imp (po_some h) fun σ H Q ⟨sd, M, Qd, w, q, c⟩ => ⟨sd, M, _, w, q, fun d M1 v H1 s1 r1 q1 => by
  split at q1
  · exact ⟨_, r1.int_of, c _ _ _ s1 q1⟩
  · exact q1.elim⟩
def cutD (xs : List Dv) (lo hi : Option Int) : List Dv := (xs.drop (HT.sIx xs.length 0 lo)).take (HT.sIx xs.length xs.length hi - HT.sIx xs.length 0 lo)
theorem RDs.cut {K : PySem.W.Frag} {H : Hp} {ds : List Dv} {vs : List V} (r : RDs K H ds vs) (lo hi : Option Int) : RDs K H (cutD ds lo hi) (cutV vs lo hi) := by
  unfold cutD cutV
  rw [r.length]
  exact (r.drop _).take _
def dSlV (d : Dv) (lo hi : Option Int) (M : Mo) (Q : QD) : Prop := match d with
  | .str z => z.length ≤ 16777216 ∧ Q (.str (cutS z lo hi)) M
  | d => match seqL M d with
    | some ds => ∀ p, M p = none → Q (.ref p) (mup M p (.lst (cutD ds lo hi)))
    | none => False
def dSl (te : TED) (tl th : TOD) : TED := fun sd M Q => te sd M fun d M1 => tl sd M1 fun lo M2 => th sd M2 fun hi M3 => dSlV d lo hi M3 Q
theorem de_slice {lo hi : Option Expr} {p2 : Pos} {tl th : TOD} (he : PEd X M0 H0 e te) (hl : POd X M0 H0 lo tl) (hu : POd X M0 H0 hi th) : PEd X M0 H0 (.Subscript e (.Slice lo hi none p2) pos) (dSl te tl th) :=
  PE.imp (pe_slice (sl_str.or sl_list) he hl hu) fun σ H Q ⟨sd, M, Qd, w, q, c⟩ => ⟨sd, M, _, w, q, fun d M1 v H1 s1 r1 q1 => ⟨sd, M1, _, w.on s1, q1, fun l M2 H2 s2 q2 => ⟨sd, M2, _, w.on (s1.trans s2), q2, fun u M3 H3 s3 q3 => by
    have s := s1.trans (s2.trans s3)
    have r3 := r1.keep (s2.keep.trans s3.keep)
    unfold dSlV at q3
    split at q3
    · rw [r3.str_of]
      exact .inl ⟨_, rfl, by rw [← line_eq]; exact q3.1, c _ _ _ _ s .str q3.2⟩
    · split at q3
      · rename_i es e
        obtain ⟨a, vs, rfl, sq, rr⟩ := seqL_ok s3.sr r3 e
        exact .inr ⟨a, vs, rfl, sq, fun p hp => c _ _ _ _ (s.trans (Stp.new s3.sr hp (own_lst hp (rr.cut _ _)))) .ref (q3 p (s3.sr.free hp))⟩
      · exact q3.elim⟩⟩⟩
end
end
end DL

namespace DL
open PySem PySem.Spec PyProof.Rows L2
section
variable {X : Cx} {M0 : Mo} {H0 : Hp}
/-! ### blocks and small statements -/
section
variable {st : Stmt} {rest : List Stmt} {t u : TSD} {e c : Expr} {te : TED} {tc : TTD} {pos : Pos} {a b : List Stmt}
def dNext : TSD := fun D sd M => D.nx sd M
def dSeq (t u : TSD) : TSD := fun D sd M => t { D with nx := u D } sd M
theorem dss_nil : PSsd X M0 H0 [] dNext := PSs.imp pss_nil fun D σ H ⟨sd, M, Dd, w, q, c⟩ => c.nx _ _ _ _ w.here w.rs q
theorem dss_cons (h1 : PSd X M0 H0 st t) (h2 : PSsd X M0 H0 rest u) : PSsd X M0 H0 (st :: rest) (dSeq t u) :=
  PSs.imp (pss_cons h1 h2) fun D σ H ⟨sd, M, Dd, w, q, c⟩ => ⟨sd, M, { Dd with nx := u Dd }, w, q, ⟨fun sd' M' σ' H' s r h => ⟨sd', M', Dd, ⟨w.st.trans s, r⟩, h, c.on s⟩, c.rt, c.bk, c.ct⟩⟩
theorem dss_one (h1 : PSd X M0 H0 st t) : PSsd X M0 H0 [st] t := pss_one h1
theorem ds_pass : PSd X M0 H0 (.Pass pos) dNext := PS.imp ps_pass fun D σ H ⟨sd, M, Dd, w, q, c⟩ => c.nx _ _ _ _ w.here w.rs q
def dBreak : TSD := fun D sd M => D.bk sd M
def dCont : TSD := fun D sd M => D.ct sd M
theorem ds_break : PSd X M0 H0 (.Break pos) dBreak := PS.imp ps_break fun D σ H ⟨sd, M, Dd, w, q, c⟩ => c.bk _ _ _ _ w.here w.rs q
theorem ds_continue : PSd X M0 H0 (.Continue pos) dCont := PS.imp ps_continue fun D σ H ⟨sd, M, Dd, w, q, c⟩ => c.ct _ _ _ _ w.here w.rs q
theorem ds_doc {x j pos'} : PSd X M0 H0 (.Expr (.Constant (.str x) j pos) pos') dNext := PS.imp ps_doc fun D σ H ⟨sd, M, Dd, w, q, c⟩ => c.nx _ _ _ _ w.here w.rs q
def dDrop (te : TED) : TSD := fun D sd M => te sd M fun _ M1 => D.nx sd M1
theorem ds_expr (he : PEd X M0 H0 e te) (hs : swapsWith e none pos.line X.env = pure false := by rfl) : PSd X M0 H0 (.Expr e pos) (dDrop te) :=
  PS.imp (ps_expr he hs) fun D σ H ⟨sd, M, Dd, w, q, c⟩ => ⟨sd, M, _, w, q, fun d M1 v H1 s1 r1 q1 => c.nx _ _ _ _ s1 (w.rs.keep s1.keep) q1⟩
def dRet (te : TED) : TSD := fun D sd M => te sd M D.rt
theorem ds_ret (he : PEd X M0 H0 e te) : PSd X M0 H0 (.Return (some e) pos) (dRet te) :=
  PS.imp (ps_ret he) fun D σ H ⟨sd, M, Dd, w, q, c⟩ => ⟨sd, M, _, w, q, c.rt⟩
def dRetN : TSD := fun D _ M => D.rt .non M
theorem ds_retN : PSd X M0 H0 (.Return none pos) dRetN := PS.imp ps_retN fun D σ H ⟨sd, M, Dd, w, q, c⟩ => c.rt _ _ _ _ w.here .non q
def dIfS (c : TTD) (t u : TSD) : TSD := fun D sd M => c sd M fun b M1 => if b = true then t D sd M1 else u D sd M1
theorem ds_if (hc : PTd X M0 H0 c tc) (ha : PSsd X M0 H0 a t) (hb : PSsd X M0 H0 b u) : PSd X M0 H0 (.If c a b pos) (dIfS tc t u) :=
  PS.imp (ps_if hc ha hb) fun D σ H ⟨sd, M, Dd, w, q, c⟩ => ⟨sd, M, _, w, q, fun k M1 H1 s1 q1 => by
    cases k with
    | true => rw [if_pos rfl] at q1 ⊢; exact ⟨sd, M1, Dd, w.on s1, q1, c.on s1⟩
    | false => rw [if_neg Bool.false_ne_true] at q1 ⊢; exact ⟨sd, M1, Dd, w.on s1, q1, c.on s1⟩⟩
def dNever : TSD := fun _ _ _ => False
theorem ds_never : PSd X M0 H0 st dNever := PS.imp ps_never fun D σ H ⟨sd, M, Dd, w, q, c⟩ => q.elim
theorem dss_never : PSsd X M0 H0 rest dNever := PSs.imp pss_never fun D σ H ⟨sd, M, Dd, w, q, c⟩ => q.elim
end
/-! ### targets -/
abbrev TGD := Dv → StD → Mo → (StD → Mo → Prop) → Prop
abbrev TGsD := List Dv → StD → Mo → (StD → Mo → Prop) → Prop
def CtG (K : PySem.W.Frag) (M : Mo) (H : Hp) (Qd : StD → Mo → Prop) (Q : St → Hp → Prop) : Prop := ∀ sd M' σ H', Stp K M H M' H' → Rs K H' sd σ → Qd sd M' → Q σ H'
def LG (K : PySem.W.Frag) (M0 : Mo) (H0 : Hp) (t : TGD) : TG := fun v σ H Q => ∃ d sd M Qd, At K M0 H0 sd M σ H ∧ RD K H d v ∧ t d sd M Qd ∧ CtG K M H Qd Q
def LGs (K : PySem.W.Frag) (M0 : Mo) (H0 : Hp) (t : TGsD) : TGs := fun vs σ H Q => ∃ ds sd M Qd, At K M0 H0 sd M σ H ∧ RDs K H ds vs ∧ t ds sd M Qd ∧ CtG K M H Qd Q
theorem PG.imp {X : Cx} {e : Expr} {t t' : TG} (h : PG X e t) (w : ∀ v σ H Q, t' v σ H Q → t v σ H Q) : PG X e t' := ⟨fun pins s σ H v u Q I r q => h.run pins s σ H v u Q I r (w _ _ _ _ q)⟩
theorem PGs.imp {X : Cx} {e : List Expr} {t t' : TGs} (h : PGs X e t) (w : ∀ v σ H Q, t' v σ H Q → t v σ H Q) : PGs X e t' := ⟨fun pins s σ H v u Q I r q => h.run pins s σ H v u Q I r (w _ _ _ _ q)⟩
abbrev PGd (X : Cx) (M : Mo) (H : Hp) (e : Expr) (t : TGD) : Prop := PG X e (LG X.K M H t)
abbrev PGsd (X : Cx) (M : Mo) (H : Hp) (e : List Expr) (t : TGsD) : Prop := PGs X e (LGs X.K M H t)
section
variable {e o i tg : Expr} {es : List Expr} {te to ti : TED} {t : TGD} {g : TGD} {u : TGsD} {pos pos' tpos : Pos} {x : Str} {k : Nat}
def gN (i : Nat) : TGD := fun d sd M Q => Q (sd.set i (some d)) M
theorem dg_name {i : Nat} (hN : X.N.Nodup) (hi : X.N[i]? = some x) (hx : Loc X.env.scope x) (hf : X.fn x = true ∨ X.env.scope.names.lookup x = some .local := by first | exact .inl rfl | exact .inr rfl | assumption) : PGd X M0 H0 (.Name x pos) (gN i) :=
  PG.imp (pg_name hN hi hx hf) fun v σ H Q ⟨d, sd, M, Qd, w, r, q, c⟩ => c _ _ _ _ w.here (w.rs.set r i) q
def gNl : TGsD := fun ds sd M Q => ds = [] ∧ Q sd M
def gCn (t : TGD) (u : TGsD) : TGsD := fun ds sd M Q => match ds with
  | d :: r => t d sd M fun sd' M' => u r sd' M' Q
  | [] => False
theorem dgs_nil : PGsd X M0 H0 [] gNl := PGs.imp pgs_nil fun v σ H Q ⟨d, sd, M, Qd, w, r, q, c⟩ => by
  obtain ⟨rfl, q⟩ := q
  exact ⟨r.zero, c _ _ _ _ w.here w.rs q⟩
theorem dgs_cons (h1 : PGd X M0 H0 e t) (h2 : PGsd X M0 H0 es u) (hs : (assignEach (e :: es) X.env).map (·.2) = assign e X.env :: (assignEach es X.env).map (·.2) := by rfl) : PGsd X M0 H0 (e :: es) (gCn t u) :=
  PGs.imp (pgs_cons h1 h2 hs) fun v σ H Q ⟨ds, sd, M, Qd, w, r, q, c⟩ => by
    unfold gCn at q
    split at q
    · rename_i d ds'
      unfold RDs at r
      obtain ⟨v, vr, rfl, r1, r2⟩ := r
      exact ⟨v, vr, rfl, d, sd, M, _, w, r1, q, fun sd' M' σ' H' s rs h => ⟨ds', sd', M', Qd, ⟨w.st.trans s, rs⟩, r2.keep s.keep, h, fun a b c' d' s' r' q' => c a b c' d' (s.trans s') r' q'⟩⟩
    · exact q.elim
def gTp (n : Nat) (t : TGsD) : TGD := fun d sd M Q => match seqT d with
  | some ds => ds.length = n ∧ t ds sd M Q
  | none => False
theorem dg_tup {n : Nat} (hc : X.calm = true) (h : PGsd X M0 H0 es u) (hn : (assignEach es X.env).length = n := by rfl) (hst : (assignEach es X.env).findIdx? (·.1) = none := by rfl) : PGd X M0 H0 (.Tuple es k pos) (gTp n u) :=
  PG.imp (pg_tup hc h hn hst) fun v σ H Q ⟨d, sd, M, Qd, w, r, q, c⟩ => by
    unfold gTp at q
    split at q
    · rename_i ds e
      obtain ⟨a, vs, rfl, sq, rr⟩ := seqT_ok r e
      exact ⟨a, vs, rfl, sq, by rw [← rr.length]; exact q.1, ds, sd, M, Qd, w, rr, q.2, c⟩
    · exact q.elim
/-- o[i] = v, by values -/
abbrev TSetD := Dv → Dv → Dv → Mo → (Mo → Prop) → Prop
def LSet (K : PySem.W.Frag) (t : TSetD) : TSet := fun o i v H Q => ∃ od id d M Qd, RD K H od o ∧ RD K H id i ∧ RD K H d v ∧ SR K M H ∧ t od id d M Qd ∧ ∀ M' H', Stp K M H M' H' → Qd M' → Q H'
def gSb (to ti : TED) (t : TSetD) : TGD := fun d sd M Q => to sd M fun o M1 => ti sd M1 fun i M2 => t o i d M2 fun M3 => Q sd M3
theorem PSet.imp {X : Cx} {t t' : TSet} (h : PSet X t) (w : ∀ o i v H Q, t' o i v H Q → t o i v H Q) : PSet X t' := fun pins s σ H o i v ov iv u Q I r1 r2 r3 q => h pins s σ H o i v ov iv u Q I r1 r2 r3 (w _ _ _ _ _ q)
theorem dg_sub {ts : TSetD} (ho : PEd X M0 H0 o to) (hi : PEd X M0 H0 i ti) (hs : PSet X (LSet X.K ts))
    (ha : ∀ v, assign (.Subscript o i pos) X.env v = (do
      let ov ← holding [v] (eval o X.env)
      let iv ← holding [v, ov] (eval i X.env)
      standAt pos
      holding [v, ov, iv] (setItem ov iv v)
      release [v, ov, iv] []) := by intro _; rfl) : PGd X M0 H0 (.Subscript o i pos) (gSb to ti ts) :=
  PG.imp (pg_sub ho hi hs ha) fun v σ H Q ⟨d, sd, M, Qd, w, r, q, c⟩ => ⟨sd, M, _, w, q, fun od M1 ov H1 s1 r1 q1 => ⟨sd, M1, _, w.on s1, q1, fun id M2 iv H2 s2 r2 q2 =>
    ⟨od, id, d, M2, _, r1.keep s2.keep, r2, r.keep (s1.keep.trans s2.keep), s2.sr, q2, fun M3 H3 s3 q3 => c _ _ _ _ (s1.trans (s2.trans s3)) (w.rs.keep (s1.keep.trans (s2.keep.trans s3.keep))) q3⟩⟩⟩
/-- an item of an owned list is stored -/
def dSetL : TSetD := fun o i d M Q => match o, i with
  | .ref a, .int k => match M a with
    | some (.lst ds) => match ixN ds.length k with
      | some j => Q (mup M a (.lst (ds.set j d)))
      | none => False
    | _ => False
  | _, _ => False
theorem xs_list : PSet X (LSet X.K dSetL) := PSet.imp set_list fun o i v H Q ⟨od, id, d, M, Qd, r1, r2, r3, sr, q, c⟩ => by
  unfold dSetL at q
  split at q
  · rename_i a k
    split at q
    · rename_i ds e
      split at q
      · rename_i j ej
        have ow := sr a _ e
        simp only [Own] at ow
        obtain ⟨vs, hv, rr⟩ := ow
        rw [r1.ref_of, r2.int_of]
        have mu : Mutd (H a) := by rw [hv]; trivial
        exact ⟨a, vs, k, j, rfl, rfl, hv, by rw [← rr.length]; exact ej, c _ _ (Stp.set sr e mu (by simp only [Own]; exact ⟨_, upd_same, ((rr.keep (Keep.mut mu)).set (r3.keep (Keep.mut mu)) j)⟩)) q⟩
      · exact q.elim
    · exact q.elim
  · exact q.elim
/-- target = value -/
def dAsg (te : TED) (g : TGD) : TSD := fun D sd M => te sd M fun d M1 => g d sd M1 D.nx
theorem ds_asg (he : PEd X M0 H0 e te) (hg : PGd X M0 H0 tg g) (hs : swapsWithSole [tg] e pos.line X.env = pure false := by rfl) (hw : swappedStores [tg] e X.env = pure none := by rfl)
    (h1 : (assignEach [tg] X.env).map (·.2) = [assign tg X.env] := by rfl) : PSd X M0 H0 (.Assign [tg] e pos) (dAsg te g) :=
  PS.imp (ps_asg he hg hs hw h1) fun D σ H ⟨sd, M, Dd, w, q, c⟩ => ⟨sd, M, _, w, q, fun d M1 v H1 s1 r1 q1 => ⟨d, sd, M1, _, w.on s1, r1, q1, fun sd' M' σ' H' s r h => c.nx _ _ _ _ (s1.trans s) r h⟩⟩
theorem ds_set {i : Nat} (hN : X.N.Nodup) (hi : X.N[i]? = some x) (hx : Loc X.env.scope x) (he : PEd X M0 H0 e te) (hs : swapsWith e (some (.Name x pos')) pos.line X.env = pure false := by rfl) (hf : X.fn x = true ∨ X.env.scope.names.lookup x = some .local := by first | exact .inl rfl | exact .inr rfl | assumption) :
    PSd X M0 H0 (.Assign [.Name x pos'] e pos) (dAsg te (gN i)) :=
  PS.imp (ps_set hN hi hx he hs hf) fun D σ H ⟨sd, M, Dd, w, q, c⟩ => ⟨sd, M, _, w, q, fun d M1 v H1 s1 r1 q1 => c.nx _ _ _ _ s1 ((w.rs.keep s1.keep).set r1 i) q1⟩
/-- a, b = x, y -/
def dPar (i j : Nat) (ta : TAD) : TSD := fun D sd M => ta sd M fun ds M1 => match ds with
  | [d, e] => D.nx ((sd.set i (some d)).set j (some e)) M1
  | _ => False
theorem ds_par {i j : Nat} {x y : Str} {a b : Expr} {ta : TAD} {px py pt : Pos} {kt k2 pt2} (hc : X.calm = true) (hN : X.N.Nodup) (hi : X.N[i]? = some x) (hj : X.N[j]? = some y) (hij : i ≠ j)
    (hx : X.env.scope.names.lookup x = some .local) (hy : X.env.scope.names.lookup y = some .local) (ha : PAd X M0 H0 [a, b] ta)
    (hw : swappedStores [.Tuple [.Name x px, .Name y py] kt pt] (.Tuple [a, b] k2 pt2) X.env = pure (some [x, y]))
    (hs : swapsWithSole [.Tuple [.Name x px, .Name y py] kt pt] (.Tuple [a, b] k2 pt2) pos.line X.env = pure false := by rfl) :
    PSd X M0 H0 (.Assign [.Tuple [.Name x px, .Name y py] kt pt] (.Tuple [a, b] k2 pt2) pos) (dPar i j ta) :=
  PS.imp (ps_par hc hN hi hj hij hx hy ha hw hs) fun D σ H ⟨sd, M, Dd, w, q, c⟩ => ⟨sd, M, _, w, q, fun ds M1 vs H1 s1 r1 q1 => by
    split at q1
    · rename_i d e
      obtain ⟨v, u, rfl, r1, r2⟩ := r1.two
      exact ⟨v, u, rfl, c.nx _ _ _ _ s1 (((w.rs.keep s1.keep).set r1 i).set r2 j) q1⟩
    · exact q1.elim⟩
/-- name op= e -/
def LIp (K : PySem.W.Frag) (rd : R2d) : TIp := L2op K rd
def dAug (i : Nat) (te : TED) (rd : R2d) : TSD := fun D sd M => match sd[i]? with
  | some (some x) => te sd M fun y M1 => rd x y M1 fun z M2 => D.nx (sd.set i (some z)) M2
  | _ => False
theorem ds_aug {i : Nat} {op : Operator} {rd : R2d} (hN : X.N.Nodup) (hi : X.N[i]? = some x) (hx : Loc X.env.scope x) (he : PEd X M0 H0 e te) (ho : PIp X op (L2op X.K rd)) (hf : X.fn x = true ∨ X.env.scope.names.lookup x = some .local := by first | exact .inl rfl | exact .inr rfl | assumption) :
    PSd X M0 H0 (.AugAssign (.Name x pos') op e pos) (dAug i te rd) :=
  PS.imp (ps_aug hN hi hx he ho hf) fun D σ H ⟨sd, M, Dd, w, q, c⟩ => by
    unfold dAug at q
    split at q
    · rename_i d ed
      obtain ⟨v, hv, rv⟩ := w.rs.2 i d ed
      exact ⟨v, hv, sd, M, _, w, q, fun y M1 u H1 s1 r1 q1 => ⟨d, y, M1, _, rv.keep s1.keep, r1, s1.sr, q1, fun z M2 zv H2 s2 r2 q2 => c.nx _ _ _ _ (s1.trans s2) ((w.rs.keep (s1.keep.trans s2.keep)).set r2 i) q2⟩⟩
    · exact q.elim
end
theorem ip_of {op : Operator} {r : R2} {rd : R2d} (h : OpR X (inplaceOp op) r) (w : ∀ d e M Qd x y H Q, RD X.K H d x → RD X.K H e y → SR X.K M H → rd d e M Qd → Ct X.K M H Qd Q → r x y H Q) : PIp X op (L2op X.K rd) :=
  fun pins s σ H x y v u Q I rx ry ⟨d, e, M, Qd, r1, r2, sr, q, c⟩ => h pins s σ H x y v u Q I rx ry (w d e M Qd x y H Q r1 r2 sr q c)
/-- += on ints and texts -/
def dIAdd : R2d := fun d e M Q => match d, e with
  | .int i, .int j => Q (.int (i + j)) M
  | .str x, .str y => x.length + y.length ≤ 16777216 ∧ Q (.str (x ++ y)) M
  | _, _ => False
theorem xi_add : PIp X .Add (L2op X.K dIAdd) := ip_of (iop_add.or iop_add_str) fun d e M Qd x y H Q r1 r2 sr q c => by
  unfold dIAdd at q
  split at q
  · exact .inl ⟨_, _, r1.int_of, r2.int_of, c _ M _ H (.refl sr) .int q⟩
  · exact .inr ⟨_, _, r1.str_of, r2.str_of, by rw [← line_eq]; exact q.1, c _ M _ H (.refl sr) .str q.2⟩
  · exact q.elim
theorem xi_sub : PIp X .Sub (L2op X.K dSub) := ip_of iop_sub fun d e M Qd x y H Q r1 r2 sr q c => by
  unfold dSub dI0 at q
  split at q
  · exact ⟨_, _, r1.int_of, r2.int_of, c _ M _ H (.refl sr) .int q⟩
  · exact q.elim
theorem xi_or : PIp X .BitOr (L2op X.K dOr) := ip_of iop_or fun d e M Qd x y H Q r1 r2 sr q c => by
  unfold dOr dI0 at q
  split at q
  · exact ⟨_, _, r1.int_of, r2.int_of, c _ M _ H (.refl sr) .int q⟩
  · exact q.elim
/-! ### while -/
section
variable {c tg iter : Expr} {body : List Stmt} {tc : TTD} {tb : TSD} {pos : Pos}
def dWhile (c : TTD) (tb : TSD) : TSD := fun D sd M => ∃ W : Nat → StD → Mo → Prop, (∃ m, W m sd M) ∧ ∀ m sd M, W m sd M →
  c sd M fun b M1 => if b = true then tb { D with nx := fun sd' M' => ∃ m', m' < m ∧ W m' sd' M', ct := fun sd' M' => ∃ m', m' < m ∧ W m' sd' M', bk := D.nx } sd M1 else D.nx sd M1
theorem ds_while (hp : PassesOwn (model X.prog X.w) X.A X.env X.xe) (hc : PTd X M0 H0 c tc) (hb : PSsd X M0 H0 body tb) : PSd X M0 H0 (.While c body [] pos) (dWhile tc tb) :=
  PS.imp (ps_while hp hc hb) fun D σ H ⟨sd, M, Dd, w, ⟨W, ⟨m0, w0⟩, turn⟩, c⟩ => by
    refine ⟨fun m σ' H' => ∃ sd' M', Stp X.K M H M' H' ∧ Rs X.K H' sd' σ' ∧ W m sd' M', ⟨m0, sd, M, w.here, w.rs, w0⟩, ?_⟩
    rintro m σ' H' ⟨sd', M', s, r, hW⟩
    refine ⟨sd', M', _, ⟨w.st.trans s, r⟩, turn m sd' M' hW, fun b M1 H1 s1 q1 => ?_⟩
    have r1 := r.keep s1.keep
    have ss := s.trans s1
    cases b with
    | true =>
      rw [if_pos rfl] at q1
      refine iteT ?_
      refine ⟨fun σ2 H2 => ∃ m', m' < m ∧ ∃ sd2 M2, Stp X.K M H M2 H2 ∧ Rs X.K H2 sd2 σ2 ∧ W m' sd2 M2, fun σ2 H2 h => h, sd', M1, _, ⟨w.st.trans ss, r1⟩, q1, ⟨fun sd2 M2 σ2 H2 s2 r2 h => ?_, c.rt.on ss, fun sd2 M2 σ2 H2 s2 r2 h => c.nx _ _ _ _ (ss.trans s2) r2 h, fun sd2 M2 σ2 H2 s2 r2 h => ?_⟩⟩
      · obtain ⟨m', hm, hw⟩ := h
        exact ⟨m', hm, sd2, M2, ss.trans s2, r2, hw⟩
      · obtain ⟨m', hm, hw⟩ := h
        exact ⟨m', hm, sd2, M2, ss.trans s2, r2, hw⟩
    | false =>
      rw [if_neg Bool.false_ne_true] at q1
      exact iteF (c.nx _ _ _ _ ss r1 q1)
/-! ### for -/
/-- what is walked: its items, and what must hold at each turn -/
structure ItD where
  ds : List Dv
  ok : Mo → Prop
abbrev TID := StD → Mo → (ItD → Mo → Prop) → Prop
/-- the walk J' of the heap from (M, H) on gives J's items -/
structure ItRel (K : PySem.W.Frag) (J : ItD) (M : Mo) (H : Hp) (J' : It) : Prop where
  go : ∀ i d M1 H1, Stp K M H M1 H1 → J.ok M1 → J.ds[i]? = some d → J'.go i H1 ∧ ∀ x H2, J'.yld i H1 x H2 → Stp K M1 H1 M1 H2 ∧ RD K H2 d x
  stop : ∀ M1 H1, Stp K M H M1 H1 → J.ok M1 → J'.stop J.ds.length H1
def LI (K : PySem.W.Frag) (M0 : Mo) (H0 : Hp) (t : TID) : TI := fun σ H R => ∃ sd M Rd, At K M0 H0 sd M σ H ∧ t sd M Rd ∧ ∀ J M' J' H', Stp K M H M' H' → ItRel K J M' H' J' → Rd J M' → R J' H'
theorem PI.imp {X : Cx} {tg e : Expr} {t t' : TI} (h : PI X tg e t) (w : ∀ σ H Q, t' σ H Q → t σ H Q) : PI X tg e t' := ⟨fun pins s σ H Q I q => h.run pins s σ H Q I (w _ _ _ q)⟩
abbrev PId (X : Cx) (M : Mo) (H : Hp) (tg e : Expr) (t : TID) : Prop := PI X tg e (LI X.K M H t)
def dFor (wi : TID) (g : TGD) (tb : TSD) : TSD := fun D sd M => wi sd M fun J M1 => ∃ W : Nat → StD → Mo → Prop, W 0 sd M1 ∧ (∀ i sd M, i ≤ J.ds.length → W i sd M → J.ok M) ∧
  (∀ i d sd M, J.ds[i]? = some d → W i sd M → g d sd M fun sd2 M2 => tb { D with nx := W (i + 1), ct := W (i + 1), bk := D.nx } sd2 M2) ∧ ∀ sd M, W J.ds.length sd M → D.nx sd M
theorem ds_for {wi : TID} {g : TGD} (hp : PassesOwn (model X.prog X.w) X.A X.env X.xe) (hc : X.calm = true) (hi : PId X M0 H0 tg iter wi) (hg : PGd X M0 H0 tg g) (hb : PSsd X M0 H0 body tb)
    (hs : ∀ x, foldedSetIterable iter X.env x = pure x := by intro _; rfl) : PSd X M0 H0 (.For tg iter body [] pos) (dFor wi g tb) :=
  PS.imp (ps_for hp hc hi hg hb hs) fun D σ H ⟨sd, M, Dd, w, q, c⟩ => by
    refine ⟨sd, M, _, w, q, ?_⟩
    rintro J M1 J' H1 s1 jr ⟨W, w0, hok, turn, done⟩
    have w1 := w.on s1
    refine ⟨fun i m σ' H' => m = J.ds.length - i ∧ i ≤ J.ds.length ∧ ∃ sd' M', Stp X.K M1 H1 M' H' ∧ Rs X.K H' sd' σ' ∧ W i sd' M', ⟨J.ds.length, rfl, Nat.zero_le _, sd, M1, w1.here, w1.rs, w0⟩, ?_⟩
    rintro i m σ' H' ⟨rfl, hi', sd', M', s, r, hW⟩
    have ok := hok i sd' M' hi' hW
    by_cases hlt : i < J.ds.length
    · obtain ⟨g1, g2⟩ := jr.go i J.ds[i] M' H' s ok (by simp [hlt])
      refine .inr ⟨g1, fun σ2 H2 => ∃ sd2 M2, Stp X.K M1 H1 M2 H2 ∧ Rs X.K H2 sd2 σ2 ∧ W (i + 1) sd2 M2, fun σ2 H2 h => ⟨J.ds.length - (i + 1), by omega, rfl, hlt, h⟩, fun x H2 y => ?_⟩
      obtain ⟨s2, rx⟩ := g2 x H2 y
      have ss := s.trans s2
      refine ⟨J.ds[i], sd', M', _, ⟨w1.st.trans ss, r.keep s2.keep⟩, rx, turn i _ sd' M' (by simp [hlt]) hW, fun sd3 M3 σ3 H3 s3 r3 q3 => ?_⟩
      have s13 := ss.trans s3
      exact ⟨sd3, M3, _, ⟨w1.st.trans s13, r3⟩, q3, ⟨fun sd4 M4 σ4 H4 s4 r4 h => ⟨sd4, M4, s13.trans s4, r4, h⟩, c.rt.on (s1.trans s13), fun sd4 M4 σ4 H4 s4 r4 h => c.nx _ _ _ _ (s1.trans (s13.trans s4)) r4 h, fun sd4 M4 σ4 H4 s4 r4 h => ⟨sd4, M4, s13.trans s4, r4, h⟩⟩⟩
    · have e : i = J.ds.length := by omega
      subst e
      exact .inl ⟨jr.stop M' H' s ok, c.nx _ _ _ _ (s1.trans s) r (done sd' M' hW)⟩
/-- a list walked -/
def iSeq (t : TED) : TID := fun sd M R => t sd M fun d M1 => match d with
  | .lst ds => R ⟨ds, fun _ => True⟩ M1
  | .ref a => match M1 a with
    | some (.lst ds) => R ⟨ds, fun M => M a = some (.lst ds)⟩ M1
    | _ => False
  | _ => False
/-- list by its address: what stands there -/
theorem itl_rel {K : PySem.W.Frag} {M : Mo} {H : Hp} {a : Addr} {ds : List Dv} {ok : Mo → Prop} (h : ∀ M1 H1, Stp K M H M1 H1 → ok M1 → ∃ vs, SqL K H1 a vs ∧ RDs K H1 ds vs) : ItRel K ⟨ds, ok⟩ M H (Itl K a) :=
  ⟨fun i d M1 H1 s o e => by
    obtain ⟨vs, sq, rr⟩ := h M1 H1 s o
    obtain ⟨v, hv, rv⟩ := rr.get e
    refine ⟨⟨vs, v, sq, hv⟩, fun x H2 y => ?_⟩
    obtain ⟨rfl, y⟩ := y
    have := y vs sq
    rw [hv] at this
    cases this
    exact ⟨.refl s.sr, rv⟩, fun M1 H1 s o => by
    obtain ⟨vs, sq, rr⟩ := h M1 H1 s o
    exact ⟨vs, sq, by rw [← rr.length]; exact Nat.le_refl _⟩⟩
end
end
end DL

namespace DL
open PySem PySem.Spec PyProof.Rows L2
section
variable {X : Cx} {M0 : Mo} {H0 : Hp}
/-! ### what is walked -/
section
variable {e e2 tg : Expr} {te : TED} {ta : TAD} {p pos tpos : Pos}
theorem own_at {K : PySem.W.Frag} {M : Mo} {H : Hp} {a : Addr} {ds : List Dv} (s : SR K M H) (h : M a = some (.lst ds)) : ∃ vs, H a = some (.lst vs) ∧ RDs K H ds vs := by
  have o := s a _ h
  simp only [Own] at o
  exact o
theorem itl_own {K : PySem.W.Frag} {M : Mo} {H : Hp} {a : Addr} {ds : List Dv} : ItRel K ⟨ds, fun M => M a = some (.lst ds)⟩ M H (Itl K a) :=
  itl_rel fun M1 H1 s o => by
    obtain ⟨vs, hv, r⟩ := own_at s.sr o
    exact ⟨vs, .inl (.inl hv), r⟩
theorem itl_fz {K : PySem.W.Frag} {M : Mo} {H : Hp} {a : Addr} {ds : List Dv} {vs : List V} (f : FzL K H a vs) (r : RDs K H ds vs) : ItRel K ⟨ds, fun _ => True⟩ M H (Itl K a) :=
  itl_rel fun M1 H1 s o => ⟨vs, (s.keep.fz f).seq, r.keep s.keep⟩
/-- a list, as it stands at each turn -/
theorem di_list (he : PEd X M0 H0 e te) : PId X M0 H0 tg e (iSeq te) :=
  PI.imp (pi_list he) fun σ H R ⟨sd, M, Rd, w, q, c⟩ => ⟨sd, M, _, w, q, fun d M1 v H1 s1 r1 q1 => by
    split at q1
    · rename_i ds
      unfold RD at r1
      obtain ⟨a, vs, rfl, f, rr⟩ := r1
      exact ⟨a, rfl, ⟨vs, f.seq⟩, c _ _ _ _ s1 (itl_fz f rr) q1⟩
    · rename_i a
      split at q1
      · rename_i ds e
        obtain ⟨vs, hv, rr⟩ := own_at s1.sr e
        rw [r1.ref_of]
        exact ⟨a, rfl, ⟨vs, .inl (.inl hv)⟩, c _ _ _ _ s1 itl_own q1⟩
      · exact q1.elim
    · exact q1.elim⟩
/-- a tuple -/
def iTupD (t : TED) : TID := fun sd M R => t sd M fun d M1 => match d with
  | .tup ds => R ⟨ds, fun _ => True⟩ M1
  | _ => False
theorem di_tup (he : PEd X M0 H0 e te) : PId X M0 H0 tg e (iTupD te) :=
  PI.imp (pi_tup he) fun σ H R ⟨sd, M, Rd, w, q, c⟩ => ⟨sd, M, _, w, q, fun d M1 v H1 s1 r1 q1 => by
    split at q1
    · rename_i ds
      unfold RD at r1
      obtain ⟨a, vs, rfl, f, rr⟩ := r1
      refine ⟨a, rfl, ⟨vs, f⟩, c _ _ _ _ s1 ⟨fun i d M2 H2 s o e => ?_, fun M2 H2 s o => ?_⟩ q1⟩
      · obtain ⟨v, hv, rv⟩ := (rr.keep s.keep).get e
        refine ⟨⟨vs, v, s.keep.seqT f, hv⟩, fun x H3 y => ?_⟩
        obtain ⟨rfl, y⟩ := y
        have z := y vs (s.keep.seqT f)
        rw [hv] at z
        cases z
        exact ⟨.refl s.sr, rv⟩
      · exact ⟨vs, s.keep.seqT f, by rw [← rr.length]; exact Nat.le_refl _⟩
    · exact q1.elim⟩
def rngD (lo : Int) (n : Nat) : List Dv := (List.range n).map fun i => .int (lo + (i : Nat))
theorem rngD_length (lo : Int) (n : Nat) : (rngD lo n).length = n := by unfold rngD; simp
theorem rngD_get {lo : Int} {n i : Nat} {d : Dv} (h : (rngD lo n)[i]? = some d) : i < n ∧ d = .int (lo + (i : Nat)) := by
  have hi : i < n := by
    have := (List.getElem?_eq_some_iff.mp h).1
    rwa [rngD_length] at this
  refine ⟨hi, ?_⟩
  unfold rngD at h
  rw [List.getElem?_map, List.getElem?_range hi] at h
  exact (Option.some.inj h).symm
theorem itr_rel {K : PySem.W.Frag} {M : Mo} {H : Hp} {lo : Int} {n : Nat} : ItRel K ⟨rngD lo n, fun _ => True⟩ M H (Itr lo n) :=
  ⟨fun i d M1 H1 s o e => by
    obtain ⟨hi, rfl⟩ := rngD_get e
    refine ⟨hi, fun x H2 y => ?_⟩
    obtain ⟨rfl, rfl⟩ := y
    exact ⟨.refl s.sr, .int⟩, fun M1 H1 s o => by show n ≤ _; rw [rngD_length]; exact Nat.le_refl _⟩
def iRng1D (ta : TAD) : TID := fun sd M R => ta sd M fun ds M1 => match ds with
  | [.int j] => j < 4611686018427387904 ∧ -4611686018427387904 ≤ j ∧ R ⟨rngD 0 j.toNat, fun _ => True⟩ M1
  | _ => False
def iRng2D (ta : TAD) : TID := fun sd M R => ta sd M fun ds M1 => match ds with
  | [.int i, .int j] => (i < 4611686018427387904 ∧ -4611686018427387904 ≤ i ∧ j < 4611686018427387904 ∧ -4611686018427387904 ≤ j) ∧ R ⟨rngD i (j - i).toNat, fun _ => True⟩ M1
  | _ => False
theorem di_range1 (hg : Gl X "range") (hm : X.mg "range" = none) (ha : PAd X M0 H0 [e] ta) (hs : starEach [e] X.env = [(false, eval e X.env)] := by rfl) : PId X M0 H0 tg (.Call (.Name "range" p) [e] [] pos) (iRng1D ta) :=
  PI.imp (pi_range1 hg hm ha hs) fun σ H R ⟨sd, M, Rd, w, q, c⟩ => ⟨sd, M, _, w, q, fun d M1 v H1 s1 r1 q1 => by
    split at q1
    · rename_i j
      obtain ⟨v, rfl, r⟩ := r1.one
      rw [r.int_of]
      obtain ⟨h1, h2, q1⟩ := q1
      exact ⟨j, rfl, h2, h1, c _ _ _ _ s1 itr_rel q1⟩
    · exact q1.elim⟩
theorem di_range2 (hg : Gl X "range") (hm : X.mg "range" = none) (ha : PAd X M0 H0 [e, e2] ta) (hs : starEach [e, e2] X.env = [(false, eval e X.env), (false, eval e2 X.env)] := by rfl) (hs2 : starEach [e2] X.env = [(false, eval e2 X.env)] := by rfl) :
    PId X M0 H0 tg (.Call (.Name "range" p) [e, e2] [] pos) (iRng2D ta) :=
  PI.imp (pi_range2 hg hm ha hs hs2) fun σ H R ⟨sd, M, Rd, w, q, c⟩ => ⟨sd, M, _, w, q, fun d M1 v H1 s1 r1 q1 => by
    split at q1
    · rename_i i j
      obtain ⟨v, u, rfl, r, r'⟩ := r1.two
      rw [r.int_of, r'.int_of]
      obtain ⟨⟨h1, h2, h3, h4⟩, q1⟩ := q1
      exact ⟨i, j, rfl, ⟨h2, h1, h4, h3⟩, c _ _ _ _ s1 itr_rel q1⟩
    · exact q1.elim⟩
/-- a text's signs -/
def signsD (x : Str) : List Dv := x.cps.toList.map fun c => .str ⟨#[c]⟩
theorem signsD_get {x : Str} {i : Nat} {d : Dv} (h : (signsD x)[i]? = some d) : ∃ c, x.cps[i]? = some c ∧ d = .str ⟨#[c]⟩ := by
  unfold signsD at h
  rw [List.getElem?_map] at h
  cases e : x.cps.toList[i]? with
  | none => rw [e] at h; cases h
  | some c =>
    rw [e] at h
    exact ⟨c, by rw [← Array.getElem?_toList]; exact e, (Option.some.inj h).symm⟩
theorem its_rel {K : PySem.W.Frag} {M : Mo} {H : Hp} {x : Str} : ItRel K ⟨signsD x, fun _ => True⟩ M H (Its x) :=
  ⟨fun i d M1 H1 s o e => by
    obtain ⟨c, hc, rfl⟩ := signsD_get e
    refine ⟨(Array.getElem?_eq_some_iff.mp hc).1, fun v H2 y => ?_⟩
    obtain ⟨rfl, c', hc', rfl⟩ := y
    rw [hc] at hc'
    cases hc'
    exact ⟨.refl s.sr, .str⟩, fun M1 H1 s o => by show x.cps.size ≤ _; unfold signsD; simp⟩
def iStrD (t : TED) : TID := fun sd M R => t sd M fun d M1 => match d with
  | .str x => R ⟨signsD x, fun _ => True⟩ M1
  | _ => False
theorem di_str (he : PEd X M0 H0 e te) : PId X M0 H0 tg e (iStrD te) :=
  PI.imp (pi_str he) fun σ H R ⟨sd, M, Rd, w, q, c⟩ => ⟨sd, M, _, w, q, fun d M1 v H1 s1 r1 q1 => by
    split at q1
    · rename_i x
      exact ⟨x, r1.str_of, c _ _ _ _ s1 its_rel q1⟩
    · exact q1.elim⟩
/-- pairs of numbers and items -/
def enumD (n : Nat) : List Dv → List Dv
  | [] => []
  | d :: ds => .tup [.int (n : Nat), d] :: enumD (n + 1) ds
theorem enumD_length : ∀ (ds : List Dv) (n : Nat), (enumD n ds).length = ds.length
  | [], _ => rfl
  | d :: ds, n => by unfold enumD; rw [List.length_cons, List.length_cons, enumD_length ds]
theorem enumD_get : ∀ {ds : List Dv} {n i : Nat} {d : Dv}, (enumD n ds)[i]? = some d → ∃ x, ds[i]? = some x ∧ d = .tup [.int ((n + i : Nat) : Int), x]
  | [], _, _, _, h => by unfold enumD at h; simp at h
  | x :: ds, n, 0, d, h => by unfold enumD at h; simp at h; exact ⟨x, rfl, h.symm⟩
  | x :: ds, n, i + 1, d, h => by
    unfold enumD at h
    obtain ⟨y, hy, e⟩ := enumD_get (ds := ds) (n := n + 1) (i := i) (by simpa using h)
    refine ⟨y, by simpa using hy, ?_⟩
    rw [e]
    have : n + 1 + i = n + (i + 1) := by omega
    rw [this]
theorem RD.pair {K : PySem.W.Frag} {H : Hp} {T : Addr} {x y : V} {d e : Dv} (h1 : RD K H d x) (h2 : RD K H e y) (hT : H T = none) : RD K (upd H T (.tup [x, y])) (.tup [d, e]) (.ref T) := by
  have k : Keep H (upd H T (.tup [x, y])) := Keep.new hT
  unfold RD
  exact ⟨T, [x, y], rfl, .inl (.inl upd_same), .cons (h1.keep k) (.cons (h2.keep k) .nil)⟩
theorem ite_rel {K : PySem.W.Frag} {M : Mo} {H : Hp} {a : Addr} {ds : List Dv} {ok : Mo → Prop} (h : ∀ M1 H1, Stp K M H M1 H1 → ok M1 → ∃ vs, SqL K H1 a vs ∧ RDs K H1 ds vs) : ItRel K ⟨enumD 0 ds, ok⟩ M H (Ite K a) :=
  ⟨fun i d M1 H1 s o e => by
    obtain ⟨vs, sq, rr⟩ := h M1 H1 s o
    obtain ⟨y, hy, rfl⟩ := enumD_get e
    obtain ⟨v, hv, rv⟩ := rr.get hy
    refine ⟨⟨vs, v, sq, hv⟩, fun x H2 z => ?_⟩
    obtain ⟨T, x', rfl, hT, rfl, z⟩ := z
    have := z vs sq
    rw [hv] at this
    cases this
    refine ⟨Stp.new0 s.sr hT, ?_⟩
    rw [Nat.zero_add]
    exact RD.pair .int rv hT, fun M1 H1 s o => by
    obtain ⟨vs, sq, rr⟩ := h M1 H1 s o
    exact ⟨vs, sq, by rw [← rr.length]; show _ ≤ (enumD 0 ds).length; rw [enumD_length]; exact Nat.le_refl _⟩⟩
def iEnumD (ta : TAD) : TID := fun sd M R => ta sd M fun ds M1 => match ds with
  | [.lst xs] => R ⟨enumD 0 xs, fun _ => True⟩ M1
  | [.ref a] => match M1 a with
    | some (.lst xs) => R ⟨enumD 0 xs, fun M => M a = some (.lst xs)⟩ M1
    | _ => False
  | _ => False
theorem di_enum {elts : List Expr} {kk : Nat} (hg : Gl X "enumerate") (hm : X.mg "enumerate" = none) (ha : PAd X M0 H0 [e] ta) (hs : starEach [e] X.env = [(false, eval e X.env)] := by rfl) :
    PId X M0 H0 (.Tuple elts kk tpos) (.Call (.Name "enumerate" p) [e] [] pos) (iEnumD ta) :=
  PI.imp (pi_enum hg hm ha hs) fun σ H R ⟨sd, M, Rd, w, q, c⟩ => ⟨sd, M, _, w, q, fun d M1 v H1 s1 r1 q1 => by
    split at q1
    · rename_i ds
      obtain ⟨v, rfl, r⟩ := r1.one
      unfold RD at r
      obtain ⟨a, vs, rfl, f, rr⟩ := r
      exact ⟨a, vs, rfl, f.seq, c _ _ _ _ s1 (ite_rel fun M2 H2 s o => ⟨vs, (s.keep.fz f).seq, rr.keep s.keep⟩) q1⟩
    · rename_i a
      obtain ⟨v, rfl, r⟩ := r1.one
      split at q1
      · rename_i ds e
        obtain ⟨vs, hv, rr⟩ := own_at s1.sr e
        rw [r.ref_of]
        exact ⟨a, vs, rfl, .inl (.inl hv), c _ _ _ _ s1 (ite_rel fun M2 H2 s o => by
          obtain ⟨vs, hv, r⟩ := own_at s.sr o
          exact ⟨vs, .inl (.inl hv), r⟩) q1⟩
      · exact q1.elim
    · exact q1.elim⟩
end
/-! ### targets of a comprehension -/
inductive Tgt where
  | nm (i : Nat) | tp (ts : List Tgt)
mutual
def hG (K : PySem.W.Frag) : Tgt → TG
  | .nm i => gName i
  | .tp ts => gTup K ts.length (hGs K ts)
def hGs (K : PySem.W.Frag) : List Tgt → TGs
  | [] => gNil
  | t :: ts => gCons (hG K t) (hGs K ts)
end
mutual
def dG : Tgt → TGD
  | .nm i => gN i
  | .tp ts => gTp ts.length (dGs ts)
def dGs : List Tgt → TGsD
  | [] => gNl
  | t :: ts => gCn (dG t) (dGs ts)
end
mutual
def slotsT : Tgt → List Nat
  | .nm i => [i]
  | .tp ts => slotsTs ts
def slotsTs : List Tgt → List Nat
  | [] => []
  | t :: ts => slotsT t ++ slotsTs ts
end
mutual
theorem hG_imp {K : PySem.W.Frag} : ∀ (t : Tgt) (v : V) (σ : L2.St) (H : Hp) (Q : L2.St → Hp → Prop), LG K M0 H0 (dG t) v σ H Q → hG K t v σ H Q
  | .nm i, v, σ, H, Q, h => by
    unfold dG at h
    unfold hG
    obtain ⟨d, sd, M, Qd, w, r, q, c⟩ := h
    exact c _ _ _ _ w.here (w.rs.set r i) q
  | .tp ts, v, σ, H, Q, h => by
    unfold dG at h
    unfold hG
    obtain ⟨d, sd, M, Qd, w, r, q, c⟩ := h
    unfold gTp at q
    split at q
    · rename_i ds e
      obtain ⟨a, vs, rfl, sq, rr⟩ := seqT_ok r e
      exact ⟨a, vs, rfl, sq, by rw [← rr.length]; exact q.1, hGs_imp ts vs σ H Q ⟨ds, sd, M, Qd, w, rr, q.2, c⟩⟩
    · exact q.elim
theorem hGs_imp {K : PySem.W.Frag} : ∀ (ts : List Tgt) (vs : List V) (σ : L2.St) (H : Hp) (Q : L2.St → Hp → Prop), LGs K M0 H0 (dGs ts) vs σ H Q → hGs K ts vs σ H Q
  | [], vs, σ, H, Q, h => by
    unfold dGs at h
    unfold hGs
    obtain ⟨ds, sd, M, Qd, w, r, ⟨rfl, q⟩, c⟩ := h
    exact ⟨r.zero, c _ _ _ _ w.here w.rs q⟩
  | t :: ts, vs, σ, H, Q, h => by
    unfold dGs at h
    unfold hGs
    obtain ⟨ds, sd, M, Qd, w, r, q, c⟩ := h
    unfold gCn at q
    split at q
    · rename_i d ds'
      unfold RDs at r
      obtain ⟨v, vr, rfl, r1, r2⟩ := r
      exact ⟨v, vr, rfl, hG_imp t v σ H _ ⟨d, sd, M, _, w, r1, q, fun sd' M' σ' H' s rs h => hGs_imp ts vr σ' H' Q ⟨ds', sd', M', Qd, ⟨w.st.trans s, rs⟩, r2.keep s.keep, h, fun a b c' d' s' r' q' => c a b c' d' (s.trans s') r' q'⟩⟩⟩
    · exact q.elim
end
theorem wipe_set {σ : L2.St} {i : Nat} {o : Option V} : ∀ {vs : List Nat}, i ∈ vs → wipe (σ.set i o) vs = wipe σ vs
  | [], h => by simp at h
  | v :: vs, h => by
    unfold wipe
    by_cases e : i ∈ vs
    · rw [wipe_set e]
    · have ev : i = v := by
        rcases List.mem_cons.mp h with z | z
        · exact z
        · exact absurd z e
      subst ev
      have : ∀ (ws : List Nat) (σ : L2.St), i ∉ ws → wipe (σ.set i o) ws = (wipe σ ws).set i o := by
        intro ws
        induction ws with
        | nil => intro σ _; rfl
        | cons w ws ih =>
          intro σ hn
          unfold wipe
          rw [ih σ (fun z => hn (List.mem_cons_of_mem _ z))]
          rw [List.set_comm _ _ (fun z : w = i => hn (by rw [z]; exact List.mem_cons_self))]
      rw [this vs σ e, List.set_set]
mutual
theorem hG_wipe {K : PySem.W.Frag} {vs : List Nat} : ∀ (t : Tgt), (∀ i ∈ slotsT t, i ∈ vs) → ∀ (v : V) (σ : L2.St) (H : Hp) (Q : L2.St → Hp → Prop), hG K t v σ H Q → hG K t v σ H fun σ2 H2 => wipe σ2 vs = wipe σ vs ∧ Q σ2 H2
  | .nm i, hs, v, σ, H, Q, h => by
    unfold hG at h ⊢
    exact ⟨wipe_set (hs i (by unfold slotsT; simp)), h⟩
  | .tp ts, hs, v, σ, H, Q, h => by
    unfold hG at h ⊢
    obtain ⟨a, xs, e1, e2, e3, h⟩ := h
    exact ⟨a, xs, e1, e2, e3, hGs_wipe ts (fun i hi => hs i (by unfold slotsT; exact hi)) xs σ H Q h⟩
theorem hGs_wipe {K : PySem.W.Frag} {vs : List Nat} : ∀ (ts : List Tgt), (∀ i ∈ slotsTs ts, i ∈ vs) → ∀ (xs : List V) (σ : L2.St) (H : Hp) (Q : L2.St → Hp → Prop), hGs K ts xs σ H Q → hGs K ts xs σ H fun σ2 H2 => wipe σ2 vs = wipe σ vs ∧ Q σ2 H2
  | [], hs, xs, σ, H, Q, h => by
    unfold hGs at h ⊢
    exact ⟨h.1, rfl, h.2⟩
  | t :: ts, hs, xs, σ, H, Q, h => by
    unfold hGs at h ⊢
    obtain ⟨v, r, e, h⟩ := h
    refine ⟨v, r, e, ?_⟩
    have h1 := hG_wipe (vs := vs) t (fun i hi => hs i (by unfold slotsTs; exact List.mem_append_left _ hi)) v σ H _ h
    -- the rest, at each end of the first
    exact hG_mono t v σ H _ _ (fun σ2 H2 ⟨e2, z⟩ => by
      have h2 := hGs_wipe (vs := vs) ts (fun i hi => hs i (by unfold slotsTs; exact List.mem_append_right _ hi)) r σ2 H2 Q z
      exact hGs_mono ts r σ2 H2 _ _ (fun σ3 H3 ⟨e3, z3⟩ => ⟨e3.trans e2, z3⟩) h2) h1
theorem hG_mono {K : PySem.W.Frag} : ∀ (t : Tgt) (v : V) (σ : L2.St) (H : Hp) (Q Q' : L2.St → Hp → Prop), (∀ a b, Q a b → Q' a b) → hG K t v σ H Q → hG K t v σ H Q'
  | .nm i, v, σ, H, Q, Q', m, h => by
    unfold hG at h ⊢
    exact m _ _ h
  | .tp ts, v, σ, H, Q, Q', m, h => by
    unfold hG at h ⊢
    obtain ⟨a, xs, e1, e2, e3, h⟩ := h
    exact ⟨a, xs, e1, e2, e3, hGs_mono ts xs σ H Q Q' m h⟩
theorem hGs_mono {K : PySem.W.Frag} : ∀ (ts : List Tgt) (xs : List V) (σ : L2.St) (H : Hp) (Q Q' : L2.St → Hp → Prop), (∀ a b, Q a b → Q' a b) → hGs K ts xs σ H Q → hGs K ts xs σ H Q'
  | [], xs, σ, H, Q, Q', m, h => by
    unfold hGs at h ⊢
    exact ⟨h.1, m _ _ h.2⟩
  | t :: ts, xs, σ, H, Q, Q', m, h => by
    unfold hGs at h ⊢
    obtain ⟨v, r, e, h⟩ := h
    exact ⟨v, r, e, hG_mono t v σ H _ _ (fun σ2 H2 z => hGs_mono ts r σ2 H2 _ _ m z) h⟩
end
theorem wipe_in {σ : L2.St} {i : Nat} : ∀ {vs : List Nat}, i ∈ vs → (wipe σ vs)[i]? = if i < σ.length then some none else none
  | [], h => by simp at h
  | v :: vs, h => by
    unfold wipe
    by_cases e : v = i
    · subst e
      by_cases l : v < σ.length
      · rw [if_pos l, List.getElem?_set_self (by rw [wipe_length]; exact l)]
      · rw [if_neg l, List.getElem?_eq_none (by rw [List.length_set, wipe_length]; omega)]
    · rw [List.getElem?_set_ne e]
      exact wipe_in ((List.mem_cons.mp h).resolve_left (fun z => e z.symm))
theorem wipe_wipe (σ : L2.St) (vs : List Nat) : wipe (wipe σ vs) vs = wipe σ vs := by
  refine List.ext_getElem? fun i => ?_
  by_cases h : i ∈ vs
  · rw [wipe_in h, wipe_in h, wipe_length]
  · rw [wipe_out h]
/-! ### comprehensions -/
def wipeD (sd : StD) : List Nat → StD
  | [] => sd
  | v :: vs => (wipeD sd vs).set v none
theorem Rs.wipe {K : PySem.W.Frag} {H : Hp} {sd : StD} {σ : L2.St} (r : Rs K H sd σ) : ∀ vs : List Nat, Rs K H (wipeD sd vs) (L2.wipe σ vs)
  | [] => r
  | v :: vs => by
    unfold wipeD L2.wipe
    exact (Rs.wipe r vs).setN none v
structure PTsD (X : Cx) (M : Mo) (H : Hp) (ifs : List Expr) (t : TTD) : Prop where
  run : PTs X ifs (LT X.K M H t)
def dYes : TTD := fun _ M Q => Q true M
theorem PTs.imp {X : Cx} {e : List Expr} {t t' : TT} (h : PTs X e t) (w : ∀ σ H Q, t' σ H Q → t σ H Q) : PTs X e t' := ⟨fun pins s σ H Q I q => h.run pins s σ H Q I (w _ _ _ q)⟩
theorem dts_nil : PTsD X M0 H0 [] dYes := ⟨PTs.imp pts_nil fun σ H Q ⟨sd, M, Qd, w, q, c⟩ => c _ _ _ w.here q⟩
theorem dts_one {c : Expr} {t : TTD} (h : PTd X M0 H0 c t) : PTsD X M0 H0 [c] t := ⟨pts_one h⟩
def dLc (wi : TID) (g : Tgt) (tt : TTD) (te : TED) (vs : List Nat) : TED := fun sd M Q => wi sd M fun J M1 => J.ds.length ≤ 16777216 ∧ ∃ W : Nat → List Dv → Mo → Prop, W 0 [] M1 ∧
  (∀ i acc M, i ≤ J.ds.length → W i acc M → J.ok M) ∧
  (∀ i d acc M, J.ds[i]? = some d → acc.length ≤ i → W i acc M → dG g d (wipeD sd vs) M fun sd2 M2 => tt sd2 M2 fun b M3 =>
    if b = true then te sd2 M3 fun y M4 => W (i + 1) (acc ++ [y]) M4 else W (i + 1) acc M3) ∧
  ∀ acc M, acc.length ≤ J.ds.length → W J.ds.length acc M → ∀ p, M p = none → Q (.ref p) (mup M p (.lst acc))
theorem lc_imp {wi : TID} {g : Tgt} {tt : TTD} {te : TED} {vs : List Nat} (hv : ∀ i ∈ slotsT g, i ∈ vs) : ∀ σ H Q, LE X.K M0 H0 (dLc wi g tt te vs) σ H Q → tLc (LI X.K M0 H0 wi) (hG X.K g) (LT X.K M0 H0 tt) (LE X.K M0 H0 te) vs σ H Q := fun σ H Q ⟨sd, M, Qd, w, q, c⟩ => by
  refine ⟨sd, M, _, w, q, ?_⟩
  rintro J M1 J' H1 s1 jr ⟨hz, W, w0, hok, turn, done⟩ D hD
  have w1 := w.on s1
  -- with the new list at D, which is tracked, not owned
  refine ⟨fun i m H' => m = J.ds.length - i ∧ i ≤ J.ds.length ∧ ∃ M' acc vacc, Stp X.K M1 H1 M' H' ∧ M' D = none ∧ H' D = some (.lst vacc) ∧ RDs X.K H' acc vacc ∧ acc.length ≤ i ∧ W i acc M',
    ⟨J.ds.length, rfl, Nat.zero_le _, M1, [], [], Stp.new0 s1.sr hD, s1.sr.free hD, upd_same, .nil, Nat.zero_le _, w0⟩, ?_⟩
  rintro i m H' ⟨rfl, hi, M', acc, vacc, s, mD, eD, ra, la, hW⟩
  have ok := hok i acc M' hi hW
  by_cases hlt : i < J.ds.length
  · obtain ⟨g1, g2⟩ := jr.go i J.ds[i] M' H' s ok (by simp [hlt])
    refine .inr ⟨g1, fun H2 => ∃ M2 acc2 vacc2, Stp X.K M1 H1 M2 H2 ∧ M2 D = none ∧ H2 D = some (.lst vacc2) ∧ RDs X.K H2 acc2 vacc2 ∧ acc2.length ≤ i + 1 ∧ W (i + 1) acc2 M2, fun H2 h => ⟨J.ds.length - (i + 1), by omega, rfl, hlt, h⟩, fun x H2 y => ?_⟩
    obtain ⟨s2, rx⟩ := g2 x H2 y
    obtain ⟨eD2, _⟩ := s2.same D _ eD nt_lst mD
    have s12 := s.trans s2
    have ws : At X.K M0 H0 (wipeD sd vs) M' (L2.wipe σ vs) H2 := ⟨w1.st.trans s12, (w1.rs.wipe vs).keep s12.keep⟩
    refine hG_mono g x _ _ _ _ (fun σ2 H3 z => ⟨z.1.trans (wipe_wipe σ vs), z.2⟩) (hG_wipe (vs := vs) g hv x (L2.wipe σ vs) H2 _ (hG_imp (M0 := M0) (H0 := H0) g x _ _ _ ⟨J.ds[i], _, M', _, ws, rx, turn i _ acc M' (by simp [hlt]) la hW, fun sd3 M3 σ3 H3 s3 r3 q3 => ?_⟩))
    have s13 := s12.trans s3
    refine ⟨sd3, M3, _, ⟨w1.st.trans s13, r3⟩, q3, fun b M4 H4 s4 q4 => ?_⟩
    have s14 := s13.trans s4
    obtain ⟨e4, m4⟩ := (s2.trans (s3.trans s4)).same D _ eD nt_lst mD
    have ra4 : RDs X.K H4 acc vacc := ra.keep (s2.trans (s3.trans s4)).keep
    cases b with
    | true =>
      rw [if_pos rfl] at q4
      refine iteT ⟨sd3, M4, _, ⟨w1.st.trans s14, r3.keep s4.keep⟩, q4, fun d5 M5 v5 H5 s5 r5 q5 => ?_⟩
      obtain ⟨e5, m5⟩ := s5.same D _ e4 nt_lst m4
      have mu : Mutd (H5 D) := by rw [e5]; trivial
      have k : Keep H5 (upd H5 D (.lst (vacc ++ [v5]))) := Keep.mut mu
      have s15 := s14.trans s5
      refine ⟨vacc, e5, ?_, M5, acc ++ [d5], vacc ++ [v5], ?_, m5, upd_same, ((ra4.keep s5.keep).keep k).app (.cons (r5.keep k) .nil), ?_, q5⟩
      · have := ra.length
        rw [← line_eq]
        omega
      · refine ⟨s15.keep.trans k, fun a o e => ?_, fun a o h => ?_, fun a o h nt n => ?_⟩
        · have q : a ≠ D := fun z => by subst z; rw [m5] at e; cases e
          exact (s15.sr a o e).keep k (upd_ne q)
        · by_cases q : a = D
          · subst q
            rw [upd_same]
            intro z
            cases z
          · rw [upd_ne q]
            exact s15.old a o h
        · have q : a ≠ D := ne_of_none h hD
          rw [upd_ne q]
          exact s15.same a o h nt n
      · rw [List.length_append]
        show acc.length + 1 ≤ i + 1
        omega
    | false =>
      rw [if_neg Bool.false_ne_true] at q4
      exact iteF ⟨M4, acc, vacc, s14, m4, e4, ra4, by omega, q4⟩
  · have e : i = J.ds.length := by omega
    subst e
    exact .inl ⟨jr.stop M' H' s ok, c _ _ _ _ (s1.trans (Stp.take s.sr eD mD ra s hD)) .ref (done acc M' la hW D mD)⟩
section
variable {elt tg iter : Expr} {ifs : List Expr} {scope : Scope} {own : List (Str × Nat)} {pos : Pos} {wi : TID} {g : Tgt} {tt : TTD} {te : TED}
/-- [elt for target in iter if ..] as a value -/
theorem de_lc (hc : X.calm = true) (hN : X.N.Nodup) (hi : PId X M0 H0 tg iter wi) (ok : BlkOk X.N X.env.scope scope own)
    (hg : ∀ (s : Shared) (H : Hp) (C : Addr) (cl : List (Str × Addr)) (fp : List Addr), PG (X.blk s H scope (compEnvC scope cl C X.env) fp) tg (hG X.K g))
    (ht : ∀ (s : Shared) (H : Hp) (C : Addr) (cl : List (Str × Addr)) (fp : List Addr), PTsD (X.blk s H scope (compEnvC scope cl C X.env) fp) M0 H0 ifs tt)
    (he : ∀ (s : Shared) (H : Hp) (C : Addr) (cl : List (Str × Addr)) (fp : List Addr), PEd (X.blk s H scope (compEnvC scope cl C X.env) fp) M0 H0 elt te)
    (hv : (slotsT g).all (fun i => (own.map (·.2)).contains i) = true := by decide) (hs : ∀ x, foldedSetIterable iter X.env x = pure x := by intro _; rfl) :
    PEd X M0 H0 (.ListComp elt [⟨tg, iter, ifs, 0⟩] scope pos) (dLc wi g tt te (own.map (·.2))) :=
  PE.imp (pe_lc hc hN hi ok hg (fun s H C cl fp => (ht s H C cl fp).run) he hs) (lc_imp fun i hi => by
    have h := List.all_eq_true.mp hv i hi
    simpa using h)
/-- y = [..] -/
theorem ds_setLc {i : Nat} {y : Str} {py spos : Pos} (hc : X.calm = true) (hN : X.N.Nodup) (hy : X.N[i]? = some y) (hyl : X.env.scope.names.lookup y = some .local)
    (hsw : swapsWith (.ListComp elt [⟨tg, iter, ifs, 0⟩] scope pos) (some (.Name y py)) spos.line X.env = pure true) (hi : PId X M0 H0 tg iter wi) (ok : BlkOk X.N X.env.scope scope own)
    (hg : ∀ (s : Shared) (H : Hp) (C : Addr) (cl : List (Str × Addr)) (fp : List Addr), PG (X.blk s H scope (compEnvC scope cl C X.env) fp) tg (hG X.K g))
    (ht : ∀ (s : Shared) (H : Hp) (C : Addr) (cl : List (Str × Addr)) (fp : List Addr), PTsD (X.blk s H scope (compEnvC scope cl C X.env) fp) M0 H0 ifs tt)
    (he : ∀ (s : Shared) (H : Hp) (C : Addr) (cl : List (Str × Addr)) (fp : List Addr), PEd (X.blk s H scope (compEnvC scope cl C X.env) fp) M0 H0 elt te)
    (hv : (slotsT g).all (fun i => (own.map (·.2)).contains i) = true := by decide) (hs : ∀ x, foldedSetIterable iter X.env x = pure x := by intro _; rfl) :
    PSd X M0 H0 (.Assign [.Name y py] (.ListComp elt [⟨tg, iter, ifs, 0⟩] scope pos) spos) (dAsg (dLc wi g tt te (own.map (·.2))) (gN i)) :=
  PS.imp (ps_setLc hc hN hy hyl hsw hi ok hg (fun s H C cl fp => (ht s H C cl fp).run) he hs) fun D σ H ⟨sd, M, Dd, w, q, c⟩ =>
    lc_imp (fun i hi => by
      have h := List.all_eq_true.mp hv i hi
      simpa using h) σ H _ ⟨sd, M, _, w, q, fun d M1 v H1 s1 r1 q1 => c.nx _ _ _ _ s1 ((w.rs.keep s1.keep).set r1 i) q1⟩
end
end
end DL

namespace DL
open PySem PySem.Spec PyProof.Rows L2
/-! ### what a def promises, over data -/
/-- an error: its class by its name, its one field, the field's value -/
abbrev EXD := Str → Str → Dv → Mo → Prop
abbrev SpD := List Dv → Mo → QD → EXD → Prop
def CtX (K : PySem.W.Frag) (M : Mo) (H : Hp) (Ed : EXD) (E : XK) : Prop := ∀ x f C d M' a v H', PySem.W.nsIn K mainGlobals x = some (some (.ref C)) → Stp K M H M' H' → M' a = none → H' a = some (.xd [(f, v)]) → RD K H' d v → Ed x f d M' → E (.ref C) (some a) H'
theorem CtX.on {K : PySem.W.Frag} {M M1 : Mo} {H H1 : Hp} {Ed : EXD} {E : XK} (c : CtX K M H Ed E) (s : Stp K M H M1 H1) : CtX K M1 H1 Ed E := fun x f C d M' a v H' n s' m h r q => c x f C d M' a v H' n (s.trans s') m h r q
def LSp (K : PySem.W.Frag) (sp : SpD) : Sp := fun vs H Q E => ∃ ds M Qd Ed, RDs K H ds vs ∧ SR K M H ∧ sp ds M Qd Ed ∧ Ct K M H Qd Q ∧ CtX K M H Ed E
abbrev Ed0 : EXD := fun _ _ _ _ => False
theorem ctx0 {K : PySem.W.Frag} {M : Mo} {H : Hp} {E : XK} : CtX K M H Ed0 E := fun _ _ _ _ _ _ _ _ _ _ _ _ _ q => q.elim
/-- what one owns may be let go -/
def Sub (M M' : Mo) : Prop := ∀ a o, M a = some o → M' a = some o
theorem Sub.refl (M : Mo) : Sub M M := fun _ _ h => h
theorem Sub.trans {M M1 M2 : Mo} (a : Sub M M1) (b : Sub M1 M2) : Sub M M2 := fun c o h => b c o (a c o h)
theorem Sub.new {M : Mo} {p : Addr} {o : OO} (h : M p = none) : Sub M (mup M p o) := fun c u e => by
  rw [mup_ne (fun z => by subst z; rw [h] at e; cases e)]
  exact e
theorem Sub.mup {M M' : Mo} {p : Addr} {o : OO} (h : Sub M M') : Sub (mup M p o) (mup M' p o) := fun c u e => by
  by_cases z : c = p
  · subst z
    rw [mup_same] at e ⊢
    exact e
  · rw [mup_ne z] at e ⊢
    exact h c u e
def Fg (Q : QD) : QD := fun d M' => ∃ M, Sub M M' ∧ Q d M
theorem Fg.here {Q : QD} {d : Dv} {M : Mo} (h : Q d M) : Fg Q d M := ⟨M, .refl M, h⟩
theorem Stp.sub {K : PySem.W.Frag} {M M1 M2 : Mo} {H H1 : Hp} (s : Stp K M H M1 H1) (h : Sub M2 M1) : Stp K M H M2 H1 :=
  ⟨s.keep, fun a o e => s.sr a o (h a o e), s.old, fun a o e nt n => by
    obtain ⟨e1, e2⟩ := s.same a o e nt n
    refine ⟨e1, ?_⟩
    cases q : M2 a with
    | none => rfl
    | some u =>
      have := h a u q
      rw [e2] at this
      cases this⟩
def FgE (E : EXD) : EXD := fun x f d M' => ∃ M, Sub M M' ∧ E x f d M
theorem FgE.here {E : EXD} {x f : Str} {d : Dv} {M : Mo} (h : E x f d M) : FgE E x f d M := ⟨M, .refl M, h⟩
theorem CtX.fg {K : PySem.W.Frag} {M : Mo} {H : Hp} {Ed : EXD} {E : XK} (c : CtX K M H Ed E) : CtX K M H (FgE Ed) E := fun x f C d M' a v H' n s m h r ⟨M2, hs, q⟩ => c x f C d M2 a v H' n (s.sub hs) (by
  cases e : M2 a with
  | none => rfl
  | some o =>
    have := hs a o e
    rw [m] at this
    cases this) h r q
def startD (N : List Str) (ds : List Dv) : StD := ds.map some ++ List.replicate (N.length - ds.length) none
theorem start_rs {K : PySem.W.Frag} {H : Hp} {N : List Str} {ds : List Dv} {vs : List V} (r : RDs K H ds vs) : Rs K H (startD N ds) (L2.start N vs) := by
  unfold startD L2.start
  refine ⟨by rw [List.length_append, List.length_append, List.length_map, List.length_map, List.length_replicate, List.length_replicate, r.length], fun i d h => ?_⟩
  by_cases hi : i < ds.length
  · rw [List.getElem?_append_left (by simpa using hi), List.getElem?_map] at h
    rw [List.getElem?_append_left (by rw [List.length_map, ← r.length]; exact hi), List.getElem?_map]
    cases e : ds[i]? with
    | none => rw [e] at h; cases h
    | some d' =>
      rw [e] at h
      cases h
      obtain ⟨v, hv, rv⟩ := r.get e
      exact ⟨v, by rw [hv]; rfl, rv⟩
  · rw [List.getElem?_append_right (by simpa using hi), List.getElem?_replicate] at h
    split at h <;> cases h
section
variable {P : Program} {w : World} {K : PySem.W.Frag} {mg : Str → Option Value} {base : Heap}
/-- THE RULE for a def over data -/
theorem okD {x qual : Str} {st : Stmt} {f : Addr} {fd : FuncData} {N ps : List Str} {k : Nat} {sp : SpD} (F : Fun K x qual st f fd) (S : FnScope N ps (defScope st)) (len : ∀ ds M Q E, sp ds M Q E → ds.length = ps.length)
    (hbody : ∀ (cdv : Value) (A : Around) (outer : List Env) (s : Shared) (H : Hp) (M : Mo) (ds : List Dv) (Qd : QD) (Ed : EXD) (E : XK), Room k (A.deeper (envOfC qual (defScope st) s.heap.objs.size f cdv)) → CtX K M H (FgE Ed) E → sp ds M Qd Ed →
      ∃ t, PSsd (cxOf (L2.CX P w) P w K mg base N qual (defScope st) f cdv A outer s H E) M H (defBody st) t ∧ t { nx := fun _ M' => Fg Qd .non M', rt := Fg Qd } (startD N ds) M) : FnOk P w K mg base (L2.CX P w) (k + 1) f fd ps (LSp K sp) := by
  refine F.okX S (fun vs H Q E h => ?_) (fun cdv A outer s H vs Q E hr h => ?_)
  · obtain ⟨ds, M, Qd, Ed, r, sr, h, _, _⟩ := h
    rw [← r.length]
    exact len ds M Qd Ed h
  · obtain ⟨ds, M, Qd, Ed, r, sr, h, c, cx⟩ := h
    obtain ⟨t, ht, hq⟩ := hbody cdv A outer s H M ds Qd Ed E hr cx.fg h
    refine ⟨LS K M H t, ht, startD N ds, M, _, ⟨.refl sr, start_rs r⟩, hq, ⟨fun sd M' σ H' s rs ⟨M2, hs, q⟩ => c .non M2 .non H' (s.sub hs) .non q, fun d M' v H' s r ⟨M2, hs, q⟩ => c d M2 v H' (s.sub hs) r q, fun _ _ _ _ _ _ q => q.elim, fun _ _ _ _ _ _ q => q.elim⟩⟩
end
section
variable {X : Cx} {M0 : Mo} {H0 : Hp}
/-- f(..) -/
def dCall (sp : SpD) (dvs : List Dv) (Ed : EXD) (t : TAD) : TED := fun sd M Q => t sd M fun ds M1 => sp (ds ++ dvs) M1 Q Ed
section
variable {CX : CXT} {k : Nat} {f : Addr} {fd : FuncData} {ps : List Str} {sp : SpD} {ddvs : List Dv} {dvs : List V} {us : List Value} {Ed : EXD} {E : XK} {x : Str} {p pos : Pos} {e : Expr} {es : List Expr} {t tk : TAD}
theorem call_imp (hdd : ∀ H, RDs X.K H ddvs dvs) (hE : CtX X.K M0 H0 Ed E) : ∀ σ H Q, LE X.K M0 H0 (dCall sp ddvs Ed t) σ H Q → tCall (LSp X.K sp) dvs E (LA X.K M0 H0 t) σ H Q := fun σ H Q ⟨sd, M, Qd, w, q, c⟩ =>
  ⟨sd, M, _, w, q, fun ds M1 vs H1 s1 r1 q1 => ⟨ds ++ ddvs, M1, Qd, Ed, r1.app (hdd H1), s1.sr, q1, c.on s1, hE.on (w.st.trans s1)⟩⟩
theorem de_call (F : FnOk X.prog X.w X.K X.mg X.base CX k f fd ps (LSp X.K sp)) (hr : Room k X.A) (hg : Gl X x) (hm : X.mg x = some (.ref f)) (hk : PySem.W.keepIn X.K (.ref f) = true) (hb : Binds X.K fd ps us) (hd : Vals dvs us) (hdd : ∀ H, RDs X.K H ddvs dvs)
    (hx : Passes CX X E) (hE : CtX X.K M0 H0 Ed E) (ha : PAd X M0 H0 (e :: es) t) (hdb : (x == ("__debug__" : Str)) = false := by decide) (he : starEach (e :: es) X.env = (false, eval e X.env) :: starEach es X.env := by rfl) (hpl : (backTo pos (starEach es X.env)).any (·.1) = false := by rfl) :
    PEd X M0 H0 (.Call (.Name x p) (e :: es) [] pos) (dCall sp ddvs Ed t) := PE.imp (pe_call F hr hg hm hk hb hd hx ha hdb he hpl) (call_imp hdd hE)
theorem tnil_imp : ∀ σ H Q, LA X.K M0 H0 dNilA σ H Q → tNil σ H Q := fun σ H Q ⟨sd, M, Qd, w, q, c⟩ => c _ _ _ _ w.here .nil q
theorem de_call0 (F : FnOk X.prog X.w X.K X.mg X.base CX k f fd ps (LSp X.K sp)) (hr : Room k X.A) (hg : Gl X x) (hm : X.mg x = some (.ref f)) (hk : PySem.W.keepIn X.K (.ref f) = true) (hb : Binds X.K fd ps us) (hd : Vals dvs us) (hdd : ∀ H, RDs X.K H ddvs dvs)
    (hx : Passes CX X E) (hE : CtX X.K M0 H0 Ed E) (hdb : (x == ("__debug__" : Str)) = false := by decide) :
    PEd X M0 H0 (.Call (.Name x p) [] [] pos) (dCall sp ddvs Ed dNilA) := PE.imp (pe_call0 F hr hg hm hk hb hd hx hdb) fun σ H Q h => tnil_imp (M0 := M0) (H0 := H0) σ H _ (call_imp hdd hE σ H Q h)
/-- f(e, .., k = v, ..) -/
def dCallK (sp : SpD) (gD : List Dv → List Dv → List Dv) (Ed : EXD) (t tk : TAD) : TED := fun sd M Q => t sd M fun ds M1 => tk sd M1 fun zs M2 => sp (gD ds zs) M2 Q Ed
abbrev PKd (X : Cx) (M : Mo) (H : Hp) (ks : List Keyword) (t : TAD) : Prop := PK X ks (LA X.K M H t)
theorem PK.imp {X : Cx} {e : List Keyword} {t t' : TA} (h : PK X e t) (w : ∀ σ H Q, t' σ H Q → t σ H Q) : PK X e t' := ⟨fun pos pins s σ H Q I q => h.run pos pins s σ H Q I (w _ _ _ q)⟩
theorem dk_nil : PKd X M0 H0 [] dNilA := PK.imp pk_nil tnil_imp
theorem dk_cons {te : TED} {kws : List Keyword} {nm : Option Str} {kpos : Pos} (ha : PEd X M0 H0 e te) (hr : PKd X M0 H0 kws t) : PKd X M0 H0 (⟨nm, e, kpos⟩ :: kws) (dConsA te t) :=
  PK.imp (pk_cons ha hr) fun σ H Q ⟨sd, M, Qd, w, q, c⟩ => ⟨sd, M, _, w, q, fun d M1 v H1 s1 r1 q1 => ⟨sd, M1, _, w.on s1, q1, fun ds M2 vs H2 s2 r2 q2 => c _ _ _ _ (s1.trans s2) (RDs.cons (r1.keep s2.keep) r2) q2⟩⟩
theorem de_callK {ks : List Str} {kws : List Keyword} {g : List Value → List Value → List Value} {gV : List V → List V → List V} {gD : List Dv → List Dv → List Dv} (F : FnOk X.prog X.w X.K X.mg X.base CX k f fd ps (LSp X.K sp)) (hr : Room k X.A) (hg : Gl X x) (hm : X.mg x = some (.ref f)) (hk : PySem.W.keepIn X.K (.ref f) = true)
    (hb : KBinds X.K fd ps ks g gV) (hgd : ∀ {H ds vs zs ws}, RDs X.K H ds vs → RDs X.K H zs ws → RDs X.K H (gD ds zs) (gV vs ws)) (hx : Passes CX X E) (hE : CtX X.K M0 H0 Ed E)
    (ha : PAd X M0 H0 (e :: es) t) (hkw : PKd X M0 H0 kws tk) (hall : (backToKw pos (keywordEach kws X.env)).all (·.1.isSome) = true := by rfl) (hks : (backToKw pos (keywordEach kws X.env)).filterMap (·.1) = ks := by rfl)
    (hdb : (x == ("__debug__" : Str)) = false := by decide) (he : starEach (e :: es) X.env = (false, eval e X.env) :: starEach es X.env := by rfl)
    (hpl : ((backTo pos (starEach (e :: es) X.env)).any (·.1) || (backToKw pos (keywordEach kws X.env)).any (·.1.isNone)) = false := by rfl) : PEd X M0 H0 (.Call (.Name x p) (e :: es) kws pos) (dCallK sp gD Ed t tk) :=
  PE.imp (pe_callK F hr hg hm hk hb hx ha hkw hall hks hdb he hpl) fun σ H Q ⟨sd, M, Qd, w, q, c⟩ => ⟨sd, M, _, w, q, fun ds M1 vs H1 s1 r1 q1 => ⟨sd, M1, _, w.on s1, q1, fun zs M2 ws H2 s2 r2 q2 =>
    ⟨gD ds zs, M2, Qd, Ed, hgd (r1.keep s2.keep) r2, s2.sr, q2, c.on (s1.trans s2), hE.on (w.st.trans (s1.trans s2))⟩⟩⟩
end
/-! ### products -/
def dMul : R2d := fun d e M Q => match d, e with
  | .int i, .int j => CMul i j ∧ Q (.int (i * j)) M
  | _, _ => False
theorem od_mul : OpR X (binaryOp .Mult) (L2op X.K dMul) := opd_I op_mul fun d e M Qd x y H Q r1 r2 sr q c => by
  unfold dMul at q
  split at q
  · exact ⟨_, _, r1.int_of, r2.int_of, q.1, c _ M _ H (.refl sr) .int q.2⟩
  · exact q.elim
/-! ### methods of built-in types by values -/
abbrev RMd := Dv → List Dv → Mo → QD → Prop
def LMop (K : PySem.W.Frag) (rd : RMd) : V → List V → Hp → VK → Prop := fun x xs H Q => ∃ d ds M Qd, RD K H d x ∧ RDs K H ds xs ∧ SR K M H ∧ rd d ds M Qd ∧ Ct K M H Qd Q
def tyD (T : String) (d : Dv) (M : Mo) : Prop := match d with
  | .str _ => T = "str"
  | .int _ => T = "int"
  | .lst _ => T = "list"
  | .ref a => match M a with
    | some (.lst _) => T = "list"
    | some (.dK _) => T = "dict"
    | some (.dT _) => T = "dict"
    | _ => False
  | _ => False
theorem ty_of {K : PySem.W.Frag} {M : Mo} {H : Hp} {d : Dv} {v : V} {T : String} (s : SR K M H) (r : RD K H d v) (h : tyD T d M) : tyV K T v H := by
  unfold tyD at h
  split at h
  · rw [r.str_of]; exact h
  · rw [r.int_of]; exact h
  · unfold RD at r
    obtain ⟨a, vs, rfl, f, _⟩ := r
    exact .inl ⟨h, vs, f.seq⟩
  · rw [r.ref_of]
    split at h
    · rename_i a _ ds e
      obtain ⟨vs, hv, _⟩ := own_at s e
      exact .inl ⟨h, vs, .inl (.inl hv)⟩
    · rename_i a _ kvs e
      have o := s _ _ e
      simp only [Own] at o
      obtain ⟨vks, hv, _⟩ := o
      exact .inr (.inr (.inl ⟨h, .inl ⟨_, hv⟩⟩))
    · rename_i a _ kvs e
      have o := s _ _ e
      simp only [Own] at o
      obtain ⟨vks, hv, _⟩ := o
      exact .inr (.inr (.inl ⟨h, .inr ⟨_, hv⟩⟩))
    · exact h.elim
  · exact h.elim
def dBM0 (T : String) (rd : RMd) (to : TED) : TED := fun sd M Q => to sd M fun d M1 => tyD T d M1 ∧ rd d [] M1 Q
def dBM (T : String) (rd : RMd) (to : TED) (t : TAD) : TED := fun sd M Q => to sd M fun d M1 => tyD T d M1 ∧ t sd M1 fun ds M2 => rd d ds M2 Q
section
variable {o e : Expr} {es : List Expr} {to te : TED} {t : TAD} {name : Str} {apos cpos : Pos} {T id : String} {rd : RMd}
theorem de_bm0 (pa : PlainAttrs T) (slot : Slot T name id) (hty : typeOf (.builtin id) = pure (.type "method_descriptor")) (hm : MtR X id (LMop X.K rd)) (ho : PEd X M0 H0 o to)
    (hbase : attributeBase o name X.env (eval o X.env) = eval o X.env := by rfl) (hline : (apos.endLine == cpos.line) = true := by rfl) : PEd X M0 H0 (.Call (.Attribute o name apos) [] [] cpos) (dBM0 T rd to) :=
  PE.imp (pe_bm0 pa slot hty hm ho hbase hline) fun σ H Q ⟨sd, M, Qd, w, q, c⟩ => ⟨sd, M, _, w, q, fun d M1 v H1 s1 r1 q1 => ⟨ty_of s1.sr r1 q1.1, d, [], M1, Qd, r1, .nil, s1.sr, q1.2, c.on s1⟩⟩
theorem de_bm (pa : PlainAttrs T) (slot : Slot T name id) (hty : typeOf (.builtin id) = pure (.type "method_descriptor")) (hm : MtR X id (LMop X.K rd)) (ho : PEd X M0 H0 o to) (ha : PAd X M0 H0 (e :: es) t)
    (hbase : attributeBase o name X.env (eval o X.env) = eval o X.env := by rfl)
    (hfew : ((backTo cpos (starEach (e :: es) X.env)).all (fun x => !x.1) && (backToKw cpos (keywordEach [] X.env)).all (fun x => x.1.isSome)
      && decide ((e :: es).length + ([] : List Keyword).length + (if ([] : List Keyword).isEmpty then 0 else 1) < 30)) = true := by rfl)
    (hline : (apos.endLine == cpos.line) = true := by rfl) (hs : starEach (e :: es) X.env = (false, eval e X.env) :: starEach es X.env := by rfl) (hplain : (backTo cpos (starEach es X.env)).any (·.1) = false := by rfl) :
    PEd X M0 H0 (.Call (.Attribute o name apos) (e :: es) [] cpos) (dBM T rd to t) :=
  PE.imp (pe_bm pa slot hty hm ho ha hbase hfew hline hs hplain) fun σ H Q ⟨sd, M, Qd, w, q, c⟩ => ⟨sd, M, _, w, q, fun d M1 v H1 s1 r1 q1 => ⟨ty_of s1.sr r1 q1.1, sd, M1, _, w.on s1, q1.2, fun ds M2 vs H2 s2 r2 q2 => ⟨d, ds, M2, Qd, r1.keep s2.keep, r2, s2.sr, q2, c.on (s1.trans s2)⟩⟩⟩
end
theorem md_I {id : String} {r : V → List V → Hp → VK → Prop} {rd : RMd} (h : MtR X id r) (w : ∀ d ds M Qd x xs H Q, RD X.K H d x → RDs X.K H ds xs → SR X.K M H → rd d ds M Qd → Ct X.K M H Qd Q → r x xs H Q) : MtR X id (LMop X.K rd) :=
  fun pins s σ H x xs v us Q I rx rs ⟨d, ds, M, Qd, r1, r2, sr, q, c⟩ => h pins s σ H x xs v us Q I rx rs (w d ds M Qd x xs H Q r1 r2 sr q c)
/-- xs.append(y) -/
def dAppend : RMd := fun d ds M Q => match d, ds with
  | .ref a, [y] => match M a with
    | some (.lst xs) => xs.length < 16777216 ∧ Q .non (mup M a (.lst (xs ++ [y])))
    | _ => False
  | _, _ => False
theorem stp_lst {K : PySem.W.Frag} {M : Mo} {H : Hp} {a : Addr} {ds es : List Dv} {vs ws : List V} (sr : SR K M H) (h : M a = some (.lst ds)) (hv : H a = some (.lst vs)) (r : ∀ H', Keep H H' → RDs K H' es ws) : Stp K M H (mup M a (.lst es)) (upd H a (.lst ws)) := by
  have mu : Mutd (H a) := by rw [hv]; trivial
  refine Stp.set sr h mu ?_
  simp only [Own]
  exact ⟨ws, upd_same, r _ (Keep.mut mu)⟩
theorem md_append : MtR X "list.append" (LMop X.K dAppend) := md_I mt_append fun d ds M Qd x xs H Q r1 r2 sr q c => by
  unfold dAppend at q
  split at q
  · rename_i a y
    split at q
    · rename_i zs e
      obtain ⟨vs, hv, rr⟩ := own_at sr e
      obtain ⟨u, rfl, ru⟩ := r2.one
      rw [r1.ref_of]
      exact ⟨a, vs, u, rfl, rfl, hv, by rw [← rr.length, ← line_eq]; exact q.1, c _ _ _ _ (stp_lst sr e hv fun H' k => (rr.keep k).app (.cons (ru.keep k) .nil)) .non q.2⟩
    · exact q.elim
  · exact q.elim
/-- s.join(xs) -/
def strsOf : List Dv → Option (List Str)
  | [] => some []
  | .str b :: ds => (strsOf ds).map (b :: ·)
  | _ => none
theorem strsOf_ok {K : PySem.W.Frag} {H : Hp} : ∀ {ds : List Dv} {vs : List V} {bs : List Str}, RDs K H ds vs → strsOf ds = some bs → vs = bs.map V.str
  | [], vs, bs, r, h => by unfold strsOf at h; cases h; exact r.zero
  | d :: ds, vs, bs, r, h => by
    unfold RDs at r
    obtain ⟨v, w, rfl, r1, r2⟩ := r
    cases d with
    | str b =>
      unfold strsOf at h
      cases q : strsOf ds with
      | none => rw [q] at h; cases h
      | some cs =>
        rw [q] at h
        cases h
        rw [r1.str_of, strsOf_ok r2 q]
        rfl
    | _ => unfold strsOf at h; cases h
theorem strsOf_map (bs : List Str) : strsOf (bs.map Dv.str) = some bs := by
  induction bs with
  | nil => rfl
  | cons b bs ih => rw [List.map_cons]; unfold strsOf; rw [ih]; rfl
theorem blsOf_map (bs : List Bool) : blsOf (bs.map Dv.bl) = some bs := by
  induction bs with
  | nil => rfl
  | cons b bs ih => rw [List.map_cons]; unfold blsOf; rw [ih]; rfl
def dJoin : RMd := fun d ds M Q => match d, ds with
  | .str a, [y] => match (seqL M y).bind strsOf with
    | some ys => (ys.map (·.length)).sum + ys.length * a.length ≤ 16777216 ∧ Q (.str (Txt.join a ys)) M
    | none => False
  | _, _ => False
theorem md_join : MtR X "str.join" (LMop X.K dJoin) := md_I mt_join fun d ds M Qd x xs H Q r1 r2 sr q c => by
  unfold dJoin at q
  split at q
  · rename_i a y
    split at q
    · rename_i ys e
      obtain ⟨es, h1, h2⟩ := Option.bind_eq_some_iff.mp e
      obtain ⟨u, rfl, ru⟩ := r2.one
      obtain ⟨p, vs, rfl, sq, rr⟩ := seqL_ok sr ru h1
      rw [strsOf_ok rr h2] at sq
      rw [r1.str_of]
      exact ⟨a, p, ys, rfl, rfl, .inl sq, q.1, c _ _ _ _ (.refl sr) .str q.2⟩
    · exact q.elim
  · exact q.elim
/-! ### isinstance against built-in classes -/
/-- the built-in class of a value -/
def tyN (M : Mo) : Dv → Option String
  | .non => some "NoneType"
  | .bl _ => some "bool"
  | .int _ => some "int"
  | .str _ => some "str"
  | .lst _ => some "list"
  | .tup _ => some "tuple"
  | .ref a => match M a with
    | some (.lst _) => some "list"
    | some (.dK _) => some "dict"
    | some (.dT _) => some "dict"
    | _ => none
  | _ => none
theorem tyN_ok {K : PySem.W.Frag} {M : Mo} {H : Hp} {d : Dv} {v : V} {n : String} (s : SR K M H) (r : RD K H d v) (h : tyN M d = some n) : TyX K H v (.type n) := by
  unfold tyN at h
  split at h
  · cases h; rw [r.non_of]; exact .base .non
  · cases h; rw [r.bl_of]; exact .base (.bl _)
  · cases h; rw [r.int_of]; exact .base (.int _)
  · cases h; rw [r.str_of]; exact .base (.str _)
  · cases h
    unfold RD at r
    obtain ⟨a, vs, rfl, f, _⟩ := r
    rcases f with ⟨o, f⟩ | ⟨o, its, n, f, f2, _⟩
    · exact .base (.frz f)
    · exact .kList f f2
  · cases h
    unfold RD at r
    obtain ⟨a, vs, rfl, f, _⟩ := r
    rcases f with (f | ⟨o, f⟩) | ⟨o, its, n, f, f2, _⟩
    · exact .base (.tup f)
    · exact .fTuple f
    · exact .kTuple f f2
  · rw [r.ref_of]
    split at h
    · rename_i a _ ds e
      cases h
      obtain ⟨vs, hv, _⟩ := own_at s e
      exact .base (.lst hv)
    · rename_i a _ kvs e
      cases h
      have o := s _ _ e
      simp only [Own] at o
      obtain ⟨vks, hv, _⟩ := o
      exact .base (.dK hv)
    · rename_i a _ kvs e
      cases h
      have o := s _ _ e
      simp only [Own] at o
      obtain ⟨vks, hv, _⟩ := o
      exact .base (.dT hv)
    · cases h
  · cases h
def isiB (a b : String) : Bool := a == b || (a == "bool" && b == "int")
def knownT (b : String) : Bool := b == "int" || b == "str" || b == "bool" || b == "list" || b == "tuple" || b == "dict"
theorem kit_known {a b : String} (ha : a = "NoneType" ∨ a = "bool" ∨ a = "int" ∨ a = "str" ∨ a = "list" ∨ a = "tuple" ∨ a = "dict") (hb : knownT b = true) : kitB a b = some (isiB a b) := by
  have hb' : b = "int" ∨ b = "str" ∨ b = "bool" ∨ b = "list" ∨ b = "tuple" ∨ b = "dict" := by
    unfold knownT at hb
    simpa [or_assoc] using hb
  rcases ha with rfl | rfl | rfl | rfl | rfl | rfl | rfl <;> rcases hb' with rfl | rfl | rfl | rfl | rfl | rfl <;> decide +kernel
theorem tyN_cases {M : Mo} {d : Dv} {a : String} (h : tyN M d = some a) : a = "NoneType" ∨ a = "bool" ∨ a = "int" ∨ a = "str" ∨ a = "list" ∨ a = "tuple" ∨ a = "dict" := by
  unfold tyN at h
  split at h
  · cases h; simp
  · cases h; simp
  · cases h; simp
  · cases h; simp
  · cases h; simp
  · cases h; simp
  · split at h
    · cases h; simp
    · cases h; simp
    · cases h; simp
    · cases h
  · cases h
/-- isinstance(x, T), T a built-in class -/
def dIsi : RNd := fun ds M Q => match ds with
  | [d, .ty b] => match tyN M d with
    | some a => knownT b = true ∧ Q (.bl (isiB a b)) M
    | none => False
  | _ => False
theorem cd_isi : CallR X (.builtin "isinstance") (LNop X.K dIsi) := cd_I call_isi fun ds M Qd xs H Q rs sr q c => by
  unfold dIsi at q
  split at q
  · rename_i d b
    obtain ⟨v, u, rfl, r1, r2⟩ := rs.two
    have eu : u = .ty b := by unfold RD at r2; exact r2
    subst eu
    split at q
    · rename_i a e
      exact ⟨v, .ty b, .type a, .type b, _, rfl, .ty b, tyN_ok sr r1 e, kit_ty (kit_known (tyN_cases e) q.1), c _ _ _ _ (.refl sr) .bl q.2⟩
    · exact q.elim
  · exact q.elim
end
end DL

namespace DL
open PySem PySem.Spec PyProof.Rows L2
/-- a def of the text: where it stands, how it binds, what it promises -/
structure FnD (P : Program) (w : World) (K : PySem.W.Frag) (mg : Str → Option Value) (base : Heap) (x : Str) (k : Nat) (ps : List Str) (B : FuncData → Prop) (sp : SpD) : Prop where
  ex : ∃ f fd, mg x = some (.ref f) ∧ PySem.W.keepIn K (.ref f) = true ∧ B fd ∧ FnOk P w K mg base (L2.CX P w) k f fd ps (LSp K sp)
section
variable {X : Cx} {M0 : Mo} {H0 : Hp} {k : Nat} {ps : List Str} {B : FuncData → Prop} {sp : SpD} {ddvs : List Dv} {dvs : List V} {us : List Value} {Ed : EXD} {E : XK} {x : Str} {p pos : Pos} {e : Expr} {es : List Expr} {t tk : TAD}
theorem de_callF (F : FnD X.prog X.w X.K X.mg X.base x k ps B sp) (hr : Room k X.A) (hg : Gl X x) (hb : ∀ fd, B fd → Binds X.K fd ps us) (hd : Vals dvs us) (hdd : ∀ H, RDs X.K H ddvs dvs)
    (hx : Passes (L2.CX X.prog X.w) X E) (hE : CtX X.K M0 H0 Ed E) (ha : PAd X M0 H0 (e :: es) t) (hdb : (x == ("__debug__" : Str)) = false := by decide) (he : starEach (e :: es) X.env = (false, eval e X.env) :: starEach es X.env := by rfl) (hpl : (backTo pos (starEach es X.env)).any (·.1) = false := by rfl) :
    PEd X M0 H0 (.Call (.Name x p) (e :: es) [] pos) (dCall sp ddvs Ed t) := by
  obtain ⟨f, fd, hm, hk, b, F⟩ := F.ex
  exact de_call F hr hg hm hk (hb fd b) hd hdd hx hE ha hdb he hpl
theorem de_callF0 (F : FnD X.prog X.w X.K X.mg X.base x k ps B sp) (hr : Room k X.A) (hg : Gl X x) (hb : ∀ fd, B fd → Binds X.K fd ps us) (hd : Vals dvs us) (hdd : ∀ H, RDs X.K H ddvs dvs)
    (hx : Passes (L2.CX X.prog X.w) X E) (hE : CtX X.K M0 H0 Ed E) (hdb : (x == ("__debug__" : Str)) = false := by decide) : PEd X M0 H0 (.Call (.Name x p) [] [] pos) (dCall sp ddvs Ed dNilA) := by
  obtain ⟨f, fd, hm, hk, b, F⟩ := F.ex
  exact de_call0 F hr hg hm hk (hb fd b) hd hdd hx hE hdb
theorem rdn {K : PySem.W.Frag} (H : Hp) : RDs K H [] [] := .nil
end
/-- the def's own errors go out -/
theorem passB {X : Cx} {E : XK} (tk : L2.Takes X (fun cls d _ H => E cls d H)) : Passes (L2.CX X.prog X.w) X E := passes_call tk fun _ _ _ _ h => h
end DL

namespace DL
open PySem PySem.Spec PyProof.Rows L2
/-! ### the readings, step by step, backwards -/
def kB (d : Dv) (R : Bool → Prop) : Prop := match d with | .bl b => R b | _ => False
def kI (d : Dv) (R : Int → Prop) : Prop := match d with | .int i => R i | _ => False
section
variable {M : Mo} {Q : QD} {d e : Dv} {i j : Int} {x y : Str} {xs ys ds es : List Dv} {a : Addr} {sd : StD} {D : EndsD}
theorem i_nx {a b : StD → Mo → Prop} {r : QD} {c : StD → Mo → Prop} (h : a sd M) : (EndsD.mk a r b c).nx sd M := h
theorem i_rt {a b : StD → Mo → Prop} {r : QD} {c : StD → Mo → Prop} (h : r d M) : (EndsD.mk a r b c).rt d M := h
theorem i_seq {t u : TSD} (h : t { D with nx := u D } sd M) : dSeq t u D sd M := h
theorem i_next (h : D.nx sd M) : dNext D sd M := h
theorem i_asg {te : TED} {g : TGD} (h : te sd M fun d M1 => g d sd M1 D.nx) : dAsg te g D sd M := h
theorem i_if {c : TTD} {t u : TSD} (h : c sd M fun b M1 => if b = true then t D sd M1 else u D sd M1) : dIfS c t u D sd M := h
theorem i_ret {te : TED} (h : te sd M D.rt) : dRet te D sd M := h
theorem i_retN (h : D.rt .non M) : dRetN D sd M := h
theorem i_drop {te : TED} (h : te sd M fun _ M1 => D.nx sd M1) : dDrop te D sd M := h
theorem i_brk (h : D.bk sd M) : dBreak D sd M := h
theorem i_cnt (h : D.ct sd M) : dCont D sd M := h
theorem i_c (h : Q d M) : dC d sd M Q := h
theorem i_var {n : Nat} (e : sd[n]? = some (some d)) (h : Q d M) : dVar n sd M Q := by unfold dVar; rw [e]; exact h
theorem i_op {rd : R2d} {ta tb : TED} (h : ta sd M fun d M1 => tb sd M1 fun e M2 => rd d e M2 Q) : dOp rd ta tb sd M Q := h
theorem i_neg {ta : TED} (h : ta sd M fun d M1 => kI d fun i => Q (.int (-i)) M1) : dNeg ta sd M Q := h
theorem i_kI {R : Int → Prop} (h : R i) : kI (.int i) R := h
theorem i_kB {R : Bool → Prop} {b : Bool} (h : R b) : kB (.bl b) R := h
theorem i_ifx {c : TTD} {ta tb : TED} (h : c sd M fun k M1 => if k = true then ta sd M1 Q else tb sd M1 Q) : dIf c ta tb sd M Q := h
theorem i_gN {n : Nat} {R : StD → Mo → Prop} (h : R (sd.set n (some d)) M) : gN n d sd M R := h
theorem i_gTp {n : Nat} {t : TGsD} {R : StD → Mo → Prop} (hn : ds.length = n) (h : t ds sd M R) : gTp n t (.tup ds) sd M R := ⟨hn, h⟩
theorem i_gCn {t : TGD} {u : TGsD} {R : StD → Mo → Prop} (h : t d sd M fun sd' M' => u ds sd' M' R) : gCn t u (d :: ds) sd M R := h
theorem i_gNl {R : StD → Mo → Prop} (h : R sd M) : gNl [] sd M R := ⟨rfl, h⟩
theorem i_gSb {to ti : TED} {t : TSetD} {R : StD → Mo → Prop} (h : to sd M fun o M1 => ti sd M1 fun i M2 => t o i d M2 fun M3 => R sd M3) : gSb to ti t d sd M R := h
theorem i_setL {R : Mo → Prop} {k : Nat} (h1 : M a = some (.lst ds)) (h2 : ixN ds.length i = some k) (q : R (mup M a (.lst (ds.set k d)))) : dSetL (.ref a) (.int i) d M R := by
  unfold dSetL; simp only [h1, h2]; exact q
theorem i_aug {n : Nat} {te : TED} {rd : R2d} (e : sd[n]? = some (some d)) (h : te sd M fun y M1 => rd d y M1 fun z M2 => D.nx (sd.set n (some z)) M2) : dAug n te rd D sd M := by unfold dAug; simp only [e]; exact h
theorem i_nilA {R : List Dv → Mo → Prop} (h : R [] M) : dNilA sd M R := h
theorem i_consA {ta : TED} {tr : TAD} {R : List Dv → Mo → Prop} (h : ta sd M fun d M1 => tr sd M1 fun ds M2 => R (d :: ds) M2) : dConsA ta tr sd M R := h
theorem i_tup {t : TAD} (h : t sd M fun ds M1 => ds.length ≤ 1000 ∧ Q (.tup ds) M1) : dTup t sd M Q := h
theorem i_lst {t : TAD} (h : t sd M fun ds M1 => ds.length ≤ 1000 ∧ ∀ p, M1 p = none → Q (.ref p) (mup M1 p (.lst ds))) : dLst t sd M Q := h
theorem i_cb {rd : RNd} {t : TAD} (h : t sd M fun ds M1 => rd ds M1 Q) : dCB rd t sd M Q := h
theorem i_bm {T : String} {rd : RMd} {to : TED} {t : TAD} (h : to sd M fun d M1 => tyD T d M1 ∧ t sd M1 fun ds M2 => rd d ds M2 Q) : dBM T rd to t sd M Q := h
theorem i_bm0 {T : String} {rd : RMd} {to : TED} (h : to sd M fun d M1 => tyD T d M1 ∧ rd d [] M1 Q) : dBM0 T rd to sd M Q := h
theorem i_call {sp : SpD} {Ed : EXD} {t : TAD} (h : t sd M fun ds M1 => sp ds M1 Q Ed) : dCall sp [] Ed t sd M Q := by
  unfold dCall
  simp only [List.append_nil]
  exact h
theorem i_callV {sp : SpD} {dvs : List Dv} {Ed : EXD} {t : TAD} (h : t sd M fun ds M1 => sp (ds ++ dvs) M1 Q Ed) : dCall sp dvs Ed t sd M Q := h
theorem i_test {t : TED} {R : Bool → Mo → Prop} (h : t sd M fun d M1 => kB d fun b => R b M1) : dTest t sd M R := h
theorem i_truth {t : TED} {R : Bool → Mo → Prop} (h : t sd M fun d M1 => dTru M1 d fun b => R b M1) : dTruth t sd M R := h
theorem i_truB {b : Bool} {R : Bool → Prop} (h : R b) : dTru M (.bl b) R := h
theorem i_truI {R : Bool → Prop} (h : R (i != 0)) : dTru M (.int i) R := h
theorem i_truS {R : Bool → Prop} (hl : x.length ≤ 16777216) (h : R ((x.length : Int) != 0)) : dTru M (.str x) R := ⟨hl, h⟩
theorem i_truN {R : Bool → Prop} (h : R false) : dTru M .non R := h
theorem i_truT {R : Bool → Prop} (h : R (!ds.isEmpty)) : dTru M (.tup ds) R := h
theorem i_truL {R : Bool → Prop} (h : R (!ds.isEmpty)) : dTru M (.lst ds) R := h
theorem i_truR {R : Bool → Prop} (h1 : M a = some (.lst ds)) (q : R (!ds.isEmpty)) : dTru M (.ref a) R := by unfold dTru seqL; simp only [h1]; exact q
theorem i_and2 {t u : TTD} {R : Bool → Mo → Prop} (h : t sd M fun c M1 => if c = true then u sd M1 R else R false M1) : dAnd2 t u sd M R := h
theorem i_or2 {t u : TTD} {R : Bool → Mo → Prop} (h : t sd M fun c M1 => if c = true then R true M1 else u sd M1 R) : dOr2 t u sd M R := h
theorem i_not {t : TTD} {R : Bool → Mo → Prop} (h : t sd M fun c M1 => R (!c) M1) : dNot t sd M R := h
theorem i_andV {ta tb : TED} (h : ta sd M fun d M1 => kB d fun c => if c = true then tb sd M1 Q else Q (.bl false) M1) : dAndV ta tb sd M Q := h
theorem i_orV {ta tb : TED} (h : ta sd M fun d M1 => kB d fun c => if c = true then Q (.bl true) M1 else tb sd M1 Q) : dOrV ta tb sd M Q := h
theorem i_notV {ta : TED} (h : ta sd M fun d M1 => kB d fun c => Q (.bl (!c)) M1) : dNotV ta sd M Q := h
theorem i_chain {r r' : R2d} {ta tb tc : TED} (h : ta sd M fun x M1 => tb sd M1 fun y M2 => r x y M2 fun z M3 => kB z fun k => if k = true then tc sd M3 fun u M4 => r' y u M4 Q else Q (.bl false) M3) : dChain r r' ta tb tc sd M Q := h
theorem i_I {C : Int → Int → Prop} {g : Int → Int → Dv} (hc : C i j) (h : Q (g i j) M) : dI C g (.int i) (.int j) M Q := ⟨hc, h⟩
theorem i_I0 {g : Int → Int → Dv} (h : Q (g i j) M) : dI0 g (.int i) (.int j) M Q := h
theorem i_addI (h : Q (.int (i + j)) M) : dAdd (.int i) (.int j) M Q := h
theorem i_addS (hl : x.length + y.length ≤ 16777216) (h : Q (.str (x ++ y)) M) : dAdd (.str x) (.str y) M Q := ⟨hl, h⟩
theorem i_addL (h1 : seqL M d = some xs) (h2 : seqL M e = some ys) (h3 : xs.length + ys.length ≤ 16777216) (q : ∀ p, M p = none → Q (.ref p) (mup M p (.lst (xs ++ ys)))) : dAdd d e M Q := by
  unfold dAdd
  split
  · simp [seqL] at h1
  · simp [seqL] at h1
  · simp only [h1, h2]
    exact ⟨h3, q⟩
theorem i_mulI (hc : CMul i j) (h : Q (.int (i * j)) M) : dMul (.int i) (.int j) M Q := ⟨hc, h⟩
theorem i_iaddI (h : Q (.int (i + j)) M) : dIAdd (.int i) (.int j) M Q := h
theorem i_iaddS (hl : x.length + y.length ≤ 16777216) (h : Q (.str (x ++ y)) M) : dIAdd (.str x) (.str y) M Q := ⟨hl, h⟩
theorem i_eqI (h : Q (.bl (decide (i = j))) M) : dEq (.int i) (.int j) M Q := h
theorem i_eqS (h : Q (.bl (decide (x = y))) M) : dEq (.str x) (.str y) M Q := h
theorem i_eqB {b c : Bool} (h : Q (.bl (decide (b = c))) M) : dEq (.bl b) (.bl c) M Q := h
theorem i_neI (h : Q (.bl (!decide (i = j))) M) : dNe (.int i) (.int j) M Q := h
theorem i_neS (h : Q (.bl (!decide (x = y))) M) : dNe (.str x) (.str y) M Q := h
theorem i_neB {b c : Bool} (h : Q (.bl (!decide (b = c))) M) : dNe (.bl b) (.bl c) M Q := h
theorem i_isN (h : Q (.bl (isN d)) M) : dIsN d .non M Q := h
theorem i_notN (h : Q (.bl (!isN d)) M) : dNotN d .non M Q := h
theorem i_ixL (h1 : seqL M d = some ds) (h2 : L2.atI ds i = some e) (q : Q e M) : dIx d (.int i) M Q := by
  unfold dIx
  split
  · rename_i k r
    injection r with r
    subst r
    split
    · simp [seqL] at h1
    · simp only [h1, h2]
      exact q
  · rename_i r
    exact absurd rfl (r i)
theorem i_ixT (h2 : L2.atI ds i = some e) (q : Q e M) : dIx (.tup ds) (.int i) M Q := by
  unfold dIx
  simp only [seqL, seqT, h2]
  exact q
theorem i_ixS {c : Nat} (hx : L2.atI x.cps.toList i = some c) (hl : x.length ≤ 16777216) (q : Q (.str ⟨#[c]⟩) M) : dIx (.str x) (.int i) M Q := by
  unfold dIx
  simp only [hx]
  exact ⟨hl, q⟩
theorem i_lenS (hl : x.length ≤ 16777216) (q : Q (.int x.length) M) : dLen [.str x] M Q := ⟨hl, q⟩
theorem i_lenL (h1 : seqL M d = some ds) (q : Q (.int ds.length) M) : dLen [d] M Q := by
  unfold dLen
  split
  · simp_all [seqL]
  · rename_i r
    injection r with r
    subst r
    simp only [h1]
    exact q
  · rename_i r1 r2
    exact absurd rfl (r2 d)
theorem i_lenT (q : Q (.int ds.length) M) : dLen [.tup ds] M Q := q
theorem i_min (q : Q (.int (if j < i then j else i)) M) : dMin2 [.int i, .int j] M Q := q
theorem i_max (q : Q (.int (if j > i then j else i)) M) : dMax2 [.int i, .int j] M Q := q
theorem i_all {bs : List Bool} (h : seqL M d = some ds) (hb : blsOf ds = some bs) (q : Q (.bl (bs.all id)) M) : dAll [d] M Q := by unfold dAll; simp only [h, Option.bind_some, hb]; exact q
theorem i_any {bs : List Bool} (h : seqL M d = some ds) (hb : blsOf ds = some bs) (q : Q (.bl (bs.any id)) M) : dAny [d] M Q := by unfold dAny; simp only [h, Option.bind_some, hb]; exact q
theorem i_listOf (h1 : seqL M d = some ds) (q : ∀ p, M p = none → Q (.ref p) (mup M p (.lst ds))) : dListOf [d] M Q := by unfold dListOf; simp only [h1]; exact q
theorem i_listOfT (q : ∀ p, M p = none → Q (.ref p) (mup M p (.lst ds))) : dListOf [.tup ds] M Q := by unfold dListOf; simp only [seqL, seqT]; exact q
theorem i_sl {te : TED} {tl th : TOD} (h : te sd M fun d M1 => tl sd M1 fun lo M2 => th sd M2 fun hi M3 => dSlV d lo hi M3 Q) : dSl te tl th sd M Q := h
theorem i_no {R : Option Int → Mo → Prop} (h : R none M) : dNo sd M R := h
theorem i_part {t : TED} {R : Option Int → Mo → Prop} (h : t sd M fun d M1 => kI d fun i => R (some i) M1) : dPart t sd M R := h
theorem i_slS {lo hi : Option Int} (hl : x.length ≤ 16777216) (h : Q (.str (cutS x lo hi)) M) : dSlV (.str x) lo hi M Q := ⟨hl, h⟩
theorem i_slL {lo hi : Option Int} (h1 : seqL M d = some ds) (q : ∀ p, M p = none → Q (.ref p) (mup M p (.lst (cutD ds lo hi)))) : dSlV d lo hi M Q := by
  unfold dSlV
  split
  · simp [seqL] at h1
  · simp only [h1]
    exact q
theorem i_append {v : Dv} (h1 : M a = some (.lst ds)) (h2 : ds.length < 16777216) (q : Q .non (mup M a (.lst (ds ++ [v])))) : dAppend (.ref a) [v] M Q := by unfold dAppend; simp only [h1]; exact ⟨h2, q⟩
theorem i_join {zs : List Str} (h : seqL M d = some ds) (hz : strsOf ds = some zs) (hl : (zs.map (·.length)).sum + zs.length * x.length ≤ 16777216) (q : Q (.str (Txt.join x zs)) M) : dJoin (.str x) [d] M Q := by
  unfold dJoin; simp only [h, Option.bind_some, hz]; exact ⟨hl, q⟩
theorem i_isi {b n : String} (h : tyN M d = some n) (hk : knownT b = true) (q : Q (.bl (isiB n b)) M) : dIsi [d, .ty b] M Q := by unfold dIsi; simp only [h]; exact ⟨hk, q⟩
theorem e_seqR (h : M a = some (.lst ds)) : seqL M (.ref a) = some ds := by unfold seqL; simp only [h]
theorem e_seqL : seqL M (.lst ds) = some ds := rfl
theorem e_tyR {T : String} (h : M a = some (.lst ds)) (q : T = "list") : tyD T (.ref a) M := by unfold tyD; simp only [h]; exact q
theorem e_tyNR (h : M a = some (.lst ds)) : tyN M (.ref a) = some "list" := by unfold tyN; simp only [h]
theorem e_ix {n k : Nat} (h : k < n) : ixN n (k : Int) = some k := by
  unfold ixN
  rw [if_pos (by omega), if_pos (by omega)]
  simp
theorem e_ixI {n : Nat} {i : Int} (h0 : 0 ≤ i) (h : i < n) : ixN n i = some i.toNat := by
  unfold ixN
  rw [if_pos h0, if_pos h]
theorem e_atI {α : Type} {zs : List α} {i : Int} {z : α} (h0 : 0 ≤ i) (h : zs[i.toNat]? = some z) : L2.atI zs i = some z := by
  have e : ((i.toNat : Nat) : Int) = i := by omega
  rw [← e]
  exact L2.atI_nat h
theorem mne {a b : Addr} {o : OO} (h : M b = some o) (h' : M a = none) : b ≠ a := fun z => by subst z; rw [h] at h'; cases h'
theorem mne2 {a b : Addr} {o : OO} (h' : M a = none) (h : M b = some o) : b ≠ a := mne h h'
theorem i_ifT {c : Bool} {A B : Prop} (e : c = true) (h : A) : if c = true then A else B := by rw [if_pos e]; exact h
theorem i_ifF {c : Bool} {A B : Prop} (e : c = false) (h : B) : if c = true then A else B := by rw [e]; exact iteF h
theorem i_ifd {p A B : Prop} [Decidable p] (h1 : p → A) (h2 : ¬ p → B) : if (decide p) = true then A else B := by
  by_cases h : p
  · rw [decide_eq_true h]; exact h1 h
  · rw [decide_eq_false h]; exact iteF (h2 h)
theorem i_ifn {p A B : Prop} [Decidable p] (h1 : ¬ p → A) (h2 : p → B) : if (!decide p) = true then A else B := by
  by_cases h : p
  · rw [decide_eq_true h]; exact iteF (h2 h)
  · rw [decide_eq_false h]; exact h1 h
theorem i_ifb {b : Bool} {A B : Prop} (h1 : b = true → A) (h2 : b = false → B) : if b = true then A else B := by
  cases b with
  | true => exact h1 rfl
  | false => exact iteF (h2 rfl)
theorem i_ift {A B : Prop} (h : A) : if true = true then A else B := iteT h
theorem i_iff {A B : Prop} (h : B) : if false = true then A else B := iteF h
theorem i_for {wi : TID} {g : TGD} {tb : TSD} (h : wi sd M fun J M1 => ∃ W : Nat → StD → Mo → Prop, W 0 sd M1 ∧ (∀ i sd M, i ≤ J.ds.length → W i sd M → J.ok M) ∧
  (∀ i d sd M, J.ds[i]? = some d → W i sd M → g d sd M fun sd2 M2 => tb { D with nx := W (i + 1), ct := W (i + 1), bk := D.nx } sd2 M2) ∧ ∀ sd M, W J.ds.length sd M → D.nx sd M) : dFor wi g tb D sd M := h
theorem i_rng1 {ta : TAD} {R : ItD → Mo → Prop} (h : ta sd M fun ds M1 => ∃ j, ds = [.int j] ∧ j < 4611686018427387904 ∧ -4611686018427387904 ≤ j ∧ R ⟨rngD 0 j.toNat, fun _ => True⟩ M1)
    (mono : ∀ sd M (R R' : List Dv → Mo → Prop), (∀ a b, R a b → R' a b) → ta sd M R → ta sd M R') : iRng1D ta sd M R :=
  mono _ _ _ _ (fun ds M1 ⟨j, e, h⟩ => by subst e; exact h) h
def kR1 (ds : List Dv) (F : Int → Prop) : Prop := match ds with
  | [.int j] => F j
  | _ => False
def kR2 (ds : List Dv) (F : Int → Int → Prop) : Prop := match ds with
  | [.int i, .int j] => F i j
  | _ => False
theorem i_kR1 {F : Int → Prop} (h : F i) : kR1 [.int i] F := h
theorem i_kR2 {F : Int → Int → Prop} (h : F i j) : kR2 [.int i, .int j] F := h
theorem i_rngA {ta : TAD} {R : ItD → Mo → Prop} (h : ta sd M fun ds M1 => kR1 ds fun j => j < 4611686018427387904 ∧ -4611686018427387904 ≤ j ∧ R ⟨rngD 0 j.toNat, fun _ => True⟩ M1) : iRng1D ta sd M R := h
theorem i_rngB {ta : TAD} {R : ItD → Mo → Prop} (h : ta sd M fun ds M1 => kR2 ds fun i j => (i < 4611686018427387904 ∧ -4611686018427387904 ≤ i ∧ j < 4611686018427387904 ∧ -4611686018427387904 ≤ j) ∧ R ⟨rngD i (j - i).toNat, fun _ => True⟩ M1) : iRng2D ta sd M R := h
def kSq (M : Mo) (d : Dv) (F : List Dv → (Mo → Prop) → Prop) : Prop := match d with
  | .lst ds => F ds fun _ => True
  | .ref a => match M a with
    | some (.lst ds) => F ds fun M => M a = some (.lst ds)
    | _ => False
  | _ => False
theorem i_seqI {t : TED} {R : ItD → Mo → Prop} (h : t sd M fun d M1 => kSq M1 d fun ds ok => R ⟨ds, ok⟩ M1) : iSeq t sd M R := h
theorem i_kSqL {F : List Dv → (Mo → Prop) → Prop} (h : F ds fun _ => True) : kSq M (.lst ds) F := h
theorem i_kSqR {F : List Dv → (Mo → Prop) → Prop} (h1 : M a = some (.lst ds)) (q : F ds fun M => M a = some (.lst ds)) : kSq M (.ref a) F := by unfold kSq; simp only [h1]; exact q
def kStr (d : Dv) (F : Str → Prop) : Prop := match d with
  | .str x => F x
  | _ => False
theorem i_kStr {F : Str → Prop} (h : F x) : kStr (.str x) F := h
theorem i_strI {t : TED} {R : ItD → Mo → Prop} (h : t sd M fun d M1 => kStr d fun x => R ⟨signsD x, fun _ => True⟩ M1) : iStrD t sd M R := h
def kTup (d : Dv) (F : List Dv → Prop) : Prop := match d with
  | .tup ds => F ds
  | _ => False
theorem i_kTup {F : List Dv → Prop} (h : F ds) : kTup (.tup ds) F := h
theorem i_tupI {t : TED} {R : ItD → Mo → Prop} (h : t sd M fun d M1 => kTup d fun ds => R ⟨ds, fun _ => True⟩ M1) : iTupD t sd M R := h
def kEn (M : Mo) (ds : List Dv) (F : List Dv → (Mo → Prop) → Prop) : Prop := match ds with
  | [.lst xs] => F (enumD 0 xs) fun _ => True
  | [.ref a] => match M a with
    | some (.lst xs) => F (enumD 0 xs) fun M => M a = some (.lst xs)
    | _ => False
  | _ => False
theorem i_enI {t : TAD} {R : ItD → Mo → Prop} (h : t sd M fun ds M1 => kEn M1 ds fun es ok => R ⟨es, ok⟩ M1) : iEnumD t sd M R := by
  unfold iEnumD
  unfold kEn at h
  exact h
theorem i_kEnL {F : List Dv → (Mo → Prop) → Prop} (h : F (enumD 0 ds) fun _ => True) : kEn M [.lst ds] F := h
theorem i_kEnR {F : List Dv → (Mo → Prop) → Prop} (h1 : M a = some (.lst ds)) (q : F (enumD 0 ds) fun M => M a = some (.lst ds)) : kEn M [.ref a] F := by unfold kEn; simp only [h1]; exact q
theorem i_lc {wi : TID} {g : Tgt} {tt : TTD} {te : TED} {vs : List Nat} (h : wi sd M fun J M1 => J.ds.length ≤ 16777216 ∧ ∃ W : Nat → List Dv → Mo → Prop, W 0 [] M1 ∧
  (∀ i acc M, i ≤ J.ds.length → W i acc M → J.ok M) ∧
  (∀ i d acc M, J.ds[i]? = some d → acc.length ≤ i → W i acc M → dG g d (wipeD sd vs) M fun sd2 M2 => tt sd2 M2 fun b M3 =>
    if b = true then te sd2 M3 fun y M4 => W (i + 1) (acc ++ [y]) M4 else W (i + 1) acc M3) ∧
  ∀ acc M, acc.length ≤ J.ds.length → W J.ds.length acc M → ∀ p, M p = none → Q (.ref p) (mup M p (.lst acc))) : dLc wi g tt te vs sd M Q := h
theorem i_yes {R : Bool → Mo → Prop} (h : R true M) : dYes sd M R := h
theorem i_dGn {n : Nat} {R : StD → Mo → Prop} (h : R (sd.set n (some d)) M) : dG (.nm n) d sd M R := by unfold dG; exact h
theorem i_dGt {ts : List Tgt} {R : StD → Mo → Prop} (h : gTp ts.length (dGs ts) d sd M R) : dG (.tp ts) d sd M R := by unfold dG; exact h
theorem i_dGc {t : Tgt} {ts : List Tgt} {R : StD → Mo → Prop} (h : dG t d sd M fun sd' M' => dGs ts ds sd' M' R) : dGs (t :: ts) (d :: ds) sd M R := by unfold dGs gCn; exact h
theorem i_dG0 {R : StD → Mo → Prop} (h : R sd M) : dGs [] [] sd M R := by unfold dGs; exact ⟨rfl, h⟩
/-- over lo, lo + 1, .. -/
theorem lc_rng {lo : Int} {n : Nat} {g : Tgt} {tt : TTD} {te : TED} {sw : StD} {F : List Dv → Mo → Prop} (W : Nat → List Dv → Mo → Prop) (hn : n ≤ 16777216) (h0 : W 0 [] M)
    (hs : ∀ i acc M, i < n → acc.length ≤ i → W i acc M → dG g (.int (lo + (i : Nat))) sw M fun sd2 M2 => tt sd2 M2 fun b M3 => if b = true then te sd2 M3 fun y M4 => W (i + 1) (acc ++ [y]) M4 else W (i + 1) acc M3)
    (hd : ∀ acc M, acc.length ≤ n → W n acc M → F acc M) :
    (ItD.mk (rngD lo n) fun _ => True).ds.length ≤ 16777216 ∧ ∃ W : Nat → List Dv → Mo → Prop, W 0 [] M ∧ (∀ i acc M, i ≤ (ItD.mk (rngD lo n) fun _ => True).ds.length → W i acc M → (ItD.mk (rngD lo n) fun _ => True).ok M) ∧
      (∀ i d acc M, (ItD.mk (rngD lo n) fun _ => True).ds[i]? = some d → acc.length ≤ i → W i acc M → dG g d sw M fun sd2 M2 => tt sd2 M2 fun b M3 => if b = true then te sd2 M3 fun y M4 => W (i + 1) (acc ++ [y]) M4 else W (i + 1) acc M3) ∧
      ∀ acc M, acc.length ≤ (ItD.mk (rngD lo n) fun _ => True).ds.length → W (ItD.mk (rngD lo n) fun _ => True).ds.length acc M → F acc M := by
  refine ⟨by show (rngD lo n).length ≤ _; rw [rngD_length]; exact hn, W, h0, fun _ _ _ _ _ => trivial, fun i d acc M e hl hw => ?_, fun acc M hl hw => ?_⟩
  · obtain ⟨hi, rfl⟩ := rngD_get e
    exact hs i acc M hi hl hw
  · have e : (ItD.mk (rngD lo n) fun _ => True).ds.length = n := rngD_length lo n
    rw [e] at hw hl
    exact hd acc M hl hw
theorem for_rng {lo : Int} {n : Nat} {g : TGD} {tb : TSD} (W : Nat → StD → Mo → Prop) (h0 : W 0 sd M)
    (hs : ∀ i sd M, i < n → W i sd M → g (.int (lo + (i : Nat))) sd M fun sd2 M2 => tb { D with nx := W (i + 1), ct := W (i + 1), bk := D.nx } sd2 M2) (hd : ∀ sd M, W n sd M → D.nx sd M) :
    ∃ W : Nat → StD → Mo → Prop, W 0 sd M ∧ (∀ i sd M, i ≤ (ItD.mk (rngD lo n) fun _ => True).ds.length → W i sd M → (ItD.mk (rngD lo n) fun _ => True).ok M) ∧
  (∀ i d sd M, (ItD.mk (rngD lo n) fun _ => True).ds[i]? = some d → W i sd M → g d sd M fun sd2 M2 => tb { D with nx := W (i + 1), ct := W (i + 1), bk := D.nx } sd2 M2) ∧ ∀ sd M, W (ItD.mk (rngD lo n) fun _ => True).ds.length sd M → D.nx sd M := by
  refine ⟨W, h0, fun _ _ _ _ _ => trivial, fun i d sd M e hw => ?_, fun sd M hw => ?_⟩
  · obtain ⟨hi, rfl⟩ := rngD_get e
    exact hs i sd M hi hw
  · have e : (ItD.mk (rngD lo n) fun _ => True).ds.length = n := rngD_length lo n
    rw [e] at hw
    exact hd sd M hw
theorem for_own {ds : List Dv} {g : TGD} {tb : TSD} (W : Nat → StD → Mo → Prop) (h0 : W 0 sd M) (hok : ∀ i sd M, i ≤ ds.length → W i sd M → M a = some (.lst ds))
    (hs : ∀ i d sd M, ds[i]? = some d → W i sd M → g d sd M fun sd2 M2 => tb { D with nx := W (i + 1), ct := W (i + 1), bk := D.nx } sd2 M2) (hd : ∀ sd M, W ds.length sd M → D.nx sd M) :
    ∃ W : Nat → StD → Mo → Prop, W 0 sd M ∧ (∀ i sd M, i ≤ (ItD.mk ds fun M => M a = some (.lst ds)).ds.length → W i sd M → (ItD.mk ds fun M => M a = some (.lst ds)).ok M) ∧
  (∀ i d sd M, (ItD.mk ds fun M => M a = some (.lst ds)).ds[i]? = some d → W i sd M → g d sd M fun sd2 M2 => tb { D with nx := W (i + 1), ct := W (i + 1), bk := D.nx } sd2 M2) ∧ ∀ sd M, W (ItD.mk ds fun M => M a = some (.lst ds)).ds.length sd M → D.nx sd M := ⟨W, h0, hok, hs, hd⟩
theorem for_fz {ds : List Dv} {g : TGD} {tb : TSD} (W : Nat → StD → Mo → Prop) (h0 : W 0 sd M)
    (hs : ∀ i d sd M, ds[i]? = some d → W i sd M → g d sd M fun sd2 M2 => tb { D with nx := W (i + 1), ct := W (i + 1), bk := D.nx } sd2 M2) (hd : ∀ sd M, W ds.length sd M → D.nx sd M) :
    ∃ W : Nat → StD → Mo → Prop, W 0 sd M ∧ (∀ i sd M, i ≤ (ItD.mk ds fun _ => True).ds.length → W i sd M → (ItD.mk ds fun _ => True).ok M) ∧
  (∀ i d sd M, (ItD.mk ds fun _ => True).ds[i]? = some d → W i sd M → g d sd M fun sd2 M2 => tb { D with nx := W (i + 1), ct := W (i + 1), bk := D.nx } sd2 M2) ∧ ∀ sd M, W (ItD.mk ds fun _ => True).ds.length sd M → D.nx sd M := ⟨W, h0, fun _ _ _ _ _ => trivial, hs, hd⟩
theorem lc_own {ds : List Dv} {g : Tgt} {tt : TTD} {te : TED} {sw : StD} {F : List Dv → Mo → Prop} (W : Nat → List Dv → Mo → Prop) (hn : ds.length ≤ 16777216) (h0 : W 0 [] M) (hok : ∀ i acc M, i ≤ ds.length → W i acc M → M a = some (.lst ds))
    (hs : ∀ i d acc M, ds[i]? = some d → acc.length ≤ i → W i acc M → dG g d sw M fun sd2 M2 => tt sd2 M2 fun b M3 => if b = true then te sd2 M3 fun y M4 => W (i + 1) (acc ++ [y]) M4 else W (i + 1) acc M3)
    (hd : ∀ acc M, acc.length ≤ ds.length → W ds.length acc M → F acc M) :
    (ItD.mk ds fun M => M a = some (.lst ds)).ds.length ≤ 16777216 ∧ ∃ W : Nat → List Dv → Mo → Prop, W 0 [] M ∧ (∀ i acc M, i ≤ (ItD.mk ds fun M => M a = some (.lst ds)).ds.length → W i acc M → (ItD.mk ds fun M => M a = some (.lst ds)).ok M) ∧
      (∀ i d acc M, (ItD.mk ds fun M => M a = some (.lst ds)).ds[i]? = some d → acc.length ≤ i → W i acc M → dG g d sw M fun sd2 M2 => tt sd2 M2 fun b M3 => if b = true then te sd2 M3 fun y M4 => W (i + 1) (acc ++ [y]) M4 else W (i + 1) acc M3) ∧
      ∀ acc M, acc.length ≤ (ItD.mk ds fun M => M a = some (.lst ds)).ds.length → W (ItD.mk ds fun M => M a = some (.lst ds)).ds.length acc M → F acc M := ⟨hn, W, h0, hok, hs, hd⟩
theorem lc_fz {ds : List Dv} {g : Tgt} {tt : TTD} {te : TED} {sw : StD} {F : List Dv → Mo → Prop} (W : Nat → List Dv → Mo → Prop) (hn : ds.length ≤ 16777216) (h0 : W 0 [] M)
    (hs : ∀ i d acc M, ds[i]? = some d → acc.length ≤ i → W i acc M → dG g d sw M fun sd2 M2 => tt sd2 M2 fun b M3 => if b = true then te sd2 M3 fun y M4 => W (i + 1) (acc ++ [y]) M4 else W (i + 1) acc M3)
    (hd : ∀ acc M, acc.length ≤ ds.length → W ds.length acc M → F acc M) :
    (ItD.mk ds fun _ => True).ds.length ≤ 16777216 ∧ ∃ W : Nat → List Dv → Mo → Prop, W 0 [] M ∧ (∀ i acc M, i ≤ (ItD.mk ds fun _ => True).ds.length → W i acc M → (ItD.mk ds fun _ => True).ok M) ∧
      (∀ i d acc M, (ItD.mk ds fun _ => True).ds[i]? = some d → acc.length ≤ i → W i acc M → dG g d sw M fun sd2 M2 => tt sd2 M2 fun b M3 => if b = true then te sd2 M3 fun y M4 => W (i + 1) (acc ++ [y]) M4 else W (i + 1) acc M3) ∧
      ∀ acc M, acc.length ≤ (ItD.mk ds fun _ => True).ds.length → W (ItD.mk ds fun _ => True).ds.length acc M → F acc M := ⟨hn, W, h0, fun _ _ _ _ _ => trivial, hs, hd⟩
/-- while, by an invariant and a measure -/
theorem i_while {c : TTD} {tb : TSD} (W : Nat → StD → Mo → Prop) (m : Nat) (h0 : W m sd M) (turn : ∀ m sd M, W m sd M → c sd M fun b M1 => if b = true then tb { D with nx := fun sd' M' => ∃ m', m' < m ∧ W m' sd' M', ct := fun sd' M' => ∃ m', m' < m ∧ W m' sd' M', bk := D.nx } sd M1 else D.nx sd M1) : dWhile c tb D sd M :=
  ⟨W, ⟨m, h0⟩, turn⟩
end
end DL
namespace DL
open PySem PySem.Spec PyProof.Rows L2
theorem i_new {M : Mo} {F : Addr → Prop} (h : ∀ p, M p = none → F p) : ∀ p, M p = none → F p := h
theorem cutS_take (x : Str) (k : Nat) : cutS x none (some (k : Int)) = ⟨(x.cps.toList.take k).toArray⟩ := by
  unfold cutS
  rw [HT.sIx_none, HT.sIx_nat, List.drop_zero, Nat.sub_zero]
  have e : x.length = x.cps.toList.length := by simp [Str.length]
  have e2 : x.cps.toList.take (min k x.length) = x.cps.toList.take k := by rw [e, List.take_eq_take_iff]; omega
  rw [e2]
theorem cutS_drop (x : Str) (k : Nat) : cutS x (some (k : Int)) none = ⟨(x.cps.toList.drop k).toArray⟩ := by
  unfold cutS
  rw [HT.sIx_none, HT.sIx_nat]
  have e : x.length = x.cps.toList.length := by simp [Str.length]
  rw [e]
  by_cases h : k ≤ x.cps.toList.length
  · rw [Nat.min_eq_left h, List.take_of_length_le (by rw [List.length_drop]; exact Nat.le_refl _)]
  · rw [List.drop_of_length_le (by omega), List.drop_of_length_le (by omega)]
    simp
theorem str_len (x : Str) : x.length = x.cps.toList.length := by simp [Str.length]
theorem cut_mem {ds : List Dv} {lo hi : Option Int} {d : Dv} (h : d ∈ cutD ds lo hi) : d ∈ ds := List.mem_of_mem_drop (List.mem_of_mem_take h)
theorem cut_len (ds : List Dv) (lo hi : Option Int) : (cutD ds lo hi).length ≤ ds.length := by
  unfold cutD
  rw [List.length_take, List.length_drop]
  omega
theorem join0_lenS : ∀ zs : List Str, (Str.join (Str.ofString "") zs).length = (zs.map (·.length)).sum
  | [] => rfl
  | [x] => by
    show x.length = x.length + 0
    omega
  | x :: y :: r => by
    show (x ++ Str.ofString "" ++ Str.join (Str.ofString "") (y :: r)).length = x.length + ((y :: r).map (·.length)).sum
    rw [PySem.Str.length_append, PySem.Str.length_append, join0_lenS (y :: r)]
    show x.length + 0 + _ = _
    omega
theorem join0_len (zs : List Str) : (Txt.join (Str.ofString "") zs).length = (zs.map (·.length)).sum := by
  rw [TL.join_eq]
  exact join0_lenS zs
theorem sum_ones {zs : List Str} (h : ∀ t ∈ zs, t.length = 1) : (zs.map (·.length)).sum = zs.length := by
  induction zs with
  | nil => rfl
  | cons z zs ih =>
    rw [List.map_cons, List.sum_cons, ih (fun t ht => h t (List.mem_cons_of_mem _ ht)), h z List.mem_cons_self, List.length_cons]
    omega
theorem cmul_l {i j : Int} (h : -18446744073709551616 < i) (h' : i < 18446744073709551616) : CMul i j := .inl ⟨h, h'⟩
theorem cmul_r {i j : Int} (h : -18446744073709551616 < j) (h' : j < 18446744073709551616) : CMul i j := .inr ⟨h, h'⟩
theorem cdivw {i j : Int} (h : 0 < j) (h' : j < 18446744073709551616) : CDivW i j := wide_div h (b := 64) (by omega) (by decide) (by decide)
end DL

namespace DL
open PySem PySem.Spec PyProof.Rows L2
/-- the law's own promise: at up to n whole numbers it answers True -/
def spLaw (n : Nat) : SpD := fun ds M Q E => match ds with
  | [.lst xs] => (∃ ns : List Int, xs = ns.map .int ∧ ns.length ≤ n) ∧ ∀ M', Q (.bl true) M'
  | _ => False
theorem rd_ints {K : PySem.W.Frag} {H : Hp} : ∀ ns : List Int, RDs K H (ns.map .int) (ns.map V.int)
  | [] => .nil
  | n :: ns => .cons (by unfold RD; rfl) (rd_ints ns)
theorem hsp_law {K : PySem.W.Frag} {n : Nat} {H : Hp} {a : Addr} {ns : List Int} (hl : ns.length ≤ n) (hO : L2.Only H) (hS : SqL K H a (ns.map V.int)) : LSp K (spLaw n) [.ref a] H (fun v _ => v = .bl true) (fun _ _ _ => False) := by
  have hF : FzL K H a (ns.map V.int) := by
    rcases hS with (h | ⟨o, h⟩) | h
    · rcases hO a with q | ⟨o, xs, q⟩
      · rw [q] at h
        cases h
      · rw [q] at h
        cases h
    · exact .inl ⟨o, h⟩
    · exact .inr h
  refine ⟨[.lst (ns.map .int)], fun _ => none, fun d _ => d = .bl true, Ed0, .cons ?_ .nil, (fun _ _ h => by cases h), ⟨⟨ns, rfl, hl⟩, fun _ => rfl⟩, ?_, ctx0⟩
  · unfold RD
    exact ⟨a, _, rfl, hF, rd_ints ns⟩
  · intro d M' v H' _ r e
    subst e
    unfold RD at r
    exact r
theorem hcx_law {P : Program} {w : World} {H : Hp} {s : Shared} {e : Value} {s' : Shared} (h : L2.CX P w [] H s (fun _ _ _ => False) e s') : False := by
  obtain ⟨_, _, _, _, _, _, _, _, _, _, _, _, q⟩ := h
  exact q
end DL

namespace DL
open PySem PySem.Spec PyProof.Rows
/-- how many unlike ones stand among the first i -/
def dctN (xs : List Str) : Nat → Nat
  | 0 => 0
  | i + 1 => if (xs.take i).any (· == xs.getD i Str.empty) = true then dctN xs i else dctN xs i + 1
theorem dctN_le (xs : List Str) : ∀ i, dctN xs i ≤ i
  | 0 => Nat.le_refl _
  | i + 1 => by
    have := dctN_le xs i
    unfold dctN
    split <;> omega
section
variable {prog : Program} {w : World} {A : Around} {R : Result → Shared → Prop} {I : Addr} {fp wr : List Addr} {G : Array GenState → Array GenState → Prop} {n : Nat} {P : Nat → Value → Prop} {St : Nat → Shared → Prop}
theorem loopTx (W : WalksS prog w A.in1 I fp wr G n P St) (S : Addr) (hSf : S ∉ fp) (xs : List Str) (hsz : xs.length = n) (hnb : n < scanBound)
    (hval : ∀ i v, P i v → ∃ t, v = .str (xs.getD i Str.empty) t) :
    ∀ (k i : Nat) (s : Shared), n - i = k → i ≤ n → St i s →
      s.heap.SetOf (PySem.strKind prog w) S (fun k' => (xs.take i).any (· == k')) (dctN xs i) →
      (∀ s', Moved (S :: wr) G s s' → s'.heap.SetOf (PySem.strKind prog w) S (fun k' => (xs.take n).any (· == k')) (dctN xs n) → R (.ok (.ret .none)) s') →
      codeAny (model prog w) A (.builtin "set.update.loop" ⟨[.ref S, .ref I], []⟩) R s := by
  have hSw : S ∉ wr := fun h => hSf (W.sub _ h)
  have hsub : ∀ b ∈ wr, b ∈ S :: wr := fun b hb => List.mem_cons_of_mem _ hb
  intro k
  induction k with
  | zero =>
    intro i s hk hi hst hS hR
    have hin : i = n := by omega
    subst hin
    refine codeAny_builtin PyProof.Rows.F.entry_set_update_loop ?_
    rw [Around.under_plainId PyProof.Rows.F.plain_set_update_loop _]
    show wpAny _ A.in1 (pyNext (.ref I) >>= _) _ _ s
    refine wpAny_bind (W.done s _ _ hst fun s' hm => ?_)
    show wpAny _ A.in1 (ret Value.none) _ _ s'
    exact wpAny_pure (hR s' (hm.mono hsub) (by
      obtain ⟨o, es, ep, t, ho, rest⟩ := hS
      exact ⟨o, es, ep, t, hm.heap S _ hSw ho, rest⟩))
  | succ k ih =>
    intro i s hk hi hst hS hR
    have hlt : i < n := by omega
    refine codeAny_builtin PyProof.Rows.F.entry_set_update_loop ?_
    rw [Around.under_plainId PyProof.Rows.F.plain_set_update_loop _]
    show wpAny _ A.in1 (pyNext (.ref I) >>= _) _ _ s
    refine wpAny_bind (W.item i s _ _ hlt hst fun v s' hP hst' hm => ?_)
    obtain ⟨t, rfl⟩ := hval i v hP
    have hS' : s'.heap.SetOf (PySem.strKind prog w) S (fun k' => (xs.take i).any (· == k')) (dctN xs i) := by
      obtain ⟨o, es, ep, tb, ho, rest⟩ := hS
      exact ⟨o, es, ep, tb, hm.heap S _ hSw ho, rest⟩
    show wpAny _ A.in1 (holding [Value.str (xs.getD i Str.empty) t] (setAdd S (.str (xs.getD i Str.empty) t)) >>= _) _ _ s'
    refine wpAny_bind (wpAny_holding ?_)
    unfold setAdd
    refine wpAny_holding ?_
    refine wpAny_bind ((PySem.strKind prog w).pyHash (k := xs.getD i Str.empty) (strKind_is _ _ _ _) ?_)
    have hle := dctN_le xs i
    refine wpAny_setAddHashed_of (knd := PySem.strKind prog w) (s := { s' with toks := s'.toks + 1 }) (strKind_is _ _ _ _) rfl hS' (by omega) fun h' hsb hS2 => ?_
    have hSi : h'.SetOf (PySem.strKind prog w) S (fun k' => (xs.take (i + 1)).any (· == k')) (dctN xs (i + 1)) := by
      refine SetOf_congr hS2 (fun k' => ?_) rfl
      have hx : i < xs.length := by omega
      have e1 : xs.getD i Str.empty = xs[i] := by
        rw [List.getD_eq_getElem?_getD, List.getElem?_eq_getElem hx]
        rfl
      show ((xs.take i).any (· == k') || decide (k' = xs.getD i Str.empty)) = (xs.take (i + 1)).any (· == k')
      rw [List.take_succ_eq_append_getElem hx, List.any_append, e1]
      by_cases e : k' = xs[i]
      · rw [decide_eq_true e, ← e]
        simp
      · have hb : (xs[i] == k') = false := by simpa [beq_iff_eq] using (fun h' : xs[i] = k' => e h'.symm)
        rw [decide_eq_false e]
        simp [hb]
    refine wpAny_pure ⟨plainId_quiet PyProof.Rows.F.plain_set_update_loop _, ih (i + 1) _ (by omega) hlt (W.frame _ s' _ _ hst' (Nat.le_succ _) fun b hb o e => ?_) hSi fun s'' hm'' hS'' => ?_⟩
    · rw [hsb.2 b (fun h : b = S => hSf (by rw [← h]; exact hb))]; exact e
    · refine hR s'' (Moved.trans W.gtrans ((hm.mono hsub).then_heap (Nat.le_succ _) fun b o hb e => ?_) hm'') hS''
      rw [hsb.2 b (fun h : b = S => hb (by rw [h]; exact List.mem_cons_self))]; exact e
end
def sgs (x : Str) : List Str := x.cps.toList.map fun c => ⟨#[c]⟩
theorem sgs_len (x : Str) : (sgs x).length = x.cps.size := by simp [sgs]
section
variable {prog : Program} {w : World} {A : Around} {E : Value → Shared → Prop} {s : Shared}
set_option maxHeartbeats 3200000 in
theorem call_set_tx {x : Str} {t : Tok} {Q : Value → Shared → Prop} (hh : A.handled = none) (hn1 : x.cps.size < scanBound)
    (h : ∀ (h' : Heap) (tk : Nat), h'.SetOf (PySem.strKind prog w) s.heap.objs.size (fun k' => ((sgs x).take x.cps.size).any (· == k')) (dctN (sgs x) x.cps.size) →
      (∀ b o, b < s.heap.objs.size → s.heap.get? b = some o → h'.get? b = some o) → Q (.ref s.heap.objs.size) { s with heap := h', toks := tk }) :
    wpAny (model prog w) A (call (.type "set") [.str x t]) Q E s := by
  obtain ⟨c, tl, hmro⟩ := PySem.F.called_set.mro
  have hmade := PySem.F.called_set.made
  have hsub := PySem.F.called_set.sub
  refine wpAny_call (codeAny_of_tree ?_)
  show wpAny _ _ (callAny (.type "set") _) _ _ _
  refine wpAny_pure ⟨Code.quiet_builtin _ (by decide +kernel), codeAny_builtin PySem.F.entry_type_call ?_⟩
  rw [Around.under_plain (weight_type_call_type "set" [.str x t] []) rfl]
  have h1 := PySem.F.called_set.notType
  have h2 := PySem.F.called_set.canCreate
  have hct := PySem.F.typeCall_set_1 (.str x t)
  repeat (any_goals (first | assumption | wp_step))
  refine codeAny_mono (code_set_new_1 (.str x t) (E := E) (Q₁ := fun obj s₁ => ∃ led : Bool, obj = .ref s.heap.objs.size ∧ s₁ = { s with heap := s.heap.push { cls := .type "set", dict := none, data := .set #[] 0 (.fresh 0 0 led) } }) fun led => ⟨led, rfl, rfl⟩) fun r s₁ hr => ?_
  cases r with
  | error e => exact hr
  | ok fl =>
    cases fl with
    | ret obj =>
      obtain ⟨led, rfl, rfl⟩ := hr
      have hS : (s.heap.push { cls := .type "set", dict := none, data := .set #[] 0 (.fresh 0 0 led) }).get? s.heap.objs.size = some { cls := .type "set", dict := none, data := .set #[] 0 (.fresh 0 0 led) } := Heap.get?_push_size _ rfl
      have hT : Shared.TypeIs { s with heap := s.heap.push { cls := .type "set", dict := none, data := .set #[] 0 (.fresh 0 0 led) } } (.ref s.heap.objs.size) "set" := ⟨_, hS, rfl⟩
      have hli := PySem.F.called_set.init.lookup
      have hbi := PySem.F.called_set.init.bind (.ref s.heap.objs.size)
      repeat (any_goals (first | assumption | wp_step))
      refine codeAny_mono (codeAny_call_builtin (R := wants (fun r s₂ => r = .none ∧ ∃ h' tk, s₂ = { s with heap := h', toks := tk } ∧
          h'.SetOf (PySem.strKind prog w) s.heap.objs.size (fun k' => ((sgs x).take x.cps.size).any (· == k')) (dctN (sgs x) x.cps.size) ∧
          (∀ b o, b < s.heap.objs.size → s.heap.get? b = some o → h'.get? b = some o)) E) PySem.F.called_set.init.plain PySem.F.entry_set_init (check_set_init_1 hT ?_)) fun r₂ s₂ hr₂ => ?_
      · have hsls := PySem.F.sub_str_set
        have hslf := PySem.F.sub_str_frozenset
        have hne : (Value.type "str" == Value.type "dict") = false := by decide
        unfold Builtin.«set.__init__» noKeywords Builtin.Frozenset.updateFrom
        generalize hPI : pyIter = PI
        wp_walk
        subst hPI
        refine wpAny_pyIter_str fun o St WW st0 => ?_
        refine wpAny_bind (wpAny_runValue ?_)
        have hh3 : A.in1.in1.in1.handled = none := by simp [hh]
        have hSf : s.heap.objs.size ∉ [(s.heap.push { cls := .type "set", dict := none, data := .set #[] 0 (.fresh 0 0 led) }).objs.size] := by
          rw [Heap.size_push]; simp only [List.mem_singleton]
          exact Nat.ne_of_lt (Nat.lt_succ_self _)
        have hval : ∀ (i : Nat) (v : Value), SignAt x i v → ∃ t, v = .str ((sgs x).getD i Str.empty) t := fun i v ⟨c, u, hc, e⟩ => ⟨u, by
          rw [e, List.getD_eq_getElem?_getD, sgs, List.getElem?_map, Array.getElem?_toList, hc]
          rfl⟩
        refine loopTx ((WW _ hh3).toS) s.heap.objs.size
          hSf (sgs x) (sgs_len x) hn1 hval (x.cps.size - 0) 0 _ (by omega) (Nat.zero_le _)
          st0 ?hS0 ?hR
        case hS0 =>
          have hget : ((s.heap.push { cls := .type "set", dict := none, data := .set #[] 0 (.fresh 0 0 led) }).push o).get? s.heap.objs.size
              = some { cls := .type "set", dict := none, data := .set #[] 0 (.fresh 0 0 led) } := Heap.get?_push_of_some _ hS
          exact PyProof.Rows.SetOf_congr ((PyProof.Rows.setObjOf_fresh (knd := PySem.strKind prog w) led).setOf hget (by unfold scanBound; omega)) (fun _ => rfl) rfl
        case hR =>
          intro s' hm hS'
          obtain ⟨h', g', d', tk', os'⟩ := s'
          have eg : g' = s.gens := hm.gens
          have ed : d' = s.drawn := hm.drawn
          have eo : os' = s.os := hm.os
          subst eg; subst ed; subst eo
          show wpAny _ _ _ _ _ _
          refine wpAny_pure ?_
          show wpAny _ _ (ret Value.none) _ _ _
          refine wpAny_pure ⟨rfl, h', tk', rfl, hS', fun b o hb e => ?_⟩
          have hb1 : b ≠ s.heap.objs.size := Nat.ne_of_lt hb
          have hb2 : b ≠ (s.heap.push { cls := .type "set", dict := none, data := .set #[] 0 (.fresh 0 0 led) }).objs.size := by
            rw [Heap.size_push]; exact Nat.ne_of_lt (Nat.lt_succ_of_lt hb)
          exact hm.heap b o (by simp only [List.mem_cons, List.mem_singleton, List.not_mem_nil, or_false, not_or]; exact ⟨hb1, hb2⟩) (Heap.get?_push_of_some _ (Heap.get?_push_of_some _ e))
      · cases r₂ with
        | error e => exact hr₂
        | ok fl₂ =>
          cases fl₂ with
          | ret r =>
            obtain ⟨rfl, h', tk, rfl, hS', hk'⟩ := hr₂
            repeat (any_goals (first | assumption | wp_step))
            exact h _ _ hS' hk'
          | _ => exact hr₂.elim
    | _ => exact hr.elim
end
end DL
namespace DL
open PySem PySem.Spec PyProof.Rows L2
section
variable {X : Cx} {M0 : Mo} {H0 : Hp}
/-- len(set(text)) -/
def dLenSet (t : TED) : TED := fun sd M Q => t sd M fun d M1 => ∃ x : Str, d = .str x ∧ x.length < 4096 ∧ Q (.int (dctN (sgs x) x.length : Nat)) M1
def tLenTx (ta : TE) : TE := fun σ H Q => ta σ H fun v H1 => ∃ x : Str, v = .str x ∧ x.length < 4096 ∧ Q (.int (dctN (sgs x) x.length : Nat)) H1
theorem pe_lenTx {a : Expr} {ta : TE} {p p2 q pos : Pos} (hc : X.calm = true) (hg : Gl X "len") (hm : X.mg "len" = none) (hg2 : Gl X "set") (hm2 : X.mg "set" = none) (ha : PE X a ta)
    (na : starEach [a] X.env = (false, eval a X.env) :: starEach [] X.env := by rfl) : PE X (.Call (.Name "len" p) [.Call (.Name "set" p2) [a] [] q] [] pos) (tLenTx ta) := by
  refine ⟨fun pins s σ H Q I h => ?_⟩
  refine Call_ (ld_blt I hg hm boot_len ?_)
  refine PyProof.Rows.callWith_builtin1 (PyProof.Rows.args_cons ?_ rfl) rfl rfl
  refine Call_ (ld_blt I hg2 hm2 boot_set ?_)
  refine PyProof.Rows.callWith_type1 (PyProof.Rows.args_cons (thn (ha.run pins s σ H _ I h) fun v s1 ⟨x, H1, I1, r1, q1⟩ => PyProof.Rows.args_nil ?_) na) na rfl
  obtain ⟨z, rfl, hz, q1⟩ := q1
  obtain ⟨t, rfl⟩ := r1
  refine call_set_tx (I1.ok.hd hc) hz fun h' tk hS hk => ?_
  refine PyProof.Rows.args_nil ?_
  obtain ⟨o, es, ep, t, ho, hex, hd, _, _, _, hf, hn⟩ := hS
  have I2 : Inv X pins σ H1 { s1 with heap := h', toks := tk } := I1.kept fun b o e => hk b o (Heap.lt_size e) e
  have hle := dctN_le (sgs z) z.cps.size
  have hz2 : z.cps.size < 4096 := hz
  exact call_len_set ho hex hd hf (by rw [hn]; omega) ⟨.int (dctN (sgs z) z.length : Nat), H1, I2.tok _, ⟨_, by rw [hn]; rfl⟩, q1⟩
end
end DL

namespace DL
open PySem PySem.Spec PyProof.Rows PySem.StrLaws
/-! ### the first place of a sign -/
theorem occ_full (s sub : Str) (hi : Nat) : ∀ (l : List Nat) (st : Array Nat × Nat), ¬ st.fst.size < 1 → (forIn l st (occBody s sub hi 1)).run = st
  | [], st, _ => rfl
  | a :: l, st, h => by
    rw [List.forIn_cons]
    unfold occBody
    rw [if_neg (fun z => h z.1.1.1)]
    exact occ_full s sub hi l _ h
theorem occ_first (s sub : Str) (hi k : Nat) (hk : k + sub.length ≤ hi ∧ Builtin.Str.subAt s sub k = true) (post : List Nat) : ∀ (pre : List Nat) (free : Nat), free ≤ k → (∀ i ∈ pre, ¬ (i + sub.length ≤ hi ∧ Builtin.Str.subAt s sub i = true)) →
    (forIn (pre ++ k :: post) ((#[] : Array Nat), free) (occBody s sub hi 1)).run.fst = #[k]
  | [], free, hf, _ => by
    rw [List.nil_append, List.forIn_cons]
    unfold occBody
    rw [if_pos ⟨⟨⟨by simp, hf⟩, hk.1⟩, hk.2⟩]
    have := occ_full s sub hi post (#[k], k + sub.length) (by simp)
    exact congrArg Prod.fst this
  | a :: pre, free, hf, hn => by
    rw [List.cons_append, List.forIn_cons]
    unfold occBody
    rw [if_neg (fun z => hn a (List.mem_cons_self ..) ⟨z.1.2, z.2⟩)]
    exact occ_first s sub hi k hk post pre free hf fun i hi' => hn i (List.mem_cons_of_mem _ hi')
theorem index_sign {x : Str} {c k : Nat} (h : x.cps.toList[k]? = some c) (hn : ∀ j, j < k → x.cps.toList[j]? ≠ some c) : Txt.index0 x ⟨#[c]⟩ = some k := by
  unfold Txt.index0
  rw [occ_eq]
  have hk : k < x.length := by
    have := (List.getElem?_eq_some_iff.mp h).1
    simpa [Str.length] using this
  have e : List.range' 0 (x.length + 1 - 0) = List.range' 0 k ++ k :: List.range' (k + 1) (x.length - k) := by
    have : x.length + 1 - 0 = k + (x.length - k + 1) := by omega
    rw [this, ← List.range'_append_1, List.range'_succ, Nat.zero_add]
  rw [e, occ_first x ⟨#[c]⟩ x.length k ((subAt_one x c k).mpr h) _ _ _ (Nat.zero_le _) fun i hi z => hn i (by simp [List.mem_range'_1] at hi; exact hi) ((subAt_one x c i).mp z)]
  rfl
end DL
namespace DL
open PySem PySem.Spec PyProof.Rows L2
section
variable {X : Cx} {M0 : Mo} {H0 : Hp}
/-! ### len(set(text)) -/
theorem de_lenSet {a : Expr} {ta : TED} {p p2 q pos : Pos} (hc : X.calm = true) (hg : Gl X "len") (hm : X.mg "len" = none) (hg2 : Gl X "set") (hm2 : X.mg "set" = none) (ha : PEd X M0 H0 a ta)
    (na : starEach [a] X.env = (false, eval a X.env) :: starEach [] X.env := by rfl) : PEd X M0 H0 (.Call (.Name "len" p) [.Call (.Name "set" p2) [a] [] q] [] pos) (dLenSet ta) :=
  PE.imp (pe_lenTx hc hg hm hg2 hm2 ha na) fun σ H Q ⟨sd, M, Qd, w, q, c⟩ => ⟨sd, M, _, w, q, fun d M1 v H1 s1 r1 ⟨x, e, hz, q1⟩ => by
    subst e
    exact ⟨x, r1.str_of, hz, c _ _ _ _ s1 .int q1⟩⟩
/-! ### in -/
/-- == of flat data -/
def flatD : Dv → Bool
  | .non => true
  | .bl _ => true
  | .int _ => true
  | .str _ => true
  | _ => false
def eqF : Dv → Dv → Bool
  | .non, .non => true
  | .bl a, .bl b => a == b
  | .bl a, .int b => (if a then 1 else 0) == b
  | .int a, .bl b => a == (if b then 1 else 0)
  | .int a, .int b => a == b
  | .str a, .str b => a == b
  | _, _ => false
theorem flat_of {K : PySem.W.Frag} {H : Hp} {d : Dv} {v : V} (r : RD K H d v) (h : flatD d = true) : flatV v = true := by
  cases d <;> first | (unfold flatD at h; cases h; done) | (unfold RD at r; subst r; rfl)
theorem eqF_of {K : PySem.W.Frag} {H : Hp} {d e : Dv} {v u : V} (r : RD K H d v) (r' : RD K H e u) (h : flatD d = true) (h' : flatD e = true) : eqV v u = eqF d e := by
  cases d <;> first | (unfold flatD at h; cases h; done) | (cases e <;> first | (unfold flatD at h'; cases h'; done) | (unfold RD at r r'; subst r; subst r'; rfl))
theorem flats_of {K : PySem.W.Frag} {H : Hp} : ∀ {ds : List Dv} {vs : List V}, RDs K H ds vs → ds.all flatD = true → vs.all flatV = true
  | [], vs, r, h => by rw [r.zero]; rfl
  | d :: ds, vs, r, h => by
    unfold RDs at r
    obtain ⟨v, w, rfl, r1, r2⟩ := r
    rw [List.all_cons, Bool.and_eq_true] at h ⊢
    exact ⟨flat_of r1 h.1, flats_of r2 h.2⟩
theorem anyF_of {K : PySem.W.Frag} {H : Hp} {d : Dv} {v : V} (r0 : RD K H d v) (h0 : flatD d = true) : ∀ {ds : List Dv} {vs : List V}, RDs K H ds vs → ds.all flatD = true → inV v vs = ds.any (fun y => eqF y d)
  | [], vs, r, h => by rw [r.zero]; rfl
  | e :: ds, vs, r, h => by
    unfold RDs at r
    obtain ⟨u, w, rfl, r1, r2⟩ := r
    rw [List.all_cons, Bool.and_eq_true] at h
    have ih := anyF_of r0 h0 r2 h.2
    unfold inV at ih ⊢
    rw [List.any_cons, List.any_cons, ih, eqF_of r1 r0 h.1 h0]
/-- x in y: a sign in a text; a flat value in a list or tuple of such -/
def dInB (neg : Bool) : R2d := fun d e M Q => match d, e with
  | .str x, .str z => match x.cps.toList with
    | [c] => Q (.bl (if neg then !decide (c ∈ z.cps.toList) else decide (c ∈ z.cps.toList))) M
    | _ => False
  | d, e => match (match seqL M e with | some xs => some xs | none => seqT e) with
    | some xs => flatD d = true ∧ xs.all flatD = true ∧ Q (.bl (if neg then !xs.any (fun y => eqF y d) else xs.any (fun y => eqF y d))) M
    | none => False
def dIn : R2d := dInB false
def dNotIn : R2d := dInB true
theorem opB_I {f : Value → Value → Sem Value} {neg : Bool} (h1 : OpR X f (fun x y H Q => ∃ (c : Nat) (z : Str), x = .str ⟨#[c]⟩ ∧ y = .str z ∧ Q (.bl (if neg then !decide (c ∈ z.cps.toList) else decide (c ∈ z.cps.toList))) H)) (h2 : OpR X f (rIn X.K neg)) : OpR X f (L2op X.K (dInB neg)) := by
  refine opd_I (r := fun x y H Q => (∃ (c : Nat) (z : Str), x = .str ⟨#[c]⟩ ∧ y = .str z ∧ Q (.bl (if neg then !decide (c ∈ z.cps.toList) else decide (c ∈ z.cps.toList))) H) ∨ rIn X.K neg x y H Q)
    (fun pins s σ H x y v u Q I rx ry h => h.elim (h1 pins s σ H x y v u Q I rx ry) (h2 pins s σ H x y v u Q I rx ry)) fun d e M Qd x y H Q r1 r2 sr q c => ?_
  unfold dInB at q
  split at q
  · rename_i x z
    split at q
    · rename_i k ek
      refine .inl ⟨k, z, ?_, r2.str_of, c _ _ _ _ (.refl sr) .bl q⟩
      rw [r1.str_of]
      have : x = ⟨#[k]⟩ := by
        cases x
        simp only [Str.mk.injEq]
        exact Array.toList_inj.mp ek
      rw [this]
    · exact q.elim
  · split at q
    · rename_i xs e1
      obtain ⟨f1, f2, q⟩ := q
      have : ∃ p vs, y = .ref p ∧ (SqL X.K H p vs ∨ SqT X.K H p vs) ∧ RDs X.K H xs vs := by
        split at e1
        · rename_i ys e2
          cases e1
          obtain ⟨a, vs, rfl, sq, rr⟩ := seqL_ok sr r2 e2
          exact ⟨a, vs, rfl, .inl sq, rr⟩
        · obtain ⟨a, vs, rfl, sq, rr⟩ := seqT_ok r2 e1
          exact ⟨a, vs, rfl, .inr sq, rr⟩
      obtain ⟨p, vs, rfl, sq, rr⟩ := this
      refine .inr ⟨p, vs, rfl, sq, flat_of r1 f1, flats_of rr f2, ?_⟩
      rw [anyF_of r1 f1 rr f2]
      exact c _ _ _ _ (.refl sr) .bl q
    · exact q.elim
theorem od_in : OpR X (compareOp .In) (L2op X.K dIn) := opB_I (neg := false) op_in_sign op_in_seq
theorem od_notin : OpR X (compareOp .NotIn) (L2op X.K dNotIn) := opB_I (neg := true) op_notIn_sign op_notIn_seq
/-! ### s.index(t), xs.extend(ys), divmod -/
def dIndex : RMd := fun d ds M Q => match d, ds with
  | .str a, [.str b] => match Txt.index0 a b with
    | some k => Q (.int (k : Nat)) M
    | none => False
  | _, _ => False
theorem md_index (hc : X.calm = true) : MtR X "str.index" (LMop X.K dIndex) := fun pins s σ H x xs v us Q I rx rs ⟨d, ds, M, Qd, r1, r2, sr, q, c⟩ => by
  refine mt_indexX hc takes_none5 pins s σ H x xs v us Q I rx rs ?_
  unfold dIndex at q
  split at q
  · rename_i a b
    split at q
    · rename_i k e
      obtain ⟨u, rfl, ru⟩ := r2.one
      refine ⟨a, b, r1.str_of, by rw [ru.str_of], fun k' e' => ?_, fun e' => ?_⟩
      · rw [e] at e'
        cases e'
        exact c _ _ _ _ (.refl sr) .int q
      · rw [e] at e'
        cases e'
    · exact q.elim
  · exact q.elim
def dExtend : RMd := fun d ds M Q => match d, ds with
  | .ref a, [.ref b] => match M a, M b with
    | some (.lst xs), some (.lst ys) => xs.length + ys.length ≤ 16777216 ∧ Q .non (mup M a (.lst (xs ++ ys)))
    | _, _ => False
  | _, _ => False
theorem md_extend : MtR X "list.extend" (LMop X.K dExtend) := md_I mt_extend fun d ds M Qd x xs H Q r1 r2 sr q c => by
  unfold dExtend at q
  split at q
  · rename_i a b
    split at q
    · rename_i zs ys e1 e2
      obtain ⟨vs, hv, rr⟩ := own_at sr e1
      obtain ⟨us, hu, ru⟩ := own_at sr e2
      obtain ⟨u, rfl, rb⟩ := r2.one
      rw [r1.ref_of, rb.ref_of]
      exact ⟨a, b, vs, us, rfl, rfl, hv, hu, by rw [← rr.length, ← ru.length, ← line_eq]; exact q.1, c _ _ _ _ (stp_lst sr e1 hv fun H' k => (rr.keep k).app (ru.keep k)) .non q.2⟩
    · exact q.elim
  · exact q.elim
def dDivmod : RNd := fun ds M Q => match ds with
  | [.int i, .int j] => (0 < j ∧ j < 1073741824) ∧ Q (.tup [.int (i / j), .int (i % j)]) M
  | _ => False
theorem cd_divmod : CallR X (.builtin "divmod") (LNop X.K dDivmod) := cd_I call_divmod fun ds M Qd xs H Q rs sr q c => by
  unfold dDivmod at q
  split at q
  · rename_i i j
    obtain ⟨v, u, rfl, r1, r2⟩ := rs.two
    rw [r1.int_of, r2.int_of]
    exact ⟨i, j, rfl, q.1, fun p hp => c _ _ _ _ (Stp.new0 sr hp) (by
      unfold RD
      exact ⟨p, _, rfl, .inl (.inl upd_same), .cons .int (.cons .int .nil)⟩) q.2⟩
  · exact q.elim
end
/-! ### enumerate(text) -/
def ItES (x : Str) : It := ⟨fun i _ => i < x.cps.size, fun i H v H' => ∃ T c, v = .ref T ∧ H T = none ∧ H' = upd H T (.tup [.int (i : Nat), .str ⟨#[c]⟩]) ∧ x.cps[i]? = some c, fun i _ => i = x.cps.size⟩
theorem turn_enumS {P : Program} {w : World} {K : PySem.W.Frag} {elts : List Expr} {kk : Nat} {tpos : Pos} (x : Str) (t : Tok) (e it : Addr) (ty : String) (hty : ty = "str_ascii_iterator" ∨ ty = "str_iterator") :
    Turn P w K (.Tuple elts kk tpos) (ItES x) [e, it] e (fun i h => (∃ old, IsEnum h e it ((i : Nat) : Int) old) ∧ h.IsStrIter it ty x t i ∧ e ≠ it) where
  mem := by simp
  obj := fun i h st b hb => by
    obtain ⟨⟨old, he⟩, ⟨o, ho, hc, hd⟩, _⟩ := st
    have e' : b = e ∨ b = it := by simpa using hb
    rcases e' with z | z
    · rw [z]; exact ⟨_, he, fun v q => nomatch q⟩
    · rw [z]; exact ⟨o, ho, fun v q => by rw [hd] at q; cases q⟩
  keep := fun i h h' st k => let ⟨⟨old, he⟩, ⟨o, ho, r⟩, hne⟩ := st; ⟨⟨old, k e (by simp) _ he⟩, ⟨o, k it (by simp) o ho, r⟩, hne⟩
  item := by
    intro X hP hw hK hc i pins s σ H E I hf st hg
    subst hP hw hK
    obtain ⟨⟨old, he⟩, hit, hne⟩ := st
    have hh : X.A.in1.handled = none := by simp [I.ok.hd hc]
    have D : Draws X.prog X.w X.A.in1 it [it] x.cps.size (fun i v => ∃ c u, x.cps[i]? = some c ∧ v = .str ⟨#[c]⟩ u) (fun i h => h.IsStrIter it ty x t i) := by
      rcases hty with z | z
      · rw [z]; exact Draws.strAscii hh it x t
      · rw [z]; exact Draws.strWide hh it x t
    have hel : e < s.heap.objs.size := Heap.lt_size he
    have hil : it < s.heap.objs.size := by obtain ⟨_, q, _⟩ := hit; exact Heap.lt_size q
    refine wpAny_pyNext_enum_itemD D he hit hg hne (by simpa using hne) fun y h' tk hP ho hit' hT hsz hk => ?_
    obtain ⟨c, u, hcx, rfl⟩ := hP
    refine ⟨_, rfl, wpAny_letOwnedTupleGo_enum (s := { s with heap := h', toks := tk + 1 }) ho fun h'' he' sb => ?_⟩
    have hT2 : h''.get? s.heap.objs.size = some { cls := .type "tuple", data := .seq #[.int i tk, .str ⟨#[c]⟩ u] } := (sb.2 _ (Nat.ne_of_gt hel)).trans hT
    have new : ObjOk X.prog X.w (upd H s.heap.objs.size (.tup [.int (i : Nat), .str ⟨#[c]⟩])) h'' s.heap.objs.size (.tup [.int (i : Nat), .str ⟨#[c]⟩]) :=
      ⟨by show 2 ≤ sizeLine; decide, [.int i tk, .str ⟨#[c]⟩ u], .cons ⟨_, rfl⟩ (.cons ⟨_, rfl⟩ .nil), ⟨_, hT2, rfl, _, rfl⟩⟩
    have I1 : Inv X pins σ (upd H s.heap.objs.size (.tup [.int (i : Nat), .str ⟨#[c]⟩])) { s with heap := h'', toks := tk + 1 } :=
      I.turnedNew (ch := [e, it]) (fun b ob hb q => (sb.2 b (fun z => hb (by simp [z]))).trans (hk b ob (fun z => hb (by simp [z])) (fun z => hb (by simp [z])) q)) hf (Nat.le_refl _) new
    obtain ⟨oi, ei, ci⟩ := hit'
    refine ⟨.ref s.heap.objs.size, _, I1, rfl, ⟨_, c, rfl, I.hok.fresh (Nat.le_refl _), rfl, hcx⟩, ⟨⟨.str ⟨#[c]⟩ u, ?_⟩, ⟨oi, (sb.2 it (Ne.symm hne)).trans ei, ci⟩, hne⟩, fun b hb => ?_⟩
    · have e1 : ((i + 1 : Nat) : Int) = (i : Int) + 1 := by omega
      rw [e1]; exact he'
    · have hb' : b < s.heap.objs.size := by
        have e' : b = e ∨ b = it := by simpa using hb
        rcases e' with z | z
        · rw [z]; exact hel
        · rw [z]; exact hil
      rw [upd_ne (Nat.ne_of_lt hb')]
      exact (hf b hb).1
  done := by
    intro X hP hw hK hc i pins s σ H E I hf st hg
    subst hP hw hK
    obtain ⟨⟨old, he⟩, hit, hne⟩ := st
    have hi : i = x.cps.size := hg
    subst hi
    have hh : X.A.in1.handled = none := by simp [I.ok.hd hc]
    have D : Draws X.prog X.w X.A.in1 it [it] x.cps.size (fun i v => ∃ c u, x.cps[i]? = some c ∧ v = .str ⟨#[c]⟩ u) (fun i h => h.IsStrIter it ty x t i) := by
      rcases hty with z | z
      · rw [z]; exact Draws.strAscii hh it x t
      · rw [z]; exact Draws.strWide hh it x t
    obtain ⟨f0, f1, f2, f3, f4, f5⟩ := hf it (by simp)
    exact wpAny_pyNext_enum_endD D he hit fun h' eb => ⟨rfl, I.turned (t' := s.toks) (fun b o hb q => eb b o hb q) f0 f1 f3 f4 f5⟩
  self := fun A i s Q E st h => let ⟨⟨_, he⟩, _⟩ := st; wpAny_pyIter_enum he h
def iEnumS (ta : TA) : TI := fun σ H R => ta σ H fun vs H1 => ∃ x, vs = [.str x] ∧ R (ItES x) H1
theorem pi_enumS {X : Cx} {e : Expr} {ta : TA} {p pos tpos : Pos} {elts : List Expr} {kk : Nat} (hg : Gl X "enumerate") (hm : X.mg "enumerate" = none) (ha : PA X [e] ta) (hs : starEach [e] X.env = [(false, eval e X.env)] := by rfl) :
    PI X (.Tuple elts kk tpos) (.Call (.Name "enumerate" p) [e] [] pos) (iEnumS ta) := by
  refine ⟨fun pins s σ H R I h => ?_⟩
  refine Call_ (ld_blt I hg hm boot_enumerate (PyProof.Rows.callWith_type1 (thn (ha.run pos pins s σ H _ I h) fun us s1 ⟨vs, H1, I1, r1, q1⟩ => ?_) hs rfl))
  obtain ⟨x, ex, q⟩ := q1
  subst ex
  cases r1 with
  | cons r rr =>
    cases rr
    obtain ⟨t, rfl⟩ := r
    refine call_enumerate_str fun h' he hit hsz hk => wpAny_pyIter_enum he ?_
    have I2 : Inv X pins σ H1 { s1 with heap := h' } := I1.kept (t' := s1.toks) hk
    have hty : strIterType x = "str_ascii_iterator" ∨ strIterType x = "str_iterator" := by
      unfold strIterType
      split
      · exact .inl rfl
      · exact .inr rfl
    refine ⟨s1.heap.objs.size + 1, [s1.heap.objs.size + 1, s1.heap.objs.size], _, _, H1, rfl, I2, turn_enumS x t (s1.heap.objs.size + 1) s1.heap.objs.size _ hty, ⟨⟨.none, he⟩, hit, Nat.succ_ne_self _⟩, fun b hb => ?_, q⟩
    have e' : b = s1.heap.objs.size + 1 ∨ b = s1.heap.objs.size := by simpa using hb
    have hle : s1.heap.objs.size ≤ b := by
      rcases e' with z | z
      · rw [z]; exact Nat.le_add_right _ _
      · rw [z]; exact Nat.le_refl _
    exact I1.fpOk hle (I1.hok.fresh hle)
theorem ites_rel {K : PySem.W.Frag} {M : Mo} {H : Hp} {x : Str} : ItRel K ⟨enumD 0 (signsD x), fun _ => True⟩ M H (ItES x) :=
  ⟨fun i d M1 H1 s o e => by
    obtain ⟨y, hy, rfl⟩ := enumD_get e
    obtain ⟨c, hc, rfl⟩ := signsD_get hy
    refine ⟨(Array.getElem?_eq_some_iff.mp hc).1, fun v H2 z => ?_⟩
    obtain ⟨T, c', rfl, hT, rfl, hc'⟩ := z
    rw [hc] at hc'
    cases hc'
    refine ⟨Stp.new0 s.sr hT, ?_⟩
    rw [Nat.zero_add]
    exact RD.pair .int .str hT, fun M1 H1 s o => by
    show (enumD 0 (signsD x)).length = _
    rw [enumD_length]
    unfold signsD
    simp⟩
def iEnumSD (ta : TAD) : TID := fun sd M R => ta sd M fun ds M1 => match ds with
  | [.str x] => R ⟨enumD 0 (signsD x), fun _ => True⟩ M1
  | _ => False
section
variable {X : Cx} {M0 : Mo} {H0 : Hp}
theorem di_enumS {e : Expr} {ta : TAD} {p pos tpos : Pos} {elts : List Expr} {kk : Nat} (hg : Gl X "enumerate") (hm : X.mg "enumerate" = none) (ha : PAd X M0 H0 [e] ta) (hs : starEach [e] X.env = [(false, eval e X.env)] := by rfl) :
    PId X M0 H0 (.Tuple elts kk tpos) (.Call (.Name "enumerate" p) [e] [] pos) (iEnumSD ta) :=
  PI.imp (pi_enumS hg hm ha hs) fun σ H R ⟨sd, M, Rd, w, q, c⟩ => ⟨sd, M, _, w, q, fun d M1 v H1 s1 r1 q1 => by
    split at q1
    · rename_i x
      obtain ⟨v, rfl, r⟩ := r1.one
      exact ⟨x, by rw [r.str_of], c _ _ _ _ s1 ites_rel q1⟩
    · exact q1.elim⟩
end
/-! ### defs with defaults, calls with keywords -/
section
variable {P : Program} {w : World} {K : PySem.W.Frag} {mg : Str → Option Value} {base : Heap}
theorem okDD {x qual : Str} {params : Arguments} {body : List Stmt} {scope : Scope} {dvs : List V} {kws : List (Str × V)} {f : Addr} {fd : FuncData} {N ps : List Str} {k : Nat} {sp : SpD} (F : FunD K x qual params body scope dvs kws f fd) (S : FnScope N ps scope) (len : ∀ ds M Q E, sp ds M Q E → ds.length = ps.length)
    (hbody : ∀ (cdv : Value) (A : Around) (outer : List Env) (s : Shared) (H : Hp) (M : Mo) (ds : List Dv) (Qd : QD) (Ed : EXD) (E : XK), Room k (A.deeper (envOfC qual scope s.heap.objs.size f cdv)) → CtX K M H (FgE Ed) E → sp ds M Qd Ed →
      ∃ t, PSsd (cxOf (L2.CX P w) P w K mg base N qual scope f cdv A outer s H E) M H body t ∧ t { nx := fun _ M' => Fg Qd .non M', rt := Fg Qd } (startD N ds) M) : FnOk P w K mg base (L2.CX P w) (k + 1) f fd ps (LSp K sp) := by
  refine F.ok S (fun vs H Q E h => ?_) (fun cdv A outer s H vs Q E hr h => ?_)
  · obtain ⟨ds, M, Qd, Ed, r, sr, h, _, _⟩ := h
    rw [← r.length]
    exact len ds M Qd Ed h
  · obtain ⟨ds, M, Qd, Ed, r, sr, h, c, cx⟩ := h
    obtain ⟨t, ht, hq⟩ := hbody cdv A outer s H M ds Qd Ed E hr cx.fg h
    refine ⟨LS K M H t, ht, startD N ds, M, _, ⟨.refl sr, start_rs r⟩, hq, ⟨fun sd M' σ H' s rs ⟨M2, hs, q⟩ => c .non M2 .non H' (s.sub hs) .non q, fun d M' v H' s r ⟨M2, hs, q⟩ => c d M2 v H' (s.sub hs) r q, fun _ _ _ _ _ _ q => q.elim, fun _ _ _ _ _ _ q => q.elim⟩⟩
/-- a def's keyword call binds -/
theorem kbn_of {x qual : Str} {params : Arguments} {body : List Stmt} {scope : Scope} {dvs : List V} {f : Addr} {fd : FuncData} {ps ks : List Str} (F : FunD K x qual params body scope dvs [] f fd) (n : Nat) (hd : dvs ≠ [])
    (h : ∀ (T : Addr) (kV doc pm : Value) (an : Option Addr) (cdv ct : Value) (us its ws : List Value), us.length = n → its.length = dvs.length → ws.length = ks.length →
      ∃ k, bindArgs (PySem.W.fnOf x qual params body scope (.ref T) kV doc pm an cdv ct) ⟨us, ks.zip ws⟩ = seqItems? (.ref T) >>= k ∧ k (some its.toArray) = pure (ps.zip (us ++ ws))) : KBn K fd ps n ks (· ++ ·) (· ++ ·) := by
  obtain ⟨oc, od, dV, kV, doc, pm, an, cdv, ct, osl, rfl, lk, hcd, hD, hK⟩ := F.ex
  rcases hD with ⟨e, _⟩ | ⟨_, T, o, its, m, rfl, lT, oT, rT⟩
  · exact absurd e hd
  · refine ⟨fun s us ws X l1 l2 => ?_, fun r1 r2 => r1.append r2⟩
    obtain ⟨k, e1, e2⟩ := h T kV doc pm an cdv ct us its ws l1 rT.length.symm l2
    refine BindsTo.of_looks fun M => ?_
    rw [e1]
    exact looks_items X lT oT (.of_pure e2)
end
section
variable {X : Cx} {M0 : Mo} {H0 : Hp} {k : Nat} {ps : List Str} {B : FuncData → Prop} {sp : SpD} {ddvs : List Dv} {dvs : List V} {Ed : EXD} {E : XK} {x : Str} {p pos : Pos} {e : Expr} {es : List Expr} {t tk : TAD}
theorem de_callG (F : FnD X.prog X.w X.K X.mg X.base x k ps B sp) (hr : Room k X.A) (hg : Gl X x) (hb : ∀ fd, B fd → ∃ us, Vals dvs us ∧ Binds X.K fd ps us) (hdd : ∀ H, RDs X.K H ddvs dvs)
    (hx : Passes (L2.CX X.prog X.w) X E) (hE : CtX X.K M0 H0 Ed E) (ha : PAd X M0 H0 (e :: es) t) (hdb : (x == ("__debug__" : Str)) = false := by decide) (he : starEach (e :: es) X.env = (false, eval e X.env) :: starEach es X.env := by rfl) (hpl : (backTo pos (starEach es X.env)).any (·.1) = false := by rfl) :
    PEd X M0 H0 (.Call (.Name x p) (e :: es) [] pos) (dCall sp ddvs Ed t) := by
  obtain ⟨f, fd, hm, hk, b, F⟩ := F.ex
  obtain ⟨us, hd, b⟩ := hb fd b
  exact de_call F hr hg hm hk b hd hdd hx hE ha hdb he hpl
/-- f(e, .., k = v, ..), the keywords behind the positional ones in the parameters' order -/
def dCallN (sp : SpD) (n m : Nat) (Ed : EXD) (t tk : TAD) : TED := fun sd M Q => t sd M fun ds M1 => tk sd M1 fun zs M2 => ds.length = n ∧ zs.length = m ∧ sp (ds ++ zs) M2 Q Ed
theorem de_callGN {n : Nat} {ks : List Str} {kws : List Keyword} (F : FnD X.prog X.w X.K X.mg X.base x k ps B sp) (hr : Room k X.A) (hg : Gl X x) (hb : ∀ fd, B fd → KBn X.K fd ps n ks (· ++ ·) (· ++ ·))
    (hx : Passes (L2.CX X.prog X.w) X E) (hE : CtX X.K M0 H0 Ed E) (ha : PAd X M0 H0 (e :: es) t) (hkw : PKd X M0 H0 kws tk) (hall : (backToKw pos (keywordEach kws X.env)).all (·.1.isSome) = true := by rfl) (hks : (backToKw pos (keywordEach kws X.env)).filterMap (·.1) = ks := by rfl)
    (hdb : (x == ("__debug__" : Str)) = false := by decide) (he : starEach (e :: es) X.env = (false, eval e X.env) :: starEach es X.env := by rfl)
    (hpl : ((backTo pos (starEach (e :: es) X.env)).any (·.1) || (backToKw pos (keywordEach kws X.env)).any (·.1.isNone)) = false := by rfl) : PEd X M0 H0 (.Call (.Name x p) (e :: es) kws pos) (dCallN sp n ks.length Ed t tk) := by
  obtain ⟨f, fd, hm, hk, b, F⟩ := F.ex
  exact PE.imp (pe_callN F hr hg hm hk (hb fd b) hx ha hkw hall hks hdb he hpl) fun σ H Q ⟨sd, M, Qd, w, q, c⟩ => ⟨sd, M, _, w, q, fun ds M1 vs H1 s1 r1 q1 => ⟨sd, M1, _, w.on s1, q1, fun zs M2 ws H2 s2 r2 ⟨l1, l2, q2⟩ =>
    ⟨by rw [← r1.length]; exact l1, by rw [← r2.length]; exact l2, ds ++ zs, M2, Qd, Ed, (r1.keep s2.keep).app r2, s2.sr, q2, c.on (s1.trans s2), hE.on (w.st.trans (s1.trans s2))⟩⟩⟩
end
end DL

namespace DL
open PySem PySem.Spec PyProof.Rows L2
section
variable {sd : StD} {M : Mo} {Q : QD} {E : EXD} {d e : Dv} {ds es xs ys : List Dv} {i j : Int} {x y z : Str} {a b : Addr} {c : Nat}
def kLS (d : Dv) (M : Mo) (Q : QD) : Prop := ∃ x : Str, d = .str x ∧ x.length < 4096 ∧ Q (.int (dctN (sgs x) x.length : Nat)) M
theorem i_lenSet {t : TED} (h : t sd M fun d M1 => kLS d M1 Q) : dLenSet t sd M Q := h
theorem i_kLS (h0 : x.length < 4096) (h : Q (.int (dctN (sgs x) x.length : Nat)) M) : kLS (.str x) M Q := ⟨x, rfl, h0, h⟩
theorem i_inS (h : Q (.bl (decide (c ∈ z.cps.toList))) M) : dIn (.str ⟨#[c]⟩) (.str z) M Q := h
theorem i_ninS (h : Q (.bl (!decide (c ∈ z.cps.toList))) M) : dNotIn (.str ⟨#[c]⟩) (.str z) M Q := h
theorem i_inT (h1 : flatD d = true) (h2 : xs.all flatD = true) (h : Q (.bl (xs.any fun y => eqF y d)) M) : dIn d (.tup xs) M Q := by
  unfold dIn dInB
  cases d <;> exact ⟨h1, h2, h⟩
theorem i_ninT (h1 : flatD d = true) (h2 : xs.all flatD = true) (h : Q (.bl (!xs.any fun y => eqF y d)) M) : dNotIn d (.tup xs) M Q := by
  unfold dNotIn dInB
  cases d <;> exact ⟨h1, h2, h⟩
theorem i_inL (h0 : seqL M e = some xs) (h1 : flatD d = true) (h2 : xs.all flatD = true) (h : Q (.bl (xs.any fun y => eqF y d)) M) : dIn d e M Q := by
  have ne : ∀ s, e ≠ .str s := fun s z => by subst z; unfold seqL at h0; cases h0
  unfold dIn dInB
  split
  · exact absurd rfl (ne _)
  · rw [h0]
    exact ⟨h1, h2, h⟩
theorem i_ninL (h0 : seqL M e = some xs) (h1 : flatD d = true) (h2 : xs.all flatD = true) (h : Q (.bl (!xs.any fun y => eqF y d)) M) : dNotIn d e M Q := by
  have ne : ∀ s, e ≠ .str s := fun s z => by subst z; unfold seqL at h0; cases h0
  unfold dNotIn dInB
  split
  · exact absurd rfl (ne _)
  · rw [h0]
    exact ⟨h1, h2, h⟩
theorem i_index {k : Nat} (h0 : x.cps.toList[k]? = some c) (h1 : ∀ j, j < k → x.cps.toList[j]? ≠ some c) (h : Q (.int (k : Nat)) M) : dIndex (.str x) [.str ⟨#[c]⟩] M Q := by
  unfold dIndex
  simp only [index_sign h0 h1]
  exact h
theorem i_extend (h1 : M a = some (.lst xs)) (h2 : M b = some (.lst ys)) (h3 : xs.length + ys.length ≤ 16777216) (q : Q .non (mup M a (.lst (xs ++ ys)))) : dExtend (.ref a) [.ref b] M Q := by
  unfold dExtend
  simp only [h1, h2]
  exact ⟨h3, q⟩
theorem i_divmod (h1 : 0 < j) (h2 : j < 1073741824) (h : Q (.tup [.int (i / j), .int (i % j)]) M) : dDivmod [.int i, .int j] M Q := ⟨⟨h1, h2⟩, h⟩
def kEnS (ds : List Dv) (F : Str → Prop) : Prop := match ds with
  | [.str x] => F x
  | _ => False
theorem i_enSI {t : TAD} {R : ItD → Mo → Prop} (h : t sd M fun ds M1 => kEnS ds fun x => R ⟨enumD 0 (signsD x), fun _ => True⟩ M1) : iEnumSD t sd M R := by
  have : (fun (ds : List Dv) (M1 : Mo) => kEnS ds fun x => R ⟨enumD 0 (signsD x), fun _ => True⟩ M1) = fun ds M1 => match ds with
      | [.str x] => R ⟨enumD 0 (signsD x), fun _ => True⟩ M1
      | _ => False := by
    funext ds M1
    unfold kEnS
    split <;> rfl
  rw [this] at h
  exact h
theorem i_kEnS {F : Str → Prop} (h : F x) : kEnS [.str x] F := h
/-- calls with defaults and keywords: the arguments put together -/
def kA (sp : SpD) (ds es : List Dv) (M : Mo) (Q : QD) (E : EXD) : Prop := sp (ds ++ es) M Q E
theorem i_callD {sp : SpD} {v : Dv} {vs : List Dv} {t : TAD} (h : t sd M fun ds M1 => kA sp ds (v :: vs) M1 Q E) : dCall sp (v :: vs) E t sd M Q := h
section
variable {sp : SpD} {d1 d2 d3 d4 d5 : Dv}
theorem i_kA11 (h : sp [d1, d2] M Q E) : kA sp [d1] [d2] M Q E := h
theorem i_kA12 (h : sp [d1, d2, d3] M Q E) : kA sp [d1] [d2, d3] M Q E := h
theorem i_kA21 (h : sp [d1, d2, d3] M Q E) : kA sp [d1, d2] [d3] M Q E := h
theorem i_kA22 (h : sp [d1, d2, d3, d4] M Q E) : kA sp [d1, d2] [d3, d4] M Q E := h
theorem i_kA13 (h : sp [d1, d2, d3, d4] M Q E) : kA sp [d1] [d2, d3, d4] M Q E := h
theorem i_kA31 (h : sp [d1, d2, d3, d4] M Q E) : kA sp [d1, d2, d3] [d4] M Q E := h
def kN (sp : SpD) (n m : Nat) (ds zs : List Dv) (M : Mo) (Q : QD) (E : EXD) : Prop := ds.length = n ∧ zs.length = m ∧ sp (ds ++ zs) M Q E
theorem i_callN {n m : Nat} {t tk : TAD} (h : t sd M fun ds M1 => tk sd M1 fun zs M2 => kN sp n m ds zs M2 Q E) : dCallN sp n m E t tk sd M Q := h
theorem i_kN11 {n m : Nat} (h1 : 1 = n) (h2 : 1 = m) (h : sp [d1, d2] M Q E) : kN sp n m [d1] [d2] M Q E := ⟨h1, h2, h⟩
theorem i_kN12 {n m : Nat} (h1 : 1 = n) (h2 : 2 = m) (h : sp [d1, d2, d3] M Q E) : kN sp n m [d1] [d2, d3] M Q E := ⟨h1, h2, h⟩
theorem i_kN21 {n m : Nat} (h1 : 2 = n) (h2 : 1 = m) (h : sp [d1, d2, d3] M Q E) : kN sp n m [d1, d2] [d3] M Q E := ⟨h1, h2, h⟩
theorem i_kN22 {n m : Nat} (h1 : 2 = n) (h2 : 2 = m) (h : sp [d1, d2, d3, d4] M Q E) : kN sp n m [d1, d2] [d3, d4] M Q E := ⟨h1, h2, h⟩
theorem i_kN31 {n m : Nat} (h1 : 3 = n) (h2 : 1 = m) (h : sp [d1, d2, d3, d4] M Q E) : kN sp n m [d1, d2, d3] [d4] M Q E := ⟨h1, h2, h⟩
theorem i_kN13 {n m : Nat} (h1 : 1 = n) (h2 : 3 = m) (h : sp [d1, d2, d3, d4] M Q E) : kN sp n m [d1] [d2, d3, d4] M Q E := ⟨h1, h2, h⟩
end
end
/-! ### unlike signs -/
theorem any_take {xs : List Str} {i : Nat} (hi : i < xs.length) : ((xs.take i).any (· == xs.getD i Str.empty)) = decide (xs[i] ∈ xs.take i) := by
  have e1 : xs.getD i Str.empty = xs[i] := by
    rw [List.getD_eq_getElem?_getD, List.getElem?_eq_getElem hi]
    rfl
  rw [e1, Bool.eq_iff_iff]
  simp
theorem dctN_nodup {xs : List Str} (h : xs.Nodup) : ∀ i, i ≤ xs.length → dctN xs i = i
  | 0, _ => rfl
  | i + 1, hi => by
    unfold dctN
    rw [any_take (by omega), dctN_nodup h i (by omega), decide_eq_false, if_neg Bool.false_ne_true]
    intro hm
    obtain ⟨j, hj, e⟩ := List.mem_iff_getElem.mp hm
    rw [List.getElem_take] at e
    rw [List.length_take] at hj
    have := (List.nodup_iff_pairwise_ne.mp h)
    have := List.pairwise_iff_getElem.mp this j i (by omega) (by omega) (by omega)
    exact this e
theorem dctN_dup {xs : List Str} {i j : Nat} (hij : i < j) (hj : j < xs.length) (e : xs[i] = xs[j]) : ∀ n, j < n → dctN xs n < n
  | 0, h => by omega
  | n + 1, h => by
    by_cases hn : j = n
    · subst hn
      unfold dctN
      rw [any_take hj, decide_eq_true, if_pos rfl]
      · have := dctN_le xs j
        omega
      · rw [← e]
        exact List.mem_iff_getElem.mpr ⟨i, by rw [List.length_take]; omega, by rw [List.getElem_take]⟩
    · have := dctN_dup hij hj e n (by omega)
      unfold dctN
      split <;> omega
theorem sgs_nodup {x : Str} (h : x.cps.toList.Nodup) : (sgs x).Nodup := by
  unfold sgs
  refine List.nodup_iff_pairwise_ne.mpr (List.pairwise_map.mpr ?_)
  exact (List.nodup_iff_pairwise_ne.mp h).imp fun {a b} hne e => hne (by
    have e2 : (#[a] : Array Nat) = #[b] := congrArg Str.cps e
    simpa using e2)
theorem set_nodup {x : Str} (h : x.cps.toList.Nodup) : dctN (sgs x) x.length = x.length := dctN_nodup (sgs_nodup h) _ (by rw [sgs_len]; exact Nat.le_refl _)
theorem set_dup {x : Str} (h : ¬ x.cps.toList.Nodup) : dctN (sgs x) x.length < x.length := by
  have h2 : ∃ i j, ∃ (hi : i < j) (hj : j < x.cps.toList.length), x.cps.toList[i] = x.cps.toList[j] := by
    refine Classical.byContradiction fun hn => h ?_
    refine List.nodup_iff_pairwise_ne.mpr (List.pairwise_iff_getElem.mpr fun i j hi hj hij e => hn ⟨i, j, hij, hj, e⟩)
  obtain ⟨i, j, hi, hj, e⟩ := h2
  have hz : (sgs x).length = x.cps.toList.length := by simp [sgs]
  refine dctN_dup (i := i) (j := j) hi (by omega) ?_ _ (by rw [show x.length = x.cps.toList.length by simp [Str.length]]; exact hj)
  simp only [sgs, List.getElem_map]
  rw [e]
end DL

namespace DL
open PySem PySem.Spec PyProof.Rows L2
/-- one step back, found by the goal's head -/
class Step (A : Prop) (B : outParam Prop) : Prop where
  go : B → A
/-- slots by number -/
class GetAt (sd : StD) (n : Nat) (d : outParam Dv) : Prop where
  eq : sd[n]? = some (some d)
class SetAt (sd : StD) (n : Nat) (v : Option Dv) (sd' : outParam StD) : Prop where
  eq : sd.set n v = sd'
class StartAt (N : List Str) (ds : List Dv) (sd : outParam StD) : Prop where
  eq : startD N ds = sd
instance ga_0 {d : Dv} {r : StD} : GetAt (some d :: r) 0 d := ⟨rfl⟩
instance ga_s {d : Dv} {o : Option Dv} {r : StD} {n : Nat} [g : GetAt r n d] : GetAt (o :: r) (n + 1) d := ⟨g.eq⟩
instance sa_0 {v o : Option Dv} {r : StD} : SetAt (o :: r) 0 v (v :: r) := ⟨rfl⟩
instance sa_s {v o : Option Dv} {r r' : StD} {n : Nat} [g : SetAt r n v r'] : SetAt (o :: r) (n + 1) v (o :: r') := ⟨congrArg (o :: ·) g.eq⟩
instance st_0 : StartAt [] [] [] := ⟨rfl⟩
instance st_n {x : Str} {N : List Str} {sd : StD} [g : StartAt N [] sd] : StartAt (x :: N) [] (none :: sd) := ⟨by
  rw [← g.eq]
  rfl⟩
instance st_c {x : Str} {N : List Str} {d : Dv} {ds : List Dv} {sd : StD} [g : StartAt N ds sd] : StartAt (x :: N) (d :: ds) (some d :: sd) := ⟨by
  rw [← g.eq]
  unfold startD
  rw [List.length_cons, List.length_cons, Nat.add_sub_add_right]
  rfl⟩
instance ga_st {N : List Str} {ds : List Dv} {sd : StD} {n : Nat} {d : Dv} [s : StartAt N ds sd] [g : GetAt sd n d] : GetAt (startD N ds) n d := ⟨by rw [s.eq]; exact g.eq⟩
instance sa_st {N : List Str} {ds : List Dv} {sd sd' : StD} {n : Nat} {v : Option Dv} [s : StartAt N ds sd] [g : SetAt sd n v sd'] : SetAt (startD N ds) n v sd' := ⟨by rw [s.eq]; exact g.eq⟩
class NormAt (sd : StD) (sd' : outParam StD) : Prop where
  eq : sd = sd'
instance na_n : NormAt [] [] := ⟨rfl⟩
instance na_c {o : Option Dv} {r : StD} : NormAt (o :: r) (o :: r) := ⟨rfl⟩
instance na_st {N : List Str} {ds : List Dv} {sd : StD} [s : StartAt N ds sd] : NormAt (startD N ds) sd := ⟨s.eq⟩
instance na_w0 {sd sd' : StD} [s : NormAt sd sd'] : NormAt (wipeD sd []) sd' := ⟨s.eq⟩
instance na_wc {sd sd1 sd2 : StD} {v : Nat} {vs : List Nat} [s : NormAt (wipeD sd vs) sd1] [g : SetAt sd1 v none sd2] : NormAt (wipeD sd (v :: vs)) sd2 := ⟨by
  have e := s.eq
  show (wipeD sd vs).set v none = sd2
  rw [e, g.eq]⟩
instance na_m0 {sd sd' : StD} {f : Str × Nat → Nat} [s : NormAt sd sd'] : NormAt (wipeD sd (List.map f [])) sd' := ⟨s.eq⟩
instance na_mc {sd sd1 sd2 : StD} {f : Str × Nat → Nat} {q : Str × Nat} {l : List (Str × Nat)} [s : NormAt (wipeD sd (List.map f l)) sd1] [g : SetAt sd1 (f q) none sd2] : NormAt (wipeD sd (List.map f (q :: l))) sd2 := ⟨by
  have e := s.eq
  show (wipeD sd (List.map f l)).set (f q) none = sd2
  rw [e, g.eq]⟩
instance ga_w {sd sd' : StD} {vs : List Nat} {n : Nat} {d : Dv} [s : NormAt (wipeD sd vs) sd'] [g : GetAt sd' n d] : GetAt (wipeD sd vs) n d := ⟨by rw [s.eq]; exact g.eq⟩
instance sa_w {sd sd' sd2 : StD} {vs : List Nat} {n : Nat} {v : Option Dv} [s : NormAt (wipeD sd vs) sd'] [g : SetAt sd' n v sd2] : SetAt (wipeD sd vs) n v sd2 := ⟨by rw [s.eq]; exact g.eq⟩
def kSetN (n : Nat) (z : Dv) (sd : StD) (M : Mo) (a : StD → Mo → Prop) : Prop := a (sd.set n (some z)) M
section
variable {X : Cx} {M0 : Mo} {H0 : Hp}
theorem de_globSx {x z : Str} {pos : Pos} (hg : Gl X x) (hm : ∃ t, X.mg x = some (.str z t)) (hd : (x == ("__debug__" : Str)) = false := by decide) : PEd X M0 H0 (.Name x pos) (dC (.str z)) := by
  obtain ⟨t, h⟩ := hm
  exact de_globS hg h hd
theorem de_globIx {x : Str} {i : Int} {pos : Pos} (hg : Gl X x) (hm : ∃ t, X.mg x = some (.int i t)) (hd : (x == ("__debug__" : Str)) = false := by decide) : PEd X M0 H0 (.Name x pos) (dC (.int i)) := by
  obtain ⟨t, h⟩ := hm
  exact de_globI hg h hd
end
section
variable {M : Mo} {Q : QD} {E : EXD} {d e : Dv} {sd sd' : StD} {D : EndsD} {n : Nat}
instance s_var [g : GetAt sd n d] : Step (dVar n sd M Q) (Q d M) := ⟨i_var g.eq⟩
instance s_gN {R : StD → Mo → Prop} [g : SetAt sd n (some d) sd'] : Step (gN n d sd M R) (R sd' M) := ⟨fun h => i_gN (by rw [g.eq]; exact h)⟩
instance s_dGn {R : StD → Mo → Prop} [g : SetAt sd n (some d) sd'] : Step (dG (.nm n) d sd M R) (R sd' M) := ⟨fun h => i_dGn (by rw [g.eq]; exact h)⟩
end
section
variable {M : Mo} {Q : QD} {E : EXD} {d e : Dv} {sd sd' : StD} {n : Nat} {a b c : StD → Mo → Prop} {r : QD}
instance s_seq {t u : TSD} : Step (dSeq t u ⟨a, r, b, c⟩ sd M) (t ⟨u ⟨a, r, b, c⟩, r, b, c⟩ sd M) := ⟨fun h => h⟩
instance s_next : Step (dNext ⟨a, r, b, c⟩ sd M) (a sd M) := ⟨fun h => h⟩
instance s_asg {te : TED} {g : TGD} : Step (dAsg te g ⟨a, r, b, c⟩ sd M) (te sd M fun d M1 => g d sd M1 a) := ⟨fun h => h⟩
instance s_ret {te : TED} : Step (dRet te ⟨a, r, b, c⟩ sd M) (te sd M r) := ⟨fun h => h⟩
instance s_retN : Step (dRetN ⟨a, r, b, c⟩ sd M) (r .non M) := ⟨fun h => h⟩
instance s_drop {te : TED} : Step (dDrop te ⟨a, r, b, c⟩ sd M) (te sd M fun _ M1 => a sd M1) := ⟨fun h => h⟩
instance s_brk : Step (dBreak ⟨a, r, b, c⟩ sd M) (b sd M) := ⟨fun h => h⟩
instance s_cnt : Step (dCont ⟨a, r, b, c⟩ sd M) (c sd M) := ⟨fun h => h⟩
instance s_aug {te : TED} {rd : R2d} [g : GetAt sd n d] : Step (dAug n te rd ⟨a, r, b, c⟩ sd M) (te sd M fun y M1 => rd d y M1 fun z M2 => kSetN n z sd M2 a) := ⟨fun h => i_aug g.eq h⟩
instance s_kSetN [g : SetAt sd n (some d) sd'] : Step (kSetN n d sd M a) (a sd' M) := ⟨fun h => by unfold kSetN; rw [g.eq]; exact h⟩
/-- a loop, its items told -/
def kFor (J : ItD) (g : TGD) (tb : TSD) (a : StD → Mo → Prop) (r : QD) (sd : StD) (M : Mo) : Prop := ∃ W : Nat → StD → Mo → Prop, W 0 sd M ∧ (∀ i sd M, i ≤ J.ds.length → W i sd M → J.ok M) ∧
  (∀ i d sd M, J.ds[i]? = some d → W i sd M → g d sd M fun sd2 M2 => tb ⟨W (i + 1), r, a, W (i + 1)⟩ sd2 M2) ∧ ∀ sd M, W J.ds.length sd M → a sd M
instance s_for {wi : TID} {g : TGD} {tb : TSD} : Step (dFor wi g tb ⟨a, r, b, c⟩ sd M) (wi sd M fun J M1 => kFor J g tb a r sd M1) := ⟨fun h => h⟩
theorem fo_rng {lo : Int} {n : Nat} {g : TGD} {tb : TSD} (W : Nat → StD → Mo → Prop) (h0 : W 0 sd M)
    (hs : ∀ i sd M, i < n → W i sd M → g (.int (lo + (i : Nat))) sd M fun sd2 M2 => tb ⟨W (i + 1), r, a, W (i + 1)⟩ sd2 M2) (hd : ∀ sd M, W n sd M → a sd M) :
    kFor ⟨rngD lo n, fun _ => True⟩ g tb a r sd M := by
  refine ⟨W, h0, fun _ _ _ _ _ => trivial, fun i d sd M e hw => ?_, fun sd M hw => ?_⟩
  · obtain ⟨hi, rfl⟩ := rngD_get e
    exact hs i sd M hi hw
  · have e : (ItD.mk (rngD lo n) fun _ => True).ds.length = n := rngD_length lo n
    rw [e] at hw
    exact hd sd M hw
theorem fo_own {p : Addr} {ds : List Dv} {g : TGD} {tb : TSD} (W : Nat → StD → Mo → Prop) (h0 : W 0 sd M) (hok : ∀ i sd M, i ≤ ds.length → W i sd M → M p = some (.lst ds))
    (hs : ∀ i d sd M, ds[i]? = some d → W i sd M → g d sd M fun sd2 M2 => tb ⟨W (i + 1), r, a, W (i + 1)⟩ sd2 M2) (hd : ∀ sd M, W ds.length sd M → a sd M) :
    kFor ⟨ds, fun M => M p = some (.lst ds)⟩ g tb a r sd M := ⟨W, h0, hok, hs, hd⟩
theorem fo_fz {ds : List Dv} {g : TGD} {tb : TSD} (W : Nat → StD → Mo → Prop) (h0 : W 0 sd M)
    (hs : ∀ i d sd M, ds[i]? = some d → W i sd M → g d sd M fun sd2 M2 => tb ⟨W (i + 1), r, a, W (i + 1)⟩ sd2 M2) (hd : ∀ sd M, W ds.length sd M → a sd M) :
    kFor ⟨ds, fun _ => True⟩ g tb a r sd M := ⟨W, h0, fun _ _ _ _ _ => trivial, hs, hd⟩
/-- while, by an invariant and a measure -/
theorem wh {t : TTD} {tb : TSD} (W : Nat → StD → Mo → Prop) (m : Nat) (h0 : W m sd M) (turn : ∀ m sd M, W m sd M → t sd M fun k M1 => if k = true then tb ⟨fun sd' M' => ∃ m', m' < m ∧ W m' sd' M', r, a, fun sd' M' => ∃ m', m' < m ∧ W m' sd' M'⟩ sd M1 else a sd M1) : dWhile t tb ⟨a, r, b, c⟩ sd M :=
  ⟨W, ⟨m, h0⟩, turn⟩
end
instance s_isN_non {M : Mo} {Q : QD} : Step (dIsN (.non) .non M Q) (Q (.bl true) M) := ⟨fun h => h⟩
instance s_notN_non {M : Mo} {Q : QD} : Step (dNotN (.non) .non M Q) (Q (.bl false) M) := ⟨fun h => h⟩
instance s_isN_bl {M : Mo} {Q : QD} {b : Bool} : Step (dIsN (.bl b) .non M Q) (Q (.bl false) M) := ⟨fun h => h⟩
instance s_notN_bl {M : Mo} {Q : QD} {b : Bool} : Step (dNotN (.bl b) .non M Q) (Q (.bl true) M) := ⟨fun h => h⟩
instance s_isN_int {M : Mo} {Q : QD} {i : Int} : Step (dIsN (.int i) .non M Q) (Q (.bl false) M) := ⟨fun h => h⟩
instance s_notN_int {M : Mo} {Q : QD} {i : Int} : Step (dNotN (.int i) .non M Q) (Q (.bl true) M) := ⟨fun h => h⟩
instance s_isN_str {M : Mo} {Q : QD} {x : Str} : Step (dIsN (.str x) .non M Q) (Q (.bl false) M) := ⟨fun h => h⟩
instance s_notN_str {M : Mo} {Q : QD} {x : Str} : Step (dNotN (.str x) .non M Q) (Q (.bl true) M) := ⟨fun h => h⟩
instance s_isN_tup {M : Mo} {Q : QD} {ds : List Dv} : Step (dIsN (.tup ds) .non M Q) (Q (.bl false) M) := ⟨fun h => h⟩
instance s_notN_tup {M : Mo} {Q : QD} {ds : List Dv} : Step (dNotN (.tup ds) .non M Q) (Q (.bl true) M) := ⟨fun h => h⟩
instance s_isN_lst {M : Mo} {Q : QD} {ds : List Dv} : Step (dIsN (.lst ds) .non M Q) (Q (.bl false) M) := ⟨fun h => h⟩
instance s_notN_lst {M : Mo} {Q : QD} {ds : List Dv} : Step (dNotN (.lst ds) .non M Q) (Q (.bl true) M) := ⟨fun h => h⟩
instance s_isN_ref {M : Mo} {Q : QD} {p : Addr} : Step (dIsN (.ref p) .non M Q) (Q (.bl false) M) := ⟨fun h => h⟩
instance s_notN_ref {M : Mo} {Q : QD} {p : Addr} : Step (dNotN (.ref p) .non M Q) (Q (.bl true) M) := ⟨fun h => h⟩
theorem e_mup {M : Mo} {a p : Addr} {o : OO} {r : Option OO} (h : a ≠ p) (q : M a = r) : mup M p o a = r := (mup_ne h).trans q
section
variable {M : Mo} {Q : QD} {E : EXD} {d e : Dv} {i j : Int} {x y z : Str} {xs ys ds es : List Dv} {a b : Addr} {c : Nat} {sd : StD} {D : EndsD} {sp : SpD} {d1 d2 d3 d4 d5 : Dv}
instance s_if {c : TTD} {t u : TSD} : Step (dIfS c t u D sd M) (c sd M fun b M1 => if b = true then t D sd M1 else u D sd M1) := ⟨i_if⟩
instance s_c  : Step (dC d sd M Q) (Q d M) := ⟨i_c⟩
instance s_op {rd : R2d} {ta tb : TED} : Step (dOp rd ta tb sd M Q) (ta sd M fun d M1 => tb sd M1 fun e M2 => rd d e M2 Q) := ⟨i_op⟩
instance s_neg {ta : TED} : Step (dNeg ta sd M Q) (ta sd M fun d M1 => kI d fun i => Q (.int (-i)) M1) := ⟨i_neg⟩
instance s_kI {R : Int → Prop} : Step (kI (.int i) R) (R i) := ⟨i_kI⟩
instance s_kB {R : Bool → Prop} {b : Bool} : Step (kB (.bl b) R) (R b) := ⟨i_kB⟩
instance s_ifx {c : TTD} {ta tb : TED} : Step (dIf c ta tb sd M Q) (c sd M fun k M1 => if k = true then ta sd M1 Q else tb sd M1 Q) := ⟨i_ifx⟩
instance s_gCn {t : TGD} {u : TGsD} {R : StD → Mo → Prop} : Step (gCn t u (d :: ds) sd M R) (t d sd M fun sd' M' => u ds sd' M' R) := ⟨i_gCn⟩
instance s_gNl {R : StD → Mo → Prop} : Step (gNl [] sd M R) (R sd M) := ⟨i_gNl⟩
instance s_gSb {to ti : TED} {t : TSetD} {R : StD → Mo → Prop} : Step (gSb to ti t d sd M R) (to sd M fun o M1 => ti sd M1 fun i M2 => t o i d M2 fun M3 => R sd M3) := ⟨i_gSb⟩
instance s_nilA {R : List Dv → Mo → Prop} : Step (dNilA sd M R) (R [] M) := ⟨i_nilA⟩
instance s_consA {ta : TED} {tr : TAD} {R : List Dv → Mo → Prop} : Step (dConsA ta tr sd M R) (ta sd M fun d M1 => tr sd M1 fun ds M2 => R (d :: ds) M2) := ⟨i_consA⟩
instance s_tup {t : TAD} : Step (dTup t sd M Q) (t sd M fun ds M1 => ds.length ≤ 1000 ∧ Q (.tup ds) M1) := ⟨i_tup⟩
instance s_lst {t : TAD} : Step (dLst t sd M Q) (t sd M fun ds M1 => ds.length ≤ 1000 ∧ ∀ p, M1 p = none → Q (.ref p) (mup M1 p (.lst ds))) := ⟨i_lst⟩
instance s_cb {rd : RNd} {t : TAD} : Step (dCB rd t sd M Q) (t sd M fun ds M1 => rd ds M1 Q) := ⟨i_cb⟩
instance s_bm {T : String} {rd : RMd} {to : TED} {t : TAD} : Step (dBM T rd to t sd M Q) (to sd M fun d M1 => tyD T d M1 ∧ t sd M1 fun ds M2 => rd d ds M2 Q) := ⟨i_bm⟩
instance s_bm0 {T : String} {rd : RMd} {to : TED} : Step (dBM0 T rd to sd M Q) (to sd M fun d M1 => tyD T d M1 ∧ rd d [] M1 Q) := ⟨i_bm0⟩
instance s_call {sp : SpD} {Ed : EXD} {t : TAD} : Step (dCall sp [] Ed t sd M Q) (t sd M fun ds M1 => sp ds M1 Q Ed) := ⟨i_call⟩
instance s_test {t : TED} {R : Bool → Mo → Prop} : Step (dTest t sd M R) (t sd M fun d M1 => kB d fun b => R b M1) := ⟨i_test⟩
instance s_truth {t : TED} {R : Bool → Mo → Prop} : Step (dTruth t sd M R) (t sd M fun d M1 => dTru M1 d fun b => R b M1) := ⟨i_truth⟩
instance s_truB {b : Bool} {R : Bool → Prop} : Step (dTru M (.bl b) R) (R b) := ⟨i_truB⟩
instance s_truI {R : Bool → Prop} : Step (dTru M (.int i) R) (R (i != 0)) := ⟨i_truI⟩
instance s_truN {R : Bool → Prop} : Step (dTru M .non R) (R false) := ⟨i_truN⟩
instance s_truT {R : Bool → Prop} : Step (dTru M (.tup ds) R) (R (!ds.isEmpty)) := ⟨i_truT⟩
instance s_truL {R : Bool → Prop} : Step (dTru M (.lst ds) R) (R (!ds.isEmpty)) := ⟨i_truL⟩
instance s_and2 {t u : TTD} {R : Bool → Mo → Prop} : Step (dAnd2 t u sd M R) (t sd M fun c M1 => if c = true then u sd M1 R else R false M1) := ⟨i_and2⟩
instance s_or2 {t u : TTD} {R : Bool → Mo → Prop} : Step (dOr2 t u sd M R) (t sd M fun c M1 => if c = true then R true M1 else u sd M1 R) := ⟨i_or2⟩
instance s_not {t : TTD} {R : Bool → Mo → Prop} : Step (dNot t sd M R) (t sd M fun c M1 => R (!c) M1) := ⟨i_not⟩
instance s_andV {ta tb : TED} : Step (dAndV ta tb sd M Q) (ta sd M fun d M1 => kB d fun c => if c = true then tb sd M1 Q else Q (.bl false) M1) := ⟨i_andV⟩
instance s_orV {ta tb : TED} : Step (dOrV ta tb sd M Q) (ta sd M fun d M1 => kB d fun c => if c = true then Q (.bl true) M1 else tb sd M1 Q) := ⟨i_orV⟩
instance s_notV {ta : TED} : Step (dNotV ta sd M Q) (ta sd M fun d M1 => kB d fun c => Q (.bl (!c)) M1) := ⟨i_notV⟩
instance s_chain {r r' : R2d} {ta tb tc : TED} : Step (dChain r r' ta tb tc sd M Q) (ta sd M fun x M1 => tb sd M1 fun y M2 => r x y M2 fun z M3 => kB z fun k => if k = true then tc sd M3 fun u M4 => r' y u M4 Q else Q (.bl false) M3) := ⟨i_chain⟩
instance s_I0 {g : Int → Int → Dv} : Step (dI0 g (.int i) (.int j) M Q) (Q (g i j) M) := ⟨i_I0⟩
instance s_addI  : Step (dAdd (.int i) (.int j) M Q) (Q (.int (i + j)) M) := ⟨i_addI⟩
instance s_iaddI  : Step (dIAdd (.int i) (.int j) M Q) (Q (.int (i + j)) M) := ⟨i_iaddI⟩
instance s_eqI  : Step (dEq (.int i) (.int j) M Q) (Q (.bl (decide (i = j))) M) := ⟨i_eqI⟩
instance s_eqS  : Step (dEq (.str x) (.str y) M Q) (Q (.bl (decide (x = y))) M) := ⟨i_eqS⟩
instance s_eqB {b c : Bool} : Step (dEq (.bl b) (.bl c) M Q) (Q (.bl (decide (b = c))) M) := ⟨i_eqB⟩
instance s_neI  : Step (dNe (.int i) (.int j) M Q) (Q (.bl (!decide (i = j))) M) := ⟨i_neI⟩
instance s_neS  : Step (dNe (.str x) (.str y) M Q) (Q (.bl (!decide (x = y))) M) := ⟨i_neS⟩
instance s_neB {b c : Bool} : Step (dNe (.bl b) (.bl c) M Q) (Q (.bl (!decide (b = c))) M) := ⟨i_neB⟩
instance s_sl {te : TED} {tl th : TOD} : Step (dSl te tl th sd M Q) (te sd M fun d M1 => tl sd M1 fun lo M2 => th sd M2 fun hi M3 => dSlV d lo hi M3 Q) := ⟨i_sl⟩
instance s_no {R : Option Int → Mo → Prop} : Step (dNo sd M R) (R none M) := ⟨i_no⟩
instance s_part {t : TED} {R : Option Int → Mo → Prop} : Step (dPart t sd M R) (t sd M fun d M1 => kI d fun i => R (some i) M1) := ⟨i_part⟩
instance s_ift {A B : Prop} : Step (if true = true then A else B) (A) := ⟨i_ift⟩
instance s_iff {A B : Prop} : Step (if false = true then A else B) (B) := ⟨i_iff⟩
instance s_kR1 {F : Int → Prop} : Step (kR1 [.int i] F) (F i) := ⟨i_kR1⟩
instance s_kR2 {F : Int → Int → Prop} : Step (kR2 [.int i, .int j] F) (F i j) := ⟨i_kR2⟩
instance s_rngA {ta : TAD} {R : ItD → Mo → Prop} : Step (iRng1D ta sd M R) (ta sd M fun ds M1 => kR1 ds fun j => j < 4611686018427387904 ∧ -4611686018427387904 ≤ j ∧ R ⟨rngD 0 j.toNat, fun _ => True⟩ M1) := ⟨i_rngA⟩
instance s_rngB {ta : TAD} {R : ItD → Mo → Prop} : Step (iRng2D ta sd M R) (ta sd M fun ds M1 => kR2 ds fun i j => (i < 4611686018427387904 ∧ -4611686018427387904 ≤ i ∧ j < 4611686018427387904 ∧ -4611686018427387904 ≤ j) ∧ R ⟨rngD i (j - i).toNat, fun _ => True⟩ M1) := ⟨i_rngB⟩
instance s_seqI {t : TED} {R : ItD → Mo → Prop} : Step (iSeq t sd M R) (t sd M fun d M1 => kSq M1 d fun ds ok => R ⟨ds, ok⟩ M1) := ⟨i_seqI⟩
instance s_kSqL {F : List Dv → (Mo → Prop) → Prop} : Step (kSq M (.lst ds) F) (F ds fun _ => True) := ⟨i_kSqL⟩
instance s_kStr {F : Str → Prop} : Step (kStr (.str x) F) (F x) := ⟨i_kStr⟩
instance s_strI {t : TED} {R : ItD → Mo → Prop} : Step (iStrD t sd M R) (t sd M fun d M1 => kStr d fun x => R ⟨signsD x, fun _ => True⟩ M1) := ⟨i_strI⟩
instance s_kTup {F : List Dv → Prop} : Step (kTup (.tup ds) F) (F ds) := ⟨i_kTup⟩
instance s_tupI {t : TED} {R : ItD → Mo → Prop} : Step (iTupD t sd M R) (t sd M fun d M1 => kTup d fun ds => R ⟨ds, fun _ => True⟩ M1) := ⟨i_tupI⟩
instance s_enI {t : TAD} {R : ItD → Mo → Prop} : Step (iEnumD t sd M R) (t sd M fun ds M1 => kEn M1 ds fun es ok => R ⟨es, ok⟩ M1) := ⟨i_enI⟩
instance s_kEnL {F : List Dv → (Mo → Prop) → Prop} : Step (kEn M [.lst ds] F) (F (enumD 0 ds) fun _ => True) := ⟨i_kEnL⟩
instance s_yes {R : Bool → Mo → Prop} : Step (dYes sd M R) (R true M) := ⟨i_yes⟩
instance s_dGt {ts : List Tgt} {R : StD → Mo → Prop} : Step (dG (.tp ts) d sd M R) (gTp ts.length (dGs ts) d sd M R) := ⟨i_dGt⟩
instance s_dGc {t : Tgt} {ts : List Tgt} {R : StD → Mo → Prop} : Step (dGs (t :: ts) (d :: ds) sd M R) (dG t d sd M fun sd' M' => dGs ts ds sd' M' R) := ⟨i_dGc⟩
instance s_dG0 {R : StD → Mo → Prop} : Step (dGs [] [] sd M R) (R sd M) := ⟨i_dG0⟩
instance s_lenSet {t : TED} : Step (dLenSet t sd M Q) (t sd M fun d M1 => kLS d M1 Q) := ⟨i_lenSet⟩
instance s_inS  : Step (dIn (.str ⟨#[c]⟩) (.str z) M Q) (Q (.bl (decide (c ∈ z.cps.toList))) M) := ⟨i_inS⟩
instance s_ninS  : Step (dNotIn (.str ⟨#[c]⟩) (.str z) M Q) (Q (.bl (!decide (c ∈ z.cps.toList))) M) := ⟨i_ninS⟩
instance s_enSI {t : TAD} {R : ItD → Mo → Prop} : Step (iEnumSD t sd M R) (t sd M fun ds M1 => kEnS ds fun x => R ⟨enumD 0 (signsD x), fun _ => True⟩ M1) := ⟨i_enSI⟩
instance s_kEnS {F : Str → Prop} : Step (kEnS [.str x] F) (F x) := ⟨i_kEnS⟩
instance s_callD {sp : SpD} {v : Dv} {vs : List Dv} {t : TAD} : Step (dCall sp (v :: vs) E t sd M Q) (t sd M fun ds M1 => kA sp ds (v :: vs) M1 Q E) := ⟨i_callD⟩
instance s_kA11  : Step (kA sp [d1] [d2] M Q E) (sp [d1, d2] M Q E) := ⟨i_kA11⟩
instance s_kA12  : Step (kA sp [d1] [d2, d3] M Q E) (sp [d1, d2, d3] M Q E) := ⟨i_kA12⟩
instance s_kA21  : Step (kA sp [d1, d2] [d3] M Q E) (sp [d1, d2, d3] M Q E) := ⟨i_kA21⟩
instance s_kA22  : Step (kA sp [d1, d2] [d3, d4] M Q E) (sp [d1, d2, d3, d4] M Q E) := ⟨i_kA22⟩
instance s_kA13  : Step (kA sp [d1] [d2, d3, d4] M Q E) (sp [d1, d2, d3, d4] M Q E) := ⟨i_kA13⟩
instance s_kA31  : Step (kA sp [d1, d2, d3] [d4] M Q E) (sp [d1, d2, d3, d4] M Q E) := ⟨i_kA31⟩
instance s_callN {n m : Nat} {t tk : TAD} : Step (dCallN sp n m E t tk sd M Q) (t sd M fun ds M1 => tk sd M1 fun zs M2 => kN sp n m ds zs M2 Q E) := ⟨i_callN⟩
end
end DL

namespace DL
open PySem PySem.Spec PyProof.Rows L2
/-! ### is True, is not False .. -/
def isBlB : Dv → Bool → Bool
  | .bl b, c => decide (b = c)
  | _, _ => false
def dIsB : R2d := fun d e M Q => match e with
  | .bl c => Q (.bl (isBlB d c)) M
  | _ => False
def dNotB : R2d := fun d e M Q => match e with
  | .bl c => Q (.bl (!isBlB d c)) M
  | _ => False
theorem plain_bl {x : V} {v : Value} {c : Bool} (r : RelV x v) : PySem.plainIs v (.bool c) = true := by
  cases x with
  | ref a => cases r; rfl
  | non => cases r; rfl
  | bl b => cases r; rfl
  | int i => obtain ⟨t, rfl⟩ := r; rfl
  | str x => obtain ⟨t, rfl⟩ := r; rfl
  | byt x => obtain ⟨t, rfl⟩ := r; rfl
  | flt x => obtain ⟨t, rfl⟩ := r; rfl
  | ty n => cases r; rfl
theorem beq_bl {K : PySem.W.Frag} {H : Hp} {d : Dv} {x : V} {v : Value} {c : Bool} (rd : RD K H d x) (r : RelV x v) : (v == Value.bool c) = isBlB d c := by
  have ne : ∀ v : Value, (∀ b, v ≠ .bool b) → (v == Value.bool c) = false := fun v h => by
    rw [beq_eq_false_iff_ne]
    exact h c
  cases d with
  | non => rw [rd.non_of] at r; cases r; exact ne _ fun b z => by cases z
  | bl b =>
    rw [rd.bl_of] at r
    cases r
    show (Value.bool b == Value.bool c) = decide (b = c)
    cases b <;> cases c <;> rfl
  | int b => rw [rd.int_of] at r; obtain ⟨t, rfl⟩ := r; exact ne _ fun b z => by cases z
  | str b => rw [rd.str_of] at r; obtain ⟨t, rfl⟩ := r; exact ne _ fun b z => by cases z
  | ref b => rw [rd.ref_of] at r; cases r; exact ne _ fun b z => by cases z
  | ty n => unfold RD at rd; rw [rd] at r; cases r; exact ne _ fun b z => by cases z
  | tup ds => unfold RD at rd; obtain ⟨_, _, rfl, _⟩ := rd; cases r; exact ne _ fun b z => by cases z
  | lst ds => unfold RD at rd; obtain ⟨_, _, rfl, _⟩ := rd; cases r; exact ne _ fun b z => by cases z
  | obj C fs => unfold RD at rd; obtain ⟨_, _, _, _, _, rfl, _⟩ := rd; cases r; exact ne _ fun b z => by cases z
  | dct kvs => unfold RD at rd; obtain ⟨_, _, _, rfl, _⟩ := rd; cases r; exact ne _ fun b z => by cases z
  | dctT kvs => unfold RD at rd; obtain ⟨_, _, _, rfl, _⟩ := rd; cases r; exact ne _ fun b z => by cases z
section
variable {X : Cx}
theorem od_isB : OpR X (compareOp .Is) (L2op X.K dIsB) := by
  intro pins s σ H x y v u Q I rx ry ⟨d, e, M, Qd, r1, r2, sr, q, c⟩
  unfold dIsB at q
  split at q
  · rename_i cb
    rw [r2.bl_of] at ry
    cases ry
    refine wpAny_is_plain (plain_bl rx) ?_
    rw [beq_bl r1 rx]
    exact ⟨.bl _, H, I, rfl, c _ M _ H (.refl sr) .bl q⟩
  · exact q.elim
theorem od_notB : OpR X (compareOp .IsNot) (L2op X.K dNotB) := by
  intro pins s σ H x y v u Q I rx ry ⟨d, e, M, Qd, r1, r2, sr, q, c⟩
  unfold dNotB at q
  split at q
  · rename_i cb
    rw [r2.bl_of] at ry
    cases ry
    refine wpAny_isNot_plain (plain_bl rx) ?_
    rw [beq_bl r1 rx]
    exact ⟨.bl _, H, I, rfl, c _ M _ H (.refl sr) .bl q⟩
  · exact q.elim
end
section
variable {M : Mo} {Q : QD} {d e : Dv} {b c : Bool}
instance s_isB : Step (dIsB (.bl b) (.bl c) M Q) (Q (.bl (decide (b = c))) M) := ⟨fun h => h⟩
instance s_isBN : Step (dIsB .non (.bl c) M Q) (Q (.bl false) M) := ⟨fun h => h⟩
instance s_notB : Step (dNotB (.bl b) (.bl c) M Q) (Q (.bl (!decide (b = c))) M) := ⟨fun h => h⟩
instance s_notBN : Step (dNotB .non (.bl c) M Q) (Q (.bl true) M) := ⟨fun h => h⟩
end
/-! ### lists of texts, of ints are compared -/
theorem pyDs_str : ∀ zs : List Str, pyDs (zs.map Dv.str) = some (zs.map PyData.str)
  | [] => rfl
  | z :: zs => by
    rw [List.map_cons, pyDs, pyDs_str zs]
    rfl
theorem pyDs_int : ∀ zs : List Int, pyDs (zs.map Dv.int) = some (zs.map PyData.int)
  | [] => rfl
  | z :: zs => by
    rw [List.map_cons, pyDs, pyDs_int zs]
    rfl
theorem pyDs_bl : ∀ zs : List Bool, pyDs (zs.map Dv.bl) = some (zs.map PyData.bool)
  | [] => rfl
  | z :: zs => by
    rw [List.map_cons, pyDs, pyDs_bl zs]
    rfl
theorem pyM_seq {M : Mo} {d : Dv} {ds : List Dv} {ps : List PyData} (h : seqL M d = some ds) (hp : pyDs ds = some ps) : pyM M d = some (.list ps) := by
  unfold seqL at h
  split at h
  · cases h
    simp only [pyM, pyD, hp, Option.map_some]
  · rename_i a
    split at h
    · rename_i e
      cases h
      unfold pyM
      simp only [e, hp]
      rfl
    · cases h
  · cases h
theorem eqv_str : ∀ zs ws : List Str, PyData.eqvAll (zs.map PyData.str) (ws.map PyData.str) = decide (zs = ws)
  | [], [] => rfl
  | [], w :: ws => rfl
  | z :: zs, [] => rfl
  | z :: zs, w :: ws => by
    rw [List.map_cons, List.map_cons, PyData.eqvAll, PyData.eqv, eqv_str zs ws]
    by_cases h : z = w <;> by_cases h' : zs = ws <;> simp [h, h']
theorem eqv_int : ∀ zs ws : List Int, PyData.eqvAll (zs.map PyData.int) (ws.map PyData.int) = decide (zs = ws)
  | [], [] => rfl
  | [], w :: ws => rfl
  | z :: zs, [] => rfl
  | z :: zs, w :: ws => by
    rw [List.map_cons, List.map_cons, PyData.eqvAll, PyData.eqv, eqv_int zs ws]
    by_cases h : z = w <;> by_cases h' : zs = ws <;> simp [h, h']
theorem eqv_bl : ∀ zs ws : List Bool, PyData.eqvAll (zs.map PyData.bool) (ws.map PyData.bool) = decide (zs = ws)
  | [], [] => rfl
  | [], w :: ws => rfl
  | z :: zs, [] => rfl
  | z :: zs, w :: ws => by
    rw [List.map_cons, List.map_cons, PyData.eqvAll, PyData.eqv, eqv_bl zs ws]
    by_cases h : z = w <;> by_cases h' : zs = ws <;> simp [h, h']
theorem shaped_flat {ps : List PyData} (h : ∀ p ∈ ps, PyData.canLay0 p = true ∧ PyData.depth p = 0) : SeqAt.shaped (.list ps) = true := by
  have h1 : ∀ qs : List PyData, (∀ p ∈ qs, PyData.canLay0 p = true ∧ PyData.depth p = 0) → PyData.canLayAll0 qs = true ∧ PyData.depthAll qs = 0 := by
    intro qs
    induction qs with
    | nil => intro _; exact ⟨rfl, rfl⟩
    | cons q qs ih =>
      intro h
      obtain ⟨a, b⟩ := ih fun p hp => h p (List.mem_cons_of_mem _ hp)
      obtain ⟨a1, b1⟩ := h q List.mem_cons_self
      simp [PyData.canLayAll0, PyData.depthAll, a, b, a1, b1]
  obtain ⟨a, b⟩ := h1 ps h
  simp [SeqAt.shaped, PyData.canLay0, PyData.depth, a, b]
/-- the text is one of signs -/
def GoodS (x : Str) : Prop := ∀ c, c ∈ x.cps.toList → c < 1114112
theorem goodS_ok {x : Str} (h : GoodS x) : PyData.strOk x = true := by
  unfold PyData.strOk
  rw [← Array.all_toList, List.all_eq_true]
  exact fun c hc => decide_eq_true (h c hc)
theorem goodS_of {x : Str} (h : PyData.strOk x = true) : GoodS x := by
  unfold PyData.strOk at h
  rw [← Array.all_toList, List.all_eq_true] at h
  exact fun c hc => of_decide_eq_true (h c hc)
theorem GoodS.sub {x y : Str} (h : GoodS y) (s : ∀ c, c ∈ x.cps.toList → c ∈ y.cps.toList) : GoodS x := fun c hc => h c (s c hc)
theorem shaped_strs {zs : List Str} (h : ∀ z ∈ zs, GoodS z) : SeqAt.shaped (.list (zs.map PyData.str)) = true := shaped_flat fun p hp => by
  obtain ⟨x, hx, rfl⟩ := List.mem_map.mp hp
  refine ⟨?_, rfl⟩
  unfold PyData.canLay0
  exact goodS_ok (h x hx)
theorem shaped_intsD (zs : List Int) : SeqAt.shaped (.list (zs.map PyData.int)) = true := shaped_flat fun p hp => by
  obtain ⟨x, _, rfl⟩ := List.mem_map.mp hp
  exact ⟨rfl, rfl⟩
theorem shaped_bls (zs : List Bool) : SeqAt.shaped (.list (zs.map PyData.bool)) = true := shaped_flat fun p hp => by
  obtain ⟨x, _, rfl⟩ := List.mem_map.mp hp
  exact ⟨rfl, rfl⟩
section
variable {M : Mo} {Q : QD} {d e : Dv} {ps qs : List PyData} {ds es : List Dv}
theorem i_eqM {p q : PyData} (h1 : pyM M d = some p) (h2 : pyM M e = some q) (s1 : SeqAt.shaped p = true) (s2 : SeqAt.shaped q = true) (n : ∀ i, p ≠ .int i := by intro i z; cases z) (n2 : ∀ i, p ≠ .str i := by intro i z; cases z) (n3 : ∀ i, p ≠ .bool i := by intro i z; cases z) (h : Q (.bl (PyData.eqv p q)) M) : dEq d e M Q := by
  unfold dEq
  split
  · exact absurd (Option.some.inj h1).symm (n _)
  · exact absurd (Option.some.inj h1).symm (n2 _)
  · exact absurd (Option.some.inj h1).symm (n3 _)
  · simp only [h1, h2]
    exact ⟨s1, s2, h⟩
theorem i_neM {p q : PyData} (h1 : pyM M d = some p) (h2 : pyM M e = some q) (s1 : SeqAt.shaped p = true) (s2 : SeqAt.shaped q = true) (n : ∀ i, p ≠ .int i := by intro i z; cases z) (n2 : ∀ i, p ≠ .str i := by intro i z; cases z) (n3 : ∀ i, p ≠ .bool i := by intro i z; cases z) (h : Q (.bl (!PyData.eqv p q)) M) : dNe d e M Q := by
  unfold dNe
  split
  · exact absurd (Option.some.inj h1).symm (n _)
  · exact absurd (Option.some.inj h1).symm (n2 _)
  · exact absurd (Option.some.inj h1).symm (n3 _)
  · simp only [h1, h2]
    exact ⟨s1, s2, h⟩
theorem i_eqLS {zs ws : List Str} (g1 : ∀ z ∈ zs, GoodS z) (g2 : ∀ z ∈ ws, GoodS z) (h1 : seqL M d = some (zs.map Dv.str)) (h2 : seqL M e = some (ws.map Dv.str)) (h : Q (.bl (decide (zs = ws))) M) : dEq d e M Q :=
  i_eqM (pyM_seq h1 (pyDs_str zs)) (pyM_seq h2 (pyDs_str ws)) (shaped_strs g1) (shaped_strs g2) (h := by rw [PyData.eqv, eqv_str]; exact h)
theorem i_neLS {zs ws : List Str} (g1 : ∀ z ∈ zs, GoodS z) (g2 : ∀ z ∈ ws, GoodS z) (h1 : seqL M d = some (zs.map Dv.str)) (h2 : seqL M e = some (ws.map Dv.str)) (h : Q (.bl (!decide (zs = ws))) M) : dNe d e M Q :=
  i_neM (pyM_seq h1 (pyDs_str zs)) (pyM_seq h2 (pyDs_str ws)) (shaped_strs g1) (shaped_strs g2) (h := by rw [PyData.eqv, eqv_str]; exact h)
theorem i_eqLI {zs ws : List Int} (h1 : seqL M d = some (zs.map Dv.int)) (h2 : seqL M e = some (ws.map Dv.int)) (h : Q (.bl (decide (zs = ws))) M) : dEq d e M Q :=
  i_eqM (pyM_seq h1 (pyDs_int zs)) (pyM_seq h2 (pyDs_int ws)) (shaped_intsD _) (shaped_intsD _) (h := by rw [PyData.eqv, eqv_int]; exact h)
theorem i_neLI {zs ws : List Int} (h1 : seqL M d = some (zs.map Dv.int)) (h2 : seqL M e = some (ws.map Dv.int)) (h : Q (.bl (!decide (zs = ws))) M) : dNe d e M Q :=
  i_neM (pyM_seq h1 (pyDs_int zs)) (pyM_seq h2 (pyDs_int ws)) (shaped_intsD _) (shaped_intsD _) (h := by rw [PyData.eqv, eqv_int]; exact h)
theorem i_eqLB {zs ws : List Bool} (h1 : seqL M d = some (zs.map Dv.bl)) (h2 : seqL M e = some (ws.map Dv.bl)) (h : Q (.bl (decide (zs = ws))) M) : dEq d e M Q :=
  i_eqM (pyM_seq h1 (pyDs_bl zs)) (pyM_seq h2 (pyDs_bl ws)) (shaped_bls _) (shaped_bls _) (h := by rw [PyData.eqv, eqv_bl]; exact h)
theorem i_neLB {zs ws : List Bool} (h1 : seqL M d = some (zs.map Dv.bl)) (h2 : seqL M e = some (ws.map Dv.bl)) (h : Q (.bl (!decide (zs = ws))) M) : dNe d e M Q :=
  i_neM (pyM_seq h1 (pyDs_bl zs)) (pyM_seq h2 (pyDs_bl ws)) (shaped_bls _) (shaped_bls _) (h := by rw [PyData.eqv, eqv_bl]; exact h)
end
/-- a comprehension, its items told -/
def kLc (J : ItD) (g : Tgt) (tt : TTD) (te : TED) (sw : StD) (F : List Dv → Mo → Prop) (M : Mo) : Prop := J.ds.length ≤ 16777216 ∧ ∃ W : Nat → List Dv → Mo → Prop, W 0 [] M ∧ (∀ i acc M, i ≤ J.ds.length → W i acc M → J.ok M) ∧
      (∀ i d acc M, J.ds[i]? = some d → acc.length ≤ i → W i acc M → dG g d sw M fun sd2 M2 => tt sd2 M2 fun b M3 => if b = true then te sd2 M3 fun y M4 => W (i + 1) (acc ++ [y]) M4 else W (i + 1) acc M3) ∧
      ∀ acc M, acc.length ≤ J.ds.length → W J.ds.length acc M → F acc M
instance s_lc {M : Mo} {sd : StD} {Q : QD} {wi : TID} {g : Tgt} {tt : TTD} {te : TED} {vs : List Nat} : Step (dLc wi g tt te vs sd M Q) (wi sd M fun J M1 => kLc J g tt te (wipeD sd vs) (fun acc M => ∀ p, M p = none → Q (.ref p) (mup M p (.lst acc))) M1) := ⟨fun h => h⟩
theorem lk_rng {M : Mo} {lo : Int} {n : Nat} {g : Tgt} {tt : TTD} {te : TED} {sw : StD} {F : List Dv → Mo → Prop} (W : Nat → List Dv → Mo → Prop) (hn : n ≤ 16777216) (h0 : W 0 [] M)
    (hs : ∀ i acc M, i < n → acc.length ≤ i → W i acc M → dG g (.int (lo + (i : Nat))) sw M fun sd2 M2 => tt sd2 M2 fun b M3 => if b = true then te sd2 M3 fun y M4 => W (i + 1) (acc ++ [y]) M4 else W (i + 1) acc M3)
    (hd : ∀ acc M, acc.length ≤ n → W n acc M → F acc M) : kLc ⟨rngD lo n, fun _ => True⟩ g tt te sw F M := by
  have e : (ItD.mk (rngD lo n) fun _ => True).ds.length = n := rngD_length lo n
  refine ⟨by rw [e]; exact hn, W, h0, fun _ _ _ _ _ => trivial, fun i d acc M q ha hw => ?_, fun acc M ha hw => ?_⟩
  · obtain ⟨hi, rfl⟩ := rngD_get q
    exact hs i acc M hi ha hw
  · rw [e] at ha hw
    exact hd acc M ha hw
theorem lk_fz {M : Mo} {ds : List Dv} {g : Tgt} {tt : TTD} {te : TED} {sw : StD} {F : List Dv → Mo → Prop} (W : Nat → List Dv → Mo → Prop) (hn : ds.length ≤ 16777216) (h0 : W 0 [] M)
    (hs : ∀ i d acc M, ds[i]? = some d → acc.length ≤ i → W i acc M → dG g d sw M fun sd2 M2 => tt sd2 M2 fun b M3 => if b = true then te sd2 M3 fun y M4 => W (i + 1) (acc ++ [y]) M4 else W (i + 1) acc M3)
    (hd : ∀ acc M, acc.length ≤ ds.length → W ds.length acc M → F acc M) : kLc ⟨ds, fun _ => True⟩ g tt te sw F M := ⟨hn, W, h0, fun _ _ _ _ _ => trivial, hs, hd⟩
theorem lk_own {M : Mo} {a : Addr} {ds : List Dv} {g : Tgt} {tt : TTD} {te : TED} {sw : StD} {F : List Dv → Mo → Prop} (W : Nat → List Dv → Mo → Prop) (hn : ds.length ≤ 16777216) (h0 : W 0 [] M) (hok : ∀ i acc M, i ≤ ds.length → W i acc M → M a = some (.lst ds))
    (hs : ∀ i d acc M, ds[i]? = some d → acc.length ≤ i → W i acc M → dG g d sw M fun sd2 M2 => tt sd2 M2 fun b M3 => if b = true then te sd2 M3 fun y M4 => W (i + 1) (acc ++ [y]) M4 else W (i + 1) acc M3)
    (hd : ∀ acc M, acc.length ≤ ds.length → W ds.length acc M → F acc M) : kLc ⟨ds, fun M => M a = some (.lst ds)⟩ g tt te sw F M := ⟨hn, W, h0, hok, hs, hd⟩
theorem cutD_take (ds : List Dv) (k : Nat) : cutD ds none (some (k : Int)) = ds.take k := by
  unfold cutD
  rw [HT.sIx_none, HT.sIx_nat, List.drop_zero, Nat.sub_zero, List.take_eq_take_iff]
  omega
theorem cutD_drop (ds : List Dv) (k : Nat) : cutD ds (some (k : Int)) none = ds.drop k := by
  unfold cutD
  rw [HT.sIx_none, HT.sIx_nat]
  by_cases h : k ≤ ds.length
  · rw [Nat.min_eq_left h, List.take_of_length_le (by rw [List.length_drop]; exact Nat.le_refl _)]
  · rw [List.drop_of_length_le (by omega), List.drop_of_length_le (by omega)]
    simp
theorem i_addS1 {M : Mo} {Q : QD} {x : Str} {c : Nat} (hl : x.length + 1 ≤ 16777216) (h : Q (.str (x ++ ⟨#[c]⟩)) M) : dAdd (.str x) (.str ⟨#[c]⟩) M Q := ⟨hl, h⟩
theorem i_addS2 {M : Mo} {Q : QD} {x : Str} {c : Nat} (hl : 1 + x.length ≤ 16777216) (h : Q (.str (⟨#[c]⟩ ++ x)) M) : dAdd (.str ⟨#[c]⟩) (.str x) M Q := ⟨hl, h⟩
theorem i_iaddS1 {M : Mo} {Q : QD} {x : Str} {c : Nat} (hl : x.length + 1 ≤ 16777216) (h : Q (.str (x ++ ⟨#[c]⟩)) M) : dIAdd (.str x) (.str ⟨#[c]⟩) M Q := ⟨hl, h⟩
theorem str_eta (x : Str) : (⟨x.cps⟩ : Str) = x := rfl
theorem sub_free {M M' : Mo} {p : Addr} (s : Sub M M') (h : M' p = none) : M p = none := by
  cases e : M p with
  | none => rfl
  | some o =>
    rw [s p o e] at h
    cases h
theorem sub_put {M M' : Mo} {p : Addr} {o : OO} (s : Sub M M') (h : M' p = some o) : Sub (mup M p o) M' := fun c u e => by
  by_cases z : c = p
  · subst z
    rw [mup_same] at e
    cases e
    exact h
  · rw [mup_ne z] at e
    exact s c u e
theorem sub_set {M M' : Mo} {p : Addr} {o : OO} (s : Sub M M') (h : M p = none) : Sub M (mup M' p o) := fun c u e => by
  rw [mup_ne (fun z => by subst z; rw [h] at e; cases e)]
  exact s c u e
end DL

namespace DL
open PySem PySem.Spec PyProof.Rows L2
/-! ### own exceptions: made, raised -/
/-- what an __init__ of the plain form promises: the one field f is laid -/
def spInit (C : Addr) (f : Str) : Sp := fun vs H Q E => ∃ a v, vs = [.ref a, v] ∧ H a = some (exo a C none) ∧ ∀ d, H d = none → d ≠ a → Q .non (upd (upd H d (exd d [(f, v)])) a (exo a C (some d)))
/-- B.__init__(self, ..), B an own class without own __init__ -/
theorem pe_ownI {X : Cx} {pl : Sem Bool} {B : Str} {CB : Addr} {mc : Value} {e : Expr} {es : List Expr} {ta : TA} {p1 p2 pos : Pos} (hg : Gl X B) (hm : X.mg B = some (.ref CB)) (cr : ClX.CRead X.K CB mc) (vV : PySem.W.findCls X.K (.ref CB) mc "__init__" = some (.val (.builtin "ValueError.__init__"))) (ha : PA X (e :: es) ta)
    (hc : eval (.Call (.Attribute (.Name B p1) "__init__" p2) (e :: es) [] pos) X.env = (do
      let ov ← eval (.Name B p1) X.env
      standAt p2.atName
      let (f, first) ← holding [ov] (getMethod ov "__init__" pl)
      callWith pos f first (backTo pos (starEach (e :: es) X.env)) (backToKw pos (keywordEach [] X.env))) := by rfl)
    (hdb : (B == ("__debug__" : Str)) = false := by decide) (he : starEach (e :: es) X.env = (false, eval e X.env) :: starEach es X.env := by rfl) (hpl : (backTo pos (starEach es X.env)).any (·.1) = false := by rfl) :
    PE X (.Call (.Attribute (.Name B p1) "__init__" p2) (e :: es) [] pos) (tVeI X.K ta) := by
  refine ⟨fun pins s σ H Q I h => ?_⟩
  refine PySem.W.methodCall_KW (ld_glob I hg hm ?_ hdb) hc
  refine PySem.W.method_cls I.kIn cr.ga (PySem.W.cls_value I.kIn cr.rd vV (by decide +kernel) ?_)
  show wpAny _ _ (callWith pos (Value.builtin "ValueError.__init__") [] (backTo pos (starEach (e :: es) X.env)) []) _ _ _
  refine PyProof.Rows.callWith_method1 (thn (ha.run pos pins _ σ H _ (I.tok _) h) fun us s1 ⟨vs, H1, I1, r1, a, C, ws, ev, hl, T, ea, q⟩ => ?_) he hpl
  subst ev
  cases r1 with
  | @cons _ u0 _ ur ra rw' =>
    obtain rfl : u0 = Value.ref a := ra
    have hlen : ur.length ≤ sizeLine := by
      rw [← Paired.length rw', sizeLine_eq]
      omega
    exact oinit_ok T I1 ea hlen fun s' J => ⟨.non, H1, J, rfl, q⟩
/-- the plain __init__, by its body's term -/
theorem ok_init {P : Program} {w : World} {K : PySem.W.Frag} {mg : Str → Option Value} {base : Heap} {C fI : Addr} {fd : FuncData} {st : Stmt} {qual f : Str} {N ps : List Str} (F : Fun K "__init__" qual st fI fd) (S : FnScope N ps (defScope st)) (hp : ps.length = 2) (T : OexC K C) (hno : PySem.W.findIn K (.ref C) f = some none)
    (hbody : ∀ (cdv : Value) (A : Around) (outer : List Env) (s : Shared) (H : Hp) (E : XK), ∃ t, PSs (cxOf (L2.CX P w) P w K mg base N qual (defScope st) fI cdv A outer s H E) (defBody st) t ∧
      ∀ (a : Addr) (v : V) (D : Ends), H a = some (exo a C none) → (∀ d, H d = none → d ≠ a → D.nx (L2.start N [.ref a, v]) (upd (upd H d (exd d [(f, v)])) a (exo a C (some d)))) → t D (L2.start N [.ref a, v]) H) :
    FnOk P w K mg base (L2.CX P w) 1 fI fd ps (spInit C f) := by
  refine F.okX S (fun vs H Q E h => ?_) (fun cdv A outer s H vs Q E hr h => ?_)
  · obtain ⟨a, v, rfl, _⟩ := h
    exact hp.symm
  · obtain ⟨a, v, rfl, ha, h⟩ := h
    obtain ⟨t, ht, hq⟩ := hbody cdv A outer s H E
    exact ⟨t, ht, hq a v _ ha h⟩
/-- raise C(e) -/
def dRaise (x f : Str) (Ed : EXD) (te : TED) : TSD := fun _ sd M => te sd M fun d M1 => Ed x f d M1
/-- what the program tells of the exception class of the name x -/
structure ExcD (P : Program) (w : World) (K : PySem.W.Frag) (mg : Str → Option Value) (base : Heap) (x f : Str) (C : Addr) : Prop where
  gC : mg x = some (.ref C)
  nC : PySem.W.nsIn K mainGlobals x = some (some (.ref C))
  T : OexC K C
  init : ∃ (fI : Addr) (fd : FuncData) (ps : List Str), PySem.W.findIn K (.ref C) "__init__" = some (some (.ref fI)) ∧ PySem.W.typeIn K (.ref fI) = some (.type "function") ∧ Binds K fd ps [] ∧ FnOk P w K mg base (L2.CX P w) 1 fI fd ps (spInit C f)
section
variable {X : Cx} {M0 : Mo} {H0 : Hp}
theorem upd_del {H : Hp} {a d : Addr} {o u o' u' : HO} (h : H a = none) (n : d ≠ a) : upd (del (upd (upd (upd H a o) d u) a o') a) d u' = upd H d u' := by
  funext b
  by_cases e : b = d
  · rw [e, upd_same, upd_same]
  · rw [upd_ne e, upd_ne e]
    by_cases e2 : b = a
    · rw [e2, del_same, h]
    · rw [del_ne e2, upd_ne e2, upd_ne e, upd_ne e2]
theorem ds_raise {x f : Str} {C : Addr} {p pos pos' : Pos} {e : Expr} {te : TED} {Ed : EXD} {E : XK} (D : ExcD X.prog X.w X.K X.mg X.base x f C) (hc : X.calm = true) (tk : Takes X fun cls d _ H => E cls d H) (hr : Room 2 X.A) (hx0 : Passes (L2.CX X.prog X.w) X (fun _ _ _ => False)) (hg : Gl X x)
    (hE : CtX X.K M0 H0 Ed E) (he : PEd X M0 H0 e te) (hdb : (x == ("__debug__" : Str)) = false := by decide) (hs : starEach [e] X.env = (false, eval e X.env) :: starEach [] X.env := by rfl) (hpl : (backTo pos (starEach [] X.env)).any (·.1) = false := by rfl) :
    PSd X M0 H0 (.Raise (some (.Call (.Name x p) [e] [] pos)) none pos') (dRaise x f Ed te) := by
  obtain ⟨fI, fd, ps, iC, tI, hb, F1⟩ := D.init
  refine PS.imp (ps_raise (X := X) (W := fun cls d _ H => E cls d H) hc tk (pmk_oex D.T iC tI F1 hr hb .nil hx0 hg D.gC (ta := tCons (LE X.K M0 H0 te) tNil) (pa_cons he pa_nil hs) hdb hs hpl)) fun Dn σ H ⟨sd, M, Dd, w, q, c⟩ => ?_
  refine ⟨sd, M, _, w, q, fun d M1 v H1 s1 r1 q1 => ?_⟩
  refine ⟨by show 1 ≤ 1000; omega, fun a ha => ⟨a, v, rfl, upd_same, fun dd hd na => ?_⟩⟩
  have hd1 : H1 dd = none := by rw [upd_ne na] at hd; exact hd
  refine ⟨rfl, dd, [(f, v)], upd_same, by rw [upd_ne na, upd_same], hd1, ?_⟩
  rw [upd_del ha na]
  have s2 : Stp X.K M1 H1 M1 (upd H1 dd (.xd [(f, v)])) := Stp.new0 s1.sr hd1
  exact hE x f C d M1 dd v _ D.nC (w.st.trans (s1.trans s2)) (s1.sr.free hd1) upd_same (r1.keep s2.keep) q1
end
end DL

namespace DL
open PySem PySem.Spec PyProof.Rows L2
/-! ### several clauses, each with a name -/
abbrev Cl := Value × Nat × (Addr → Value → Option Addr → TS)
/-- the ends of a suite: its name goes -/
def goes (i : Nat) (D : Ends) : Ends := { nx := fun σ H => D.nx (σ.set i none) H, rt := D.rt, bk := fun σ H => D.bk (σ.set i none) H, ct := fun σ H => D.ct (σ.set i none) H }
def wCls (K : PySem.W.Frag) (Wout : WX) (D : Ends) : List Cl → WX
  | [] => Wout
  | (c, i, ts) :: r => fun cls d σ H => ∃ b, PySem.W.exmOne K cls c = some b ∧ (b = true → ∀ a, H a = none → ts a cls d (goes i D) (σ.set i (some (.ref a))) H) ∧ (b = false → wCls K Wout D r cls d σ H)
inductive ClOk (X : Cx) : List ExceptHandler → List Cl → Prop
  | nil : ClOk X [] []
  | cons {x n : Str} {c : Value} {i : Nat} {ts : Addr → Value → Option Addr → TS} {b₀ : Stmt} {suite : List Stmt} {np hp : Pos} {hds : List ExceptHandler} {l : List Cl} (hi : X.N[i]? = some n) (hln : X.env.kindOf n = some .local) (hc : Names X x c)
      (hsu : ∀ (a : Addr) (oe : Obj) (cls : Value) (d : Option Addr) (pn : List (Addr × Obj)), Zc cls d oe → (∃ vs, oe.data = .fields vs) → PSs (X.suite a ((a, oe) :: pn)) (b₀ :: suite) (ts a cls d)) (r : ClOk X hds l) :
      ClOk X (.ExceptHandler (some (.Name x np)) (some n) (b₀ :: suite) hp :: hds) ((c, i, ts) :: l)
  | only {x : Str} {c : Value} {ts : Addr → Value → Option Addr → TS} {b₀ : Stmt} {suite : List Stmt} {np hp : Pos} {hds : List ExceptHandler} {l : List Cl} (hc : Names X x c)
      (hsu : ∀ (a : Addr) (oe : Obj) (cls : Value) (d : Option Addr) (pn : List (Addr × Obj)), Zc cls d oe → (∃ vs, oe.data = .fields vs) → PSs (X.suite a ((a, oe) :: pn)) (b₀ :: suite) (ts a cls d)) (r : ClOk X hds l) :
      ClOk X (.ExceptHandler (some (.Name x np)) none (b₀ :: suite) hp :: hds) ((c, X.N.length, ts) :: l)
theorem set_out {α : Type} : ∀ {l : List α} {i : Nat} {x : α}, l.length ≤ i → l.set i x = l
  | [], _, _, _ => rfl
  | a :: l, 0, _, h => by simp at h
  | a :: l, i + 1, x, h => by rw [List.set_cons_succ, set_out (by simpa using h)]
section
variable {X : Cx} {body : List Stmt} {h0 : ExceptHandler} {hds : List ExceptHandler} {l : List Cl} {pos : Pos} {tb : WX → TS} {Wout : WX}
/-- what stands below an exception on its ground is out of the frames -/
theorem off_frames {B h : Heap} {l : List Env} {a : Addr} {o : Obj} {vs : Array Value} (ff : h.FunFrames B l) (e : h.get? a = some o) (dd : o.data = .fields vs) : a ∉ frs l := fun hm => by
  obtain ⟨_, o', e', hnf⟩ := ff.mem hm
  have := e.symm.trans e'
  cases this
  exact hnf _ dd
theorem ps_try_cls (hs : X.stack = X.env :: X.outer) (hf : X.env.frame = some X.env.locals) (hN : X.N.Nodup) (tk : Takes X Wout)
    (hb : ∀ (W : WX) (pn : List (Addr × Obj)) (xe : Value → Shared → Prop), Takes (X.tr pn xe) W → PassesOwn (model X.prog X.w) X.A X.env xe → PSs (X.tr pn xe) body (tb W))
    (hh : ClOk X (h0 :: hds) l) : PS X (.Try body (h0 :: hds) [] [] pos) (fun D σ H => tb (wCls X.K Wout D l) D σ H) := by
  refine ⟨fun pins s σ H D I h => ?_⟩
  have ok := I.ok
  have fr1 : X.A.frames = some (X.env :: X.outer) := ok.frames.trans (congrArg some hs)
  refine wpAny_Try_except ?_
  have run := (hb (wCls X.K Wout D l) (X.pn ++ pins) (fun e s1 => wpAny (model X.prog X.w) X.A (noteFrame e X.env) (fun _ s2 => wpAny (model X.prog X.w) X.A (setFlight e none) (fun _ s3 =>
    wpAny (model X.prog X.w) X.A (handleBy e X.env (h0 :: hds)) (SP X pins D) X.xe s3) X.xe s2) X.xe s1) (fun u s' xx => ?_) PassesOwn.looking).run [] s σ H D (I.toTry _) h
  · refine wpAny_mono run (fun f s1 q => ?_) (fun e s1 he => he)
    cases f with
    | ret u => obtain ⟨v, σ', H', J, rv, q⟩ := q; exact ⟨v, σ', H', J.ofTry ok, rv, q⟩
    | next => obtain ⟨σ', H', J, q⟩ := q; exact wpAny_execs_nil ⟨σ', H', J.ofTry ok, q⟩
    | brk => obtain ⟨σ', H', J, q⟩ := q; exact ⟨σ', H', J.ofTry ok, q⟩
    | cont => obtain ⟨σ', H', J, q⟩ := q; exact ⟨σ', H', J.ofTry ok, q⟩
  · obtain ⟨a, B, sI, pins', σ', H', cls, d, rfl, J', nb, up, sky, na, os, ag, w⟩ := xx
    have J : Inv X pins σ' H' sI := J'.ofTry ok
    have sky2 : Sky B (X.env :: X.outer) a (Zc cls d) X.env.locals s'.heap := hs ▸ sky
    show wpAny (model X.prog X.w) X.A (noteFrame (.ref a) X.env) _ _ _
    refine Sky.land Zc.steady fr1 hf sky2 fun h3 fl3 up3 => ?_
    have J3 : Inv X pins σ' H' { s' with heap := h3 } := J.landed nb fl3.1 (up.trans up3) os ag
    obtain ⟨oe3, vs3, he3, hz3, hd3⟩ := fl3.there
    have nfr := off_frames fl3.2.2.1 he3 hd3
    have nL : a ≠ X.env.locals := fun z => nfr (List.mem_filterMap.mpr ⟨X.env, List.mem_cons_self, by rw [hf, z]⟩)
    have nF : a ∉ X.fs := fun hm => by
      obtain ⟨e, q1, q2⟩ := List.mem_filterMap.mp hm
      exact nfr (List.mem_filterMap.mpr ⟨e, List.mem_cons_of_mem _ q1, q2⟩)
    have S3 := J3.suite he3 hd3 na nL nF
    suffices go : ∀ {hs' : List ExceptHandler} {l' : List Cl}, ClOk X hs' l' → wCls X.K Wout D l' cls d σ' H' → wpAny (model X.prog X.w) X.A (handleBy (.ref a) X.env hs') (SP X pins D) X.xe { s' with heap := h3 } from go hh w
    intro hs' l' hk
    induction hk with
    | nil =>
      intro w
      refine wpAny_handleBy_nil ?_
      obtain ⟨k1, k2, k3, oe, vs, T, oT, t3, he, hz, hd, h1, hr⟩ := id fl3
      unfold PySem.passOn
      refine wpAny_bind (wpAny_field he hd h1 ?_)
      rw [if_neg (show ¬ ((Value.ref T == Value.none) = true) from by simp)]
      have fin : wpAny (model X.prog X.w) X.A (setFlight (.ref a) X.env.frame) (fun _ s4 => wpAny (model X.prog X.w) X.A (throw (.ref a) : Sem Flow) (SP X pins D) X.xe s4) X.xe { s' with heap := h3 } := by
        rw [hf]
        exact HandSPX.setFlight_upZ fl3 fun h4 hh4 up4 => wpAny_throw (tk _ _ ⟨a, B, sI, pins, σ', H', cls, d, rfl, J, nb, (up.trans up3).trans up4, .inr (.inr (by rw [hs]; exact hh4)), na, os, ag, w⟩)
      first
        | exact wpAny_bind (wpAny_pure (wpAny_bind fin))
        | exact wpAny_bind fin
    | @only x c ts b₀ suite np hp hds2 l2 hc hsu r ih =>
      intro w
      obtain ⟨b, hb1, yes, no⟩ := w
      refine wpAny_handleBy_cons (codeAny_handlers_test ?_) (by intro q; cases q)
      have LT : PySem.W.Looks (model X.prog X.w) h3 (typeOf (.ref a)) cls := fun A Q E s k q => wpAny_typeOf_ref (k _ _ he3) (by rw [hz3.1]; exact q)
      have LM := PySem.W.exm_one (M := model X.prog X.w) (J3.kIn) LT hb1
      have nm : ∀ {Q : Value → Shared → Prop} {E : Value → Shared → Prop}, Q c { s' with heap := h3 } → wpAny (model X.prog X.w) (X.A.mark (some (.ref a))) (eval (.Name x np) X.env) Q E { s' with heap := h3 } := fun {Q E} q => by
        obtain ⟨hg, hdb, hm | ⟨hm, hv, hnn⟩⟩ := hc
        · exact ld_glob (X := X.suite a ((a, oe3) :: (X.pn ++ pins))) S3 hg hm q hdb
        · exact ld_blt (X := X.suite a ((a, oe3) :: (X.pn ++ pins))) S3 hg hm hv q hnn hdb
      refine nm (LM.here ?_)
      cases b with
      | false => exact ih (no rfl)
      | true =>
        refine codeAny_handlers_suite ?_
        refine HandSPX.lands_againZ fl3 fun h4 fl4 up4 => ?_
        have J4 : Inv X pins σ' H' { s' with heap := h4 } := J.landed nb fl4.1 ((up.trans up3).trans up4) os ag
        obtain ⟨oe4, vs4, he4, hz4, hd4⟩ := fl4.there
        have S4 := J4.suite he4 hd4 na nL nF
        have y := yes rfl a na
        rw [set_out (by rw [J4.len]; exact Nat.le_refl _)] at y
        refine wpAny_mono ((hsu a oe4 cls d (X.pn ++ pins) hz4 ⟨_, hd4⟩).run [] _ _ H' _ S4 y) (fun f s6 q => ?_) (fun _ _ z => z.elim)
        have out : ∀ {σ6 : L2.St} {H6 : Hp} {G : L2.St → Prop}, Inv (X.suite a ((a, oe4) :: (X.pn ++ pins))) [] σ6 H6 s6 → G (σ6.set X.N.length none) → Inv X pins σ6 H6 s6 ∧ G σ6 := fun {σ6 H6 G} S6 q => by
          have J6 := S6.unsuite ok
          rw [set_out (by rw [J6.len]; exact Nat.le_refl _)] at q
          exact ⟨J6, q⟩
        cases f with
        | ret u => obtain ⟨v6, σ6, H6, S6, r6, q6⟩ := q; exact ⟨v6, σ6, H6, S6.unsuite ok, r6, q6⟩
        | next => obtain ⟨σ6, H6, S6, q6⟩ := q; obtain ⟨J6, q7⟩ := out (G := fun σ => D.nx σ H6) S6 q6; exact ⟨σ6, H6, J6, q7⟩
        | brk => obtain ⟨σ6, H6, S6, q6⟩ := q; obtain ⟨J6, q7⟩ := out (G := fun σ => D.bk σ H6) S6 q6; exact ⟨σ6, H6, J6, q7⟩
        | cont => obtain ⟨σ6, H6, S6, q6⟩ := q; obtain ⟨J6, q7⟩ := out (G := fun σ => D.ct σ H6) S6 q6; exact ⟨σ6, H6, J6, q7⟩
    | @cons x n c i ts b₀ suite np hp hds2 l2 hi hln hc hsu r ih =>
      intro w
      obtain ⟨b, hb1, yes, no⟩ := w
      refine wpAny_handleBy_cons (codeAny_handlers_test ?_) (by intro q; cases q)
      have LT : PySem.W.Looks (model X.prog X.w) h3 (typeOf (.ref a)) cls := fun A Q E s k q => wpAny_typeOf_ref (k _ _ he3) (by rw [hz3.1]; exact q)
      have LM := PySem.W.exm_one (M := model X.prog X.w) (J3.kIn) LT hb1
      have nm : ∀ {Q : Value → Shared → Prop} {E : Value → Shared → Prop}, Q c { s' with heap := h3 } → wpAny (model X.prog X.w) (X.A.mark (some (.ref a))) (eval (.Name x np) X.env) Q E { s' with heap := h3 } := fun {Q E} q => by
        obtain ⟨hg, hdb, hm | ⟨hm, hv, hnn⟩⟩ := hc
        · exact ld_glob (X := X.suite a ((a, oe3) :: (X.pn ++ pins))) S3 hg hm q hdb
        · exact ld_blt (X := X.suite a ((a, oe3) :: (X.pn ++ pins))) S3 hg hm hv q hnn hdb
      refine nm (LM.here ?_)
      cases b with
      | false => exact ih (no rfl)
      | true =>
        refine codeAny_handlers_suite_as ?_
        refine HandSPX.lands_againZ fl3 fun h4 fl4 up4 => ?_
        have J4 : Inv X pins σ' H' { s' with heap := h4 } := J.landed nb fl4.1 ((up.trans up3).trans up4) os ag
        obtain ⟨oe4, vs4, he4, hz4, hd4⟩ := fl4.there
        have S4 := J4.suite he4 hd4 na nL nF
        refine store_ok (X := X.suite a ((a, oe4) :: (X.pn ++ pins))) (v := .ref a) S4 hN hi (.inl hln) rfl (fun s5 S5 => ?_) (.inr hln)
        refine wpAny_mono ((hsu a oe4 cls d (X.pn ++ pins) hz4 ⟨_, hd4⟩).run [] s5 _ H' _ S5 (yes rfl a na)) (fun f s6 q => ?_) (fun _ _ z => z.elim)
        have out : ∀ {σ6 : L2.St} {H6 : Hp} {Q : Shared → Prop}, Inv (X.suite a ((a, oe4) :: (X.pn ++ pins))) [] σ6 H6 s6 → (∀ s7, Inv X pins (σ6.set i none) H6 s7 → Q s7) →
            wpAny (model X.prog X.w) X.A (do bindName X.env n .none; unbindBehindTheSuite X.env n hp) (fun _ s7 => Q s7) X.xe s6 := fun {σ6 H6 Q} S6 hq => gone_ok (S6.unsuite ok) hN hi hln hq
        cases f with
        | ret u => obtain ⟨v6, σ6, H6, S6, r6, q6⟩ := q; exact out S6 fun s7 J7 => ⟨_, _, _, J7, r6, q6⟩
        | next => obtain ⟨σ6, H6, S6, q6⟩ := q; exact out S6 fun s7 J7 => ⟨_, _, J7, q6⟩
        | brk => obtain ⟨σ6, H6, S6, q6⟩ := q; exact out S6 fun s7 J7 => ⟨_, _, J7, q6⟩
        | cont => obtain ⟨σ6, H6, S6, q6⟩ := q; exact out S6 fun s7 J7 => ⟨_, _, J7, q6⟩
end
end DL

namespace DL
open PySem PySem.Spec PyProof.Rows L2
/-! ### try over data -/
/-- a wish for exceptions, with the slots -/
abbrev WXD := Str → Str → Dv → StD → Mo → Prop
def CtW (K : PySem.W.Frag) (M : Mo) (H : Hp) (Wd : WXD) (W : WX) : Prop := ∀ x f C d sd M' a v σ H', PySem.W.nsIn K mainGlobals x = some (some (.ref C)) → Stp K M H M' H' → Rs K H' sd σ → M' a = none → H' a = some (.xd [(f, v)]) → RD K H' d v → Wd x f d sd M' → W (.ref C) (some a) σ H'
theorem CtW.on {K : PySem.W.Frag} {M M1 : Mo} {H H1 : Hp} {Wd : WXD} {W : WX} (c : CtW K M H Wd W) (s : Stp K M H M1 H1) : CtW K M1 H1 Wd W := fun x f C d sd M' a v σ H' n s' rs m h r q => c x f C d sd M' a v σ H' n (s.trans s') rs m h r q
theorem CtW.at {K : PySem.W.Frag} {M : Mo} {H : Hp} {Wd : WXD} {W : WX} {sd : StD} {σ : L2.St} (c : CtW K M H Wd W) (rs : Rs K H sd σ) : CtX K M H (fun x f d M' => Wd x f d sd M') (WE W σ) := fun x f C d M' a v H' n s' m h r q => c x f C d sd M' a v σ H' n s' (rs.keep s'.keep) m h r q
/-- the program's exceptions: which stands under which, and the field of each -/
structure ExT where
  sub : Str → Str → Option Bool
  fld : List (Str × Str)
structure ExOk (K : PySem.W.Frag) (T : ExT) : Prop where
  sub : ∀ x c b, T.sub x c = some b → ∀ C Cc, PySem.W.nsIn K mainGlobals x = some (some (.ref C)) → PySem.W.nsIn K mainGlobals c = some (some (.ref Cc)) → PySem.W.exmOne K (.ref C) (.ref Cc) = some b
  fld : ∀ x f, (x, f) ∈ T.fld → ∀ C, PySem.W.nsIn K mainGlobals x = some (some (.ref C)) → XfC K C ∧ PySem.W.findIn K (.ref C) f = some none
/-- a clause: its class's name, the slot of its name, its suite -/
abbrev DCl := Str × Nat × (Addr → Str → Str → Dv → TSD)
def goesD (i : Nat) (D : EndsD) : EndsD := { nx := fun sd M => D.nx (sd.set i none) M, rt := D.rt, bk := fun sd M => D.bk (sd.set i none) M, ct := fun sd M => D.ct (sd.set i none) M }
def wClsD (T : ExT) (D : EndsD) : List DCl → WXD
  | [] => fun _ _ _ _ _ => False
  | (c, i, ts) :: r => fun x f d sd M => match T.sub x c with
    | some true => ∀ a, ts a x f d (goesD i D) (sd.set i (some (.ref a))) M
    | some false => wClsD T D r x f d sd M
    | none => False
def tsOf (K : PySem.W.Frag) (ts : Addr → Str → Str → Dv → TSD) : Addr → Value → Option Addr → TS := fun a cls dx D σ H => ∃ x f C d dd v sd M Dd, cls = .ref C ∧ dx = some dd ∧ PySem.W.nsIn K mainGlobals x = some (some (.ref C)) ∧ SR K M H ∧ Rs K H sd σ ∧ M dd = none ∧ H dd = some (.xd [(f, v)]) ∧ RD K H d v ∧ ts a x f d Dd sd M ∧ CtS K M H Dd D
inductive ClD (X : Cx) : List ExceptHandler → List DCl → List Cl → Prop
  | nil : ClD X [] [] []
  | cons {c n : Str} {Cc : Addr} {i : Nat} {ts : Addr → Str → Str → Dv → TSD} {b₀ : Stmt} {suite : List Stmt} {np hp : Pos} {hds : List ExceptHandler} {ld : List DCl} {l : List Cl} (hi : X.N[i]? = some n) (hln : X.env.kindOf n = some .local)
      (hg : Gl X c) (hdb : (c == ("__debug__" : Str)) = false) (hm : X.mg c = some (.ref Cc)) (hn : PySem.W.nsIn X.K mainGlobals c = some (some (.ref Cc)))
      (hsu : ∀ (a : Addr) (oe : Obj) (x f : Str) (C dd : Addr) (d : Dv) (v : V) (pn : List (Addr × Obj)) (M1 : Mo) (H1 : Hp), Zc (.ref C) (some dd) oe → (∃ vs, oe.data = .fields vs) → PySem.W.nsIn X.K mainGlobals x = some (some (.ref C)) → M1 dd = none → H1 dd = some (.xd [(f, v)]) → RD X.K H1 d v →
        PSsd (X.suite a ((a, oe) :: pn)) M1 H1 (b₀ :: suite) (ts a x f d)) (r : ClD X hds ld l) : ClD X (.ExceptHandler (some (.Name c np)) (some n) (b₀ :: suite) hp :: hds) ((c, i, ts) :: ld) ((.ref Cc, i, tsOf X.K ts) :: l)
  | only {c : Str} {Cc : Addr} {ts : Addr → Str → Str → Dv → TSD} {b₀ : Stmt} {suite : List Stmt} {np hp : Pos} {hds : List ExceptHandler} {ld : List DCl} {l : List Cl}
      (hg : Gl X c) (hdb : (c == ("__debug__" : Str)) = false) (hm : X.mg c = some (.ref Cc)) (hn : PySem.W.nsIn X.K mainGlobals c = some (some (.ref Cc)))
      (hsu : ∀ (a : Addr) (oe : Obj) (x f : Str) (C dd : Addr) (d : Dv) (v : V) (pn : List (Addr × Obj)) (M1 : Mo) (H1 : Hp), Zc (.ref C) (some dd) oe → (∃ vs, oe.data = .fields vs) → PySem.W.nsIn X.K mainGlobals x = some (some (.ref C)) → M1 dd = none → H1 dd = some (.xd [(f, v)]) → RD X.K H1 d v →
        PSsd (X.suite a ((a, oe) :: pn)) M1 H1 (b₀ :: suite) (ts a x f d)) (r : ClD X hds ld l) : ClD X (.ExceptHandler (some (.Name c np)) none (b₀ :: suite) hp :: hds) ((c, X.N.length, ts) :: ld) ((.ref Cc, X.N.length, tsOf X.K ts) :: l)
section
variable {X : Cx} {M0 : Mo} {H0 : Hp}
theorem ClD.ok {hds : List ExceptHandler} {ld : List DCl} {l : List Cl} (h : ClD X hds ld l) : ClOk X hds l := by
  induction h with
  | nil => exact .nil
  | cons hi hln hg hdb hm hn hsu r ih =>
    refine .cons hi hln ⟨hg, hdb, .inl hm⟩ (fun a oe cls dx pn hz hf => ⟨fun pins s σ H D I h => ?_⟩) ih
    obtain ⟨x, f, C, d, dd, v, sd, M, Dd, rfl, rfl, n, sr, rs, md, hd, rd, q, c⟩ := h
    exact (hsu a oe x f C dd d v pn M H hz hf n md hd rd).run pins s σ H D I ⟨sd, M, Dd, ⟨Stp.refl sr, rs⟩, q, c⟩
  | only hg hdb hm hn hsu r ih =>
    refine .only ⟨hg, hdb, .inl hm⟩ (fun a oe cls dx pn hz hf => ⟨fun pins s σ H D I h => ?_⟩) ih
    obtain ⟨x, f, C, d, dd, v, sd, M, Dd, rfl, rfl, n, sr, rs, md, hd, rd, q, c⟩ := h
    exact (hsu a oe x f C dd d v pn M H hz hf n md hd rd).run pins s σ H D I ⟨sd, M, Dd, ⟨Stp.refl sr, rs⟩, q, c⟩
theorem ClD.wish {T : ExT} (E : ExOk X.K T) {hds : List ExceptHandler} {ld : List DCl} {l : List Cl} (h : ClD X hds ld l) {M : Mo} {H : Hp} {Dd : EndsD} {D : Ends} (c : CtS X.K M H Dd D) : CtW X.K M H (wClsD T Dd ld) (wCls X.K (fun _ _ _ _ => False) D l) := by
  induction h with
  | nil => intro x f C d sd M' a v σ H' n s rs m h r q; exact q.elim
  | @cons cn nn Cc i ts b₀ suite np hp hds ld l hi hln hg hdb hm hn hsu r ih =>
    intro x f C d sd M' a v σ H' n s rs m h r q
    unfold wClsD at q
    unfold wCls
    split at q
    · rename_i e
      refine ⟨true, E.sub _ _ _ e _ _ n hn, fun _ ae hae => ?_, fun z => by cases z⟩
      have c' := c.on s
      refine ⟨x, f, C, d, a, v, _, M', goesD i Dd, rfl, rfl, n, s.sr, rs.set RD.ref i, m, h, r, q ae, ⟨fun sd2 M2 σ2 H2 s2 rs2 q2 => ?_, c'.rt, fun sd2 M2 σ2 H2 s2 rs2 q2 => ?_, fun sd2 M2 σ2 H2 s2 rs2 q2 => ?_⟩⟩
      · exact c'.nx _ _ _ _ s2 (rs2.setN none i) q2
      · exact c'.bk _ _ _ _ s2 (rs2.setN none i) q2
      · exact c'.ct _ _ _ _ s2 (rs2.setN none i) q2
    · rename_i e
      exact ⟨false, E.sub _ _ _ e _ _ n hn, fun z => by (cases z), fun _ => ih x f C d sd M' a v σ H' n s rs m h r q⟩
    · exact q.elim
  | @only cn Cc ts b₀ suite np hp hds ld l hg hdb hm hn hsu r ih =>
    intro x f C d sd M' a v σ H' n s rs m h r q
    unfold wClsD at q
    unfold wCls
    split at q
    · rename_i e
      refine ⟨true, E.sub _ _ _ e _ _ n hn, fun _ ae hae => ?_, fun z => by cases z⟩
      have c' := c.on s
      refine ⟨x, f, C, d, a, v, _, M', goesD X.N.length Dd, rfl, rfl, n, s.sr, rs.set RD.ref X.N.length, m, h, r, q ae, ⟨fun sd2 M2 σ2 H2 s2 rs2 q2 => ?_, c'.rt, fun sd2 M2 σ2 H2 s2 rs2 q2 => ?_, fun sd2 M2 σ2 H2 s2 rs2 q2 => ?_⟩⟩
      · exact c'.nx _ _ _ _ s2 (rs2.setN none X.N.length) q2
      · exact c'.bk _ _ _ _ s2 (rs2.setN none X.N.length) q2
      · exact c'.ct _ _ _ _ s2 (rs2.setN none X.N.length) q2
    · rename_i e
      exact ⟨false, E.sub _ _ _ e _ _ n hn, fun z => by (cases z), fun _ => ih x f C d sd M' a v σ H' n s rs m h r q⟩
    · exact q.elim
/-- try: .. / except x as n: .. -/
def dTry (T : ExT) (tb : WXD → TSD) (ld : List DCl) : TSD := fun D sd M => tb (wClsD T D ld) D sd M
theorem takesF : Takes X (fun _ _ _ _ => False) := fun _ _ ⟨_, _, _, _, _, _, _, _, _, _, _, _, _, _, _, _, w⟩ => w.elim
theorem ds_try {T : ExT} {body : List Stmt} {h0 : ExceptHandler} {hds : List ExceptHandler} {ld : List DCl} {l : List Cl} {pos : Pos} {tb : WXD → TSD} (E : ExOk X.K T) (hs : X.stack = X.env :: X.outer) (hf : X.env.frame = some X.env.locals) (hN : X.N.Nodup)
    (hb : ∀ (W : WX) (pn : List (Addr × Obj)) (xe : Value → Shared → Prop) (Wd : WXD) (M1 : Mo) (H1 : Hp), Stp X.K M0 H0 M1 H1 → Takes (X.tr pn xe) W → PassesOwn (model X.prog X.w) X.A X.env xe → CtW X.K M1 H1 Wd W → PSsd (X.tr pn xe) M1 H1 body (tb Wd))
    (hh : ClD X (h0 :: hds) ld l) : PSd X M0 H0 (.Try body (h0 :: hds) [] [] pos) (dTry T tb ld) := by
  refine PS.imp (ps_try_cls (tb := fun W D σ H => ∃ sd M Dd Wd, Stp X.K M0 H0 M H ∧ Rs X.K H sd σ ∧ tb Wd Dd sd M ∧ CtS X.K M H Dd D ∧ CtW X.K M H Wd W) hs hf hN takesF (fun W pn xe tk po => ⟨fun pins s σ H D I h => ?_⟩) hh.ok) fun D σ H ⟨sd, M, Dd, w, q, c⟩ => ?_
  · obtain ⟨sd, M, Dd, Wd, st, rs, q, c, cw⟩ := h
    exact (hb W pn xe Wd M H st tk po cw).run pins s σ H D I ⟨sd, M, Dd, ⟨Stp.refl st.sr, rs⟩, q, c⟩
  · exact ⟨sd, M, Dd, _, w.st, w.rs, q, c, hh.wish E c⟩
/-- e.f in such a suite -/
def dXf (T : ExT) (a : Addr) (n x f : Str) (d : Dv) (te : TED) : TED := fun sd M Q => te sd M fun y M2 => y = .ref a ∧ n = f ∧ (x, f) ∈ T.fld ∧ Q d M2
theorem de_xf {T : ExT} {a C dd : Addr} {oe : Obj} {pn : List (Addr × Obj)} {x n f : Str} {d : Dv} {v : V} {e : Expr} {te : TED} {pos : Pos} (E : ExOk X.K T) (hz : Zc (.ref C) (some dd) oe) (hf : ∃ vs, oe.data = .fields vs) (hn : PySem.W.nsIn X.K mainGlobals x = some (some (.ref C))) (hm : M0 dd = none)
    (hh : H0 dd = some (.xd [(f, v)])) (hr : RD X.K H0 d v) (he : PEd (X.suite a ((a, oe) :: pn)) M0 H0 e te) (hb : attributeBase e n X.env (eval e X.env) = eval e X.env := by rfl) : PEd (X.suite a ((a, oe) :: pn)) M0 H0 (.Attribute e n pos) (dXf T a n x f d te) := by
  refine ⟨fun pins s σ H Q I ⟨sd, M, Qd, w, q, c⟩ => ?_⟩
  by_cases ok : n = f ∧ (x, f) ∈ T.fld
  · obtain ⟨rfl, k⟩ := ok
    obtain ⟨k1, k2⟩ := E.fld _ _ k C hn
    refine (pe_xf k1 k2 hz hf he hb).run pins s σ H Q I ⟨sd, M, _, w, q, fun y M2 u H2 s2 r2 q2 => ?_⟩
    obtain ⟨e1, _, _, q2⟩ := q2
    subst e1
    have s3 := w.st.trans s2
    obtain ⟨h2, _⟩ := s3.same dd _ hh (fun _ z => by cases z) hm
    exact ⟨r2.ref_of, rfl, dd, _, v, rfl, h2, by simp [List.lookup], c _ _ _ _ s2 (hr.keep s3.keep) q2⟩
  · refine attr_of hb (thn (he.run pins s σ H (fun _ _ => False) I ⟨sd, M, _, w, q, fun y M2 u H2 s2 r2 q2 => ok ⟨q2.2.1, q2.2.2.1⟩⟩) fun u s1 hh => ?_)
    obtain ⟨_, _, _, _, z⟩ := hh
    exact z.elim
end
section
variable {X : Cx} {M0 : Mo} {H0 : Hp} {k : Nat} {ps : List Str} {B : FuncData → Prop} {sp : SpD} {x : Str} {p pos : Pos} {e : Expr} {es : List Expr} {t : TAD} {Wd : WXD} {W : WX}
/-- f(..) in a try's body -/
def dCallS (sp : SpD) (Wd : WXD) (t : TAD) : TED := fun sd M Q => t sd M fun ds M1 => sp ds M1 Q (fun x f d M' => Wd x f d sd M')
theorem de_callS {f : Addr} {fd : FuncData} (F : FnOk X.prog X.w X.K X.mg X.base (L2.CX X.prog X.w) k f fd ps (LSp X.K sp)) (hr : Room k X.A) (hg : Gl X x) (hm : X.mg x = some (.ref f)) (hk : PySem.W.keepIn X.K (.ref f) = true) (hb : Binds X.K fd ps []) (tk : Takes X W) (cw : CtW X.K M0 H0 Wd W)
    (ha : PAd X M0 H0 (e :: es) t) (hdb : (x == ("__debug__" : Str)) = false := by decide) (he : starEach (e :: es) X.env = (false, eval e X.env) :: starEach es X.env := by rfl) (hpl : (backTo pos (starEach es X.env)).any (·.1) = false := by rfl) :
    PEd X M0 H0 (.Call (.Name x p) (e :: es) [] pos) (dCallS sp Wd t) :=
  PE.imp (pe_callS F hr hg hm hk hb (fun σ => passAt tk σ) ha hdb he hpl) fun σ H Q ⟨sd, M, Qd, w, q, c⟩ => ⟨sd, M, _, w, q, fun ds M1 vs H1 s1 r1 q1 => ⟨ds, M1, Qd, _, r1, s1.sr, q1, c.on s1, (cw.on (w.st.trans s1)).at (w.rs.keep s1.keep)⟩⟩
end
end DL

namespace DL
open PySem PySem.Spec PyProof.Rows L2 LamX
/-! ### lambdas without parameters, handed to a def -/
section
variable {X : Cx} {pins : List (Addr × Obj)} {σ : L2.St} {H : Hp} {s : Shared}
/-- all but the table at P stays -/
def ButT (P : Addr) (H H1 : Hp) : Prop := ∀ b o, b ≠ P → H b = some o → H1 b = some o
theorem stp_tab {K : PySem.W.Frag} {M : Mo} {H H1 : Hp} {P : Addr} {q : Str} (sr : SR K M H) (hP : M P = some (.tab q)) (bt : ButT P H H1) (t1 : TabS H1 P q) : Stp K M H M H1 := by
  have hPt : ∃ ps, H P = some (.tbl ps) := by
    have o := sr P _ hP
    simp only [Own] at o
    obtain ⟨ps, e, _⟩ := o
    exact ⟨ps, e⟩
  obtain ⟨ps, hps⟩ := hPt
  have nP : ∀ b o, H b = some o → NT o → b ≠ P := fun b o e nt z => by
    subst z
    rw [hps] at e
    cases e
    exact nt ps rfl
  have k : Keep H H1 := ⟨fun b xs e => bt b _ (nP b _ e fun _ z => by cases z) e, fun b o u e => bt b _ (nP b _ e fun _ z => by cases z) e, fun b q e => bt b _ (nP b _ e fun ps => codeO_ne ps) e⟩
  refine ⟨k, fun a o e => ?_, fun a o e => ?_, fun a o e nt n => ⟨bt a o (nP a o e nt) e, n⟩⟩
  · by_cases z : a = P
    · subst z
      rw [hP] at e
      cases e
      simp only [Own]
      exact t1
    · obtain ⟨u, hu⟩ := (sr a o e).there
      exact (sr a o e).keep k ((bt a u z hu).trans hu.symm)
  · by_cases z : a = P
    · subst z
      obtain ⟨ps1, e1, _⟩ := t1
      rw [e1]
      exact fun z => by cases z
    · rw [bt a o z e]
      exact fun z => by cases z
/-- the lambda is made: as the kit's, all but the one table kept -/
theorem lam_makeT {c P : Addr} {params : Arguments} {body : Expr} {scope : Scope} {pos : Pos} {E : Value → Shared → Prop} {Q : Value → Shared → Prop} (I : Inv X pins σ H s) (TB : TabB X.base X.mg c P) (hcode : X.env.code = .ref c)
    (hT : TabS H P (X.env.qual ++ "<lambda>")) (hdef : defaultsOf params X.env = ([], [])) (hfree : ∀ y ∈ scope.names, y.2 = .free → ∃ c, X.env.cells.lookup y.1 = some c)
    (h : ∀ (f c' : Addr) (pm ctv : Value) (H1 : Hp) (s' : Shared), Inv X pins σ H1 s' → ButT P H H1 → TabS H1 P (X.env.qual ++ "<lambda>") →
      s'.heap.get? f = some (PySem.W.kla_obj "<lambda>" (X.env.qual ++ "<lambda>") params body scope (cloFrom X.env.cells scope.names []) pm c' ctv) → H1 f = none → f ∉ frs X.stack → H1 c' = some (CodeO c' (X.env.qual ++ "<lambda>")) → Q (.ref f) s') :
    wpAny (model X.prog X.w) X.A (eval (.Lambda params body scope pos) X.env) Q E s := by
  obtain ⟨ps, hP, ht, ha⟩ := hT
  refine PySem.W.kla_eval hdef ?_
  have bP := TB.bm.keeps I.bk
  have hP' : s.heap.get? P = some { cls := .none, data := .fields ps } := I.hok P _ hP
  have off : ∀ f, s.heap.objs.size ≤ f → f ∉ frs X.stack := fun f hf z => by
    rcases List.mem_cons.mp (I.stkSub _ z) with e | e
    · have h1 := I.lt
      rw [← e] at h1
      exact absurd h1 (Nat.not_lt.mpr hf)
    · exact I.nofs hf e
  cases hc : codeAmong pos ps.toList with
  | some cv =>
    obtain ⟨c', e, hco⟩ := ha pos cv hc
    subst e
    refine PySem.W.kla_makeFunctionHit (mg := X.mg) (c := c) (P := P) (ps := ps) (closure_ok hfree) I.ok.glob (I.mod.glob.keeps I.bk) hcode (TB.code.keeps I.bk) hP' ht hc bP fun ctv h' tk hx hsz => ?_
    exact h h'.objs.size c' _ ctv H _ (I.kept fun b o e => Heap.get?_push_of_some _ (hx b o e)) (fun b o _ e => e) ⟨ps, hP, ht, ha⟩ (Heap.get?_push_size _ rfl) (I.hok.fresh hsz) (off _ hsz) hco
  | none =>
    refine PySem.W.kla_makeFunction (mg := X.mg) (c := c) (P := P) (ps := ps) (closure_ok hfree) I.ok.glob (I.mod.glob.keeps I.bk) hcode (TB.code.keeps I.bk) hP' ht hc TB.gP bP fun c' ctv h' tk hx hge hlt hrec htb => ?_
    obtain ⟨c2, oc, vs, t, e2, hoc, hd, hv⟩ := hrec
    cases e2
    have hsz : s.heap.objs.size ≤ h'.objs.size := Nat.le_trans hge (Nat.le_of_lt hlt)
    have nC : H c' = none := I.hok.fresh hge
    have nPc : P ≠ c' := ne_of_none hP nC
    have J := inv_table (q := X.env.qual ++ "<lambda>") (t' := tk) (more := #[rawInt pos.line, rawInt pos.col, .ref c']) (h' := h'.push (PySem.W.kla_obj "<lambda>" (X.env.qual ++ "<lambda>") params body scope (cloFrom X.env.cells scope.names []) ((X.mg "__name__").getD .none) c' ctv)) I hP
      (fun b o hb e => Heap.get?_push_of_some _ (hx b o hb e)) (Heap.get?_push_of_some _ htb) hge ⟨oc, vs, t, Heap.get?_push_of_some _ hoc, hd, hv⟩
    have bt : ButT P H (upd (upd H P (.tbl (ps ++ #[rawInt pos.line, rawInt pos.col, .ref c']))) c' (CodeO c' (X.env.qual ++ "<lambda>"))) := fun b o hb e => by
      rw [upd_ne (ne_of_none e nC), upd_ne hb]
      exact e
    have el : (ps ++ #[rawInt pos.line, rawInt pos.col, Value.ref c']).toList = ps.toList ++ [rawInt pos.line, rawInt pos.col, .ref c'] := by simp
    refine h h'.objs.size c' ((X.mg "__name__").getD .none) ctv _ _ J bt ⟨_, by rw [upd_ne nPc, upd_same], by rw [el]; exact PySem.TriplesOk_snoc _ _ _ _ ht, fun p' cv hcv => ?_⟩ (Heap.get?_push_size _ rfl) ?_ (off _ hsz) upd_same
    · rw [el] at hcv
      rcases among_app _ ht hcv with z | z
      · obtain ⟨c0, e1, e2⟩ := ha p' cv z
        have n0 : c0 ≠ P := fun z => by
          rw [z, hP] at e2
          exact codeO_ne _ (Option.some.inj e2).symm
        exact ⟨c0, e1, bt _ _ n0 e2⟩
      · exact ⟨c', z, upd_same⟩
    · have n1 : h'.objs.size ≠ c' := Nat.ne_of_gt hlt
      have n2 : h'.objs.size ≠ P := Nat.ne_of_gt (Nat.lt_of_lt_of_le (Heap.lt_size hP') hsz)
      rw [upd_ne n1, upd_ne n2]
      exact I.hok.fresh hsz
end
section
variable {X : Cx} {pins : List (Addr × Obj)} {σ : L2.St} {H : Hp} {s : Shared}
/-- x(), in the def that got the lambda, the exceptions' wish with the slots -/
theorem pe_actS {CXg : CXT} {Eg : XK} {Ng : List Str} {qg : Str} {sg : Scope} {g f c' : Addr} {cdg pm ctv : Value} {params : Arguments} {body : Expr} {scope : Scope} {k i : Nat} {a : Str} {pn : List (Addr × Obj)} {xe : Value → Shared → Prop} {W : WX} {tb : XK → TE} {p1 p2 : Pos}
    (I : Inv X pins σ H s) (L : LamS X.env.scope scope) (hf : s.heap.get? f = some (PySem.W.kla_obj "<lambda>" (X.env.qual ++ "<lambda>") params body scope (cloFrom X.env.cells scope.names []) pm c' ctv)) (hfn : H f = none) (hfr : f ∉ frs X.stack)
    (hbind : bindArgs (PySem.W.kla_fn "<lambda>" (X.env.qual ++ "<lambda>") params body scope (cloFrom X.env.cells scope.names []) pm (.ref c') ctv) ⟨[], []⟩ = pure [])
    (tk : Takes ((cxOf CXg X.prog X.w X.K X.mg X.base Ng qg sg g cdg X.A X.stack s H Eg).tr pn xe) W) (hr : Room (k + 1) (X.A.deeper (envOfC qg sg s.heap.objs.size g cdg)))
    (hbody : ∀ (A : Around) (outer : List Env) (s : Shared) (H : Hp) (E : XK), Room k (A.deeper (lamEnv X scope s.heap.objs.size f c')) → PE (lamCx X A outer s H E scope f c') body (tb E))
    (hN : Ng[i]? = some a) (hv : Vis sg a) (hd : (a == ("__debug__" : Str)) = false := by decide) (hcd : (a == ("__classdict__" : Str)) = false := by decide) :
    PE ((cxOf CXg X.prog X.w X.K X.mg X.base Ng qg sg g cdg X.A X.stack s H Eg).tr pn xe) (.Call (.Name a p1) [] [] p2)
      (fun σZ HZ Q => σZ[i]? = some (some (.ref f)) ∧ HZ c' = some (CodeO c' (X.env.qual ++ "<lambda>")) ∧ tb (WE W σZ) σ HZ Q) := by
  refine ⟨fun pinsZ sZ σZ HZ Q IZ h => ?_⟩
  obtain ⟨hs, hc, ht⟩ := h
  refine wpAny_Call_Name_kw (thn ((pe_var (pos := p1) (i := i) hN hv hd hcd).run pinsZ sZ σZ HZ (fun v H1 => v = .ref f ∧ H1 = HZ) IZ ⟨.ref f, hs, rfl, rfl⟩) fun u s1 ⟨v, H1, I1, r1, ev, eH⟩ => ?_)
  subst ev
  rw [eH] at I1
  obtain rfl : u = Value.ref f := r1
  have of1 := I1.base.keep f _ hf hfn hfr (fun z => nomatch (show f ∈ ([] : List Addr) from z))
  refine PySem.W.callWith_F0 ⟨_, _, _, _, of1⟩ ?_
  obtain ⟨⟨oc, vs, t, hoc, hdc, hvc⟩, _, _⟩ := I1.hok c' _ hc
  have rc : codeAny (model X.prog X.w) (X.A.deeper (envOfC qg sg s.heap.objs.size g cdg)) (.call (.ref f) ⟨[], []⟩) (CR (L2.CX X.prog X.w) (envOfC qg sg s.heap.objs.size g cdg :: X.stack) X.prog X.w HZ s1 Q (WE W σZ)) s1 := by
    refine PySem.W.kla_callFunE hr.depth of1 rfl L.co L.gen rfl ⟨c', oc, vs, t, rfl, hoc, hdc, hvc⟩ ?_
    rw [hbind]
    refine wpAny_pure (wpAny_newFunctionEnv (fun y hy => (L.own y hy).2) (fun y hy => absurd hy (by simp)) (fun h₁ hns hsb => ⟨I1.nolimit.fresh _ hsb, ?_⟩) L.kind)
    show codeAny _ _ (.expr body (lamEnv X scope s1.heap.objs.size f c')) _ _
    have J := lam_start2 (E := WE W σZ) (c' := c') (tk := s1.toks + ([] : List (Str × Value)).length) (f := f) I L I1.env0 hr.hd I1.base hns (fun b o e => hsb.extBut b o (Nat.ne_of_lt (Heap.lt_size e)) (Heap.get?_push_of_some _ e))
    refine PySem.W.kla_codeExpr (wpAny_mono ((hbody _ _ s1 HZ _ (hr.deeper _)).run [] _ _ HZ Q J ht) (fun v s' hq => ?_) fun e s' hq => hq)
    obtain ⟨w', H', J', rv, q⟩ := hq
    exact ⟨w', H', J'.os, J'.bare, J'.base, J'.hok, rv, q⟩
  refine wpAny_call (codeAny_mono rc fun r s' hq => ?_)
  cases r with
  | error e => exact passAt tk σZ pinsZ HZ s1 e s' I1 hq
  | ok fl =>
    cases fl with
    | ret u => exact I1.after hq
    | next => exact hq.elim
    | brk => exact hq.elim
    | cont => exact hq.elim
end
abbrev LamD := EXD → Mo → QD → Prop
abbrev SpA := LamD → Mo → QD → Prop
/-- the def that calls what it got, over data -/
def TTd (K : PySem.W.Frag) (spA : SpA) : (XK → Hp → VK → Prop) → Hp → VK → Prop := fun tl H Q => ∃ (M : Mo) (Qd : QD) (tlD : LamD), SR K M H ∧ spA tlD M Qd ∧ Ct K M H Qd Q ∧
  ∀ Ed M' Qd' H' E Q', Stp K M H M' H' → tlD Ed M' Qd' → Ct K M' H' Qd' Q' → CtX K M' H' Ed E → tl E H' Q'
def GivesS (X : Cx) (Ng : List Str) (x : Str) (sg : Scope) (g : Addr) (cdg : Value) (bg : List Stmt) (a q : Str) (TT : (XK → Hp → VK → Prop) → Hp → VK → Prop) : Prop :=
  ∀ (f c' : Addr) (s : Shared) (H : Hp) (Q : VK) (tl : XK → Hp → VK → Prop),
    (∀ (W : WX) (pn : List (Addr × Obj)) (xe : Value → Shared → Prop) (p1 p2 : Pos), Takes ((cxOf C8.CX0 X.prog X.w X.K X.mg X.base Ng x sg g cdg X.A X.stack s H C8.E0).tr pn xe) W →
      PE ((cxOf C8.CX0 X.prog X.w X.K X.mg X.base Ng x sg g cdg X.A X.stack s H C8.E0).tr pn xe) (.Call (.Name a p1) [] [] p2) (fun σZ HZ Q => σZ[0]? = some (some (.ref f)) ∧ HZ c' = some (CodeO c' q) ∧ tl (WE W σZ) HZ Q)) →
    H c' = some (CodeO c' q) → TT tl H Q →
    ∃ t, PSs (cxOf C8.CX0 X.prog X.w X.K X.mg X.base Ng x sg g cdg X.A X.stack s H C8.E0).nox bg t ∧ t { nx := fun _ H' => Q .non H', rt := Q } (L2.start Ng [.ref f]) H
/-- x(), over data -/
def dAct (f : Addr) (tlD : LamD) (Wd : WXD) : TED := fun sd M Q => sd[0]? = some (some (.ref f)) ∧ tlD (fun x f d M' => Wd x f d sd M') M Q
theorem gives_mk {X : Cx} {Ng : List Str} {x a q : Str} {sg : Scope} {g : Addr} {cdg : Value} {bg : List Stmt} {spA : SpA}
    (hbody : ∀ (f : Addr) (s : Shared) (H : Hp) (M : Mo) (tlD : LamD) (Qd : QD), spA tlD M Qd →
      (∀ (W : WX) (pn : List (Addr × Obj)) (xe : Value → Shared → Prop) (p1 p2 : Pos) (Wd : WXD) (M1 : Mo) (H1 : Hp), Stp X.K M H M1 H1 → Takes ((cxOf C8.CX0 X.prog X.w X.K X.mg X.base Ng x sg g cdg X.A X.stack s H C8.E0).nox.tr pn xe) W → CtW X.K M1 H1 Wd W →
        PEd ((cxOf C8.CX0 X.prog X.w X.K X.mg X.base Ng x sg g cdg X.A X.stack s H C8.E0).nox.tr pn xe) M1 H1 (.Call (.Name a p1) [] [] p2) (dAct f tlD Wd)) →
      ∃ t, PSsd (cxOf C8.CX0 X.prog X.w X.K X.mg X.base Ng x sg g cdg X.A X.stack s H C8.E0).nox M H bg t ∧ t { nx := fun _ M' => Fg Qd .non M', rt := Fg Qd } (startD Ng [.ref f]) M) : GivesS X Ng x sg g cdg bg a q (TTd X.K spA) := by
  intro f c' s H Q tl act hc ⟨M, Qd, tlD, sr, hs, c, htl⟩
  obtain ⟨t, ht, hq⟩ := hbody f s H M tlD Qd hs (fun W pn xe p1 p2 Wd M1 H1 st tk cw => PE.imp (act W pn xe p1 p2 tk) fun σZ HZ Q2 ⟨sd, M2, Qd2, w, ⟨q0, q⟩, c2⟩ => by
    have s2 := st.trans w.st
    obtain ⟨v, hv, rv⟩ := w.rs.2 0 _ q0
    rw [rv.ref_of] at hv
    exact ⟨hv, s2.keep.cods _ _ hc, htl _ M2 Qd2 HZ _ Q2 s2 q c2 ((cw.on w.st).at w.rs)⟩)
  refine ⟨LS X.K M H t, ht, startD Ng [.ref f], M, _, ⟨.refl sr, start_rs (.cons RD.ref .nil)⟩, hq, ⟨fun sd M' σ H' s rs ⟨M2, hs, q⟩ => c .non M2 .non H' (s.sub hs) .non q, fun d M' v H' s r ⟨M2, hs, q⟩ => c d M2 v H' (s.sub hs) r q, fun _ _ _ _ _ _ q => q.elim, fun _ _ _ _ _ _ q => q.elim⟩⟩
/-- g(lambda: body): P the table of the maker's code -/
def dLam (P : Addr) (q : Str) (spA : SpA) (tD : EXD → TED) : TED := fun sd M Q => M P = some (.tab q) ∧ spA (fun Ed M' Qd' => tD Ed sd M' Qd') M Q
section
variable {X : Cx} {M0 : Mo} {H0 : Hp}
theorem de_lam {spA : SpA} {x a q : Str} {g c P : Addr} {k : Nat} {pg : Arguments} {bg : List Stmt} {sg : Scope} {dV kV doc pm cdv ct oc : Value} {an od : Option Addr} {osl : Array (Option Value)} {Ng : List Str}
    {params : Arguments} {body : Expr} {scope : Scope} {tD : EXD → TED} {p lpos pos : Pos} (hg : Gl X x) (hm : X.mg x = some (.ref g)) (hk : PySem.W.keepIn X.K (.ref g) = true)
    (lk : X.K.lookup g = some ⟨oc, od, .func (PySem.W.fnOf x x pg bg sg dV kV doc pm an cdv ct), osl⟩) (hcg : PySem.W.codeIn X.K cdv x = true) (hb : L2.Binds X.K (PySem.W.fnOf x x pg bg sg dV kV doc pm an cdv ct) [a] []) (Sg : FnScope Ng [a] sg) (hNg : Ng[0]? = some a) (hva : Vis sg a)
    (hG : GivesS X Ng x sg g cdv bg a (X.env.qual ++ "<lambda>") (TTd X.K spA))
    (TB : TabB X.base X.mg c P) (hcode : X.env.code = .ref c) (hq : X.env.qual ++ "<lambda>" = q) (hr : Room (k + 2) X.A) (L : LamS X.env.scope scope) (hdef : defaultsOf params X.env = ([], []))
    (hbind : ∀ (q : Str) (cl : List (Str × Addr)) (pm cv ctv : Value), bindArgs (PySem.W.kla_fn "<lambda>" q params body scope cl pm cv ctv) ⟨[], []⟩ = pure [])
    (hbody : ∀ (A : Around) (outer : List Env) (s : Shared) (H : Hp) (E : XK) (f c' : Addr) (M1 : Mo) (H1 : Hp) (Ed : EXD), Room k (A.deeper (lamEnv X scope s.heap.objs.size f c')) → CtX X.K M1 H1 Ed E → PEd (lamCx X A outer s H E scope f c') M1 H1 body (tD Ed))
    (hdb : (x == ("__debug__" : Str)) = false := by decide) (hd : (a == ("__debug__" : Str)) = false := by decide) (hcd : (a == ("__classdict__" : Str)) = false := by decide) :
    PEd X M0 H0 (.Call (.Name x p) [.Lambda params body scope lpos] [] pos) (dLam P q spA tD) := by
  subst hq
  refine ⟨fun pins s σ H Q I ⟨sd, M, Qd, w, ⟨hP, hsp⟩, ct⟩ => ?_⟩
  have hT : TabS H P (X.env.qual ++ "<lambda>") := by
    have o := w.st.sr P _ hP
    simp only [Own] at o
    exact o
  refine wpAny_Call_Name_kw (ld_glob I hg hm ?_ hdb)
  refine PySem.W.callWith_K (h₀ := X.base) I.ok.mod.kin hk ?_ (by rfl) (by rfl)
  show wpAny _ _ (spliced ((false, eval (.Lambda params body scope lpos) X.env) :: backTo pos (starEach [] X.env))) _ _ s
  refine Calls.spliced_cons (lam_makeT I TB hcode hT hdef (L.has I.ok) fun f c' pm' ctv H1 s' I1 bt T1 hf hfn hfr hco => ?_)
  refine Calls.spliced_nil ⟨I1.kIn, ?_⟩
  have s1 : Stp X.K M H M H1 := stp_tab w.st.sr hP bt T1
  have rc : codeAny (model X.prog X.w) X.A (.call (.ref g) ⟨[.ref f], []⟩) (CR C8.CX0 X.stack X.prog X.w H1 s' Q C8.E0) s' := by
    refine run_ofS (N := Ng) (ps := [a]) (us := [.ref f]) (vs := [.ref f]) lk hcg Sg hr I1.env0 (hb s' [.ref f] I1.kIn rfl) (.cons rfl .nil) rfl fun hr' => ?_
    obtain ⟨t', ht', hq'⟩ := hG f c' s' H1 Q (fun E H' Q' => ∃ sd M' Qd' Ed, Rs X.K H' sd σ ∧ SR X.K M' H' ∧ tD Ed sd M' Qd' ∧ Ct X.K M' H' Qd' Q' ∧ CtX X.K M' H' Ed E)
      (fun W pn xe p1 p2 tk => pe_actS (tb := fun E σ H' Q' => ∃ sd M' Qd' Ed, Rs X.K H' sd σ ∧ SR X.K M' H' ∧ tD Ed sd M' Qd' ∧ Ct X.K M' H' Qd' Q' ∧ CtX X.K M' H' Ed E) (i := 0) I1 L hf hfn hfr (hbind _ _ _ _ _) tk hr' (fun A outer s H E hr2 =>
        ⟨fun pins s3 σ3 H' Q' I3 ⟨sd, M', Qd', Ed, rs, sr, q, c, cx⟩ => (hbody A outer s H E f c' M' H' Ed hr2 cx).run pins s3 σ3 H' Q' I3 ⟨sd, M', Qd', ⟨Stp.refl sr, rs⟩, q, c⟩⟩) hNg hva hd hcd) hco
      ⟨M, Qd, _, s1.sr, hsp, ct.on s1, fun Ed M' Qd' H' E Q' st q' c' cx' => ⟨sd, M', Qd', Ed, (w.rs.keep s1.keep).keep st.keep, st.sr, q', c', cx'⟩⟩
    exact ⟨t', ht'.nox, hq'⟩
  refine wpAny_call (codeAny_mono rc fun r s2 hq => ?_)
  cases r with
  | error e => exact (show False from hq).elim
  | ok fl =>
    cases fl with
    | ret u => exact I1.after hq
    | next => exact hq.elim
    | brk => exact hq.elim
    | cont => exact hq.elim
end
end DL

namespace DL
open PySem PySem.Spec PyProof.Rows L2 LamX
/-! ### defs that hold lambdas: their code object is known -/
structure FunC (K : PySem.W.Frag) (x qual : Str) (st : Stmt) (f : Addr) (fd : FuncData) (c : Addr) : Prop where
  ex : ∃ (oc : Value) (od : Option Addr) (kV doc pm : Value) (an : Option Addr) (ct : Value) (osl : Array (Option Value)),
    fd = PySem.W.fnOf x qual (defArgs st) (defBody st) (defScope st) .none kV doc pm an (.ref c) ct ∧ K.lookup f = some ⟨oc, od, .func fd, osl⟩ ∧ PySem.W.codeIn K (.ref c) qual = true
  kp : PySem.W.keepIn K (.ref f) = true
theorem FunC.fn {K : PySem.W.Frag} {x qual : Str} {st : Stmt} {f : Addr} {fd : FuncData} {c : Addr} (F : FunC K x qual st f fd c) : Fun K x qual st f fd := by
  obtain ⟨oc, od, kV, doc, pm, an, ct, osl, e, l, q⟩ := F.ex
  exact ⟨⟨oc, od, kV, doc, pm, an, .ref c, ct, osl, e, l, q⟩, F.kp⟩
theorem okDC {P : Program} {w : World} {K : PySem.W.Frag} {mg : Str → Option Value} {base : Heap} {x qual : Str} {st : Stmt} {f c : Addr} {fd : FuncData} {N ps : List Str} {k : Nat} {sp : SpD} (F : FunC K x qual st f fd c) (S : FnScope N ps (defScope st)) (len : ∀ ds M Q E, sp ds M Q E → ds.length = ps.length)
    (hbody : ∀ (A : Around) (outer : List Env) (s : Shared) (H : Hp) (M : Mo) (ds : List Dv) (Qd : QD) (Ed : EXD) (E : XK), Room k (A.deeper (envOfC qual (defScope st) s.heap.objs.size f (.ref c))) → CtX K M H (FgE Ed) E → sp ds M Qd Ed →
      ∃ t, PSsd (cxOf (L2.CX P w) P w K mg base N qual (defScope st) f (.ref c) A outer s H E) M H (defBody st) t ∧ t { nx := fun _ M' => Fg Qd .non M', rt := Fg Qd } (startD N ds) M) : FnOk P w K mg base (L2.CX P w) (k + 1) f fd ps (LSp K sp) := by
  obtain ⟨oc, od, kV, doc, pm, an, ct, osl, rfl, lk, hcd⟩ := F.ex
  refine fn_of lk hcd S (fun vs H Q E h => ?_) fun A outer s H vs Q E hr h => ?_
  · obtain ⟨ds, M, Qd, Ed, r, sr, h, _, _⟩ := h
    rw [← r.length]
    exact len ds M Qd Ed h
  · obtain ⟨ds, M, Qd, Ed, r, sr, h, c, cx⟩ := h
    obtain ⟨t, ht, hq⟩ := hbody A outer s H M ds Qd Ed E hr cx.fg h
    exact ⟨LS K M H t, ht, startD N ds, M, _, ⟨.refl sr, start_rs r⟩, hq, ⟨fun sd M' σ H' s rs ⟨M2, hs, q⟩ => c .non M2 .non H' (s.sub hs) .non q, fun d M' v H' s r ⟨M2, hs, q⟩ => c d M2 v H' (s.sub hs) r q, fun _ _ _ _ _ _ q => q.elim, fun _ _ _ _ _ _ q => q.elim⟩⟩
/-- a def that calls what it got -/
structure GivD (P : Program) (w : World) (K : PySem.W.Frag) (mg : Str → Option Value) (base : Heap) (x : Str) (st : Stmt) (a : Str) (Ng : List Str) (spA : SpA) : Prop where
  ex : ∃ (g : Addr) (dV kV doc pm cdv ct oc : Value) (an od : Option Addr) (osl : Array (Option Value)), mg x = some (.ref g) ∧ PySem.W.keepIn K (.ref g) = true ∧ K.lookup g = some ⟨oc, od, .func (PySem.W.fnOf x x (defArgs st) (defBody st) (defScope st) dV kV doc pm an cdv ct), osl⟩ ∧
    PySem.W.codeIn K cdv x = true ∧ L2.Binds K (PySem.W.fnOf x x (defArgs st) (defBody st) (defScope st) dV kV doc pm an cdv ct) [a] [] ∧
    ∀ X : Cx, X.prog = P → X.w = w → X.K = K → X.mg = mg → X.base = base → ∀ q, GivesS X Ng x (defScope st) g cdv (defBody st) a q (TTd X.K spA)
  S : FnScope Ng [a] (defScope st)
  n0 : Ng[0]? = some a
  va : Vis (defScope st) a
theorem giv_mk {P : Program} {w : World} {K : PySem.W.Frag} {mg : Str → Option Value} {base : Heap} {x a : Str} {st : Stmt} {Ng : List Str} {g : Addr} {fd : FuncData} {spA : SpA} (F : Fun K x x st g fd) (gm : mg x = some (.ref g)) (hb : L2.Binds K fd [a] []) (S : FnScope Ng [a] (defScope st)) (n0 : Ng[0]? = some a) (va : Vis (defScope st) a)
    (hbody : ∀ (cdv : Value) (A : Around) (stack : List Env) (f : Addr) (s : Shared) (H : Hp) (M : Mo) (tlD : LamD) (Qd : QD), spA tlD M Qd →
      (∀ (W : WX) (pn : List (Addr × Obj)) (xe : Value → Shared → Prop) (p1 p2 : Pos) (Wd : WXD) (M1 : Mo) (H1 : Hp), Stp K M H M1 H1 → Takes ((cxOf C8.CX0 P w K mg base Ng x (defScope st) g cdv A stack s H C8.E0).nox.tr pn xe) W → CtW K M1 H1 Wd W →
        PEd ((cxOf C8.CX0 P w K mg base Ng x (defScope st) g cdv A stack s H C8.E0).nox.tr pn xe) M1 H1 (.Call (.Name a p1) [] [] p2) (dAct f tlD Wd)) →
      ∃ t, PSsd (cxOf C8.CX0 P w K mg base Ng x (defScope st) g cdv A stack s H C8.E0).nox M H (defBody st) t ∧ t { nx := fun _ M' => Fg Qd .non M', rt := Fg Qd } (startD Ng [.ref f]) M) : GivD P w K mg base x st a Ng spA := by
  obtain ⟨oc, od, kV, doc, pm, an, cdv, ct, osl, rfl, lk, hcd⟩ := F.ex
  refine ⟨⟨g, _, kV, doc, pm, cdv, ct, oc, an, od, osl, gm, F.kp, lk, hcd, hb, fun X e1 e2 e3 e4 e5 q => ?_⟩, S, n0, va⟩
  subst e1 e2 e3 e4 e5
  exact gives_mk fun f s H M tlD Qd h act => hbody cdv X.A X.stack f s H M tlD Qd h act
section
variable {X : Cx} {M0 : Mo} {H0 : Hp}
theorem de_lamG {spA : SpA} {x a q : Str} {st : Stmt} {c P : Addr} {k : Nat} {Ng : List Str} {params : Arguments} {body : Expr} {scope : Scope} {tD : EXD → TED} {p lpos pos : Pos} (G : GivD X.prog X.w X.K X.mg X.base x st a Ng spA) (hg : Gl X x)
    (TB : TabB X.base X.mg c P) (hcode : X.env.code = .ref c) (hq : X.env.qual ++ "<lambda>" = q) (hr : Room (k + 2) X.A) (L : LamS X.env.scope scope) (hdef : defaultsOf params X.env = ([], []))
    (hbind : ∀ (q : Str) (cl : List (Str × Addr)) (pm cv ctv : Value), bindArgs (PySem.W.kla_fn "<lambda>" q params body scope cl pm cv ctv) ⟨[], []⟩ = pure [])
    (hbody : ∀ (A : Around) (outer : List Env) (s : Shared) (H : Hp) (E : XK) (f c' : Addr) (M1 : Mo) (H1 : Hp) (Ed : EXD), Room k (A.deeper (lamEnv X scope s.heap.objs.size f c')) → CtX X.K M1 H1 Ed E → PEd (lamCx X A outer s H E scope f c') M1 H1 body (tD Ed))
    (hdb : (x == ("__debug__" : Str)) = false := by decide) (hd : (a == ("__debug__" : Str)) = false := by decide) (hcd : (a == ("__classdict__" : Str)) = false := by decide) :
    PEd X M0 H0 (.Call (.Name x p) [.Lambda params body scope lpos] [] pos) (dLam P q spA tD) := by
  obtain ⟨g, dV, kV, doc, pm, cdv, ct, oc, an, od, osl, gm, kp, lk, hcg, hb, giv⟩ := G.ex
  exact de_lam hg gm kp lk hcg hb G.S G.n0 G.va (giv X rfl rfl rfl rfl rfl _) TB hcode hq hr L hdef hbind hbody hdb hd hcd
end
/-- an own exception class, by what the program's text tells -/
theorem exc_mk {P : Program} {w : World} {K : PySem.W.Frag} {mg : Str → Option Value} {base : Heap} {x f : Str} {C fI : Addr} {fd : FuncData} {ps : List Str} (gC : mg x = some (.ref C)) (nC : PySem.W.nsIn K mainGlobals x = some (some (.ref C))) (T : OexC K C) (iC : PySem.W.findIn K (.ref C) "__init__" = some (some (.ref fI))) (tI : PySem.W.typeIn K (.ref fI) = some (.type "function"))
    (hb : L2.Binds K fd ps []) (F : FnOk P w K mg base (L2.CX P w) 1 fI fd ps (spInit C f)) : ExcD P w K mg base x f C := ⟨gC, nC, T, fI, fd, ps, iC, tI, hb, F⟩
theorem tab_mk {K : PySem.W.Frag} {x : Str} {f c P : Addr} {oc e : Value} {od dd : Option Addr} {fd : FuncData} {osl sl : Array (Option Value)} {vs : Array Value} (a : PySem.W.nsIn K mainGlobals x = some (some (.ref f))) (l : K.lookup f = some ⟨oc, od, .func fd, osl⟩) (hc : fd.code = .ref c)
    (lc : K.lookup c = some ⟨e, dd, .fields vs, sl⟩) (hv : vs[11]? = some (.ref P)) : PySem.W.tabIn K x = some (c, P) := by
  unfold PySem.W.tabIn
  simp only [a, l, hc, lc, hv]
/-! ### the end -/
theorem walk_ofAll {l : PySem.W.OpenLaw} {n k : Nat} {q : Program} {loose : List Str} {XP : (Str → Option Value) → Heap → Prop} {YP : World → Heap → Prop} {d : DefRec} {K : Params → PySem.W.Frag} {CX : World → CXT} {x : Str}
    (hn : l.most = some n) (hn2 : n ≤ sizeLine) (hdf : d.params.defaults = []) (hr : Room k callerA) (hY : ∀ (w : World) (h : Heap), YP w h → (K w.params).In h)
    (F : ∀ (w : World) (mg : Str → Option Value) (fa : Addr) (h : Heap), YP w h → (K w.params).In h → h.Ns mainGlobals mg → mg d.name = some (.ref fa) →
      (∀ (y : Str) (e : DefRec) (c P : Addr), (recsOf q).find? (fun e => e.name == y) = some e → PySem.W.tabIn (K w.params) y = some (c, P) → PySem.W.CodeHd h c P ∧ h.get? P = some (PySem.W.tabObj #[])) → LawAtS l w (K w.params) (CX w) k n x mg fa h)
    (hCX : ∀ (w : World) (H : Hp) (s : Shared) (e : Value) (s' : Shared), CX w [] H s (fun _ _ _ => False) e s' → False) :
    PySem.W.WalkO q loose XP YP l.row.toRowW d [] (fun f vs => PySem.call f vs) := by
  refine Att.attach_callB hn hdf fun w s₀ s₁ mg mb fa o pm cd doc a vs ns G Y ho hd hcd hmg hobj hints hlen hbits hg => ?_
  have KX := hY w _ Y
  obtain ⟨fd, cs, sp, hT, nT, C, hb, hsp, hF⟩ := F w mg fa _ Y KX G.T.g hmg (fun y e c P h1 h2 => PySem.W.tab_of G.T KX h1 h2)
  exact law_callTs KX G.T.g G.T.b G.T.builtins G.T.nolimit hg hT nT C G.T.bmain hobj hints (Nat.le_trans hlen hn2) hr hF hb (fun H hH hS => hsp H a ns hlen hbits hH hS) fun H e s' => hCX w H s₁ e s'
/-- the law's own promise, with the tables T: at up to n whole numbers it answers True -/
def spLawT (T : List (Addr × Str)) (n : Nat) : SpD := fun ds M Q E => match ds with
  | [d] => (∃ ns : List Int, ns.length ≤ n ∧ ∀ M', Sub M M' → seqL M' d = some (ns.map .int)) ∧ (∀ p ∈ T, M p.1 = some (.tab p.2)) ∧ ∀ M', Q (.bl true) M'
  | _ => False
def tabM (T : List (Addr × Str)) : Mo := fun b => (T.lookup b).map .tab
theorem tabM_at {T : List (Addr × Str)} (nd : (T.map (·.1)).Nodup) : ∀ p ∈ T, tabM T p.1 = some (.tab p.2) := by
  induction T with
  | nil => intro p hp; cases hp
  | cons t T ih =>
    intro p hp
    rw [List.map_cons, List.nodup_cons] at nd
    unfold tabM
    rw [List.lookup_cons]
    by_cases e : p.1 = t.1
    · have hpt : p = t := by
        rcases List.mem_cons.mp hp with q | q
        · exact q
        · exact absurd (e ▸ List.mem_map_of_mem q) nd.1
      subst hpt
      simp
    · have q : p ∈ T := by
        rcases List.mem_cons.mp hp with q | q
        · exact absurd (congrArg (·.1) q) e
        · exact q
      have e2 : (p.1 == t.1) = false := by simpa using e
      rw [e2]
      exact ih nd.2 p q
theorem lookup_mem {T : List (Addr × Str)} {a : Addr} {q : Str} (h : T.lookup a = some q) : (a, q) ∈ T := by
  induction T with
  | nil => cases h
  | cons t T ih =>
    rw [List.lookup_cons] at h
    cases e : a == t.1 with
    | true =>
      rw [e] at h
      have e2 : a = t.1 := by simpa using e
      cases h
      rw [e2]
      exact List.mem_cons_self
    | false =>
      rw [e] at h
      exact List.mem_cons_of_mem _ (ih h)
theorem tabM_mem {T : List (Addr × Str)} {a : Addr} {o : OO} (h : tabM T a = some o) : ∃ q, o = .tab q ∧ (a, q) ∈ T := by
  unfold tabM at h
  cases e : T.lookup a with
  | none => rw [e] at h; cases h
  | some q =>
    rw [e] at h
    exact ⟨q, (Option.some.inj h).symm, lookup_mem e⟩
theorem hsp_lawT {K : PySem.W.Frag} {T : List (Addr × Str)} {n : Nat} {H : Hp} {a : Addr} {ns : List Int} (nd : (T.map (·.1)).Nodup) (hl : ns.length ≤ n) (hT : ∀ p ∈ T, H p.1 = some (.tbl #[])) (hS : SqL K H a (ns.map V.int)) : LSp K (spLawT T n) [.ref a] H (fun v _ => v = .bl true) (fun _ _ _ => False) := by
  have own : ∀ b o, tabM T b = some o → Own K H b o := fun b o h => by
    obtain ⟨q, rfl, hm⟩ := tabM_mem h
    simp only [Own]
    exact TabS.nil (hT _ hm)
  have fin : ∀ M : Mo, Ct K M H (fun d _ => d = .bl true) (fun v _ => v = .bl true) := fun M d M' v H' _ r e => by
    subst e
    exact r.bl_of
  have fz : FzL K H a (ns.map V.int) → LSp K (spLawT T n) [.ref a] H (fun v _ => v = .bl true) (fun _ _ _ => False) := fun hF => by
    refine ⟨[.lst (ns.map .int)], tabM T, fun d _ => d = .bl true, Ed0, .cons ?_ .nil, own, ⟨⟨ns, hl, fun _ _ => rfl⟩, tabM_at nd, fun _ => rfl⟩, fin _, ctx0⟩
    unfold RD
    exact ⟨a, _, rfl, hF, rd_ints ns⟩
  rcases hS with (h | ⟨o, h⟩) | h
  · have na : ∀ p ∈ T, p.1 ≠ a := fun p hp z => by
      have := hT p hp
      rw [z, h] at this
      cases this
    refine ⟨[.ref a], mup (tabM T) a (.lst (ns.map .int)), fun d _ => d = .bl true, Ed0, .cons RD.ref .nil, fun b o e => ?_, ⟨⟨ns, hl, fun M' s => ?_⟩, fun p hp => ?_, fun _ => rfl⟩, fin _, ctx0⟩
    · by_cases z : b = a
      · subst z
        rw [mup_same] at e
        cases e
        simp only [Own]
        exact ⟨_, h, rd_ints ns⟩
      · rw [mup_ne z] at e
        exact own b o e
    · exact e_seqR (s a _ mup_same)
    · rw [mup_ne (na p hp)]
      exact tabM_at nd p hp
  · exact fz (.inl ⟨o, h⟩)
  · exact fz (.inr h)
end DL

namespace DL
open PySem PySem.Spec PyProof.Rows L2
/-! ### text * int -/
def repS (x : Str) (n : Nat) : Str := ⟨(List.replicate n x.cps.toList).flatten.toArray⟩
theorem repS_cps (x : Str) (n : Nat) : (repS x n).cps.toList = (List.replicate n x.cps.toList).flatten := rfl
theorem repS_len (x : Str) (n : Nat) : (repS x n).length = n * x.length := by
  rw [str_len, repS_cps, List.length_flatten, List.map_replicate, List.sum_replicate_nat, str_len]
theorem fold_cat (l : List (Array Nat)) (a : Array Nat) : (l.foldl (· ++ ·) a).toList = a.toList ++ (l.map Array.toList).flatten := by
  induction l generalizing a with
  | nil => simp
  | cons b l ih => rw [List.foldl_cons, ih, List.map_cons, List.flatten_cons, Array.toList_append, List.append_assoc]
theorem repS_fold (x : Str) (n : Nat) : (⟨(List.replicate n x.cps).foldl (· ++ ·) #[]⟩ : Str) = repS x n := by
  show (⟨_⟩ : Str) = ⟨_⟩
  congr 1
  apply Array.ext'
  rw [fold_cat, List.map_replicate]
  rfl
section
variable {X : Cx}
theorem op_mulS : OpR X (binaryOp .Mult) (fun x y H Q => ∃ (z : Str) (n : Nat), x = .str z ∧ y = .int (n : Int) ∧ n < 1073741824 ∧ z.length * n ≤ sizeLine ∧ Q (.str (repS z n)) H) := by
  intro pins s σ H x y v u Q I rx ry h
  obtain ⟨z, n, rfl, rfl, hn, hl, q⟩ := h
  obtain ⟨t, rfl⟩ := rx
  obtain ⟨t', rfl⟩ := ry
  have hz : sizeLine = 16777216 := by rw [sizeLine_eq]
  refine P.mul_str ?_ (fun h1 h2 h3 => ?_) (fun h1 h2 => ?_) ?_
  · rw [decide_eq_false (by omega), decide_eq_false (by omega)]
    rfl
  · have hn0 : 0 < (n : Int) := by omega
    have h4 : ((2 : Int) ^ 63 - 1) / n < z.length := h3
    have h5 : (z.length : Int) * n ≤ 16777216 := by rw [← Int.natCast_mul]; omega
    have h6 : (z.length : Int) ≤ ((2 : Int) ^ 63 - 1) / n := (Int.le_ediv_iff_mul_le hn0).mpr (by omega)
    omega
  · rw [Int.toNat_natCast]
    show decide (_ > sizeLine) = false
    first
      | exact decide_eq_false (by omega)
      | simp; omega
  · rw [Int.toNat_natCast]
    by_cases h1 : (n : Int) < 1
    · rw [if_pos h1]
      have e0 : n = 0 := by omega
      subst e0
      exact ⟨by decide, .str _, H, I.tok _, ⟨_, rfl⟩, q⟩
    · rw [if_neg h1]
      by_cases h2 : ((n : Int) == 1 || z.length == 0) = true
      · rw [if_pos h2]
        have e0 : repS z n = z := by
          have : (repS z n).cps = z.cps := by
            apply Array.ext'
            rw [repS_cps]
            rcases Bool.or_eq_true_iff.mp h2 with q1 | q1
            · have : n = 1 := by have := eq_of_beq q1; omega
              subst this
              simp
            · have h0 : z.length = 0 := eq_of_beq q1
              rw [str_len] at h0
              have : z.cps.toList = [] := List.eq_nil_of_length_eq_zero h0
              rw [this]
              simp
          exact congrArg Str.mk this
        rw [e0] at q
        exact ⟨.str _, H, I, ⟨_, rfl⟩, q⟩
      · rw [if_neg h2, repS_fold]
        refine ⟨?_, .str _, H, I.tok _, ⟨_, rfl⟩, q⟩
        first
          | (rw [repS_len]; rw [Nat.mul_comm]; exact hl)
          | (rw [repS_len, Nat.mul_comm]; omega)
          | trace_state
def dMulX : R2d := fun d e M Q => match d, e with
  | .int i, .int j => (CMul i j ∨ CMulW i j) ∧ Q (.int (i * j)) M
  | .str z, .int j => (0 ≤ j ∧ j < 1073741824 ∧ z.length * j.toNat ≤ 16777216) ∧ Q (.str (repS z j.toNat)) M
  | .ref a, .int j => match M a with
    | some (.lst ds) => (-4294967296 ≤ j ∧ j ≤ 4294967296 ∧ ds.length * j.toNat ≤ 16777216) ∧ ∀ p, M p = none → Q (.ref p) (mup M p (.lst (List.replicate j.toNat ds).flatten))
    | _ => False
  | _, _ => False
theorem RDs.rep {K : PySem.W.Frag} {H : Hp} {ds : List Dv} {vs : List V} (r : RDs K H ds vs) : ∀ n, RDs K H (List.replicate n ds).flatten (List.replicate n vs).flatten
  | 0 => RDs.nil
  | n + 1 => by
    rw [List.replicate_succ, List.replicate_succ, List.flatten_cons, List.flatten_cons]
    exact r.app (RDs.rep r n)
theorem od_mulX : OpR X (binaryOp .Mult) (L2op X.K dMulX) := by
  refine opd_I (op_mul.or (op_mulW.or (op_mulS.or op_rep))) fun d e M Qd x y H Q r1 r2 sr q c => ?_
  unfold dMulX at q
  split at q
  · obtain ⟨q1 | q1, q⟩ := q
    · exact .inl ⟨_, _, r1.int_of, r2.int_of, q1, c _ M _ H (.refl sr) .int q⟩
    · exact .inr (.inl ⟨_, _, r1.int_of, r2.int_of, q1, c _ M _ H (.refl sr) .int q⟩)
  · rename_i z j
    obtain ⟨⟨h0, h1, h2⟩, q⟩ := q
    obtain ⟨n, rfl⟩ := Int.eq_ofNat_of_zero_le h0
    rw [Int.toNat_natCast] at h2 q
    exact .inr (.inr (.inl ⟨z, n, r1.str_of, r2.int_of, by omega, by rw [← line_eq]; exact h2, c _ M _ H (.refl sr) .str q⟩))
  · rename_i a j
    split at q
    · rename_i ds e
      obtain ⟨⟨h0, h1, h2⟩, q⟩ := q
      obtain ⟨vs, hv, rr⟩ := own_at sr e
      exact .inr (.inr (.inr ⟨a, j, vs, r1.ref_of, r2.int_of, hv, by omega, by omega, by rw [← line_eq, ← rr.length]; exact h2, fun p hp => c _ _ _ _ (Stp.new sr hp (own_lst hp (rr.rep _))) .ref (q p (sr.free hp))⟩))
    · exact q.elim
  · exact q.elim
end
section
variable {M : Mo} {Q : QD} {E : EXD} {i j : Int} {x y z f n : Str} {d e : Dv} {sd : StD} {a : Addr} {T : ExT} {te : TED} {D : EndsD}
theorem i_mulXI (hc : CMul i j) (h : Q (.int (i * j)) M) : dMulX (.int i) (.int j) M Q := ⟨.inl hc, h⟩
theorem i_mulXW (hc : CMulW i j) (h : Q (.int (i * j)) M) : dMulX (.int i) (.int j) M Q := ⟨.inr hc, h⟩
theorem i_mulXS (hc : 0 ≤ j ∧ j < 1073741824 ∧ z.length * j.toNat ≤ 16777216) (h : Q (.str (repS z j.toNat)) M) : dMulX (.str z) (.int j) M Q := ⟨hc, h⟩
theorem i_mulXL {ds : List Dv} (h1 : M a = some (.lst ds)) (hc : -4294967296 ≤ j ∧ j ≤ 4294967296 ∧ ds.length * j.toNat ≤ 16777216) (h : ∀ p, M p = none → Q (.ref p) (mup M p (.lst (List.replicate j.toNat ds).flatten))) : dMulX (.ref a) (.int j) M Q := by
  unfold dMulX
  simp only [h1]
  exact ⟨hc, h⟩
/-! ### data is equal to itself -/
mutual
theorem eqv_self : ∀ p : PyData, p.canLay0 = true → PyData.eqv p p = true
  | .none, _ => rfl
  | .bool b, _ => by simp [PyData.eqv]
  | .int i, _ => by simp [PyData.eqv]
  | .str x, _ => by simp [PyData.eqv]
  | .list xs, h => by rw [PyData.eqv]; exact eqvs_self xs (by rw [PyData.canLay0] at h; exact h)
  | .tuple xs, h => by rw [PyData.eqv]; exact eqvs_self xs (by rw [PyData.canLay0] at h; exact h)
  | .dict kvs, h => by rw [PyData.canLay0] at h; cases h
theorem eqvs_self : ∀ ps : List PyData, PyData.canLayAll0 ps = true → PyData.eqvAll ps ps = true
  | [], _ => rfl
  | p :: ps, h => by
    rw [PyData.canLayAll0, Bool.and_eq_true] at h
    rw [PyData.eqvAll, eqv_self p h.1, eqvs_self ps h.2]
    rfl
end
theorem i_neSame {p : PyData} (h1 : pyM M d = some p) (h2 : pyM M e = some p) (s1 : SeqAt.shaped p = true) (n : ∀ i, p ≠ .int i := by intro i z; cases z) (n2 : ∀ i, p ≠ .str i := by intro i z; cases z) (n3 : ∀ i, p ≠ .bool i := by intro i z; cases z) (h : Q (.bl false) M) : dNe d e M Q :=
  i_neM h1 h2 s1 s1 n n2 n3 (by rw [eqv_self p (SeqAt.canLay_of_shaped s1)]; exact h)
theorem i_eqSame {p : PyData} (h1 : pyM M d = some p) (h2 : pyM M e = some p) (s1 : SeqAt.shaped p = true) (n : ∀ i, p ≠ .int i := by intro i z; cases z) (n2 : ∀ i, p ≠ .str i := by intro i z; cases z) (n3 : ∀ i, p ≠ .bool i := by intro i z; cases z) (h : Q (.bl true) M) : dEq d e M Q :=
  i_eqM h1 h2 s1 s1 n n2 n3 (by rw [eqv_self p (SeqAt.canLay_of_shaped s1)]; exact h)
theorem i_neSI {x y : Str} {i j : Int} (g1 : PyData.strOk x = true) (g2 : PyData.strOk y = true) (h : Q (.bl (!(decide (x = y) && decide (i = j)))) M) : dNe (.tup [.str x, .int i]) (.tup [.str y, .int j]) M Q :=
  i_neM (p := .tuple [.str x, .int i]) (q := .tuple [.str y, .int j]) rfl rfl (by simp [SeqAt.shaped, PyData.canLay0, PyData.canLayAll0, PyData.depth, PyData.depthAll, g1]) (by simp [SeqAt.shaped, PyData.canLay0, PyData.canLayAll0, PyData.depth, PyData.depthAll, g2]) (h := by
    have : PyData.eqv (.tuple [.str x, .int i]) (.tuple [.str y, .int j]) = (decide (x = y) && decide (i = j)) := by
      simp only [PyData.eqv, PyData.eqvAll, Bool.and_true]
      congr 1 <;> (rw [Bool.eq_iff_iff]; simp)
    rw [this]
    exact h)
theorem i_neSIs {x y : Str} {i j : Int} (ex : x = y) (ei : i = j) (g1 : PyData.strOk x = true) (h : Q (.bl false) M) : dNe (.tup [.str x, .int i]) (.tup [.str y, .int j]) M Q := by
  subst ex ei
  refine i_neSI g1 g1 ?_
  rw [decide_eq_true (p := x = x) rfl, decide_eq_true (p := i = i) rfl]
  exact h
theorem i_neSS {x y u v : Str} (g1 : PyData.strOk x = true) (g2 : PyData.strOk y = true) (g3 : PyData.strOk u = true) (g4 : PyData.strOk v = true) (h : Q (.bl (!(decide (x = y) && decide (u = v)))) M) : dNe (.tup [.str x, .str u]) (.tup [.str y, .str v]) M Q :=
  i_neM (p := .tuple [.str x, .str u]) (q := .tuple [.str y, .str v]) rfl rfl (by simp [SeqAt.shaped, PyData.canLay0, PyData.canLayAll0, PyData.depth, PyData.depthAll, g1, g3]) (by simp [SeqAt.shaped, PyData.canLay0, PyData.canLayAll0, PyData.depth, PyData.depthAll, g2, g4]) (h := by
    have : PyData.eqv (.tuple [.str x, .str u]) (.tuple [.str y, .str v]) = (decide (x = y) && decide (u = v)) := by
      simp only [PyData.eqv, PyData.eqvAll, Bool.and_true]
      congr 1 <;> (rw [Bool.eq_iff_iff]; simp)
    rw [this]
    exact h)
theorem i_neSSs {x y u v : Str} (ex : x = y) (ei : u = v) (g1 : PyData.strOk x = true) (g3 : PyData.strOk u = true) (h : Q (.bl false) M) : dNe (.tup [.str x, .str u]) (.tup [.str y, .str v]) M Q := by
  subst ex ei
  refine i_neSS g1 g1 g3 g3 ?_
  rw [decide_eq_true (p := x = x) rfl, decide_eq_true (p := u = u) rfl]
  exact h
/-! ### raise, try, lambda: step by step -/
instance s_raise : Step (dRaise x f E te D sd M) (te sd M fun d M1 => E x f d M1) := ⟨fun h => h⟩
instance s_try {tb : WXD → TSD} {ld : List DCl} : Step (dTry T tb ld D sd M) (tb (wClsD T D ld) D sd M) := ⟨fun h => h⟩
theorem w_yes {c : Str} {k : Nat} {ts : Addr → Str → Str → Dv → TSD} {r : List DCl} {a b cc : StD → Mo → Prop} {rt : QD} (e : T.sub x c = some true)
    (h : ∀ ad, kSetN k (.ref ad) sd M fun sd' M' => ts ad x f d ⟨fun sd M => a (sd.set k none) M, rt, fun sd M => b (sd.set k none) M, fun sd M => cc (sd.set k none) M⟩ sd' M') : wClsD T ⟨a, rt, b, cc⟩ ((c, k, ts) :: r) x f d sd M := by
  unfold wClsD
  rw [e]
  exact fun ad => h ad
theorem w_no {c : Str} {k : Nat} {ts : Addr → Str → Str → Dv → TSD} {r : List DCl} (e : T.sub x c = some false) (h : wClsD T D r x f d sd M) : wClsD T D ((c, k, ts) :: r) x f d sd M := by
  unfold wClsD
  rw [e]
  exact h
def kXf (T : ExT) (a : Addr) (n x f : Str) (y : Dv) (R : Prop) : Prop := y = .ref a ∧ n = f ∧ (x, f) ∈ T.fld ∧ R
instance s_xf : Step (dXf T a n x f d te sd M Q) (te sd M fun y M2 => kXf T a n x f y (Q d M2)) := ⟨fun h => h⟩
theorem i_kXf {R : Prop} (e : (x, n) ∈ T.fld) (h : R) : kXf T a n x n (.ref a) R := ⟨rfl, rfl, e, h⟩
instance s_act {tl : LamD} {Wd : WXD} [g : GetAt sd 0 (.ref a)] : Step (dAct a tl Wd sd M Q) (tl (fun x f d M' => Wd x f d sd M') M Q) := ⟨fun h => ⟨g.eq, h⟩⟩
theorem i_lam {P : Addr} {q : Str} {spA : SpA} {tD : EXD → TED} (h1 : M P = some (.tab q)) (h2 : spA (fun Ed M' Qd' => tD Ed sd M' Qd') M Q) : dLam P q spA tD sd M Q := ⟨h1, h2⟩
end
end DL

namespace DL
open PySem PySem.Spec PyProof.Rows L2
/-! ### isinstance of an exception with a dict, in its suite (the kit's call_isE, turned to any dict) -/
section
open PySem.W PySem.Calls
variable {prog : Program} {w : World} {A : Around} {E : Value → Shared → Prop} {s : Shared} {K : Frag} {x D : Addr} {ox : Obj} {od : Option Obj}
theorem find_cls (hc : (clsIn K D).isSome = true) (ha : findIn K (.ref D) "__class__" = some (some (.builtin "object.__class__"))) (hg : specialIn K (.builtin "object.__class__") "__get__" = some (some (.builtin "getset_descriptor.__get__")))
    (ht : takesIn K (.builtin "object.__class__") = some true) : findObj K D od "__class__" = some (.bind (.builtin "getset_descriptor.__get__") (.builtin "object.__class__")) := by
  obtain ⟨cd, hc⟩ := Option.isSome_iff_exists.mp hc
  unfold findObj
  rw [hc, Option.bind_some, ha, Option.bind_some]
  simp [hg, ht]
theorem exc_cls {Q : Option Value → Shared → Prop} (C : ExcC K D) (X : K.In s.heap) (I : InstAt s.heap x ox D od) (h : Q (some (.ref D)) { s with toks := s.toks + 1 }) : wpAny (model prog w) A (getAttr? (.ref x) "__class__") Q E s := by
  have hf : findObj K D od "__class__" = some (.bind (.builtin "getset_descriptor.__get__") (.builtin "object.__class__")) := find_cls (by obtain ⟨cd, hc, _⟩ := any_some C.hd; rw [hc]; rfl) C.ha C.hn C.ht
  obtain ⟨hp, g, d, t, os⟩ := s
  have at0 := I.type (M := model prog w)
  have at3 := looks_find (M := model prog w) X I hf
  have sub : Looks (model prog w) hp (isInstance (.ref x) (.type "BaseException")) true := at0.andThen (looks_subIn X C.hs)
  have ne1 : (Value.builtin "BaseException.__getattribute__" == Value.builtin "object.__getattribute__") = false := by decide +kernel
  have ne2 : (onTheHeap (Value.ref D) && Value.builtin "BaseException.__getattribute__" == Value.builtin "object.__getattribute__") = false := by rw [ne1]; rfl
  unfold getAttr? getAttrBy? getAttrBy
  refine wpAny_bind (wpAny_mkText (wpAny_bind (wpAny_attempt (wpAny_holding (wpAny_bind (at0.at (wpAny_bind ((looks_findIn (M := model prog w) X C.hg).at ?_))))))))
  show wpAny _ _ (if (onTheHeap (Value.ref D) && Value.builtin "BaseException.__getattribute__" == Value.builtin "object.__getattribute__") = true then _ else _) _ _ _
  rw [ne2, if_neg Bool.false_ne_true]
  unfold getAttrByItsOwn hookBefore
  refine wpAny_bind ?_
  rw [if_pos (show onTheHeap (Value.ref D) = true from rfl)]
  refine (looks_findIn (M := model prog w) X C.hk).at (wpAny_bind (wpAny_attempt (wpAny_holding ?_)))
  unfold callGetattribute
  rw [show (false && onTheHeap (Value.builtin "BaseException.__getattribute__")) = false from rfl, if_neg Bool.false_ne_true]
  unfold boundAndCalled
  rw [PySem.F.excAttr_ValueError.ga.bind (.ref x)]
  refine wpAny_bind (wpAny_pure ?_)
  show wpAny _ _ (call (.builtin "BaseException.__getattribute__") [.ref x, .str "__class__" t]) _ _ _
  refine wpAny_call (codeAny_call_builtin PySem.F.excAttr_ValueError.ga.plain PySem.F.entry_bexc_ga (@check_slot (model prog w) _ _ ⟨hp, g, d, t + 1, os⟩ "BaseException.__getattribute__" "BaseException" "__getattribute__" (.ref x) [.str "__class__" t] [] _ (by decide +kernel) (by decide +kernel) sub (PySem.F.args_bexc_ga (.ref x) (.str "__class__" t)) ?_))
  unfold Builtin.«object.__getattribute__»
  refine wpAny_bind (wpAny_of_eq (a := ((Value.ref x : Value), [Value.str "__class__" t])) (by first | rfl | (simp only [slotArgs]; rfl)) ?_)
  refine wpAny_bind (wpAny_pure (wpAny_bind (at0.at (wpAny_bind (at3.at ?_)))))
  show wpAny _ _ (holding [Value.builtin "object.__class__"] (call (.builtin "getset_descriptor.__get__") [.builtin "object.__class__", .ref x, .ref D]) >>= ret) _ _ _
  refine wpAny_bind (wpAny_holding (wpAny_call (class_get (s := ⟨hp, g, d, t + 1, os⟩) (ox := ox) (od := od) X I C.hm (wpAny_pure ?_))))
  show wpAny _ _ (handedOut (.ref D)) _ _ _
  rw [handedOut_of (v := .ref D) rfl]
  first
    | exact wpAny_pure (wpAny_pure h)
    | exact wpAny_pure h
    | exact wpAny_pure (wpAny_bind (wpAny_pure (wpAny_pure h)))
theorem kitx_excD (C : ExcC K D) : KitX K (.ref x) (.ref D) (fun h => InstAt h x ox D od) where
  ty := fun _ _ _ I => I.type
  it := fun _ _ X _ => by
    obtain ⟨cd, hc, _⟩ := any_some C.hd
    unfold clsIn at hc
    split at hc
    · rename_i ho
      exact fun A' Q' E' s' k q => by
        unfold isType loadHead
        exact wpAny_bind (wpAny_loadPart (k _ _ (X _ _ ho)) (wpAny_pure q))
    · cases hc
  ne := fun h tp dd its n sl X htp => by
    obtain ⟨cd, hc, _⟩ := any_some C.hd
    refine Bool.eq_false_iff.mpr fun q => ?_
    obtain rfl : D = tp := Value.ref.inj (beq_iff_eq.mp q)
    unfold clsIn at hc
    split at hc
    · rename_i ho
      cases (X _ _ ho).symm.trans htp
    · cases hc
  ca := fun X I k => exc_cls C X I k
end
/-- isinstance(e, c), e the exception of the suite, with the dict at dd -/
def rIsX (K : PySem.W.Frag) (D a dd : Addr) : List V → Hp → VK → Prop := fun xs H Q => ∃ (c : V) (cv : Value) (b : Bool) (fs : List (Str × V)), xs = [.ref a, c] ∧ (∀ u, RelV c u → u = cv) ∧ H dd = some (.xd fs) ∧ PySem.W.kitOne K (.ref D) cv = some b ∧ Q (.bl b) H
theorem call_isX {X : Cx} {a D dd : Addr} {oe : Obj} {pn : List (Addr × Obj)} (C : ExcC X.K D) (hz : Zc (.ref D) (some dd) oe) (hf : ∃ vs, oe.data = .fields vs) : CallR (X.suite a ((a, oe) :: pn)) (.builtin "isinstance") (rIsX X.K D a dd) := by
  intro pins s σ H xs us Q I r h
  obtain ⟨c, cv, b, fs, rfl, hcv, hdd, e, q⟩ := h
  cases r with
  | cons rx rr =>
    cases rr with
    | cons rt rr =>
      cases rr
      cases rx
      obtain rfl := hcv _ rt
      obtain ⟨hget, _⟩ := I.pin (a, oe) (List.mem_append.mpr (.inl List.mem_cons_self))
      obtain ⟨vs, hv⟩ := hf
      have hx : ObjOk X.prog X.w H s.heap dd (.xd fs) := I.hok dd _ hdd
      obtain ⟨mA, hns, hr⟩ := hx
      obtain ⟨oD, ho, _⟩ := lookIn_ns hns
      have J : PySem.W.InstAt s.heap a oe D (some oD) := ⟨hget, hz.1, by unfold PySem.W.notCls; rw [hv] <;> rfl, by rw [hz.2]; exact ho⟩
      exact PySem.W.kia_one (kitx_excD C) I.kIn J e (fun z => nomatch z) fun tk => ⟨.bl b, H, I.kept (t' := tk) fun _ _ z => z, rfl, q⟩
theorem kit_bt {K : PySem.W.Frag} {C : Addr} {n : String} {b : Bool} (hm : PySem.W.kitMeta n = true) (h : PySem.W.subIn K (.ref C) (.type n) = some b) : PySem.W.kitOne K (.ref C) (.type n) = some b := by
  unfold PySem.W.kitOne
  rw [if_neg (fun z => by cases eq_of_beq z)]
  show (if PySem.W.kitMeta n = true then _ else _) = _
  rw [if_pos hm]
  exact h
theorem kit_own {K : PySem.W.Frag} {C Cc : Addr} {b : Bool} (hd : PySem.W.hasDictIn K Cc = true) (ht : PySem.W.typeIn K (.ref Cc) = some (.type "type")) (h2 : PySem.W.subIn K (.ref C) (.ref C) = some true) (h : PySem.W.subIn K (.ref C) (.ref Cc) = some b) : PySem.W.kitOne K (.ref C) (.ref Cc) = some b := by
  unfold PySem.W.kitOne
  by_cases e : ((Value.ref C : Value) == Value.ref Cc) = true
  · rw [if_pos e]
    have : C = Cc := Value.ref.inj (eq_of_beq e)
    subst this
    rw [h2] at h
    exact h
  · rw [if_neg e]
    obtain ⟨cd, hc, _⟩ := PySem.W.any_some hd
    have g : ((PySem.W.clsIn K Cc).isSome && PySem.W.typeIn K (.ref Cc) == some (.type "type")) = true := by
      rw [hc, ht]
      rfl
    show (if ((PySem.W.clsIn K Cc).isSome && PySem.W.typeIn K (.ref Cc) == some (.type "type")) = true then _ else _) = _
    rw [if_pos g]
    exact h
/-! ### over data: against built-in classes and own ones -/
/-- what isinstance says of the exceptions against the class u, that c names -/
structure ExIs (K : PySem.W.Frag) (T : Str → Str → Option Bool) (c : Str) (u : Value) : Prop where
  ok : ∀ x b, T x c = some b → ∀ C, PySem.W.nsIn K mainGlobals x = some (some (.ref C)) → ExcC K C ∧ PySem.W.kitOne K (.ref C) u = some b
def dIsX (T : Str → Str → Option Bool) (a : Addr) (x c : Str) (te : TED) : TED := fun sd M Q => te sd M fun y M1 => y = .ref a ∧ match T x c with
  | some b => Q (.bl b) M1
  | none => False
theorem de_isX {X : Cx} {M0 : Mo} {H0 : Hp} {T : Str → Str → Option Bool} {a C dd : Addr} {oe : Obj} {pn : List (Addr × Obj)} {x f c : Str} {v vc : V} {uc : Value} {e1 e2 : Expr} {te : TED} {p pos : Pos} (E : ExIs X.K T c uc) (hz : Zc (.ref C) (some dd) oe) (hf : ∃ vs, oe.data = .fields vs) (hn : PySem.W.nsIn X.K mainGlobals x = some (some (.ref C))) (hm : M0 dd = none)
    (hh : H0 dd = some (.xd [(f, v)])) (hg : Gl (X.suite a ((a, oe) :: pn)) "isinstance") (hi : X.mg "isinstance" = none) (hv : bootBuiltins "isinstance" = some (.builtin "isinstance")) (he1 : PEd (X.suite a ((a, oe) :: pn)) M0 H0 e1 te) (he2 : PE (X.suite a ((a, oe) :: pn)) e2 (tC vc)) (hc : ∀ u', RelV vc u' → u' = uc)
    (hs : starEach (e1 :: [e2]) X.env = (false, eval e1 X.env) :: starEach [e2] X.env := by rfl) (hs2 : starEach [e2] X.env = (false, eval e2 X.env) :: starEach [] X.env := by rfl) (hpl : (backTo pos (starEach [e2] X.env)).any (·.1) = false := by rfl) :
    PEd (X.suite a ((a, oe) :: pn)) M0 H0 (.Call (.Name "isinstance" p) [e1, e2] [] pos) (dIsX T a x c te) := by
  refine ⟨fun pins s σ H Q I ⟨sd, M, Qd, w, q, ct⟩ => ?_⟩
  cases e : T x c with
  | none =>
    refine (pe_callB (X := X.suite a ((a, oe) :: pn)) (r := fun _ _ _ => False) (fun _ _ _ _ _ _ _ _ _ h => h.elim) hg hi hv (pa_cons he1 (pa_cons he2 pa_nil hs2) hs) (by decide) (by decide) hs hpl).run pins s σ H Q I ⟨sd, M, _, w, q, fun y M1 u H1 s1 r1 q1 => ?_⟩
    obtain ⟨_, q1⟩ := q1
    rw [e] at q1
    exact q1.elim
  | some b =>
    obtain ⟨C1, k1⟩ := E.ok x b e C hn
    refine (pe_callB (X := X.suite a ((a, oe) :: pn)) (call_isX C1 hz hf) hg hi hv (pa_cons he1 (pa_cons he2 pa_nil hs2) hs) (by decide) (by decide) hs hpl).run pins s σ H Q I ⟨sd, M, _, w, q, fun y M1 u H1 s1 r1 q1 => ?_⟩
    obtain ⟨e1, q1⟩ := q1
    subst e1
    rw [e] at q1
    have s3 := w.st.trans s1
    obtain ⟨h2, _⟩ := s3.same dd _ hh (fun _ z => by cases z) hm
    exact ⟨vc, uc, b, _, by rw [r1.ref_of], hc, h2, k1, ct _ _ _ _ s1 .bl q1⟩
def kIsX (T : Str → Str → Option Bool) (a : Addr) (x c : Str) (y : Dv) (R : Bool → Prop) : Prop := y = .ref a ∧ match T x c with
  | some b => R b
  | none => False
instance s_isX {M : Mo} {Q : QD} {T : Str → Str → Option Bool} {a : Addr} {x c : Str} {te : TED} {sd : StD} : Step (dIsX T a x c te sd M Q) (te sd M fun y M1 => kIsX T a x c y fun b => Q (.bl b) M1) := ⟨fun h => h⟩
theorem i_kIsX {T : Str → Str → Option Bool} {a : Addr} {x c : Str} {b : Bool} {R : Bool → Prop} (e : T x c = some b) (h : R b) : kIsX T a x c (.ref a) R := by
  refine ⟨rfl, ?_⟩
  rw [e]
  exact h
end DL

namespace DL
open PySem PySem.Spec PyProof.Rows L2
/-! ### zip(text, text): the kit's zip of lists, turned to texts -/
structure ZA (z TI TO i1 i2 : Addr) : Prop where
  TIz : TI ≠ z
  TOz : TO ≠ z
  i1z : i1 ≠ z
  i2z : i2 ≠ z
  TITO : TI ≠ TO
  TIi1 : TI ≠ i1
  TIi2 : TI ≠ i2
  TOi1 : TO ≠ i1
  TOi2 : TO ≠ i2
  i12 : i1 ≠ i2
abbrev StrTy (x : Str) (ty : String) : Prop := ty = "str_ascii_iterator" ∨ ty = "str_iterator"
theorem strTy (x : Str) : StrTy x (strIterType x) := by
  unfold strIterType
  split
  · exact .inl rfl
  · exact .inr rfl
theorem sit_at {h h' : Heap} {it : Addr} {ty : String} {x : Str} {t : Tok} {i : Nat} (s : h.IsStrIter it ty x t i) (k : ∀ o, h.get? it = some o → h'.get? it = some o) : h'.IsStrIter it ty x t i := by
  obtain ⟨o, e, c⟩ := s
  exact ⟨o, k o e, c⟩
section
variable {prog : Program} {w : World} {A : Around} {E : Value → Shared → Prop} {s : Shared}
theorem nx_item {it : Addr} {x : Str} {t : Tok} {i c : Nat} {ty : String} {Q : Value → Shared → Prop} (hty : StrTy x ty) (hit : s.heap.IsStrIter it ty x t i) (hx : x.cps[i]? = some c)
    (hQ : ∀ h', h'.IsStrIter it ty x t (i + 1) → Heap.SameBut it s.heap h' → Q (.str ⟨#[c]⟩ s.toks) { s with heap := h', toks := s.toks + 1 }) : wpAny (model prog w) A (Builtin.SmallTypes.nextOf (.ref it)) Q E s := by
  rcases hty with rfl | rfl
  · exact wpAny_nextOf_ascii_item hit hx hQ
  · exact wpAny_nextOf_wide_item hit hx hQ
theorem nx_end {it : Addr} {x : Str} {t : Tok} {i : Nat} {ty : String} {Q : Value → Shared → Prop} (hh : A.handled = none) (hty : StrTy x ty) (hit : s.heap.IsStrIter it ty x t i) (hx : x.cps[i]? = none)
    (hE : ∀ h' e, Heap.ExtBut it s.heap h' → (∃ o, h'.get? e = some o ∧ o.cls = .type "StopIteration") → E (.ref e) { s with heap := h' }) : wpAny (model prog w) A (Builtin.SmallTypes.nextOf (.ref it)) Q E s := by
  rcases hty with rfl | rfl
  · exact wpAny_nextOf_ascii_end hh hit hx hE
  · exact wpAny_nextOf_wide_end hh hit hx hE
theorem zipS_item {z TI TO i1 i2 : Addr} {k c1 c2 : Nat} {x y : Str} {t u : Tok} {tx ty : String} {a b : Value} {Q : Value → Shared → Prop} (D : ZA z TI TO i1 i2)
    (hz : IsZip s.heap z TI TO .none) (hTI : IsPair s.heap TI (.ref i1) (.ref i2)) (hTO : IsPair s.heap TO a b) (htx : StrTy x tx) (hty : StrTy y ty)
    (h1 : s.heap.IsStrIter i1 tx x t k) (h2 : s.heap.IsStrIter i2 ty y u k) (hx : x.cps[k]? = some c1) (hy : y.cps[k]? = some c2)
    (hQ : ∀ h' tk t1 t2, IsZip h' z TI TO (rawInt s.heap.objs.size) → IsPair h' TO (.str ⟨#[c1]⟩ t1) (.str ⟨#[c2]⟩ t2) → h'.IsStrIter i1 tx x t (k + 1) → h'.IsStrIter i2 ty y u (k + 1) → IsPair h' s.heap.objs.size (.str ⟨#[c1]⟩ t1) (.str ⟨#[c2]⟩ t2) → h'.objs.size = s.heap.objs.size + 1 →
      (∀ c o, c ≠ z → c ≠ TO → c ≠ i1 → c ≠ i2 → s.heap.get? c = some o → h'.get? c = some o) → Q (.ref s.heap.objs.size) { s with heap := h', toks := tk }) :
    wpAny (model prog w) A (Builtin.«zip.__next__» ⟨[.ref z], []⟩) (fun fin s' => ∃ v, fin = .done (.ret v) ∧ Q v s') E s := by
  obtain ⟨hp, g, d, tk0, os⟩ := s
  show wpAny _ _ (field (.ref z) 2 >>= _) _ _ _
  refine wpAny_bind (wpAny_field hz rfl (x := .bool false) rfl ?_)
  show wpAny _ _ (field (.ref z) 3 >>= _) _ _ _
  refine wpAny_bind (wpAny_field hz rfl (x := .ref TI) rfl (wpAny_bind (wpAny_seqItems hTI rfl ?_)))
  show wpAny _ _ (Builtin.SmallTypes.ownedTupleIsFree (.ref z) >>= _) _ _ _
  refine wpAny_bind ?_
  unfold Builtin.SmallTypes.ownedTupleIsFree
  refine wpAny_bind (wpAny_field hz rfl (x := .none) rfl (wpAny_pure ?_))
  simp only [if_true]
  refine wpAny_bind (wpAny_rule (wpAny_bind (wpAny_field hz rfl (x := .ref TO) rfl ?_)))
  refine wpAny_bind (wpAny_setField_rec hz (by simp) fun g1 hz1 hs1 => ?_)
  replace hz1 : IsZip g1 z TI TO .ellipsis := hz1
  refine wpAny_bind ?_
  simp only [List.zipIdx_cons, List.zipIdx_nil, List.forIn_cons, List.forIn_nil]
  refine wpAny_bind (wpAny_bind (wpAny_onRaise ?_))
  show wpAny _ _ (Builtin.SmallTypes.nextOf (.ref i1) >>= _) _ _ _
  refine wpAny_bind (nx_item htx (sit_at h1 fun o e => hs1.extBut _ _ D.i1z e) hx fun g2 a2 hs2 => wpAny_pure ?_)
  have o2 : IsPair g2 TO a b := hs2.extBut _ _ D.TOi1 (hs1.extBut _ _ D.TOz hTO)
  refine wpAny_bind (wpAny_seqItems o2 rfl (wpAny_bind (wpAny_updateSeq_pair o2 fun g3 o3 hs3 => ?_)))
  replace o3 : IsPair g3 TO (.str ⟨#[c1]⟩ tk0) b := o3
  refine wpAny_bind (wpAny_letGo (wpAny_pure ?_))
  refine wpAny_bind (wpAny_bind (wpAny_onRaise ?_))
  show wpAny _ _ (Builtin.SmallTypes.nextOf (.ref i2) >>= _) _ _ _
  refine wpAny_bind (nx_item hty (sit_at h2 fun o e => hs3.extBut _ _ D.TOi2.symm (hs2.extBut _ _ D.i12.symm (hs1.extBut _ _ D.i2z e))) hy fun g4 a4 hs4 => wpAny_pure ?_)
  have o4 : IsPair g4 TO (.str ⟨#[c1]⟩ tk0) b := hs4.extBut _ _ D.TOi2 o3
  refine wpAny_bind (wpAny_seqItems o4 rfl (wpAny_bind (wpAny_updateSeq_pair o4 fun g5 o5 hs5 => ?_)))
  replace o5 : IsPair g5 TO (.str ⟨#[c1]⟩ tk0) (.str ⟨#[c2]⟩ (tk0 + 1)) := o5
  refine wpAny_bind (wpAny_letGo (wpAny_pure (wpAny_pure ?_)))
  refine wpAny_bind (wpAny_seqItems o5 rfl (wpAny_bind (wpAny_newTuple ?_)))
  have hsz : g5.objs.size = hp.objs.size := by rw [hs5.1, hs4.1, hs3.1, hs2.1, hs1.1]
  have z5 : IsZip g5 z TI TO .ellipsis := hs5.extBut _ _ D.TOz.symm (hs4.extBut _ _ D.i2z.symm (hs3.extBut _ _ D.TOz.symm (hs2.extBut _ _ D.i1z.symm hz1)))
  have k5 : ∀ c o, c ≠ z → c ≠ TO → c ≠ i1 → c ≠ i2 → hp.get? c = some o → g5.get? c = some o := fun c o n1 n2 n3 n4 e => hs5.extBut _ _ n2 (hs4.extBut _ _ n4 (hs3.extBut _ _ n2 (hs2.extBut _ _ n3 (hs1.extBut _ _ n1 e))))
  have e1 : g5.IsStrIter i1 tx x t (k + 1) := sit_at a2 fun o e => hs5.extBut _ _ D.TOi1.symm (hs4.extBut _ _ D.i12 (hs3.extBut _ _ D.TOi1.symm e))
  have e2 : g5.IsStrIter i2 ty y u (k + 1) := sit_at a4 fun o e => hs5.extBut _ _ D.TOi2.symm e
  have zlt : z < g5.objs.size := Heap.lt_size z5
  show wpAny _ _ (Builtin.SmallTypes.ownedTupleHandOut (.ref z) (.ref g5.objs.size) >>= _) _ _ _
  refine wpAny_bind ?_
  unfold Builtin.SmallTypes.ownedTupleHandOut
  have z6 : IsZip (g5.push { cls := .type "tuple", data := .seq #[.str ⟨#[c1]⟩ tk0, .str ⟨#[c2]⟩ (tk0 + 1)] }) z TI TO .ellipsis := Heap.get?_push_of_some _ z5
  refine wpAny_bind (wpAny_setField_rec z6 (by simp) fun g7 z7 hs7 => ?_)
  replace z7 : IsZip g7 z TI TO (rawInt g5.objs.size) := z7
  refine wpAny_setField_rec z7 (by simp) fun g8 z8 hs8 => ?_
  replace z8 : IsZip g8 z TI TO (rawInt g5.objs.size) := z8
  have up : ∀ c o, c ≠ z → g5.get? c = some o → g8.get? c = some o := fun c o n e => hs8.extBut _ _ n (hs7.extBut _ _ n (Heap.get?_push_of_some _ e))
  have t8 : IsPair g8 g5.objs.size (.str ⟨#[c1]⟩ tk0) (.str ⟨#[c2]⟩ (tk0 + 1)) := hs8.extBut _ _ (Nat.ne_of_gt zlt) (hs7.extBut _ _ (Nat.ne_of_gt zlt) (Heap.get?_push_size _ rfl))
  have s8 : g8.objs.size = g5.objs.size + 1 := by rw [hs8.1, hs7.1, Heap.size_push]
  rw [hsz] at z8 t8 s8
  refine wpAny_pure ⟨_, rfl, ?_⟩
  show Q (.ref g5.objs.size) _
  rw [hsz]
  exact hQ g8 _ tk0 (tk0 + 1) z8 (up _ _ D.TOz o5) (sit_at e1 fun o e => up _ o D.i1z e) (sit_at e2 fun o e => up _ o D.i2z e) t8 s8 fun c o n1 n2 n3 n4 e => up c o n1 (k5 c o n1 n2 n3 n4 e)
theorem zipS_end {z TI TO i1 i2 : Addr} {k : Nat} {x y : Str} {t u : Tok} {tx ty : String} {a b : Value} {Q : Fin → Shared → Prop} (hh : A.handled = none) (D : ZA z TI TO i1 i2)
    (hz : IsZip s.heap z TI TO .none) (hTI : IsPair s.heap TI (.ref i1) (.ref i2)) (hTO : IsPair s.heap TO a b) (htx : StrTy x tx) (hty : StrTy y ty)
    (h1 : s.heap.IsStrIter i1 tx x t k) (h2 : s.heap.IsStrIter i2 ty y u k) (hend : x.cps[k]? = none ∨ y.cps[k]? = none)
    (hE : ∀ h' tk e, (∀ c o, c ≠ z → c ≠ TO → c ≠ i1 → c ≠ i2 → s.heap.get? c = some o → h'.get? c = some o) → (∃ o, h'.get? e = some o ∧ o.cls = .type "StopIteration") → E (.ref e) { s with heap := h', toks := tk }) :
    wpAny (model prog w) A (Builtin.«zip.__next__» ⟨[.ref z], []⟩) Q E s := by
  obtain ⟨hp, g, d, tk0, os⟩ := s
  show wpAny _ _ (field (.ref z) 2 >>= _) _ _ _
  refine wpAny_bind (wpAny_field hz rfl (x := .bool false) rfl ?_)
  show wpAny _ _ (field (.ref z) 3 >>= _) _ _ _
  refine wpAny_bind (wpAny_field hz rfl (x := .ref TI) rfl (wpAny_bind (wpAny_seqItems hTI rfl ?_)))
  show wpAny _ _ (Builtin.SmallTypes.ownedTupleIsFree (.ref z) >>= _) _ _ _
  refine wpAny_bind ?_
  unfold Builtin.SmallTypes.ownedTupleIsFree
  refine wpAny_bind (wpAny_field hz rfl (x := .none) rfl (wpAny_pure ?_))
  simp only [if_true]
  refine wpAny_bind (wpAny_rule (wpAny_bind (wpAny_field hz rfl (x := .ref TO) rfl ?_)))
  refine wpAny_bind (wpAny_setField_rec hz (by simp) fun g1 hz1 hs1 => ?_)
  replace hz1 : IsZip g1 z TI TO .ellipsis := hz1
  refine wpAny_bind ?_
  simp only [List.zipIdx_cons, List.zipIdx_nil, List.forIn_cons, List.forIn_nil]
  refine wpAny_bind (wpAny_bind (wpAny_onRaise ?_))
  show wpAny _ _ (Builtin.SmallTypes.nextOf (.ref i1) >>= _) _ _ _
  cases hx : x.cps[k]? with
  | none =>
    refine wpAny_bind (nx_end hh htx (sit_at h1 fun o e => hs1.extBut _ _ D.i1z e) hx fun g2 e hs2 he => ?_)
    obtain ⟨oe, hoe, hce⟩ := he
    have z2 : IsZip g2 z TI TO .ellipsis := hs2 _ _ D.i1z.symm hz1
    have hez : e ≠ z := fun q => by subst q; rw [z2] at hoe; cases hoe; simp at hce
    refine wpAny_setField_rec z2 (by simp) fun g3 _ hs3 => hE g3 _ e (fun c o n1 _ n3 _ q => hs3.extBut _ _ n1 (hs2 _ _ n3 (hs1.extBut _ _ n1 q))) ⟨oe, hs3.extBut _ _ hez hoe, hce⟩
  | some c1 =>
    have hy : y.cps[k]? = none := by
      rcases hend with h | h
      · rw [hx] at h
        cases h
      · exact h
    refine wpAny_bind (nx_item htx (sit_at h1 fun o e => hs1.extBut _ _ D.i1z e) hx fun g2 a2 hs2 => wpAny_pure ?_)
    have o2 : IsPair g2 TO a b := hs2.extBut _ _ D.TOi1 (hs1.extBut _ _ D.TOz hTO)
    refine wpAny_bind (wpAny_seqItems o2 rfl (wpAny_bind (wpAny_updateSeq_pair o2 fun g3 o3 hs3 => ?_)))
    refine wpAny_bind (wpAny_letGo (wpAny_pure ?_))
    refine wpAny_bind (wpAny_bind (wpAny_onRaise ?_))
    show wpAny _ _ (Builtin.SmallTypes.nextOf (.ref i2) >>= _) _ _ _
    refine wpAny_bind (nx_end hh hty (sit_at h2 fun o e => hs3.extBut _ _ D.TOi2.symm (hs2.extBut _ _ D.i12.symm (hs1.extBut _ _ D.i2z e))) hy fun g4 e hs4 he => ?_)
    obtain ⟨oe, hoe, hce⟩ := he
    have z4 : IsZip g4 z TI TO .ellipsis := hs4 _ _ D.i2z.symm (hs3.extBut _ _ D.TOz.symm (hs2.extBut _ _ D.i1z.symm hz1))
    have hez : e ≠ z := fun q => by subst q; rw [z4] at hoe; cases hoe; simp at hce
    refine wpAny_setField_rec z4 (by simp) fun g5 _ hs5 => hE g5 _ e (fun c o n1 n2 n3 n4 q => hs5.extBut _ _ n1 (hs4 _ _ n4 (hs3.extBut _ _ n2 (hs2.extBut _ _ n3 (hs1.extBut _ _ n1 q))))) ⟨oe, hs5.extBut _ _ hez hoe, hce⟩
theorem pyNext_zipS {z TI TO i1 i2 : Addr} {k c1 c2 : Nat} {x y : Str} {t u : Tok} {tx ty : String} {a b : Value} {Q : Option Value → Shared → Prop} (D : ZA z TI TO i1 i2)
    (hz : IsZip s.heap z TI TO .none) (hTI : IsPair s.heap TI (.ref i1) (.ref i2)) (hTO : IsPair s.heap TO a b) (htx : StrTy x tx) (hty : StrTy y ty)
    (h1 : s.heap.IsStrIter i1 tx x t k) (h2 : s.heap.IsStrIter i2 ty y u k) (hx : x.cps[k]? = some c1) (hy : y.cps[k]? = some c2)
    (hQ : ∀ h' tk t1 t2, IsZip h' z TI TO (rawInt s.heap.objs.size) → IsPair h' TO (.str ⟨#[c1]⟩ t1) (.str ⟨#[c2]⟩ t2) → h'.IsStrIter i1 tx x t (k + 1) → h'.IsStrIter i2 ty y u (k + 1) → IsPair h' s.heap.objs.size (.str ⟨#[c1]⟩ t1) (.str ⟨#[c2]⟩ t2) → h'.objs.size = s.heap.objs.size + 1 →
      (∀ c o, c ≠ z → c ≠ TO → c ≠ i1 → c ≠ i2 → s.heap.get? c = some o → h'.get? c = some o) → Q (some (.ref s.heap.objs.size)) { s with heap := h', toks := tk }) :
    wpAny (model prog w) A (pyNext (.ref z)) Q E s := by
  have hT : s.TypeIs (.ref z) "zip" := ⟨_, hz, rfl⟩
  unfold pyNext
  exact wpAny_bind (wpAny_attempt (wpAny_callSpecial?_slot (name := Str.ofString "__next__") hT F.slot_zip_next
    (wpAny_call_entry F.slot_zip_next hT F.entry_zip_next (zipS_item D hz hTI hTO htx hty h1 h2 hx hy fun h' tk t1 t2 q1 q2 q3 q4 q5 q6 q7 => wpAny_pure (hQ h' tk t1 t2 q1 q2 q3 q4 q5 q6 q7)) (F.args_zip_next_1 _))))
theorem pyNext_zipS_end {z TI TO i1 i2 : Addr} {k : Nat} {x y : Str} {t u : Tok} {tx ty : String} {a b : Value} {Q : Option Value → Shared → Prop} (hh : A.handled = none) (D : ZA z TI TO i1 i2)
    (hz : IsZip s.heap z TI TO .none) (hTI : IsPair s.heap TI (.ref i1) (.ref i2)) (hTO : IsPair s.heap TO a b) (htx : StrTy x tx) (hty : StrTy y ty)
    (h1 : s.heap.IsStrIter i1 tx x t k) (h2 : s.heap.IsStrIter i2 ty y u k) (hend : x.cps[k]? = none ∨ y.cps[k]? = none)
    (hQ : ∀ h' tk, (∀ c o, c ≠ z → c ≠ TO → c ≠ i1 → c ≠ i2 → s.heap.get? c = some o → h'.get? c = some o) → Q none { s with heap := h', toks := tk }) : wpAny (model prog w) A (pyNext (.ref z)) Q E s := by
  have hT : s.TypeIs (.ref z) "zip" := ⟨_, hz, rfl⟩
  unfold pyNext
  refine wpAny_bind (wpAny_attempt (wpAny_callSpecial?_slot (name := Str.ofString "__next__") hT F.slot_zip_next
    (wpAny_call_entry F.slot_zip_next hT F.entry_zip_next (zipS_end hh D hz hTI hTO htx hty h1 h2 hend fun h' tk e hk he => ?_) (F.args_zip_next_1 _))))
  obtain ⟨o, ho, hc⟩ := he
  refine wpAny_bind (wpAny_isInstance (T := "StopIteration") (b := true) ⟨o, ho, hc⟩ isSubtype_stop ?_)
  exact wpAny_pure (hQ _ _ hk)
end
abbrev zs1 (h : Heap) (x : Str) (t : Tok) : Heap := h.push { cls := .type (strIterType x), data := .fields #[.str x t, .int 0 0] }
abbrev zs2 (h : Heap) (x y : Str) (t u : Tok) : Heap := zs1 (zs1 h x t) y u
abbrev zs3 (h : Heap) (x y : Str) (t u : Tok) : Heap := (zs2 h x y t u).push { cls := .type "tuple", data := .seq #[.ref h.objs.size, .ref (zs1 h x t).objs.size] }
abbrev zs4 (h : Heap) (x y : Str) (t u : Tok) : Heap := (zs3 h x y t u).push { cls := .type "tuple", data := .seq #[.none, .none] }
abbrev zs5 (h : Heap) (x y : Str) (t u : Tok) : Heap := (zs4 h x y t u).push { cls := .type "zip", data := .fields #[.none, .bool false, .bool false, .ref (zs2 h x y t u).objs.size, .ref (zs3 h x y t u).objs.size] }
set_option maxHeartbeats 1000000 in
theorem meets_zipS (x y : Str) (t u : Tok) :
    Meets (Builtin.«zip.__new__» ⟨[.type "zip", .str x t, .str y u], []⟩) (fun _ R s => R (.ok (.ret (.ref (zs4 s.heap x y t u).objs.size))) { s with heap := zs5 s.heap x y t u }) :=
  .of_wp fun prog w A R s h => by
    obtain ⟨hp, g, d, tk, os⟩ := s
    have hsub := sub_zip
    wp_walk using wpAny_pyIter_strU, wpAny_pyIter_strU
    exact ⟨_, rfl, h⟩
section
variable {prog : Program} {w : World} {A : Around} {E : Value → Shared → Prop} {s : Shared}
theorem call_zipS {x y : Str} {t u : Tok} {Q : Value → Shared → Prop}
    (h : ∀ h', IsZip h' (s.heap.objs.size + 4) (s.heap.objs.size + 2) (s.heap.objs.size + 3) .none → IsPair h' (s.heap.objs.size + 2) (.ref s.heap.objs.size) (.ref (s.heap.objs.size + 1)) →
      IsPair h' (s.heap.objs.size + 3) .none .none → h'.IsStrIter s.heap.objs.size (strIterType x) x t 0 → h'.IsStrIter (s.heap.objs.size + 1) (strIterType y) y u 0 → h'.objs.size = s.heap.objs.size + 5 →
      (∀ c o, s.heap.get? c = some o → h'.get? c = some o) → Q (.ref (s.heap.objs.size + 4)) { s with heap := h' }) :
    wpAny (model prog w) A (call (.type "zip") [.str x t, .str y u]) Q E s := by
  refine callType_new F.called_zip (by decide) (F.typeCall_zip_2 _ _) (F.newCall_zip_2 _ _) (fun obj => F.args_object_init_3 obj _ _) F.entry_zip_new (meets_zipS x y t u) ?_
  have z1 : (zs1 s.heap x t).objs.size = s.heap.objs.size + 1 := Heap.size_push ..
  have z2 : (zs2 s.heap x y t u).objs.size = s.heap.objs.size + 2 := by rw [Heap.size_push, z1]
  have z3 : (zs3 s.heap x y t u).objs.size = s.heap.objs.size + 3 := by rw [Heap.size_push, z2]
  have z4 : (zs4 s.heap x y t u).objs.size = s.heap.objs.size + 4 := by rw [Heap.size_push, z3]
  have z5 : (zs5 s.heap x y t u).objs.size = s.heap.objs.size + 5 := by rw [Heap.size_push, z4]
  have g5 : (zs5 s.heap x y t u).get? (zs4 s.heap x y t u).objs.size = some _ := Heap.get?_push_size _ rfl
  have g4 : (zs5 s.heap x y t u).get? (zs3 s.heap x y t u).objs.size = some _ := Heap.get?_push_of_some _ (Heap.get?_push_size _ rfl)
  have g3 : (zs5 s.heap x y t u).get? (zs2 s.heap x y t u).objs.size = some _ := Heap.get?_push_of_some _ (Heap.get?_push_of_some _ (Heap.get?_push_size _ rfl))
  have g2 : (zs5 s.heap x y t u).get? (zs1 s.heap x t).objs.size = some _ := Heap.get?_push_of_some _ (Heap.get?_push_of_some _ (Heap.get?_push_of_some _ (Heap.get?_push_size _ rfl)))
  have g1 : (zs5 s.heap x y t u).get? s.heap.objs.size = some _ := Heap.get?_push_of_some _ (Heap.get?_push_of_some _ (Heap.get?_push_of_some _ (Heap.get?_push_of_some _ (Heap.get?_push_size _ rfl))))
  show _ ∧ _
  rw [z2, z3, z4] at g5
  rw [z1, z2] at g3
  rw [z3] at g4
  rw [z1] at g2
  rw [z4]
  exact ⟨⟨_, g5, rfl⟩, h _ g5 g3 g4 ⟨_, g1, rfl, rfl⟩ ⟨_, g2, rfl, rfl⟩ z5 fun c o q => Heap.get?_push_of_some _ (Heap.get?_push_of_some _ (Heap.get?_push_of_some _ (Heap.get?_push_of_some _ (Heap.get?_push_of_some _ q))))⟩
end
/-- the signs of x and y, two by two, in new pairs -/
def ItZS (x y : Str) : It :=
  ⟨fun i _ => i < x.cps.size ∧ i < y.cps.size, fun i H v H' => ∃ T c1 c2, v = .ref T ∧ H T = none ∧ H' = upd H T (.tup [.str ⟨#[c1]⟩, .str ⟨#[c2]⟩]) ∧ x.cps[i]? = some c1 ∧ y.cps[i]? = some c2, fun i _ => x.cps.size ≤ i ∨ y.cps.size ≤ i⟩
theorem turn_zipS {P : Program} {w : World} {K : PySem.W.Frag} {elts : List Expr} {kk : Nat} {tpos : Pos} {x y : Str} {t u : Tok} {tx ty : String} {z TI TO i1 i2 : Addr} (D : ZA z TI TO i1 i2) (htx : StrTy x tx) (hty : StrTy y ty) :
    Turn P w K (.Tuple elts kk tpos) (ItZS x y) [z, TI, TO, i1, i2] z (fun i h => IsZip h z TI TO .none ∧ IsPair h TI (.ref i1) (.ref i2) ∧ (∃ a b, IsPair h TO a b) ∧ h.IsStrIter i1 tx x t i ∧ h.IsStrIter i2 ty y u i) where
  mem := by simp
  obj := fun i h st c hc => by
    obtain ⟨hz, hTI, ⟨a, b, hTO⟩, ⟨o1, e1, _, d1⟩, ⟨o2, e2, _, d2⟩⟩ := st
    have e' : c = z ∨ c = TI ∨ c = TO ∨ c = i1 ∨ c = i2 := by simpa using hc
    rcases e' with q | q | q | q | q
    · rw [q]; exact ⟨_, hz, fun v q => nomatch q⟩
    · rw [q]; exact ⟨_, hTI, fun v q => nomatch q⟩
    · rw [q]; exact ⟨_, hTO, fun v q => nomatch q⟩
    · rw [q]; exact ⟨o1, e1, fun v q => by rw [d1] at q; cases q⟩
    · rw [q]; exact ⟨o2, e2, fun v q => by rw [d2] at q; cases q⟩
  keep := fun i h h' st k => by
    obtain ⟨hz, hTI, ⟨a, b, hTO⟩, h1, h2⟩ := st
    exact ⟨k z (by simp) _ hz, k TI (by simp) _ hTI, ⟨a, b, k TO (by simp) _ hTO⟩, sit_at h1 fun o q => k i1 (by simp) o q, sit_at h2 fun o q => k i2 (by simp) o q⟩
  item := by
    intro X hP hw hK hc i pins s σ H E I hf st hg
    subst hP hw hK
    obtain ⟨hz, hTI, ⟨x0, y0, hTO⟩, h1, h2⟩ := st
    obtain ⟨g1, g2⟩ := hg
    have hx := Array.getElem?_eq_getElem g1
    have hy := Array.getElem?_eq_getElem g2
    have zl : z < s.heap.objs.size := Heap.lt_size hz
    refine pyNext_zipS D hz hTI hTO htx hty h1 h2 hx hy fun h' tk t1 t2 z' o' a1 a2 hT hsz hk => ?_
    refine ⟨_, rfl, wpAny_letOwnedTupleGo_zip (s := { s with heap := h', toks := tk }) z' fun h'' z'' sb => ?_⟩
    have T2 : h''.get? s.heap.objs.size = some { cls := .type "tuple", data := .seq #[.str ⟨#[x.cps[i]]⟩ t1, .str ⟨#[y.cps[i]]⟩ t2] } := (sb.2 _ (Nat.ne_of_gt zl)).trans hT
    have new : ObjOk X.prog X.w (upd H s.heap.objs.size (.tup [.str ⟨#[x.cps[i]]⟩, .str ⟨#[y.cps[i]]⟩])) h'' s.heap.objs.size (.tup [.str ⟨#[x.cps[i]]⟩, .str ⟨#[y.cps[i]]⟩]) :=
      ⟨by show 2 ≤ sizeLine; decide, [.str ⟨#[x.cps[i]]⟩ t1, .str ⟨#[y.cps[i]]⟩ t2], .cons ⟨_, rfl⟩ (.cons ⟨_, rfl⟩ .nil), ⟨_, T2, rfl, _, rfl⟩⟩
    have I1 : Inv X pins σ (upd H s.heap.objs.size (.tup [.str ⟨#[x.cps[i]]⟩, .str ⟨#[y.cps[i]]⟩])) { s with heap := h'', toks := tk } :=
      I.turnedNew (ch := [z, TI, TO, i1, i2]) (fun c o hb q => (sb.2 c (fun q' => hb (by simp [q']))).trans (hk c o (fun q' => hb (by simp [q'])) (fun q' => hb (by simp [q'])) (fun q' => hb (by simp [q'])) (fun q' => hb (by simp [q'])) q)) hf (Nat.le_refl _) new
    refine ⟨.ref s.heap.objs.size, _, I1, rfl, ⟨_, _, _, rfl, I.hok.fresh (Nat.le_refl _), rfl, hx, hy⟩, ⟨z'', ?_, ⟨_, _, (sb.2 _ D.TOz).trans o'⟩, sit_at a1 fun o q => (sb.2 _ D.i1z).trans q, sit_at a2 fun o q => (sb.2 _ D.i2z).trans q⟩, fun c hcm => ?_⟩
    · exact (sb.2 _ D.TIz).trans (hk _ _ D.TIz D.TITO D.TIi1 D.TIi2 hTI)
    · have lt : c < s.heap.objs.size := by
        have e' : c = z ∨ c = TI ∨ c = TO ∨ c = i1 ∨ c = i2 := by simpa using hcm
        rcases e' with q | q | q | q | q
        · rw [q]; exact zl
        · rw [q]; exact Heap.lt_size hTI
        · rw [q]; exact Heap.lt_size hTO
        · rw [q]; obtain ⟨_, e1, _⟩ := h1; exact Heap.lt_size e1
        · rw [q]; obtain ⟨_, e2, _⟩ := h2; exact Heap.lt_size e2
      rw [upd_ne (Nat.ne_of_lt lt)]
      exact (hf c hcm).1
  done := by
    intro X hP hw hK hc i pins s σ H E I hf st hg
    subst hP hw hK
    obtain ⟨hz, hTI, ⟨x0, y0, hTO⟩, h1, h2⟩ := st
    have he : x.cps[i]? = none ∨ y.cps[i]? = none := by
      rcases hg with q | q
      · exact .inl (Array.getElem?_eq_none q)
      · exact .inr (Array.getElem?_eq_none q)
    exact pyNext_zipS_end (by simp [I.ok.hd hc]) D hz hTI hTO htx hty h1 h2 he fun h' tk hk => ⟨rfl, I.turnedL (t' := tk) (ch := [z, TI, TO, i1, i2]) (fun c o hb q =>
      hk c o (fun q' => hb (by simp [q'])) (fun q' => hb (by simp [q'])) (fun q' => hb (by simp [q'])) (fun q' => hb (by simp [q'])) q) hf⟩
  self := fun A i s Q E st h => wpAny_pyIter_zip st.1 h
def iZipS (ta : TA) : TI := fun σ H R => ta σ H fun vs H1 => ∃ x y, vs = [.str x, .str y] ∧ R (ItZS x y) H1
theorem pi_zipS {X : Cx} {e e2 : Expr} {ta : TA} {p pos tpos : Pos} {elts : List Expr} {kk : Nat} (hg : Gl X "zip") (hm : X.mg "zip" = none) (ha : PA X [e, e2] ta)
    (hs : starEach [e, e2] X.env = (false, eval e X.env) :: starEach [e2] X.env := by rfl) (hpl : (backTo pos (starEach [e2] X.env)).any (·.1) = false := by rfl) :
    PI X (.Tuple elts kk tpos) (.Call (.Name "zip" p) [e, e2] [] pos) (iZipS ta) := by
  refine ⟨fun pins s σ H R I h => ?_⟩
  refine Call_ (ld_blt I hg hm PyProof.Rows.boot_zip (PyProof.Rows.callWith_type1 (thn (ha.run pos pins s σ H _ I h) fun us s1 ⟨vs, H1, I1, r1, q1⟩ => ?_) hs hpl))
  obtain ⟨x, y, ex, q⟩ := q1
  subst ex
  cases r1 with
  | cons r rr =>
    cases rr with
    | cons r' rr =>
      cases rr
      obtain ⟨t, rfl⟩ := r
      obtain ⟨u, rfl⟩ := r'
      refine call_zipS fun h' hz hTI hTO h1 h2 hsz hk => wpAny_pyIter_zip hz ?_
      have I2 : Inv X pins σ H1 { s1 with heap := h' } := I1.kept (t' := s1.toks) hk
      have ap : ZA (s1.heap.objs.size + 4) (s1.heap.objs.size + 2) (s1.heap.objs.size + 3) s1.heap.objs.size (s1.heap.objs.size + 1) := by
        constructor <;> (intro z; have z := congrArg (· - s1.heap.objs.size) z; first | (simp at z; done) | (revert z; show Nat.sub _ _ = Nat.sub _ _ → False; intro z; simp [Nat.add_sub_cancel_left] at z))
      refine ⟨s1.heap.objs.size + 4, [s1.heap.objs.size + 4, s1.heap.objs.size + 2, s1.heap.objs.size + 3, s1.heap.objs.size, s1.heap.objs.size + 1], _, _, H1, rfl, I2, turn_zipS ap (strTy x) (strTy y), ⟨hz, hTI, ⟨_, _, hTO⟩, h1, h2⟩, fun c hcm => ?_, q⟩
      have e' : c = s1.heap.objs.size + 4 ∨ c = s1.heap.objs.size + 2 ∨ c = s1.heap.objs.size + 3 ∨ c = s1.heap.objs.size ∨ c = s1.heap.objs.size + 1 := by simpa using hcm
      have hle : s1.heap.objs.size ≤ c := by
        rcases e' with z | z | z | z | z
        · rw [z]; exact Nat.le_add_right _ _
        · rw [z]; exact Nat.le_add_right _ _
        · rw [z]; exact Nat.le_add_right _ _
        · rw [z]; exact Nat.le_refl _
        · rw [z]; exact Nat.le_add_right _ _
      exact I1.fpOk hle (I1.hok.fresh hle)
/-! ### over data -/
def zipSD (x y : Str) : List Dv := List.zipWith (fun a b => Dv.tup [.str ⟨#[a]⟩, .str ⟨#[b]⟩]) x.cps.toList y.cps.toList
theorem zipSD_len (x y : Str) : (zipSD x y).length = min x.length y.length := by
  unfold zipSD
  rw [List.length_zipWith, str_len, str_len]
theorem zipSD_get {x y : Str} {i : Nat} {d : Dv} (h : (zipSD x y)[i]? = some d) : ∃ a b, x.cps.toList[i]? = some a ∧ y.cps.toList[i]? = some b ∧ d = .tup [.str ⟨#[a]⟩, .str ⟨#[b]⟩] := by
  unfold zipSD at h
  rw [List.getElem?_zipWith] at h
  split at h
  · rename_i a b e1 e2
    exact ⟨a, b, e1, e2, (Option.some.inj h).symm⟩
  · cases h
theorem itzs_rel {K : PySem.W.Frag} {M : Mo} {H : Hp} {x y : Str} : ItRel K ⟨zipSD x y, fun _ => True⟩ M H (ItZS x y) :=
  ⟨fun i d M1 H1 s o e => by
    obtain ⟨a, b, e1, e2, rfl⟩ := zipSD_get e
    rw [Array.getElem?_toList] at e1 e2
    refine ⟨⟨(Array.getElem?_eq_some_iff.mp e1).1, (Array.getElem?_eq_some_iff.mp e2).1⟩, fun v H2 z => ?_⟩
    obtain ⟨T, c1, c2, rfl, hT, rfl, h1, h2⟩ := z
    rw [e1] at h1
    rw [e2] at h2
    cases h1
    cases h2
    exact ⟨Stp.new0 s.sr hT, RD.pair .str .str hT⟩, fun M1 H1 s o => by
    show x.cps.size ≤ (zipSD x y).length ∨ y.cps.size ≤ (zipSD x y).length
    rw [zipSD_len]
    show x.length ≤ _ ∨ y.length ≤ _
    omega⟩
def iZipSD (ta : TAD) : TID := fun sd M R => ta sd M fun ds M1 => match ds with
  | [.str x, .str y] => R ⟨zipSD x y, fun _ => True⟩ M1
  | _ => False
def kZS (ds : List Dv) (F : Str → Str → Prop) : Prop := match ds with
  | [.str x, .str y] => F x y
  | _ => False
instance s_zipS {sd : StD} {M : Mo} {t : TAD} {R : ItD → Mo → Prop} : Step (iZipSD t sd M R) (t sd M fun ds M1 => kZS ds fun x y => R ⟨zipSD x y, fun _ => True⟩ M1) := ⟨fun h => by
  have : (fun (ds : List Dv) (M1 : Mo) => kZS ds fun x y => R ⟨zipSD x y, fun _ => True⟩ M1) = fun ds M1 => match ds with
      | [.str x, .str y] => R ⟨zipSD x y, fun _ => True⟩ M1
      | _ => False := by
    funext ds M1
    unfold kZS
    split <;> rfl
  rw [this] at h
  exact h⟩
instance s_kZS {x y : Str} {F : Str → Str → Prop} : Step (kZS [.str x, .str y] F) (F x y) := ⟨fun h => h⟩
section
variable {X : Cx} {M0 : Mo} {H0 : Hp}
theorem di_zipS {e e2 : Expr} {ta : TAD} {p pos tpos : Pos} {elts : List Expr} {kk : Nat} (hg : Gl X "zip") (hm : X.mg "zip" = none) (ha : PAd X M0 H0 [e, e2] ta) (hs : starEach [e, e2] X.env = (false, eval e X.env) :: starEach [e2] X.env := by rfl) (hpl : (backTo pos (starEach [e2] X.env)).any (·.1) = false := by rfl) :
    PId X M0 H0 (.Tuple elts kk tpos) (.Call (.Name "zip" p) [e, e2] [] pos) (iZipSD ta) :=
  PI.imp (pi_zipS hg hm ha hs hpl) fun σ H R ⟨sd, M, Rd, w, q, c⟩ => ⟨sd, M, _, w, q, fun d M1 v H1 s1 r1 q1 => by
    split at q1
    · rename_i x y
      obtain ⟨v, v2, rfl, ra, rb⟩ := r1.two
      exact ⟨x, y, by rw [ra.str_of, rb.str_of], c _ _ _ _ s1 itzs_rel q1⟩
    · exact q1.elim⟩
end
end DL

namespace DL
open PySem PySem.Spec PyProof.Rows L2
/-! ### turned about: x[::-1] of a text or a list -/
def revS (x : Str) : Str := ⟨x.cps.toList.reverse.toArray⟩
theorem krvS_pick {α : Type} (xs : Array α) : (Builtin.Str.strSliceIndices none none (-1) xs.size).filterMap (xs[·]?) = xs.toList.reverse := by
  unfold Builtin.Str.strSliceIndices
  show ((sliceRange ((xs.size : Int) - 1) (-1) (-1)).filterMap (xs[·]?)) = _
  rw [PySem.W.krv_sliceRange, PySem.W.krv_range, List.filterMap_reverse, PySem.W.krv_all]
section
variable {X : Cx}
def tRev (K : PySem.W.Frag) (te : TE) : TE := fun σ H Q => te σ H fun x H1 => (∃ a xs, x = .ref a ∧ SqL K H1 a xs ∧ ∀ p, H1 p = none → Q (.ref p) (upd H1 p (.lst xs.reverse))) ∨ (∃ z, x = .str z ∧ z.length ≤ sizeLine ∧ Q (.str (revS z)) H1)
theorem pe_rev {e : Expr} {te : TE} {k : Nat} {p1 p2 p3 pos : Pos} (he : PE X e te) : PE X (.Subscript e (.Slice none none (some (.UnaryOp .USub (.Constant (.int 1) k p1) p2)) p3) pos) (tRev X.K te) := by
  refine ⟨fun pins s σ H Q I h => ?_⟩
  refine Subscript_ (thn (he.run pins s σ H _ I h) fun v s1 ⟨x, H1, I1, r1, q1⟩ => ?_)
  have hst : PO X (some (.UnaryOp .USub (.Constant (.int 1) k p1) p2)) (tPart (tUn (rU fun i => .int (-i)) (tC (.int 1)))) := po_some (pe_un un_neg pe_int)
  refine wpAny_Slice (thn (po_none.run pins s1 σ H1 (fun o H2 => o = none ∧ H2 = H1) I1 ⟨rfl, rfl⟩) fun vl s2 ⟨l, H2, I2, pl, el, e2⟩ => ?_)
  subst el e2
  refine thn (po_none.run pins s2 σ H2 (fun o H3 => o = none ∧ H3 = H2) I2 ⟨rfl, rfl⟩) fun vu s3 ⟨u, H3, I3, pu, eu, e3⟩ => ?_
  subst eu e3
  refine thn (hst.run pins s3 σ H3 (fun o H4 => o = some (-1) ∧ H4 = H3) I3 ⟨1, rfl, -1, rfl, rfl, rfl⟩) fun vs s4 ⟨o, H4, I4, ps, eo, e4⟩ => ?_
  subst eo e4
  have I5 : Inv X pins σ H4 { s4 with heap := s4.heap.push { cls := .type "slice", data := .fields #[vl, vu, vs] } } := I4.kept (t' := s4.toks) fun b ob q => Heap.get?_push_of_some _ q
  rcases q1 with ⟨a, xs, ex, hx, q⟩ | ⟨z, ex, hz, q⟩
  · subst ex
    cases r1
    obtain ⟨its, r, ht, hz⟩ := I5.list hx
    have hlen := r.length
    show wpAny (model X.prog X.w) X.A (subscriptTail e (.Slice none none (some (.UnaryOp .USub (.Constant (.int 1) k p1) p2)) p3) (.ref a) (.ref s4.heap.objs.size)) (EP X pins σ Q) X.xe { s4 with heap := s4.heap.push { cls := .type "slice", data := .fields #[vl, vu, vs] } }
    refine tail_any (ops := [.ref a, .ref s4.heap.objs.size]) ht.isList.typeIs (PySem.slot_list_getitem.lookup) ?_ (by with_unfolding_all rfl)
    refine wpAny_getItem_list_slice ht.isList (Heap.IsSliceOf.new _ vl vu vs) pl pu ps (by decide) ?_ (by rw [List.size_toArray]; omega)
    rw [PySem.W.krv_pick]
    refine ⟨.ref _, _, I5.laid (t' := s4.toks) (o := .lst xs.reverse) (fun b ob q => Heap.get?_push_of_some _ q) (Nat.le_refl _) ?_, rfl, q _ (I5.hok.fresh (Nat.le_refl _))⟩
    exact ⟨by rw [List.length_reverse]; exact hz, _, 0, r.reverse, Heap.get?_push_size _ rfl⟩
  · subst ex
    obtain ⟨t, rfl⟩ := r1
    show wpAny (model X.prog X.w) X.A (subscriptTail e (.Slice none none (some (.UnaryOp .USub (.Constant (.int 1) k p1) p2)) p3) (.str z t) (.ref s4.heap.objs.size)) (EP X pins σ Q) X.xe { s4 with heap := s4.heap.push { cls := .type "slice", data := .fields #[vl, vu, vs] } }
    have hs := Heap.IsSliceOf.new s4.heap vl vu vs
    obtain ⟨os, hos, hcs, hds⟩ := hs
    obtain ⟨l, el, hl⟩ := IsPart.raw pl
    obtain ⟨u, eu, hu⟩ := IsPart.raw pu
    obtain ⟨st, est, hst2⟩ := IsPart.raw ps
    subst el eu est
    refine tail_any (ops := [.str z t, .ref s4.heap.objs.size]) (typeIs_str _ z t) F.slot_str_getitem.lookup ?_ (by with_unfolding_all rfl)
    have hst3 : st.map (·.1) = some (-1) := hst2
    have hl3 : l.map (·.1) = none := hl
    have hu3 : u.map (·.1) = none := hu
    refine wpAny_getItem_str_slice (l := l) (u := u) (st := st) ⟨os, hos, hcs, hds⟩ (by rw [hst3]; rfl) ?_
    unfold sliceMade slicePicked
    rw [hst3, hl3, hu3]
    show Made.post (if (((-1 : Int) == 1) && (Builtin.Str.strSliceIndices none none (-1) z.length).length == z.length) = true then Made.val (.str z t)
      else Made.str ⟨((Builtin.Str.strSliceIndices none none (-1) z.length).filterMap (z.cps[·]?)).toArray⟩) (EP X pins σ Q) _
    rw [if_neg (by simp)]
    rw [show (Builtin.Str.strSliceIndices none none (-1) z.length).filterMap (z.cps[·]?) = z.cps.toList.reverse from krvS_pick z.cps]
    refine ⟨?_, .str _, H4, I5.tok _, ⟨_, rfl⟩, q⟩
    show (z.cps.toList.reverse.toArray).size ≤ _
    rw [List.size_toArray, List.length_reverse, Array.length_toList]
    exact hz
end
section
variable {X : Cx} {M0 : Mo} {H0 : Hp} {e : Expr} {te : TED} {k : Nat} {p1 p2 p3 pos : Pos}
theorem RDs.rev {K : PySem.W.Frag} {H : Hp} : ∀ {ds : List Dv} {vs : List V}, RDs K H ds vs → RDs K H ds.reverse vs.reverse
  | [], vs, h => by
    unfold RDs at h
    subst h
    exact .nil
  | d :: ds, vs, h => by
    unfold RDs at h
    obtain ⟨v, r, rfl, h1, h2⟩ := h
    rw [List.reverse_cons, List.reverse_cons]
    exact (RDs.rev h2).app (RDs.cons h1 .nil)
def dRevV (d : Dv) (M : Mo) (Q : QD) : Prop := match d with
  | .str z => z.length ≤ 16777216 ∧ Q (.str (revS z)) M
  | d => match seqL M d with
    | some ds => ∀ p, M p = none → Q (.ref p) (mup M p (.lst ds.reverse))
    | none => False
def dRev (te : TED) : TED := fun sd M Q => te sd M fun d M1 => dRevV d M1 Q
theorem de_rev (he : PEd X M0 H0 e te) : PEd X M0 H0 (.Subscript e (.Slice none none (some (.UnaryOp .USub (.Constant (.int 1) k p1) p2)) p3) pos) (dRev te) :=
  PE.imp (pe_rev he) fun σ H Q ⟨sd, M, Qd, w, q, c⟩ => ⟨sd, M, _, w, q, fun d M1 v H1 s1 r1 q1 => by
    unfold dRevV at q1
    split at q1
    · rw [r1.str_of]
      exact .inr ⟨_, rfl, by rw [← line_eq]; exact q1.1, c _ _ _ _ s1 .str q1.2⟩
    · split at q1
      · rename_i es e
        obtain ⟨a, vs, rfl, sq, rr⟩ := seqL_ok s1.sr r1 e
        exact .inl ⟨a, vs, rfl, sq, fun p hp => c _ _ _ _ (s1.trans (Stp.new s1.sr hp (own_lst hp rr.rev))) .ref (q1 p (s1.sr.free hp))⟩
      · exact q1.elim⟩
/-! ### targets: a list taken apart -/
variable {es : List Expr} {u : TGsD} {n : Nat}
def gLu (n : Nat) (t : TGsD) : TGD := fun d sd M Q => match seqL M d with
  | some ds => ds.length = n ∧ t ds sd M Q
  | none => False
theorem dg_lst (hc : X.calm = true) (h : PGsd X M0 H0 es u) (hn : (assignEach es X.env).length = n := by rfl) (hst : (assignEach es X.env).findIdx? (·.1) = none := by rfl) : PGd X M0 H0 (.Tuple es k pos) (gLu n u) :=
  PG.imp (pg_lst hc h hn hst) fun v σ H Q ⟨d, sd, M, Qd, w, r, q, c⟩ => by
    unfold gLu at q
    split at q
    · rename_i ds e
      obtain ⟨a, vs, rfl, sq, rr⟩ := seqL_ok w.st.sr r e
      exact ⟨a, vs, rfl, sq, by rw [← rr.length]; exact q.1, ds, sd, M, Qd, w, rr, q.2, c⟩
    · exact q.elim
end
section
variable {sd : StD} {M : Mo} {Q : QD} {d : Dv} {ds : List Dv} {x : Str}
theorem i_rev {te : TED} (h : te sd M fun d M1 => dRevV d M1 Q) : dRev te sd M Q := h
theorem i_revS (hl : x.length ≤ 16777216) (h : Q (.str (revS x)) M) : dRevV (.str x) M Q := ⟨hl, h⟩
theorem i_revL (h1 : seqL M d = some ds) (q : ∀ p, M p = none → Q (.ref p) (mup M p (.lst ds.reverse))) : dRevV d M Q := by
  unfold dRevV
  split
  · simp [seqL] at h1
  · simp only [h1]
    exact q
theorem i_gLu {n : Nat} {t : TGsD} {R : StD → Mo → Prop} (h1 : seqL M d = some ds) (hn : ds.length = n) (h : t ds sd M R) : gLu n t d sd M R := by
  unfold gLu
  rw [h1]
  exact ⟨hn, h⟩
instance s_rev {te : TED} : Step (dRev te sd M Q) (te sd M fun d M1 => dRevV d M1 Q) := ⟨i_rev⟩
theorem revS_len (x : Str) : (revS x).length = x.length := by
  rw [str_len, str_len]
  unfold revS
  simp
theorem revS_cps (x : Str) : (revS x).cps.toList = x.cps.toList.reverse := by
  unfold revS
  rfl
end
end DL

namespace DL
open PySem PySem.Spec PyProof.Rows L2
/-! ### instances of own classes: owned, or standing still -/
theorem ins_getR {P : Program} {w : World} {H : Hp} {h : Heap} {a C dx : Addr} {fs : List (Str × V)} (hok : HOk P w H h) (e : Rd H a (.ins C dx fs)) : ∃ mA, ObjM h a dx C mA ∧ (∀ f, RelO (fs.lookup f) (mA f)) ∧ PySem.Within mA (fs.map (·.1)) ∧ fs.length ≤ 1000 ∧ H dx = some (.own a) := by
  obtain ⟨d, z, ne, ob, mA, n, r, q⟩ := (show ObjOk P w H h a (.ins C dx fs) from e.ok hok)
  exact ⟨mA, ⟨ob, n, ne⟩, r, q, z, d⟩
section
variable {X : Cx} {pins : List (Addr × Obj)} {σ : L2.St} {H : Hp} {s : Shared} {a C dx : Addr} {fs : List (Str × V)} {f : Str} {v : V} {A : Around} {E : Value → Shared → Prop}
theorem getattr_okR {b : Bool} {Q : Value → Shared → Prop} (I : Inv X pins σ H s) (e : Rd H a (.ins C dx fs)) (c : Cls X.K C) (n : NoAttr X.K C f) (l : fs.lookup f = some v)
    (h : ∀ u s', Inv X pins σ H s' → RelV v u → Q u s') : wpAny (model X.prog X.w) A (getAttr (.ref a) f b) Q E s := by
  obtain ⟨mA, O, r, _, _, _⟩ := ins_getR I.hok e
  have z := r f
  rw [l] at z
  obtain ⟨u, hu, ru⟩ := RelO.some_of (v := v) (o := mA f) z
  exact get_map I.kIn O (c.get f) c.hd n hu (handed_of ru) (h u _ (I.tok _) ru)
theorem getmeth_okR {m : Str} {g : Addr} {pl : Sem Bool} {Q : Value × List Value → Shared → Prop} (I : Inv X pins σ H s) (e : Rd H a (.ins C dx fs)) (c : Cls X.K C) (k : Meth X.K C m g) (l : fs.lookup m = none)
    (h : Q (.ref g, [.ref a]) s) : wpAny (model X.prog X.w) A (getMethod (.ref a) m pl) Q E s := by
  obtain ⟨mA, O, r, _, _, _⟩ := ins_getR I.hok e
  have z := r m
  rw [l] at z
  exact get_meth I.kIn O (c.get m) k.at_ k.fn (RelO.none_of z) h
end
def tFldR (K : PySem.W.Frag) (ta : TE) (f : Str) : TE := fun σ H Q => ta σ H fun x H1 => ∃ a C dx fs v, x = .ref a ∧ Rd H1 a (.ins C dx fs) ∧ Cls K C ∧ NoAttr K C f ∧ fs.lookup f = some v ∧ Q v H1
def tMethR (C : Addr) (m : Str) (sp : Sp) (dvs : List V) (E : XK) (ta : TE) (t : TA) : TE := fun σ H Q => ta σ H fun x H1 => ∃ a dx fs, x = .ref a ∧ Rd H1 a (.ins C dx fs) ∧ fs.lookup m = none ∧ t σ H1 fun vs H2 => sp (x :: (vs ++ dvs)) H2 Q E
section
variable {X : Cx} {e o : Expr} {es : List Expr} {f m : Str} {pos apos : Pos} {ta : TE} {t : TA} {C g : Addr} {k : Nat} {fd : FuncData} {ps : List Str} {sp : Sp} {dvs : List V} {ds : List Value} {E : XK} {CX : CXT}
theorem pe_fldR (he : PE X e ta) (hb : attributeBase e f X.env (eval e X.env) = eval e X.env) : PE X (.Attribute e f pos) (tFldR X.K ta f) := by
  refine ⟨fun pins s σ H Q I h => ?_⟩
  refine attr_of hb (thn (he.run pins s σ H _ I h) fun u s1 ⟨x, H1, I1, rx, a, C, dx, fs, v, ex, ea, c, n, l, q⟩ => ?_)
  subst ex
  have eu : u = Value.ref a := rx
  subst eu
  exact getattr_okR I1 ea c n l fun u' s2 I2 ru => ⟨v, H1, I2, ru, q⟩
theorem pe_methR {pl : Sem Bool} (he : PE X o ta) (c : Cls X.K C) (hm : Meth X.K C m g) (F : FnOk X.prog X.w X.K X.mg X.base CX k g fd ps sp) (hr : Room k X.A) (hb : Binds X.K fd ps ds) (hd : Vals dvs ds) (hx : Passes CX X E) (ha : PA X (e :: es) t)
    (hst : starEach (e :: es) X.env = (false, eval e X.env) :: starEach es X.env := by rfl) (hpl : (backTo pos (starEach es X.env)).any (·.1) = false := by rfl)
    (ht : eval (.Call (.Attribute o m apos) (e :: es) [] pos) X.env = (do
      let ov ← eval o X.env
      standAt apos.atName
      let (f, first) ← holding [ov] (getMethod ov m pl)
      callWith pos f first (backTo pos (starEach (e :: es) X.env)) (backToKw pos (keywordEach [] X.env))) := by rfl) :
    PE X (.Call (.Attribute o m apos) (e :: es) [] pos) (tMethR C m sp dvs E ta t) := by
  refine ⟨fun pins s σ H Q I h => ?_⟩
  refine PySem.W.methodCall_KW (pl := pl) (thn (he.run pins s σ H _ I h) fun u s1 ⟨x, H1, I1, rx, a, dx, fs, ex, ea, l, q⟩ => ?_) ht
  subst ex
  have eu : u = Value.ref a := rx
  subst eu
  refine getmeth_okR I1 ea c hm l ?_
  refine PySem.W.callWith_K (first := [.ref a]) (h₀ := X.base) I.ok.mod.kin hm.kp (thn (ha.run pos pins s1 σ H1 _ I1 q) fun us s2 ⟨vs, H2, I2, r, q2⟩ => ⟨I2.kIn, ?_⟩) hst hpl
  exact run_fn (us := .ref a :: us) (vs := .ref a :: vs) F hr hb hd hx I2 (.cons rfl r) q2
theorem pe_methR0 {pl : Sem Bool} (he : PE X o ta) (c : Cls X.K C) (hm : Meth X.K C m g) (F : FnOk X.prog X.w X.K X.mg X.base CX k g fd ps sp) (hr : Room k X.A) (hb : Binds X.K fd ps ds) (hd : Vals dvs ds) (hx : Passes CX X E)
    (ht : eval (.Call (.Attribute o m apos) [] [] pos) X.env = (do
      let ov ← eval o X.env
      standAt apos.atName
      let (f, first) ← holding [ov] (getMethod ov m pl)
      callWith pos f first (backTo pos (starEach [] X.env)) (backToKw pos (keywordEach [] X.env))) := by rfl) :
    PE X (.Call (.Attribute o m apos) [] [] pos) (tMethR C m sp dvs E ta tNil) := by
  refine ⟨fun pins s σ H Q I h => ?_⟩
  refine PySem.W.methodCall_KW (pl := pl) (thn (he.run pins s σ H _ I h) fun u s1 ⟨x, H1, I1, rx, a, dx, fs, ex, ea, l, q⟩ => ?_) ht
  subst ex
  have eu : u = Value.ref a := rx
  subst eu
  refine getmeth_okR I1 ea c hm l ?_
  exact PySem.W.callWith_K0 (first := [.ref a]) I1.kIn hm.kp (run_fn (us := [.ref a]) (vs := [.ref a]) F hr hb hd hx I1 (.cons rfl .nil) q)
end
/-- the fields that may be read and laid: class and name -/
structure FldOk (K : PySem.W.Frag) (T : List (Str × Str)) : Prop where
  ok : ∀ c f, (c, f) ∈ T → ∀ C, PySem.W.nsIn K mainGlobals c = some (some (.ref C)) → Cls K C ∧ NoAttr K C f
theorem RDf.put {K : PySem.W.Frag} {H : Hp} {d : Dv} {v : V} (f : Str) (h : RD K H d v) : ∀ {fs : List (Str × Dv)} {vfs : List (Str × V)}, RDf K H fs vfs → RDf K H (putD f d fs) (putF f v vfs)
  | [], vs, r => by
    unfold RDf at r
    subst r
    unfold putD putF RDf
    exact ⟨v, [], rfl, h, by unfold RDf; rfl⟩
  | (g, u) :: ds, vs, r => by
    unfold RDf at r
    obtain ⟨x, w, rfl, h1, h2⟩ := r
    unfold putD putF
    by_cases e : g = f
    · rw [if_pos e.symm, if_pos e]
      unfold RDf
      exact ⟨v, w, rfl, h, h2⟩
    · rw [if_neg (fun z => e z.symm), if_neg e]
      unfold RDf
      exact ⟨x, _, rfl, h1, RDf.put f h h2⟩
theorem ins_at {K : PySem.W.Frag} {M : Mo} {H : Hp} {a : Addr} {c : Str} {fs : List (Str × Dv)} (s : SR K M H) (h : M a = some (.ins c fs)) : ∃ C dx vfs, PySem.W.nsIn K mainGlobals c = some (some (.ref C)) ∧ H a = some (.ins C dx vfs) ∧ RDf K H fs vfs := by
  have o := s _ _ h
  simp only [Own] at o
  exact o
/-- what an instance holds -/
def insV (M : Mo) : Dv → Option (Str × List (Str × Dv))
  | .obj c fs => some (c, fs)
  | .ref a => match M a with
    | some (.ins c fs) => some (c, fs)
    | _ => none
  | _ => none
theorem insV_ok {K : PySem.W.Frag} {M : Mo} {H : Hp} {d : Dv} {v : V} {c : Str} {fs : List (Str × Dv)} (s : SR K M H) (r : RD K H d v) (h : insV M d = some (c, fs)) : ∃ a C dx vfs, v = .ref a ∧ PySem.W.nsIn K mainGlobals c = some (some (.ref C)) ∧ Rd H a (.ins C dx vfs) ∧ RDf K H fs vfs := by
  unfold insV at h
  split at h
  · cases h
    unfold RD at r
    obtain ⟨a, o, C, dx, vs, e, n, z, r⟩ := r
    exact ⟨a, C, dx, vs, e, n, .inr ⟨o, z⟩, r⟩
  · rename_i a
    split at h
    · rename_i c' fs' e
      cases h
      obtain ⟨C, dx, vs, n, z, q⟩ := ins_at s e
      exact ⟨a, C, dx, vs, r.ref_of, n, .inl z, q⟩
    · cases h
  · cases h
def dFldV (T : List (Str × Str)) (f : Str) (d : Dv) (M : Mo) (Q : QD) : Prop := match insV M d with
  | some (c, fs) => (c, f) ∈ T ∧ match fs.lookup f with
    | some v => Q v M
    | none => False
  | none => False
def dFld (T : List (Str × Str)) (f : Str) (te : TED) : TED := fun sd M Q => te sd M fun d M1 => dFldV T f d M1 Q
/-- o.f = e -/
def dSFldV (T : List (Str × Str)) (f : Str) (D : EndsD) (sd : StD) (d o : Dv) (M : Mo) : Prop := match o with
  | .ref a => match M a with
    | some (.ins c fs) => (c, f) ∈ T ∧ fs.length < 1000 ∧ D.nx sd (mup M a (.ins c (putD f d fs)))
    | _ => False
  | _ => False
def dSFld (T : List (Str × Str)) (f : Str) (to te : TED) : TSD := fun D sd M => te sd M fun d M1 => to sd M1 fun o M2 => dSFldV T f D sd d o M2
section
variable {X : Cx} {M0 : Mo} {H0 : Hp} {T : List (Str × Str)} {e o : Expr} {te to : TED} {f : Str} {pos pos' : Pos}
theorem de_fld (hT : FldOk X.K T) (he : PEd X M0 H0 e te) (hb : attributeBase e f X.env (eval e X.env) = eval e X.env := by rfl) : PEd X M0 H0 (.Attribute e f pos) (dFld T f te) :=
  PE.imp (pe_fldR he hb) fun σ H Q ⟨sd, M, Qd, w, q, c⟩ => ⟨sd, M, _, w, q, fun d M1 v H1 s1 r1 q1 => by
    unfold dFldV at q1
    split at q1
    · rename_i cn fs e
      obtain ⟨m, q1⟩ := q1
      split at q1
      · rename_i dv l
        obtain ⟨a, C, dx, vfs, ev, n, hv, rr⟩ := insV_ok s1.sr r1 e
        obtain ⟨k1, k2⟩ := hT.ok _ _ m C n
        obtain ⟨v', l', r'⟩ := rr.lookup l
        exact ⟨a, C, dx, vfs, v', ev, hv, k1, k2, l', c _ _ _ _ s1 r' q1⟩
      · exact q1.elim
    · exact q1.elim⟩
theorem ds_fld (hT : FldOk X.K T) (ho : PEd X M0 H0 o to) (he : PEd X M0 H0 e te) (hs : swapsWith e (some (.Attribute o f pos')) pos.line X.env = pure false := by rfl) : PSd X M0 H0 (.Assign [.Attribute o f pos'] e pos) (dSFld T f to te) :=
  PS.imp (ps_fld ho he hs) fun Dn σ H ⟨sd, M, Dd, w, q, c⟩ => ⟨sd, M, _, w, q, fun d M1 v H1 s1 r1 q1 => ⟨sd, M1, _, w.on s1, q1, fun od M2 ov H2 s2 r2 q2 => by
    unfold dSFldV at q2
    split at q2
    · rename_i a
      split at q2
      · rename_i cn fs e
        obtain ⟨m, hl, q2⟩ := q2
        obtain ⟨C, dx, vfs, n, hv, rr⟩ := ins_at s2.sr e
        obtain ⟨k1, k2⟩ := hT.ok _ _ m C n
        have mu : Mutd (H2 a) := by rw [hv]; trivial
        have st : Stp X.K M2 H2 (mup M2 a (.ins cn (putD f d fs))) (upd H2 a (.ins C dx (putF f v vfs))) := by
          refine Stp.set s2.sr e mu ?_
          simp only [Own]
          have k : Keep H2 (upd H2 a (.ins C dx (putF f v vfs))) := Keep.mut mu
          exact ⟨C, dx, _, n, upd_same, RDf.put f ((r1.keep s2.keep).keep k) (rr.keep k)⟩
        have s3 := s1.trans (s2.trans st)
        exact ⟨a, C, dx, vfs, r2.ref_of, hv, k1, k2, by rw [← rr.length]; exact hl, c.nx _ _ _ _ s3 (w.rs.keep s3.keep) q2⟩
      · exact q2.elim
    · exact q2.elim⟩⟩
end
/-! ### methods, new instances -/
/-- a method of an own class -/
structure MethD (P : Program) (w : World) (K : PySem.W.Frag) (mg : Str → Option Value) (base : Heap) (c m : Str) (k : Nat) (ps : List Str) (B : FuncData → Prop) (sp : SpD) : Prop where
  ex : ∃ C f fd, PySem.W.nsIn K mainGlobals c = some (some (.ref C)) ∧ Cls K C ∧ Meth K C m f ∧ B fd ∧ FnOk P w K mg base (L2.CX P w) k f fd ps (LSp K sp)
/-- a class that is called: its __init__ -/
structure MakeD (P : Program) (w : World) (K : PySem.W.Frag) (mg : Str → Option Value) (base : Heap) (c : Str) (k : Nat) (ps : List Str) (B : FuncData → Prop) (sp : SpD) : Prop where
  ex : ∃ C f fd, PySem.W.nsIn K mainGlobals c = some (some (.ref C)) ∧ mg c = some (.ref C) ∧ Mk K C f ∧ B fd ∧ FnOk P w K mg base (L2.CX P w) k f fd ps (LSp K sp)
def dMethV (c m : Str) (sp : SpD) (dvs : List Dv) (Ed : EXD) (t : TAD) (sd : StD) (d : Dv) (M : Mo) (Q : QD) : Prop := match insV M d with
  | some (c', fs) => c' = c ∧ fs.lookup m = none ∧ t sd M fun ds M2 => sp (d :: (ds ++ dvs)) M2 Q Ed
  | none => False
def dMeth (c m : Str) (sp : SpD) (dvs : List Dv) (Ed : EXD) (to : TED) (t : TAD) : TED := fun sd M Q => to sd M fun d M1 => dMethV c m sp dvs Ed t sd d M1 Q
def dMkV (c : Str) (sp : SpD) (dvs : List Dv) (Ed : EXD) (Q : QD) (ds : List Dv) (M : Mo) : Prop := ∀ p, M p = none → sp (.ref p :: (ds ++ dvs)) (mup M p (.ins c [])) (fun v M2 => v = .non ∧ Q (.ref p) M2) Ed
def dMake (c : Str) (sp : SpD) (dvs : List Dv) (Ed : EXD) (t : TAD) : TED := fun sd M Q => t sd M fun ds M1 => dMkV c sp dvs Ed Q ds M1
section
variable {X : Cx} {M0 : Mo} {H0 : Hp} {k : Nat} {ps : List Str} {B : FuncData → Prop} {sp : SpD} {ddvs : List Dv} {dvs : List V} {Ed : EXD} {E : XK} {c m : Str} {p pos apos : Pos} {e o : Expr} {es : List Expr} {to : TED} {t tk : TAD}
theorem meth_imp {C : Addr} (n : PySem.W.nsIn X.K mainGlobals c = some (some (.ref C))) (hdd : ∀ H, RDs X.K H ddvs dvs) (hE : CtX X.K M0 H0 Ed E) : ∀ σ H Q, LE X.K M0 H0 (dMeth c m sp ddvs Ed to t) σ H Q → tMethR C m (LSp X.K sp) dvs E (LE X.K M0 H0 to) (LA X.K M0 H0 t) σ H Q := fun σ H Q ⟨sd, M, Qd, w, q, cc⟩ =>
  ⟨sd, M, _, w, q, fun d M1 v H1 s1 r1 q1 => by
    unfold dMethV at q1
    split at q1
    · rename_i c' fs e
      obtain ⟨rfl, l, q1⟩ := q1
      obtain ⟨a, C', dx, vfs, ev, n', hv, rr⟩ := insV_ok s1.sr r1 e
      rw [n] at n'
      cases n'
      exact ⟨a, dx, vfs, ev, hv, rr.lookup_none l, sd, M1, _, w.on s1, q1, fun ds M2 vs H2 s2 r2 q2 =>
        ⟨d :: (ds ++ ddvs), M2, Qd, Ed, RDs.cons (r1.keep s2.keep) (r2.app (hdd H2)), s2.sr, q2, cc.on (s1.trans s2), hE.on (w.st.trans (s1.trans s2))⟩⟩
    · exact q1.elim⟩
theorem de_meth {pl : Sem Bool} (F : MethD X.prog X.w X.K X.mg X.base c m k ps B sp) (hr : Room k X.A) (hb : ∀ fd, B fd → ∃ us, Vals dvs us ∧ Binds X.K fd ps us) (hdd : ∀ H, RDs X.K H ddvs dvs) (hx : Passes (L2.CX X.prog X.w) X E) (hE : CtX X.K M0 H0 Ed E)
    (ho : PEd X M0 H0 o to) (ha : PAd X M0 H0 (e :: es) t) (hst : starEach (e :: es) X.env = (false, eval e X.env) :: starEach es X.env := by rfl) (hpl : (backTo pos (starEach es X.env)).any (·.1) = false := by rfl)
    (ht : eval (.Call (.Attribute o m apos) (e :: es) [] pos) X.env = (do
      let ov ← eval o X.env
      standAt apos.atName
      let (f, first) ← holding [ov] (getMethod ov m pl)
      callWith pos f first (backTo pos (starEach (e :: es) X.env)) (backToKw pos (keywordEach [] X.env))) := by rfl) :
    PEd X M0 H0 (.Call (.Attribute o m apos) (e :: es) [] pos) (dMeth c m sp ddvs Ed to t) := by
  obtain ⟨C, f, fd, n, cl, hm, b, F⟩ := F.ex
  obtain ⟨us, hd, b⟩ := hb fd b
  exact PE.imp (pe_methR ho cl hm F hr b hd hx ha hst hpl ht) (meth_imp n hdd hE)
theorem de_meth0 {pl : Sem Bool} (F : MethD X.prog X.w X.K X.mg X.base c m k ps B sp) (hr : Room k X.A) (hb : ∀ fd, B fd → ∃ us, Vals dvs us ∧ Binds X.K fd ps us) (hdd : ∀ H, RDs X.K H ddvs dvs) (hx : Passes (L2.CX X.prog X.w) X E) (hE : CtX X.K M0 H0 Ed E)
    (ho : PEd X M0 H0 o to)
    (ht : eval (.Call (.Attribute o m apos) [] [] pos) X.env = (do
      let ov ← eval o X.env
      standAt apos.atName
      let (f, first) ← holding [ov] (getMethod ov m pl)
      callWith pos f first (backTo pos (starEach [] X.env)) (backToKw pos (keywordEach [] X.env))) := by rfl) :
    PEd X M0 H0 (.Call (.Attribute o m apos) [] [] pos) (dMeth c m sp ddvs Ed to dNilA) := by
  obtain ⟨C, f, fd, n, cl, hm, b, F⟩ := F.ex
  obtain ⟨us, hd, b⟩ := hb fd b
  refine PE.imp (pe_methR0 ho cl hm F hr b hd hx ht) fun σ H Q h => ?_
  obtain ⟨sd, M, Q', w, q, cc⟩ := meth_imp (M0 := M0) (H0 := H0) (t := dNilA) n hdd hE σ H Q h
  refine ⟨sd, M, Q', w, q, fun d M1 v H1 s1 r1 q1 => ?_⟩
  obtain ⟨a, dx, fs, e1, e2, e3, q2⟩ := cc d M1 v H1 s1 r1 q1
  exact ⟨a, dx, fs, e1, e2, e3, tnil_imp (M0 := M0) (H0 := H0) σ H1 _ q2⟩
theorem make_go {C : Addr} {M1 : Mo} {H1 : Hp} {Q : VK} {Qd : QD} {ds : List Dv} {vs : List V} {x dx : Addr} (n : PySem.W.nsIn X.K mainGlobals c = some (some (.ref C))) (hE : CtX X.K M0 H0 Ed E) (w : Stp X.K M0 H0 M1 H1) (cc : Ct X.K M1 H1 Qd Q) (r : RDs X.K H1 ds vs)
    (hx : H1 x = none) (hdx : H1 dx = none) (ne : dx ≠ x) (q : sp (.ref x :: ds) (mup M1 x (.ins c [])) (fun v M2 => v = .non ∧ Qd (.ref x) M2) Ed) :
    LSp X.K sp (.ref x :: vs) (upd (upd H1 dx (.own x)) x (.ins C dx [])) (fun v H2 => v = .non ∧ Q (.ref x) H2) E := by
  have s2 : Stp X.K M1 H1 M1 (upd H1 dx (.own x)) := Stp.new0 w.sr hdx
  have hx2 : upd H1 dx (.own x) x = none := by rw [upd_ne (fun z => ne z.symm)]; exact hx
  have s3 : Stp X.K M1 (upd H1 dx (.own x)) (mup M1 x (.ins c [])) (upd (upd H1 dx (.own x)) x (.ins C dx [])) := by
    refine Stp.new s2.sr hx2 ?_
    simp only [Own]
    exact ⟨C, dx, [], n, upd_same, by unfold RDf; rfl⟩
  have s4 := s2.trans s3
  refine ⟨.ref x :: ds, mup M1 x (.ins c []), _, Ed, RDs.cons RD.ref (r.keep s4.keep), s4.sr, q, fun d M' v H' s r ⟨e1, e2⟩ => ?_, hE.on (w.trans s4)⟩
  subst e1
  exact ⟨r.non_of, cc _ _ _ _ (s4.trans s) RD.ref e2⟩
theorem make_imp {C : Addr} (n : PySem.W.nsIn X.K mainGlobals c = some (some (.ref C))) (hdd : ∀ H, RDs X.K H ddvs dvs) (hE : CtX X.K M0 H0 Ed E) : ∀ σ H Q, LE X.K M0 H0 (dMake c sp ddvs Ed t) σ H Q → tMake C (LSp X.K sp) dvs E (LA X.K M0 H0 t) σ H Q := fun σ H Q ⟨sd, M, Qd, w, q, cc⟩ =>
  ⟨sd, M, _, w, q, fun ds M1 vs H1 s1 r1 q1 => fun x dx hx hdx ne => make_go n hE (w.st.trans s1) (cc.on s1) (r1.app (hdd _)) hx hdx ne (q1 x (s1.sr.free hx))⟩
theorem de_make (F : MakeD X.prog X.w X.K X.mg X.base c k ps B sp) (hr : Room (k + 1) X.A) (hg : Gl X c) (hb : ∀ fd, B fd → ∃ us, Vals dvs us ∧ Binds X.K fd ps us) (hdd : ∀ H, RDs X.K H ddvs dvs) (hx : Passes (L2.CX X.prog X.w) X E) (hE : CtX X.K M0 H0 Ed E)
    (ha : PAd X M0 H0 (e :: es) t) (hdb : (c == ("__debug__" : Str)) = false := by decide) (he : starEach (e :: es) X.env = (false, eval e X.env) :: starEach es X.env := by rfl) (hpl : (backTo pos (starEach es X.env)).any (·.1) = false := by rfl) :
    PEd X M0 H0 (.Call (.Name c p) (e :: es) [] pos) (dMake c sp ddvs Ed t) := by
  obtain ⟨C, f, fd, n, hm, mk, b, F⟩ := F.ex
  obtain ⟨us, hd, b⟩ := hb fd b
  exact PE.imp (pe_make mk F hr hg hm b hd hx ha hdb he hpl) (make_imp n hdd hE)
theorem de_make0 (F : MakeD X.prog X.w X.K X.mg X.base c k ps B sp) (hr : Room (k + 1) X.A) (hg : Gl X c) (hb : ∀ fd, B fd → ∃ us, Vals dvs us ∧ Binds X.K fd ps us) (hdd : ∀ H, RDs X.K H ddvs dvs) (hx : Passes (L2.CX X.prog X.w) X E) (hE : CtX X.K M0 H0 Ed E)
    (hdb : (c == ("__debug__" : Str)) = false := by decide) : PEd X M0 H0 (.Call (.Name c p) [] [] pos) (dMake c sp ddvs Ed dNilA) := by
  obtain ⟨C, f, fd, n, hm, mk, b, F⟩ := F.ex
  obtain ⟨us, hd, b⟩ := hb fd b
  exact PE.imp (pe_make0 mk F hr hg hm b hd hx hdb) fun σ H Q h => tnil_imp (M0 := M0) (H0 := H0) σ H _ (make_imp n hdd hE σ H Q h)
/-- C(e, .., k = v, ..), keywords behind, in any order: g puts them right -/
def dMakeN (c : Str) (sp : SpD) (n m : Nat) (gD : List Dv → List Dv → List Dv) (Ed : EXD) (t tk : TAD) : TED := fun sd M Q => t sd M fun ds M1 => tk sd M1 fun zs M2 => ds.length = n ∧ zs.length = m ∧ ∀ p, M2 p = none → sp (gD (.ref p :: ds) zs) (mup M2 p (.ins c [])) (fun v M3 => v = .non ∧ Q (.ref p) M3) Ed
end
/-! ### isinstance against an own class -/
/-- what isinstance wants of an own class -/
structure ClsI (K : PySem.W.Frag) (C : Addr) : Prop where
  cl : Cls K C
  ha : PySem.W.findIn K (.ref C) "__class__" = some (some (.builtin "object.__class__"))
  hn : PySem.W.specialIn K (.builtin "object.__class__") "__get__" = some (some (.builtin "getset_descriptor.__get__"))
  ht : PySem.W.takesIn K (.builtin "object.__class__") = some true
  hm : PySem.W.mroIn K C (.type "object") = some true
/-- the classes of T, told apart from c and from the built-in ones -/
structure OwnIs (K : PySem.W.Frag) (T : List Str) (c : Str) (C : Addr) : Prop where
  own : ∀ x, x ∈ T → ∀ D, PySem.W.nsIn K mainGlobals x = some (some (.ref D)) → ClsI K D ∧ PySem.W.kitOne K (.ref D) (.ref C) = some (decide (x = c))
  bt : ∀ n, n ∈ (["NoneType", "bool", "int", "str", "list", "tuple", "dict"] : List String) → PySem.W.kitOne K (.type n) (.ref C) = some false
def rIsO (K : PySem.W.Frag) (C : Addr) : List V → Hp → VK → Prop := fun xs H Q => ∃ (x : V) (t : Value) (b : Bool), xs = [x, .ref C] ∧ (TyX K H x t ∨ ∃ a D dx fs, x = .ref a ∧ Rd H a (.ins D dx fs) ∧ ClsI K D ∧ t = .ref D) ∧ PySem.W.kitOne K t (.ref C) = some b ∧ Q (.bl b) H
theorem call_isO {X : Cx} {C : Addr} : CallR X (.builtin "isinstance") (rIsO X.K C) := by
  intro pins s σ H xs us Q I r h
  obtain ⟨x, t, b, rfl, ty, e, q⟩ := h
  obtain ⟨u1, u2, rfl, r1, r2⟩ := vals2 r
  have e2 : u2 = Value.ref C := r2
  subst e2
  rcases ty with ty | ⟨a, D, dx, fs, rfl, hr, ci, rfl⟩
  · obtain ⟨P, Z, p, hx⟩ := kit_of I r1 ty
    exact PySem.W.kia_one Z I.kIn p e hx fun tk => ⟨.bl b, H, I.tok tk, rfl, q⟩
  · have e1 : u1 = Value.ref a := r1
    subst e1
    obtain ⟨mA, O, _⟩ := ins_getR I.hok hr
    obtain ⟨od, J, _⟩ := O.look
    exact PySem.W.kia_one (PySem.W.kitx_own (ci.cl.get _) ci.cl.hd ci.ha ci.hn ci.ht ci.hm) I.kIn J e (fun z => nomatch z) fun tk => ⟨.bl b, H, I.tok tk, rfl, q⟩
def kIsO (T : List Str) (c : Str) (d : Dv) (M : Mo) (R : Bool → Prop) : Prop := match insV M d with
  | some (x, _) => x ∈ T ∧ R (decide (x = c))
  | none => match tyN M d with
    | some _ => R false
    | none => False
def dIsO (T : List Str) (c : Str) (te : TED) : TED := fun sd M Q => te sd M fun d M1 => kIsO T c d M1 fun b => Q (.bl b) M1
theorem de_isO {X : Cx} {M0 : Mo} {H0 : Hp} {T : List Str} {c : Str} {C : Addr} {te : TED} {e1 : Expr} {p pc pos : Pos} (W : OwnIs X.K T c C) (hg : Gl X "isinstance") (hi : X.mg "isinstance" = none) (hgc : Gl X c) (hc : X.mg c = some (.ref C)) (he1 : PEd X M0 H0 e1 te)
    (hdc : (c == ("__debug__" : Str)) = false := by decide) (hs : starEach (e1 :: [.Name c pc]) X.env = (false, eval e1 X.env) :: starEach [.Name c pc] X.env := by rfl) (hpl : (backTo pos (starEach [.Name c pc] X.env)).any (·.1) = false := by rfl) :
    PEd X M0 H0 (.Call (.Name "isinstance" p) [e1, .Name c pc] [] pos) (dIsO T c te) := by
  refine PE.imp (pe_callB (X := X) (call_isO (C := C)) hg hi rfl (pa_cons he1 (pa_cons (pe_glob (v := .ref C) hgc hc rfl hdc) pa_nil) hs) (by decide) (by decide) hs hpl) fun σ H Q ⟨sd, M, Qd, w, q, ct⟩ => ⟨sd, M, _, w, q, fun d M1 v H1 s1 r1 q1 => ?_⟩
  unfold kIsO at q1
  split at q1
  · rename_i x fs e
    obtain ⟨a, D, dx, vfs, ev, n, hv, _⟩ := insV_ok s1.sr r1 e
    obtain ⟨ci, k⟩ := W.own x q1.1 D n
    exact ⟨v, .ref D, _, rfl, .inr ⟨a, D, dx, vfs, ev, hv, ci, rfl⟩, k, ct _ _ _ _ s1 .bl q1.2⟩
  · split at q1
    · rename_i n e
      refine ⟨v, .type n, _, rfl, .inl (tyN_ok s1.sr r1 e), W.bt n ?_, ct _ _ _ _ s1 .bl q1⟩
      rcases tyN_cases e with rfl | rfl | rfl | rfl | rfl | rfl | rfl <;> decide
    · exact q1.elim
/-- a field laid -/
class PutAt (f : Str) (d : Dv) (fs : List (Str × Dv)) (fs' : outParam (List (Str × Dv))) : Prop where
  eq : putD f d fs = fs'
section
variable {sd : StD} {M : Mo} {Q : QD} {d v : Dv} {a : Addr} {c f m : Str} {fs fs' : List (Str × Dv)} {T : List (Str × Str)} {te to : TED} {t : TAD} {sp : SpD} {dvs ds : List Dv} {Ed : EXD} {D : EndsD} {o : OO} {d' : Dv}
instance s_fld : Step (dFld T f te sd M Q) (te sd M fun d M1 => dFldV T f d M1 Q) := ⟨id⟩
instance s_sfld : Step (dSFld T f to te D sd M) (te sd M fun d M1 => to sd M1 fun o M2 => dSFldV T f D sd d o M2) := ⟨id⟩
instance s_meth : Step (dMeth c m sp dvs Ed to t sd M Q) (to sd M fun d M1 => dMethV c m sp dvs Ed t sd d M1 Q) := ⟨id⟩
instance s_make : Step (dMake c sp dvs Ed t sd M Q) (t sd M fun ds M1 => dMkV c sp dvs Ed Q ds M1) := ⟨id⟩
instance s_frz : Step (dFrz te sd M Q) (te sd M fun d M1 => kFz d M1 Q) := ⟨id⟩
instance s_isO {U : List Str} : Step (dIsO U c te sd M Q) (te sd M fun d M1 => kIsO U c d M1 fun b => Q (.bl b) M1) := ⟨id⟩
instance s_fzS {x : Str} : Step (kFz (.str x) M Q) (Q (.str x) M) := ⟨id⟩
instance s_fzI {i : Int} : Step (kFz (.int i) M Q) (Q (.int i) M) := ⟨id⟩
instance s_fzB {b : Bool} : Step (kFz (.bl b) M Q) (Q (.bl b) M) := ⟨id⟩
instance s_fzN : Step (kFz .non M Q) (Q .non M) := ⟨id⟩
instance s_fzT : Step (kFz (.tup ds) M Q) (Q (.tup ds) M) := ⟨id⟩
instance s_fzL : Step (kFz (.lst ds) M Q) (Q (.lst ds) M) := ⟨id⟩
instance s_fzO : Step (kFz (.obj c fs) M Q) (Q (.obj c fs) M) := ⟨id⟩
theorem i_fzNew (hp : M a = none) (e : frzV o = some d') (q : Q d' M) : kFz (.ref a) (mup M a o) Q := ⟨o, d', mup_same, e, by rw [mdl_mup hp]; exact q⟩
theorem i_fzAt (hp : M a = some o) (e : frzV o = some d') (q : Q d' (mdl M a)) : kFz (.ref a) M Q := ⟨o, d', hp, e, q⟩
/-- a new list that stands still at once -/
theorem i_fzL (q : Q (.lst ds) M) : ∀ p, M p = none → kFz (.ref p) (mup M p (.lst ds)) Q := fun p hp => i_fzNew hp rfl q
theorem i_fldV (h1 : M a = some (.ins c fs)) (h2 : (c, f) ∈ T) (h3 : fs.lookup f = some v) (q : Q v M) : dFldV T f (.ref a) M Q := by
  unfold dFldV insV
  simp only [h1, h3]
  exact ⟨h2, q⟩
theorem i_fldO (h2 : (c, f) ∈ T) (h3 : fs.lookup f = some v) (q : Q v M) : dFldV T f (.obj c fs) M Q := by
  unfold dFldV insV
  simp only [h3]
  exact ⟨h2, q⟩
theorem i_sfldV [p : PutAt f d fs fs'] (h1 : M a = some (.ins c fs)) (h2 : (c, f) ∈ T) (h3 : fs.length < 1000) (q : D.nx sd (mup M a (.ins c fs'))) : dSFldV T f D sd d (.ref a) M := by
  unfold dSFldV
  simp only [h1]
  rw [p.eq]
  exact ⟨h2, h3, q⟩
theorem i_methV (h1 : M a = some (.ins c fs)) (h2 : fs.lookup m = none) (q : t sd M fun ds M2 => sp (.ref a :: (ds ++ dvs)) M2 Q Ed) : dMethV c m sp dvs Ed t sd (.ref a) M Q := by
  unfold dMethV insV
  simp only [h1]
  exact ⟨trivial, h2, q⟩
theorem i_methO (h2 : fs.lookup m = none) (q : t sd M fun ds M2 => sp (.obj c fs :: (ds ++ dvs)) M2 Q Ed) : dMethV c m sp dvs Ed t sd (.obj c fs) M Q := ⟨rfl, h2, q⟩
theorem i_mkV (h : ∀ p, M p = none → sp (.ref p :: (ds ++ dvs)) (mup M p (.ins c [])) (fun v M2 => v = .non ∧ Q (.ref p) M2) Ed) : dMkV c sp dvs Ed Q ds M := h
end
end DL

namespace DL
open PySem PySem.Spec PyProof.Rows L2
/-! ### int(x) of an int, a bool -/
def dIntOf : RNd := fun ds M Q => match ds with
  | [.int i] => Q (.int i) M
  | [.bl b] => Q (.int (if b then 1 else 0)) M
  | _ => False
theorem cd_int : CallR X (.type "int") (LNop X.K dIntOf) := cd_I call_int1 fun ds M Qd xs H Q rs sr q c => by
  unfold dIntOf at q
  split at q
  · obtain ⟨v, rfl, r⟩ := rs.one
    rw [r.int_of]
    exact .inl ⟨_, rfl, c _ M _ H (.refl sr) .int q⟩
  · obtain ⟨v, rfl, r⟩ := rs.one
    rw [r.bl_of]
    exact .inr ⟨_, rfl, c _ M _ H (.refl sr) .int q⟩
  · exact q.elim
section
variable {sd : StD} {M : Mo} {Q : QD} {i : Int} {b : Bool}
instance s_intI : Step (dIntOf [.int i] M Q) (Q (.int i) M) := ⟨id⟩
instance s_intB : Step (dIntOf [.bl b] M Q) (Q (.int (if b then 1 else 0)) M) := ⟨id⟩
end
end DL

namespace DL
open PySem PySem.Spec PyProof.Rows L2
/-! ### a variable's list stands still from a statement on -/
def kFzS (i : Nat) (a : StD → Mo → Prop) (sd : StD) (M : Mo) : Prop := match sd[i]? with
  | some (some d) => kFz d M fun d' M' => a (sd.set i (some d')) M'
  | _ => False
def dFzS (i : Nat) (t : TSD) : TSD := fun D sd M => t ⟨kFzS i D.nx, D.rt, D.bk, D.ct⟩ sd M
theorem kFz_ok {X : Cx} {pins : List (Addr × Obj)} {s : Shared} {σ : L2.St} {H : Hp} {M : Mo} {d : Dv} {v : V} {Q : QD} (I : Inv X pins σ H s) (sr : SR X.K M H) (r : RD X.K H d v) (q : kFz d M Q) : ∃ d' M' H', Inv X pins σ H' s ∧ Stp X.K M H M' H' ∧ RD X.K H' d' v ∧ Q d' M' := by
  unfold kFz at q
  split at q
  · rename_i p
    have ev := r.ref_of
    subst ev
    obtain ⟨o, d', e, ed, q⟩ := q
    obtain ⟨H2, I2, s2, r2⟩ := Inv.frzD I sr e ed
    exact ⟨d', _, H2, I2, s2, r2, q⟩
  · exact ⟨d, M, H, I, .refl sr, r, q⟩
theorem list_set_same {α : Type} : ∀ {l : List α} {i : Nat} {x : α}, l[i]? = some x → l.set i x = l
  | [], _, _, h => by simp at h
  | a :: l, 0, x, h => by simp at h; subst h; rfl
  | a :: l, i + 1, x, h => by
    rw [List.set_cons_succ, list_set_same (by simpa using h)]
theorem ds_fzS {X : Cx} {M0 : Mo} {H0 : Hp} {st : Stmt} {t : TSD} (i : Nat) (h : PSd X M0 H0 st t) : PSd X M0 H0 st (dFzS i t) := by
  refine ⟨fun pins s σ H D I ⟨sd, M, Dd, w, q, c⟩ => ?_⟩
  refine thn (h.run pins s σ H ⟨fun σ' H' => ∃ sd' M', Stp X.K M H M' H' ∧ Rs X.K H' sd' σ' ∧ kFzS i Dd.nx sd' M', D.rt, D.bk, D.ct⟩ I ⟨sd, M, _, w, q, ⟨fun sd' M' σ' H' s1 r1 q1 => ⟨sd', M', s1, r1, q1⟩, c.rt, c.bk, c.ct⟩⟩) fun f s1 q => ?_
  cases f with
  | next =>
    obtain ⟨σ', H', I2, sd', M', s1, r1, q1⟩ := q
    unfold kFzS at q1
    split at q1
    · rename_i d e
      obtain ⟨v, hv, rv⟩ := r1.2 i d e
      obtain ⟨d', M2, H2, I3, s2, r2, q2⟩ := kFz_ok I2 s1.sr rv q1
      refine ⟨σ', H2, I3, ?_⟩
      have r3 := (r1.keep s2.keep).set r2 i
      rw [list_set_same hv] at r3
      exact c.nx _ _ _ _ (s1.trans s2) r3 q2
    · exact q1.elim
  | brk => exact q
  | cont => exact q
  | ret v => exact q
section
variable {sd sd' : StD} {M : Mo} {Q : QD} {d : Dv} {i : Nat} {t : TSD} {a b c : StD → Mo → Prop} {r : QD}
instance s_fzSt : Step (dFzS i t ⟨a, r, b, c⟩ sd M) (t ⟨kFzS i a, r, b, c⟩ sd M) := ⟨id⟩
def kFzS' (i : Nat) (a : StD → Mo → Prop) (sd : StD) (d' : Dv) (M' : Mo) : Prop := a (sd.set i (some d')) M'
instance s_kFzS [g : GetAt sd i d] : Step (kFzS i a sd M) (kFz d M (kFzS' i a sd)) := ⟨fun h => by
  unfold kFzS
  rw [g.eq]
  exact h⟩
instance s_kFzS' [g : SetAt sd i (some d) sd'] : Step (kFzS' i a sd d M) (a sd' M) := ⟨fun h => by unfold kFzS'; rw [g.eq]; exact h⟩
end
theorem kit_tb {K : PySem.W.Frag} {C : Addr} {n : String} {b : Bool} (hd : PySem.W.hasDictIn K C = true) (ht : PySem.W.typeIn K (.ref C) = some (.type "type")) (h : PySem.W.subIn K (.type n) (.ref C) = some b) : PySem.W.kitOne K (.type n) (.ref C) = some b := by
  unfold PySem.W.kitOne
  rw [if_neg (fun z => by cases eq_of_beq z)]
  obtain ⟨cd, hc, _⟩ := PySem.W.any_some hd
  have g : ((PySem.W.clsIn K C).isSome && PySem.W.typeIn K (.ref C) == some (.type "type")) = true := by
    rw [hc, ht]
    rfl
  show (if ((PySem.W.clsIn K C).isSome && PySem.W.typeIn K (.ref C) == some (.type "type")) = true then _ else _) = _
  rw [if_pos g]
  exact h
end DL

namespace DL
open PySem PySem.Spec PyProof.Rows L2
/-! ### comprehensions whose elements change nothing -/
section
variable {M : Mo} {ds : List Dv} {g : Tgt} {tt : TTD} {te : TED} {sw : StD} {F : List Dv → Mo → Prop} {i : Nat} {d y : Dv}
theorem take_snoc {α β : Type} {ds : List α} {i : Nat} {d : α} (f : α → Option β) (h : ds[i]? = some d) : (ds.take (i + 1)).filterMap f = (ds.take i).filterMap f ++ (f d).toList := by
  rw [List.take_add_one, h, List.filterMap_append]
  cases e : f d <;> simp [e]
theorem lf_some {f : Dv → Option Dv} (h : ds[i]? = some d) (hf : f d = some y) : (ds.take i).filterMap f ++ [y] = (ds.take (i + 1)).filterMap f := by rw [take_snoc f h, hf]; rfl
theorem lf_none {f : Dv → Option Dv} (h : ds[i]? = some d) (hf : f d = none) : (ds.take i).filterMap f = (ds.take (i + 1)).filterMap f := by rw [take_snoc f h, hf]; simp
theorem lm_ {f : Dv → Dv} (h : ds[i]? = some d) (hf : f d = y) : (ds.take i).map f ++ [y] = (ds.take (i + 1)).map f := by rw [List.take_add_one, h, List.map_append, ← hf]; rfl
theorem lk_fmap (f : Dv → Option Dv) (hn : ds.length ≤ 16777216)
    (hs : ∀ i d, ds[i]? = some d → dG g d sw M fun sd2 M2 => tt sd2 M2 fun b M3 => if b = true then te sd2 M3 fun y M4 => M4 = M ∧ (ds.take i).filterMap f ++ [y] = (ds.take (i + 1)).filterMap f else M3 = M ∧ (ds.take i).filterMap f = (ds.take (i + 1)).filterMap f) (hd : F (ds.filterMap f) M) : kLc ⟨ds, fun _ => True⟩ g tt te sw F M := by
  refine ⟨hn, fun i acc M' => M' = M ∧ acc = (ds.take i).filterMap f, ⟨rfl, by simp⟩, fun _ _ _ _ _ => trivial, fun i d acc M' h1 h2 => ?_, fun acc M' h1 h2 => ?_⟩
  · rintro ⟨rfl, rfl⟩
    exact hs i d h1
  · obtain ⟨rfl, rfl⟩ := h2
    rw [List.take_of_length_le (Nat.le_refl _)]
    exact hd
theorem lk_map (f : Dv → Dv) (hn : ds.length ≤ 16777216)
    (hs : ∀ i d, ds[i]? = some d → dG g d sw M fun sd2 M2 => tt sd2 M2 fun b M3 => if b = true then te sd2 M3 fun y M4 => M4 = M ∧ (ds.take i).map f ++ [y] = (ds.take (i + 1)).map f else M3 = M ∧ (ds.take i).map f = (ds.take (i + 1)).map f) (hd : F (ds.map f) M) : kLc ⟨ds, fun _ => True⟩ g tt te sw F M := by
  refine ⟨hn, fun i acc M' => M' = M ∧ acc = (ds.take i).map f, ⟨rfl, by simp⟩, fun _ _ _ _ _ => trivial, fun i d acc M' h1 h2 => ?_, fun acc M' h1 h2 => ?_⟩
  · rintro ⟨rfl, rfl⟩
    exact hs i d h1
  · obtain ⟨rfl, rfl⟩ := h2
    rw [List.take_of_length_le (Nat.le_refl _)]
    exact hd
end
/-! ### draws: the list at a goes on, all else stays -/
def Drw (B : Mo) (a : Addr) (M : Mo) : Prop := ∃ x y z : Int, M = mup B a (.lst [.int x, .int y, .int z])
theorem Drw.mk {B : Mo} {a : Addr} {x y z : Int} : Drw B a (mup B a (.lst [.int x, .int y, .int z])) := ⟨x, y, z, rfl⟩
theorem Drw.step {B M : Mo} {a : Addr} {x y z : Int} (h : Drw B a M) : Drw B a (mup M a (.lst [.int x, .int y, .int z])) := by
  obtain ⟨u, v, w, rfl⟩ := h
  exact ⟨x, y, z, mup_mup⟩
/-- the elements of a drawn list -/
def Els (P : Dv → Prop) (n : Nat) (acc : List Dv) : Prop := acc.length = n ∧ ∀ d, d ∈ acc → P d
theorem Els.nil {P : Dv → Prop} : Els P 0 [] := ⟨rfl, fun d h => by cases h⟩
theorem Els.snoc {P : Dv → Prop} {n : Nat} {acc : List Dv} {d : Dv} (h : Els P n acc) (hd : P d) : Els P (n + 1) (acc ++ [d]) := ⟨by rw [List.length_append, h.1]; rfl, fun e he => by
  rcases List.mem_append.mp he with q | q
  · exact h.2 e q
  · rw [List.mem_singleton.mp q]
    exact hd⟩
theorem lk_draw {B M : Mo} {a : Addr} {lo : Int} {n : Nat} {g : Tgt} {tt : TTD} {te : TED} {sw : StD} {F : List Dv → Mo → Prop} (P : Dv → Prop) (hn : n ≤ 16777216) (h0 : Drw B a M)
    (hs : ∀ i acc x y z, i < n → Els P i acc → dG g (.int (lo + (i : Nat))) sw (mup B a (.lst [.int x, .int y, .int z])) fun sd2 M2 => tt sd2 M2 fun b M3 => if b = true then te sd2 M3 fun y M4 => Els P (i + 1) (acc ++ [y]) ∧ Drw B a M4 else Els P (i + 1) acc ∧ Drw B a M3)
    (hd : ∀ acc x y z, Els P n acc → F acc (mup B a (.lst [.int x, .int y, .int z]))) : kLc ⟨rngD lo n, fun _ => True⟩ g tt te sw F M :=
  lk_rng (fun i acc M => Els P i acc ∧ Drw B a M) hn ⟨.nil, h0⟩ (fun i acc M hi _ ⟨h1, x, y, z, e⟩ => by subst e; exact hs i acc x y z hi h1) fun acc M _ ⟨h1, x, y, z, e⟩ => by subst e; exact hd acc x y z h1
/-- texts -/
theorem els_str {P : Str → Prop} : ∀ {n : Nat} {acc : List Dv}, Els (fun d => ∃ x, d = .str x ∧ P x) n acc → ∃ zs : List Str, acc = zs.map .str ∧ zs.length = n ∧ ∀ z ∈ zs, P z
  | n, [], h => ⟨[], rfl, h.1, fun z hz => by cases hz⟩
  | 0, d :: acc, h => by have := h.1; cases this
  | n + 1, d :: acc, h => by
    obtain ⟨x, rfl, px⟩ := h.2 d List.mem_cons_self
    obtain ⟨zs, e, l, p⟩ := els_str (n := n) (acc := acc) ⟨by simpa using h.1, fun e he => h.2 e (List.mem_cons_of_mem _ he)⟩
    refine ⟨x :: zs, by rw [e]; rfl, by rw [List.length_cons, l], fun z hz => ?_⟩
    rcases List.mem_cons.mp hz with rfl | hz
    · exact px
    · exact p z hz
/-! ### bits -/
theorem bitNot_not (x : Int) : Builtin.bitNot (Builtin.bitNot x) = x := by
  unfold Builtin.bitNot
  omega
theorem bitOr_nat (a b : Nat) : Builtin.bitOr (a : Int) (b : Int) = ((a ||| b : Nat) : Int) := by
  have n : ∀ c : Nat, decide (0 ≤ Builtin.bitNot (c : Int)) = false := fun c => by
    unfold Builtin.bitNot
    exact decide_eq_false (by omega)
  unfold Builtin.bitOr
  show Builtin.bitNot (Builtin.bitAnd (Builtin.bitNot (a : Int)) (Builtin.bitNot (b : Int))) = _
  unfold Builtin.bitAnd
  rw [n a, n b]
  simp only [bitNot_not, Int.toNat_natCast]
theorem shl_nat (k : Nat) : (1 : Int) * 2 ^ ((k : Int)).toNat = ((2 ^ k : Nat) : Int) := by
  rw [Int.toNat_natCast, Int.one_mul]
  norm_cast
theorem bit_test (b k : Nat) : Builtin.bitAnd ((b : Int) / 2 ^ ((k : Int)).toNat) 1 = if b.testBit k = true then 1 else 0 := by
  rw [bitAnd_m1, Int.toNat_natCast]
  have e : (b : Int) / 2 ^ k % 2 = ((b / 2 ^ k % 2 : Nat) : Int) := by norm_cast
  rw [e, Nat.testBit_eq_decide_div_mod_eq]
  have h2 : b / 2 ^ k % 2 = 0 ∨ b / 2 ^ k % 2 = 1 := by omega
  rcases h2 with h | h <;> rw [h] <;> rfl
theorem i_sfldW {sd : StD} {M : Mo} {d : Dv} {a : Addr} {c f : Str} {fs fs' : List (Str × Dv)} {T : List (Str × Str)} {nx b k : StD → Mo → Prop} {r : QD} (h1 : M a = some (.ins c fs)) (hp : PutAt f d fs fs') (h2 : (c, f) ∈ T) (h3 : fs.length < 1000) (q : nx sd (mup M a (.ins c fs'))) : dSFldV T f ⟨nx, r, b, k⟩ sd d (.ref a) M :=
  i_sfldV h1 h2 h3 q
/-! ### a method's arguments -/
def kM (sp : SpD) (d : Dv) (ds dvs : List Dv) (M : Mo) (Q : QD) (E : EXD) : Prop := sp (d :: (ds ++ dvs)) M Q E
theorem i_methK {c m : Str} {fs : List (Str × Dv)} {M : Mo} {Q : QD} {E : EXD} {sd : StD} {t : TAD} {sp : SpD} {dvs : List Dv} (h2 : fs.lookup m = none) (q : t sd M fun ds M2 => kM sp (.obj c fs) ds dvs M2 Q E) : dMethV c m sp dvs E t sd (.obj c fs) M Q := ⟨rfl, h2, q⟩
theorem i_methR {c m : Str} {a : Addr} {fs : List (Str × Dv)} {M : Mo} {Q : QD} {E : EXD} {sd : StD} {t : TAD} {sp : SpD} {dvs : List Dv} (h1 : M a = some (.ins c fs)) (h2 : fs.lookup m = none) (q : t sd M fun ds M2 => kM sp (.ref a) ds dvs M2 Q E) : dMethV c m sp dvs E t sd (.ref a) M Q := i_methV h1 h2 q
section
variable {sp : SpD} {d d1 d2 d3 d4 : Dv} {M : Mo} {Q : QD} {E : EXD}
instance s_kM00 : Step (kM sp d [] [] M Q E) (sp [d] M Q E) := ⟨id⟩
instance s_kM10 : Step (kM sp d [d1] [] M Q E) (sp [d, d1] M Q E) := ⟨id⟩
instance s_kM20 : Step (kM sp d [d1, d2] [] M Q E) (sp [d, d1, d2] M Q E) := ⟨id⟩
instance s_kM30 : Step (kM sp d [d1, d2, d3] [] M Q E) (sp [d, d1, d2, d3] M Q E) := ⟨id⟩
instance s_kM01 : Step (kM sp d [] [d1] M Q E) (sp [d, d1] M Q E) := ⟨id⟩
instance s_kM02 : Step (kM sp d [] [d1, d2] M Q E) (sp [d, d1, d2] M Q E) := ⟨id⟩
instance s_kM11 : Step (kM sp d [d1] [d2] M Q E) (sp [d, d1, d2] M Q E) := ⟨id⟩
end
theorem isEmpty_len {α : Type} (l : List α) : l.isEmpty = decide (l = []) := by cases l <;> rfl
/-! ### ways that join: what holds behind both -/
theorem i_keyIf {p : Bool} {T U : TSD} {a b k : StD → Mo → Prop} {r : QD} {sd : StD} {M : Mo} (P : StD → Mo → Prop) (h2 : ∀ a' : StD → Mo → Prop, (∀ sd M, P sd M → a' sd M) → if p = true then T ⟨a', r, b, k⟩ sd M else U ⟨a', r, b, k⟩ sd M) (h1 : ∀ sd M, P sd M → a sd M) :
    if p = true then T ⟨a, r, b, k⟩ sd M else U ⟨a, r, b, k⟩ sd M := h2 a h1
/-- lists of texts, one behind the other -/
theorem i_addLS {M : Mo} {Q : QD} {xs ys : List Str} (h3 : xs.length + ys.length ≤ 16777216) (q : ∀ p, M p = none → Q (.ref p) (mup M p (.lst ((xs ++ ys).map .str)))) : dAdd (.lst (xs.map .str)) (.lst (ys.map .str)) M Q :=
  i_addL rfl rfl (by rw [List.length_map, List.length_map]; exact h3) (by rw [← List.map_append]; exact q)
end DL

namespace DL
open PySem PySem.Spec PyProof.Rows L2
/-! ### keywords in any order, defaults for what is left out -/
/-- what is bound behind the places: keyword j, or default j -/
def pick {α : Type} (zs ds : List α) : List (Nat ⊕ Nat) → List α
  | [] => []
  | .inl j :: r => (zs[j]?).toList ++ pick zs ds r
  | .inr j :: r => (ds[j]?).toList ++ pick zs ds r
theorem vals_at {vs : List V} {us : List Value} (h : Vals vs us) (j : Nat) : Vals (vs[j]?).toList (us[j]?).toList := by
  cases e : vs[j]? with
  | none => rw [h.none_of e]; exact .nil
  | some v =>
    obtain ⟨u, hu, r⟩ := h.get e
    rw [hu]
    exact .cons r .nil
theorem pick_vals {zs ds : List V} {ws us : List Value} (h1 : Vals zs ws) (h2 : Vals ds us) : ∀ sel, Vals (pick zs ds sel) (pick ws us sel)
  | [] => .nil
  | .inl j :: r => (vals_at h1 j).append (pick_vals h1 h2 r)
  | .inr j :: r => (vals_at h2 j).append (pick_vals h1 h2 r)
theorem rds_at {K : PySem.W.Frag} {H : Hp} {ds : List Dv} {vs : List V} (h : RDs K H ds vs) (j : Nat) : RDs K H (ds[j]?).toList (vs[j]?).toList := by
  cases e : ds[j]? with
  | none =>
    have : vs[j]? = none := by
      have := h.length
      rw [List.getElem?_eq_none_iff] at e ⊢
      omega
    rw [this]
    exact .nil
  | some d =>
    obtain ⟨v, hv, r⟩ := h.get e
    rw [hv]
    exact .cons r .nil
theorem pick_rds {K : PySem.W.Frag} {H : Hp} {zs ds : List Dv} {ws us : List V} (h1 : RDs K H zs ws) (h2 : RDs K H ds us) : ∀ sel, RDs K H (pick zs ds sel) (pick ws us sel)
  | [] => .nil
  | .inl j :: r => (rds_at h1 j).app (pick_rds h1 h2 r)
  | .inr j :: r => (rds_at h2 j).app (pick_rds h1 h2 r)
/-- a def's keyword form -/
def KBs (K : PySem.W.Frag) (fd : FuncData) (ps : List Str) (n : Nat) (ks : List Str) (sel : List (Nat ⊕ Nat)) (dvs : List V) : Prop := ∃ its : List Value, Vals dvs its ∧ KBn K fd ps n ks (fun us ws => us ++ pick ws its sel) (fun vs zs => vs ++ pick zs dvs sel)
theorem kbs_of {K : PySem.W.Frag} {x qual : Str} {params : Arguments} {body : List Stmt} {scope : Scope} {dvs : List V} {f : Addr} {fd : FuncData} {ps ks : List Str} (F : FunD K x qual params body scope dvs [] f fd) (n : Nat) (sel : List (Nat ⊕ Nat)) (hd : dvs ≠ [])
    (h : ∀ (T : Addr) (kV doc pm : Value) (an : Option Addr) (cdv ct : Value) (us its ws : List Value), us.length = n → its.length = dvs.length → ws.length = ks.length →
      ∃ k, bindArgs (PySem.W.fnOf x qual params body scope (.ref T) kV doc pm an cdv ct) ⟨us, ks.zip ws⟩ = seqItems? (.ref T) >>= k ∧ k (some its.toArray) = pure (ps.zip (us ++ pick ws its sel))) : KBs K fd ps n ks sel dvs := by
  obtain ⟨oc, od, dV, kV, doc, pm, an, cdv, ct, osl, rfl, lk, hcd, hD, hK⟩ := F.ex
  rcases hD with ⟨e, _⟩ | ⟨_, T, o, its, m, rfl, lT, oT, rT⟩
  · exact absurd e hd
  · refine ⟨its, rT, fun s us ws X l1 l2 => ?_, fun r1 r2 => r1.append (pick_vals r2 rT sel)⟩
    obtain ⟨k, e1, e2⟩ := h T kV doc pm an cdv ct us its ws l1 rT.length.symm l2
    refine BindsTo.of_looks fun M => ?_
    rw [e1]
    exact looks_items X lT oT (.of_pure e2)
theorem kbs_fun {K : PySem.W.Frag} {x qual : Str} {st : Stmt} {f : Addr} {fd : FuncData} {ps ks : List Str} (F : Fun K x qual st f fd) (n : Nat) (sel : List (Nat ⊕ Nat))
    (h : ∀ (kV doc pm : Value) (an : Option Addr) (cdv ct : Value) (us ws : List Value), us.length = n → ws.length = ks.length →
      bindArgs (PySem.W.fnOf x qual (defArgs st) (defBody st) (defScope st) .none kV doc pm an cdv ct) ⟨us, ks.zip ws⟩ = pure (ps.zip (us ++ pick ws [] sel))) : KBs K fd ps n ks sel [] := by
  obtain ⟨oc, od, kV, doc, pm, an, cdv, ct, osl, rfl, lk, hcd⟩ := F.ex
  exact ⟨[], .nil, fun s us ws X l1 l2 => .of_eq (h kV doc pm an cdv ct us ws l1 l2), fun r1 r2 => r1.append (pick_vals r2 .nil sel)⟩
/-- C(e, .., k = v, ..) -/
def kMkS (c : Str) (sp : SpD) (n m : Nat) (sel : List (Nat ⊕ Nat)) (dvs : List Dv) (Ed : EXD) (Q : QD) (ds zs : List Dv) (M : Mo) : Prop := ds.length = n ∧ zs.length = m ∧ dMkV c sp [] Ed Q (ds ++ pick zs dvs sel) M
def dMakeS (c : Str) (sp : SpD) (n m : Nat) (sel : List (Nat ⊕ Nat)) (dvs : List Dv) (Ed : EXD) (t tk : TAD) : TED := fun sd M Q => t sd M fun ds M1 => tk sd M1 fun zs M2 => kMkS c sp n m sel dvs Ed Q ds zs M2
/-- f(e, .., k = v, ..) -/
def kCaS (sp : SpD) (n m : Nat) (sel : List (Nat ⊕ Nat)) (dvs : List Dv) (Ed : EXD) (Q : QD) (ds zs : List Dv) (M : Mo) : Prop := ds.length = n ∧ zs.length = m ∧ sp (ds ++ pick zs dvs sel) M Q Ed
def dCalS (sp : SpD) (n m : Nat) (sel : List (Nat ⊕ Nat)) (dvs : List Dv) (Ed : EXD) (t tk : TAD) : TED := fun sd M Q => t sd M fun ds M1 => tk sd M1 fun zs M2 => kCaS sp n m sel dvs Ed Q ds zs M2
section
variable {X : Cx} {M0 : Mo} {H0 : Hp} {k n : Nat} {ps ks : List Str} {B : FuncData → Prop} {sp : SpD} {ddvs : List Dv} {dvs : List V} {Ed : EXD} {E : XK} {c x : Str} {p pos : Pos} {e : Expr} {es : List Expr} {kws : List Keyword} {t tk : TAD} {sel : List (Nat ⊕ Nat)}
theorem makeS_imp {C : Addr} (hn : PySem.W.nsIn X.K mainGlobals c = some (some (.ref C))) (hdd : ∀ H, RDs X.K H ddvs dvs) (hE : CtX X.K M0 H0 Ed E) : ∀ σ H Q, LE X.K M0 H0 (dMakeS c sp n ks.length sel ddvs Ed t tk) σ H Q →
    LA X.K M0 H0 t σ H fun vs H1 => LA X.K M0 H0 tk σ H1 fun zs H2 => vs.length = n ∧ zs.length = ks.length ∧ ∀ x dx, H2 x = none → H2 dx = none → dx ≠ x → LSp X.K sp (.ref x :: vs ++ pick zs dvs sel) (upd (upd H2 dx (.own x)) x (.ins C dx [])) (fun v H3 => v = .non ∧ Q (.ref x) H3) E := fun σ H Q ⟨sd, M, Qd, w, q, cc⟩ =>
  ⟨sd, M, _, w, q, fun ds M1 vs H1 s1 r1 q1 => ⟨sd, M1, _, w.on s1, q1, fun zs M2 ws H2 s2 r2 ⟨l1, l2, q2⟩ => ⟨by rw [← r1.length]; exact l1, by rw [← r2.length]; exact l2, fun x dx hx hdx ne => by
    have s3 := s1.trans s2
    have := make_go (vs := vs ++ pick ws dvs sel) hn hE (w.st.trans s3) (cc.on s3) ((r1.keep s2.keep).app (pick_rds r2 (hdd H2) sel)) hx hdx ne (by
      have z := q2 x (s3.sr.free hx)
      rw [List.append_nil] at z
      exact z)
    exact this⟩⟩⟩
theorem de_makeS (F : MakeD X.prog X.w X.K X.mg X.base c k ps B sp) (hr : Room (k + 1) X.A) (hg : Gl X c) (hb : ∀ fd, B fd → KBs X.K fd ps (n + 1) ks sel dvs) (hdd : ∀ H, RDs X.K H ddvs dvs) (hx : Passes (L2.CX X.prog X.w) X E) (hE : CtX X.K M0 H0 Ed E)
    (ha : PAd X M0 H0 (e :: es) t) (hkw : PKd X M0 H0 kws tk) (hall : (backToKw pos (keywordEach kws X.env)).all (·.1.isSome) = true := by rfl) (hks : (backToKw pos (keywordEach kws X.env)).filterMap (·.1) = ks := by rfl)
    (hdb : (c == ("__debug__" : Str)) = false := by decide) (he : starEach (e :: es) X.env = (false, eval e X.env) :: starEach es X.env := by rfl)
    (hpl : ((backTo pos (starEach (e :: es) X.env)).any (·.1) || (backToKw pos (keywordEach kws X.env)).any (·.1.isNone)) = false := by rfl) : PEd X M0 H0 (.Call (.Name c p) (e :: es) kws pos) (dMakeS c sp n ks.length sel ddvs Ed t tk) := by
  obtain ⟨C, f, fd, hn, hm, mk, b, F⟩ := F.ex
  obtain ⟨its, _, hb⟩ := hb fd b
  exact PE.imp (pe_makeN mk F hr hg hm hb hx ha hkw hall hks hdb he hpl) (makeS_imp hn hdd hE)
theorem de_makeS0 (F : MakeD X.prog X.w X.K X.mg X.base c k ps B sp) (hr : Room (k + 1) X.A) (hg : Gl X c) (hb : ∀ fd, B fd → KBs X.K fd ps 1 ks sel dvs) (hdd : ∀ H, RDs X.K H ddvs dvs) (hx : Passes (L2.CX X.prog X.w) X E) (hE : CtX X.K M0 H0 Ed E)
    (hkw : PKd X M0 H0 kws tk) (hall : (backToKw pos (keywordEach kws X.env)).all (·.1.isSome) = true := by rfl) (hks : (backToKw pos (keywordEach kws X.env)).filterMap (·.1) = ks := by rfl)
    (hdb : (c == ("__debug__" : Str)) = false := by decide)
    (hpl : ((backTo pos (starEach [] X.env)).any (·.1) || (backToKw pos (keywordEach kws X.env)).any (·.1.isNone)) = false := by rfl) : PEd X M0 H0 (.Call (.Name c p) [] kws pos) (dMakeS c sp 0 ks.length sel ddvs Ed dNilA tk) := by
  obtain ⟨C, f, fd, hn, hm, mk, b, F⟩ := F.ex
  obtain ⟨its, _, hb⟩ := hb fd b
  refine PE.imp (pe_makeK0 mk F hr hg hm hb hx hkw hall hks hdb hpl) fun σ H Q h => ?_
  exact tnil_imp (M0 := M0) (H0 := H0) σ H _ (makeS_imp hn hdd hE σ H Q h)
theorem de_calS {kws : List Keyword} (F : FnD X.prog X.w X.K X.mg X.base x k ps B sp) (hr : Room k X.A) (hg : Gl X x) (hb : ∀ fd, B fd → KBs X.K fd ps n ks sel dvs) (hdd : ∀ H, RDs X.K H ddvs dvs)
    (hx : Passes (L2.CX X.prog X.w) X E) (hE : CtX X.K M0 H0 Ed E) (ha : PAd X M0 H0 (e :: es) t) (hkw : PKd X M0 H0 kws tk) (hall : (backToKw pos (keywordEach kws X.env)).all (·.1.isSome) = true := by rfl) (hks : (backToKw pos (keywordEach kws X.env)).filterMap (·.1) = ks := by rfl)
    (hdb : (x == ("__debug__" : Str)) = false := by decide) (he : starEach (e :: es) X.env = (false, eval e X.env) :: starEach es X.env := by rfl)
    (hpl : ((backTo pos (starEach (e :: es) X.env)).any (·.1) || (backToKw pos (keywordEach kws X.env)).any (·.1.isNone)) = false := by rfl) : PEd X M0 H0 (.Call (.Name x p) (e :: es) kws pos) (dCalS sp n ks.length sel ddvs Ed t tk) := by
  obtain ⟨f, fd, hm, hk, b, F⟩ := F.ex
  obtain ⟨its, _, hb⟩ := hb fd b
  exact PE.imp (pe_callN F hr hg hm hk hb hx ha hkw hall hks hdb he hpl) fun σ H Q ⟨sd, M, Qd, w, q, c⟩ => ⟨sd, M, _, w, q, fun ds M1 vs H1 s1 r1 q1 => ⟨sd, M1, _, w.on s1, q1, fun zs M2 ws H2 s2 r2 ⟨l1, l2, q2⟩ =>
    ⟨by rw [← r1.length]; exact l1, by rw [← r2.length]; exact l2, _, M2, Qd, Ed, (r1.keep s2.keep).app (pick_rds r2 (hdd H2) sel), s2.sr, q2, c.on (s1.trans s2), hE.on (w.st.trans (s1.trans s2))⟩⟩⟩
end
class GetL (l : List Dv) (j : Nat) (d : outParam Dv) : Prop where
  eq : l[j]? = some d
class Pick (zs ds : List Dv) (sel : List (Nat ⊕ Nat)) (r : outParam (List Dv)) : Prop where
  eq : pick zs ds sel = r
class AppL (xs ys : List Dv) (r : outParam (List Dv)) : Prop where
  eq : xs ++ ys = r
section
variable {d d' : Dv} {l zs ds r r' : List Dv} {j : Nat} {sel : List (Nat ⊕ Nat)}
instance gl_0 : GetL (d :: l) 0 d := ⟨rfl⟩
instance gl_s [g : GetL l j d] : GetL (d' :: l) (j + 1) d := ⟨g.eq⟩
instance pk_0 : Pick zs ds [] [] := ⟨rfl⟩
instance pk_l [g : GetL zs j d] [p : Pick zs ds sel r] : Pick zs ds (.inl j :: sel) (d :: r) := ⟨by
  show (zs[j]?).toList ++ pick zs ds sel = _
  rw [g.eq, p.eq]
  rfl⟩
instance pk_r [g : GetL ds j d] [p : Pick zs ds sel r] : Pick zs ds (.inr j :: sel) (d :: r) := ⟨by
  show (ds[j]?).toList ++ pick zs ds sel = _
  rw [g.eq, p.eq]
  rfl⟩
instance al_0 : AppL [] r r := ⟨rfl⟩
instance al_s [a : AppL l r r'] : AppL (d :: l) r (d :: r') := ⟨congrArg (d :: ·) a.eq⟩
end
section
variable {sd : StD} {M : Mo} {Q : QD} {c : Str} {sp : SpD} {n m : Nat} {sel : List (Nat ⊕ Nat)} {dvs ds zs r r' : List Dv} {Ed : EXD} {t tk : TAD}
instance s_makeS : Step (dMakeS c sp n m sel dvs Ed t tk sd M Q) (t sd M fun ds M1 => tk sd M1 fun zs M2 => kMkS c sp n m sel dvs Ed Q ds zs M2) := ⟨id⟩
instance s_calS : Step (dCalS sp n m sel dvs Ed t tk sd M Q) (t sd M fun ds M1 => tk sd M1 fun zs M2 => kCaS sp n m sel dvs Ed Q ds zs M2) := ⟨id⟩
theorem i_kMkS (h1 : ds.length = n) (h2 : zs.length = m) [p : Pick zs dvs sel r] [a : AppL ds r r'] (h : dMkV c sp [] Ed Q r' M) : kMkS c sp n m sel dvs Ed Q ds zs M := ⟨h1, h2, by rw [p.eq, a.eq]; exact h⟩
theorem i_kCaS (h1 : ds.length = n) (h2 : zs.length = m) [p : Pick zs dvs sel r] [a : AppL ds r r'] (h : sp r' M Q Ed) : kCaS sp n m sel dvs Ed Q ds zs M := ⟨h1, h2, by rw [p.eq, a.eq]; exact h⟩
/-- what is no reference stays -/
theorem kFz_no {d : Dv} (hd : ∀ a, d ≠ .ref a) (h : Q d M) : kFz d M Q := by
  cases d with
  | ref a => exact absurd rfl (hd a)
  | _ => exact h
end
instance sa_nil {n : Nat} {v : Option Dv} : SetAt [] n v [] := ⟨rfl⟩
end DL

namespace DL
open PySem PySem.Spec PyProof.Rows L2
/-! ### what is forgotten beside a place -/
def SubA (a : Addr) (M M' : Mo) : Prop := ∀ c o, c ≠ a → M c = some o → M' c = some o
theorem SubA.refl (a : Addr) (M : Mo) : SubA a M M := fun _ _ _ h => h
theorem SubA.at {a : Addr} {M M' : Mo} {o : OO} (h : SubA a M M') : SubA a M (mup M' a o) := fun c u n e => by
  rw [mup_ne n]
  exact h c u n e
theorem SubA.new {a p : Addr} {M M' : Mo} {o : OO} (hp : M' p = none) (h : SubA a M M') : SubA a M (mup M' p o) := fun c u n e => by
  have := h c u n e
  rw [mup_ne (fun z => by subst z; rw [hp] at this; cases this)]
  exact this
theorem fg_src {a : Addr} {M M' : Mo} {o : OO} {d : Dv} {Q : QD} (s : SubA a M M') (e : M' a = some o) (h : Q d (mup M a o)) : Fg Q d M' := ⟨_, fun c u hc => by
  by_cases z : c = a
  · subst z
    rw [mup_same] at hc
    rw [e]
    exact hc
  · rw [mup_ne z] at hc
    exact s c u z hc, h⟩
end DL

namespace DL
open PySem PySem.Spec PyProof.Rows L2
/-! ### a list that stands still, times a whole number -/
theorem int_rmul_listO (a : Int) (t : Tok) (l : Addr) (items : Array Value) (n : Nat) (dd : Option Addr) (sl : Array (Option Value)) :
    Meets (Builtin.«int.__rmul__» ⟨[.int a t, .ref l], []⟩) (fun _ R s => s.heap.get? l = some { cls := .type "list", dict := dd, data := .seq items n, slots := sl } ∧ R (.ok (.ret Value.notImplemented)) s) :=
  .of_wp fun prog w A R s h => by obtain ⟨hp, g, d, tk, os⟩ := s; obtain ⟨hl, h⟩ := h; wp_walk using wpAny_loadPart' hl; exact ⟨_, rfl, h⟩
theorem list_mulO (l : Addr) (items : Array Value) (n : Nat) (dd : Option Addr) (sl : Array (Option Value)) (x : Int) (u : Tok) (hc0 : ¬(!Builtin.List.listFitsIndex x) = true) (hc1 : ¬items.size * x.toNat > (2 ^ 63 - 1) / 8) (hc2 : ¬Builtin.List.listTooLong (items.size * x.toNat) = true) :
    Meets (Builtin.«list.__mul__» ⟨[.ref l, .int x u], []⟩) (fun _ R s => s.heap.get? l = some { cls := .type "list", dict := dd, data := .seq items n, slots := sl } ∧ R (.ok (.ret (Value.ref s.heap.objs.size))) { s with heap := s.heap.push { cls := Value.type "list", data := Data.seq (List.foldl (fun x1 x2 => x1 ++ x2) #[] (List.replicate (if items.isEmpty = true then 0 else x.toNat) items)) }, toks := s.toks }) :=
  .of_wp fun prog w A R s h => by
    obtain ⟨hp, g, d, tk, os⟩ := s; obtain ⟨hl, h⟩ := h
    have hsz := AutoListH.joined_fits hc2
    wp_walk using wpAny_loadPart' hl; refine wpAny_ite_false (decide_eq_false (Nat.not_lt.mpr hsz)) ?_; wp_walk using wpAny_loadPart' hl; exact ⟨_, rfl, h⟩
def rRepF (K : PySem.W.Frag) : R2 := fun x y H Q => ∃ l k xs, x = .ref l ∧ y = .int k ∧ SqL K H l xs ∧ -(2 ^ 63) ≤ k ∧ k < 2 ^ 63 ∧ xs.length * k.toNat ≤ sizeLine ∧
  ∀ p, H p = none → Q (.ref p) (upd H p (.lst (List.replicate k.toNat xs).flatten))
theorem op_repF {X : Cx} : OpR X (binaryOp .Mult) (rRepF X.K) := by
  intro pins s σ H x y v u Q I rx ry h
  obtain ⟨l, k, xs, rfl, rfl, hH, h1, h2, hz, q⟩ := h
  cases rx
  obtain ⟨t, rfl⟩ := ry
  obtain ⟨its, r, ⟨⟨cls, dd, data, sl⟩, n, e, hc, hdd, hd⟩, hs⟩ := I.list hH
  simp only at hc hdd hd
  subst hc hdd hd
  have hl : xs.length = its.length := r.length
  have hlen : its.toArray.size * k.toNat ≤ sizeLine := by rw [List.size_toArray, ← hl]; exact hz
  have hcap : ¬ its.toArray.size * k.toNat > (2 ^ 63 - 1) / 8 := by
    have : (sizeLine : Nat) ≤ (2 ^ 63 - 1) / 8 := by decide
    omega
  have hfit : ¬ (!Builtin.List.listFitsIndex k) = true := by
    rw [fitsIndex_both h1 h2]
    exact Bool.false_ne_true
  have hlong : ¬ Builtin.List.listTooLong (its.toArray.size * k.toNat) = true := by
    rw [notLongL hlen]
    exact Bool.false_ne_true
  have hnew : List.foldl (fun x1 x2 => x1 ++ x2) #[] (List.replicate (if its.toArray.isEmpty = true then 0 else k.toNat) its.toArray) = (List.replicate k.toNat its).flatten.toArray := by
    have f0 : ∀ m : Nat, List.foldl (fun x1 x2 => x1 ++ x2) #[] (List.replicate m its.toArray) = (List.replicate m its).flatten.toArray := fun m => by
      have := foldl_rep its m []
      rw [List.nil_append] at this
      exact this
    rw [f0]
    cases its with
    | nil => simp
    | cons a r' => rw [if_neg (by simp)]
  refine wpAny_binaryOp_repeat_ref (T := "list") (U := "int") (by decide) ⟨_, e, rfl⟩ (fun s' => typeIs_int s' k t) noFill_list_mul F.fills_int_mul F.slot_int_rmul repeat_list F.slot_int_index.lookup
    (call_meets F.slot_int_rmul (typeIs_int s k t) F.entry_int_rmul (F.args_int_rmul_2 _ _) (int_rmul_listO k t l its.toArray n _ sl)
      ⟨e, rfl, ⟨_, e, rfl⟩, call_meets F.slot_list_mul ⟨_, e, rfl⟩ F.entry_list_mul (F.args_list_mul_2 _ _) (list_mulO l its.toArray n _ sl k t hfit hcap hlong) ⟨e, ?_⟩⟩)
  rw [hnew]
  exact ⟨.ref _, _, I.lnew (t' := s.toks) (r.rep k.toNat) (by first | exact hz | (rw [PyProof.Rows.lm_len_rep_flat, Nat.mul_comm]; exact hz)), rfl, q _ I.fresh⟩
def dMulY : R2d := fun d e M Q => match d, e with
  | .lst ds, .int j => (-4294967296 ≤ j ∧ j ≤ 4294967296 ∧ ds.length * j.toNat ≤ 16777216) ∧ ∀ p, M p = none → Q (.ref p) (mup M p (.lst (List.replicate j.toNat ds).flatten))
  | d, e => dMulX d e M Q
section
variable {X : Cx}
theorem op2_or {f : Value → Value → Sem Value} {r r' : R2d} (h : OpR X f (L2op X.K r)) (h' : OpR X f (L2op X.K r')) (g : R2d) (hg : ∀ d e M Q, g d e M Q → r d e M Q ∨ r' d e M Q) : OpR X f (L2op X.K g) :=
  fun pins s σ H x y v u Q I rx ry ⟨d, e, M, Qd, r1, r2, sr, q, c⟩ => (hg d e M Qd q).elim (fun q => h pins s σ H x y v u Q I rx ry ⟨d, e, M, Qd, r1, r2, sr, q, c⟩) (fun q => h' pins s σ H x y v u Q I rx ry ⟨d, e, M, Qd, r1, r2, sr, q, c⟩)
def dMulZ : R2d := fun d e M Q => match d, e with
  | .lst ds, .int j => (-4294967296 ≤ j ∧ j ≤ 4294967296 ∧ ds.length * j.toNat ≤ 16777216) ∧ ∀ p, M p = none → Q (.ref p) (mup M p (.lst (List.replicate j.toNat ds).flatten))
  | _, _ => False
theorem od_mulZ : OpR X (binaryOp .Mult) (L2op X.K dMulZ) := by
  refine opd_I op_repF fun d e M Qd x y H Q r1 r2 sr q c => ?_
  unfold dMulZ at q
  split at q
  · rename_i ds j
    obtain ⟨⟨h0, h1, h2⟩, q⟩ := q
    obtain ⟨a, vs, rfl, hv, rr⟩ := seqL_ok sr r1 (rfl : seqL M (.lst ds) = some ds)
    exact ⟨a, j, vs, rfl, r2.int_of, hv, by omega, by omega, by rw [← line_eq, ← rr.length]; exact h2, fun p hp => c _ _ _ _ (Stp.new sr hp (own_lst hp (rr.rep _))) .ref (q p (sr.free hp))⟩
  · exact q.elim
theorem od_mulY : OpR X (binaryOp .Mult) (L2op X.K dMulY) := op2_or od_mulZ od_mulX dMulY fun d e M Q q => by
  unfold dMulY at q
  split at q
  · exact .inl q
  · exact .inr q
/-- tuple(x) -/
def dTupOf : RNd := fun ds M Q => match ds with
  | [d] => match seqL M d with
    | some es => Q (.tup es) M
    | none => match seqT d with
      | some es => Q (.tup es) M
      | none => False
  | _ => False
theorem cd_tup : CallR X (.type "tuple") (LNop X.K dTupOf) := cd_I call_tuple_of fun ds M Qd xs H Q rs sr q c => by
  unfold dTupOf at q
  split at q
  · rename_i d
    obtain ⟨v, rfl, r⟩ := rs.one
    split at q
    · rename_i es e
      obtain ⟨a, vs, rfl, sq, rr⟩ := seqL_ok sr r e
      refine ⟨a, vs, rfl, .inl ⟨sq, fun p hp => c _ M _ _ (Stp.new0 sr hp) ?_ q⟩⟩
      unfold RD
      exact ⟨p, vs, rfl, .inl (.inl upd_same), rr.keep (Keep.new hp)⟩
    · split at q
      · rename_i es e
        obtain ⟨a, vs, rfl, sq, rr⟩ := seqT_ok r e
        refine ⟨a, vs, rfl, .inr ⟨sq, c _ M _ _ (.refl sr) ?_ q⟩⟩
        unfold RD
        exact ⟨a, vs, rfl, sq, rr⟩
      · exact q.elim
  · exact q.elim
end
section
variable {M : Mo} {Q : QD} {d e : Dv} {i j : Int} {x z : Str} {a : Addr} {ds : List Dv}
instance s_mulYI : Step (dMulY (.int i) e M Q) (dMulX (.int i) e M Q) := ⟨fun h => by unfold dMulY; exact h⟩
instance s_mulYS : Step (dMulY (.str x) e M Q) (dMulX (.str x) e M Q) := ⟨fun h => by unfold dMulY; exact h⟩
instance s_mulYR : Step (dMulY (.ref a) e M Q) (dMulX (.ref a) e M Q) := ⟨fun h => by unfold dMulY; exact h⟩
theorem i_mulY (hc : -4294967296 ≤ j ∧ j ≤ 4294967296 ∧ ds.length * j.toNat ≤ 16777216) (h : ∀ p, M p = none → Q (.ref p) (mup M p (.lst (List.replicate j.toNat ds).flatten))) : dMulY (.lst ds) (.int j) M Q := ⟨hc, h⟩
theorem i_tupOf (h1 : seqL M d = some ds) (h : Q (.tup ds) M) : dTupOf [d] M Q := by unfold dTupOf; simp only [h1]; exact h
instance s_tupOfT : Step (dTupOf [.tup ds] M Q) (Q (.tup ds) M) := ⟨fun h => h⟩
end
end DL

namespace DL
open PySem PySem.Spec PyProof.Rows L2
theorem mup_comm {M : Mo} {a b : Addr} {x y : OO} (h : a ≠ b) : mup (mup M a x) b y = mup (mup M b y) a x := by
  funext c
  by_cases e1 : c = b
  · subst e1
    rw [mup_same, mup_ne (Ne.symm h), mup_same]
  · by_cases e2 : c = a
    · subst e2
      rw [mup_ne e1, mup_same, mup_same]
    · rw [mup_ne e1, mup_ne e2, mup_ne e2, mup_ne e1]
/-- a is drawn from, p is stored to -/
theorem mup_ap {M : Mo} {a p : Addr} {o1 o2 u v : OO} (h : a ≠ p) : mup (mup (mup (mup M a o1) p u) a o2) p v = mup (mup M a o2) p v := by
  rw [mup_comm (M := mup M a o1) (a := p) (b := a) (Ne.symm h), mup_mup, mup_mup]
end DL

namespace DL
open PySem PySem.Spec PyProof.Rows L2
/-! ### len(o), str(o), o == x, o != x by own methods -/
section
variable {X : Cx} {CX : CXT} {pins : List (Addr × Obj)} {σ : L2.St} {H : Hp} {s : Shared} {k : Nat} {f : Addr} {fd : FuncData} {ps : List Str} {sp : Sp} {E : XK} {dvs : List V} {dus : List Value}
theorem run_in {A : Around} {Q : VK} {us : List Value} {vs : List V} (F : FnOk X.prog X.w X.K X.mg X.base CX k f fd ps sp) (hr : Room k A) (e0 : Env0 X.prog X.w X.K X.mg X.base A X.stack s H) (hb : Binds X.K fd ps dus) (hd : Vals dvs dus) (hx : Passes CX X E)
    (I : Inv X pins σ H s) (r : Vals vs us) (h : sp (vs ++ dvs) H Q E) : wpAny (model X.prog X.w) A (call (.ref f) us) (EP X pins σ Q) X.xe s := by
  have r2 : Vals (vs ++ dvs) (us ++ dus) := r.append hd
  have hl : (us ++ dus).length = ps.length := by rw [← r2.length]; exact F.len _ _ _ _ h
  refine wpAny_call (codeAny_mono (F.run A X.stack s H ⟨us, []⟩ (us ++ dus) (vs ++ dvs) Q E hr e0 (hb s us I.kIn hl) r2 h) fun r s' hq => ?_)
  cases r with
  | error e => exact hx pins σ H s e s' I hq
  | ok fl =>
    cases fl with
    | ret u => exact I.after hq
    | next => exact False.elim hq
    | brk => exact False.elim hq
    | cont => exact False.elim hq
end
section
variable {prog : Program} {w : World} {A : Around} {E : Value → Shared → Prop} {s : Shared} {K : PySem.W.Frag} {x C f : Addr} {ox : Obj} {od : Option Obj} {b tb : Value}
theorem ifBound_B {M : Model} {name : Str} {id : String} {args : List Value} {Q : Option Value → Shared → Prop} (X : K.In s.heap) (I : PySem.W.InstAt s.heap x ox C od) (hs : PySem.W.findIn K (.ref C) name = some (some (.builtin id))) (hb : ∀ self, bindSpecial (.builtin id) self = pure (.builtin id, [self]))
    (h : wpAny M A (call (.builtin id) (.ref x :: args)) (fun v => Q (some v)) E s) : wpAny M A (callSpecialIfBound? (.ref x) name args) Q E s := by
  simp only [callSpecialIfBound?, bindSpecialIfBound?]
  refine wpAny_holding (wpAny_bind (wpAny_bind (wpAny_bind (I.type.here ((PySem.W.looks_findIn X hs).here ?_)))))
  refine wpAny_bind (wpAny_askSetting (wpAny_ite ?_))
  have fin : wpAny M A (call (.builtin id) ([.ref x] ++ args) >>= fun v => pure (some v)) Q E s := wpAny_bind (wpAny_mono h (fun v s' h' => wpAny_pure h') fun _ _ h' => h')
  split
  · exact wpAny_bind ((PySem.W.Looks.of_pure (hb _)).here (wpAny_pure (by exact fin)))
  · exact wpAny_tryCatch (wpAny_bind ((PySem.W.Looks.of_pure (hb _)).here (wpAny_pure (by exact fin))))
theorem objNe_at {Q : Fin → Shared → Prop} (hu : A.units < cLine) (X : K.In s.heap) (I : PySem.W.InstAt s.heap x ox C od) (hs : PySem.W.findIn K (.ref C) "__eq__" = some (some (.ref f))) (hf : PySem.W.isFn K (.ref f) = true)
    (h : wpAny (model prog w) A (call (.ref f) [.ref x, b]) (fun v s' => ∃ c, v = .bool c ∧ Q (.done (.ret (.bool (!c)))) s') E s) : wpAny (model prog w) A (Builtin.«object.__ne__» ⟨[.ref x, b], []⟩) Q E s := by
  unfold Builtin.«object.__ne__»
  repeat (first
    | with_reducible refine wpAny_cRoomFor hu ?_
    | (refine wpAny_bind (m := callSpecialIfBound? (.ref x) "__eq__" [b])
        (PySem.W.ifBound_K X I hs hf (wpAny_mono h (fun r s' hr => by
          obtain ⟨c, rfl, hq⟩ := hr
          repeat (first | exact hq | exact wpAny_pure hq | exact wpAny_truthy_bool hq | (refine wpAny_bind (m := truthy (.bool _)) (wpAny_truthy_bool ?_)) | wp_step)) fun _ _ e => e)))
    | wp_step)
theorem ne_K {L : Addr} {h₀ : Heap} {m : Str → Option Value} {Q : Value → Shared → Prop} (hu : A.units + 1 < cLine) (F : Fr h₀ L s.heap m) (X₀ : K.In h₀) (I : PySem.W.InstAt s.heap x ox C od) (hb : PySem.W.Looks (model prog w) s.heap (typeOf b) tb) (hn : PySem.W.notFirst K C tb = true)
    (hne : PySem.W.findIn K (.ref C) "__ne__" = some (some (.builtin "object.__ne__"))) (hm : PySem.W.mroIn K C (.type "object") = some true)
    (hs : PySem.W.findIn K (.ref C) "__eq__" = some (some (.ref f))) (hf : PySem.W.isFn K (.ref f) = true)
    (h : wpAny (model prog w) A.in1 (call (.ref f) [.ref x, b]) (fun v s' => ∃ c, v = .bool c ∧ Q (.bool (!c)) s') E s) : wpAny (model prog w) A (richCompare .NotEq (.ref x) b) Q E s := by
  have X := X₀.keeps F.keep
  have hA : A.in1.units < cLine := hu
  have one : wpAny (model prog w) A (tryCompare (.ref x) (cmpInfo .NotEq).2.1 b) (fun r s' => ∃ v, r = some v ∧ Q v s') E s := by
    unfold tryCompare
    refine wpAny_bind (ifBound_B X I hne PySem.F.cmp_object.ne.bind ?_)
    refine wpAny_call (codeAny_call_builtin PySem.F.cmp_object.ne.plain PySem.F.cmpEntry_ne (PySem.W.check_slot (i := "object.__ne__") (owner := "object") (n := "__ne__") PySem.F.cmpKind_ne PySem.F.cmpSplit_ne (I.type.andThen (PySem.W.looks_mroIn X hm)) (PySem.F.cmpArgs_ne _ _) ?_))
    refine objNe_at hA X I hs hf (wpAny_mono h (fun v s' hv => ?_) fun _ _ e => e)
    obtain ⟨c, rfl, hq⟩ := hv
    refine ⟨c, rfl, ?_⟩
    first | exact ⟨_, rfl, wpAny_pure ⟨_, rfl, hq⟩⟩ | exact wpAny_pure ⟨_, rfl, hq⟩ | exact ⟨_, rfl, hq⟩
  unfold richCompare
  simp only [oneThing_ref]
  refine wpAny_holding (wpAny_bind (wpAny_cRoomFor (Nat.lt_of_succ_lt hu) ?_))
  refine wpAny_bind (I.type.here (wpAny_bind (hb.here ?_)))
  split
  · rename_i q
    have e : PySem.W.subIn K tb (.ref C) = some false := by
      rcases Bool.or_eq_true_iff.mp hn with e | e
      · rw [beq_iff_eq.mp e] at q; simp at q
      · exact beq_iff_eq.mp e
    refine wpAny_bind ((PySem.W.looks_subIn X e).here ?_)
    simp only [Bool.false_eq_true, if_false]
    refine wpAny_bind (wpAny_mono one (fun r s' z => ?_) fun _ _ e => e)
    obtain ⟨v, rfl, hq⟩ := z
    exact wpAny_pure hq
  · refine wpAny_bind (wpAny_pure ?_)
    simp only [Bool.false_eq_true, if_false]
    refine wpAny_bind (wpAny_mono one (fun r s' z => ?_) fun _ _ e => e)
    obtain ⟨v, rfl, hq⟩ := z
    exact wpAny_pure hq
end
/-- a value and its type -/
def TyZ (K : PySem.W.Frag) (H : Hp) (x : V) (t : Value) : Prop := TyX K H x t ∨ ∃ a D dx fs, x = .ref a ∧ Rd H a (.ins D dx fs) ∧ ClsI K D ∧ t = .ref D
section
variable {X : Cx} {CX : CXT} {pins : List (Addr × Obj)} {σ : L2.St} {H : Hp} {s : Shared} {k : Nat} {f C : Addr} {fd : FuncData} {ps : List Str} {sp : Sp} {E : XK} {dvs : List V} {dus : List Value}
theorem tyz_looks {x : V} {u t : Value} (I : Inv X pins σ H s) (r : RelV x u) (ty : TyZ X.K H x t) : PySem.W.Looks (model X.prog X.w) s.heap (typeOf u) t := by
  rcases ty with ty | ⟨a, D, dx, fs, rfl, hr, ci, rfl⟩
  · obtain ⟨P, Z, p, hx⟩ := kit_of I r ty
    exact Z.ty _ _ I.kIn p
  · have e1 : u = Value.ref a := r
    subst e1
    obtain ⟨mA, O, _⟩ := ins_getR I.hok hr
    obtain ⟨od, J, _⟩ := O.look
    exact J.type
def rEqOwn (K : PySem.W.Frag) (C : Addr) (sp : Sp) (g : Bool → Bool) (E : XK) : R2 := fun x y H Q => ∃ a dx fs t, x = .ref a ∧ Rd H a (.ins C dx fs) ∧ TyZ K H y t ∧ PySem.W.notFirst K C t = true ∧ sp [x, y] H (fun z H' => ∃ b, z = .bl b ∧ Q (.bl (g b)) H') E
theorem op_eqOwn (hm : Meth X.K C "__eq__" f) (F : FnOk X.prog X.w X.K X.mg X.base CX k f fd ps sp) (hr : Room k X.A) (hb : Binds X.K fd ps []) (hx : Passes CX X E) : OpR X (compareOp .Eq) (rEqOwn X.K C sp id E) := by
  intro pins s σ H x y v u Q I rx ry h
  obtain ⟨a, dx, fs, t, rfl, ha, ty, hn, q⟩ := h
  cases (show v = Value.ref a from rx)
  obtain ⟨mA, O, _⟩ := ins_getR I.hok ha
  obtain ⟨od, J, _⟩ := O.look
  obtain ⟨m, hF⟩ := I.fr
  refine PySem.W.cmp_K (op := .Eq) (tb := t) hr.units0 hF I.ok.mod.kin J (tyz_looks I ry ty) hn hm.at_ hm.fn ?_
  refine wpAny_mono (run_in (us := [.ref a, u]) (vs := [.ref a, y]) F hr I.env0 hb .nil hx I (.cons rfl (.cons ry .nil)) (show sp _ H _ E from q)) (fun w s' z => ?_) fun _ _ x => x
  obtain ⟨z', H', I', rz, c, ez, qz⟩ := z
  subst ez
  have ew : w = Value.bool c := rz
  subst ew
  exact ⟨.bl c, H', I', rfl, qz⟩
theorem op_neOwn (hm : Meth X.K C "__eq__" f) (hne : PySem.W.findIn X.K (.ref C) "__ne__" = some (some (.builtin "object.__ne__"))) (ho : PySem.W.mroIn X.K C (.type "object") = some true)
    (F : FnOk X.prog X.w X.K X.mg X.base CX k f fd ps sp) (hr : Room (k + 1) X.A) (hb : Binds X.K fd ps []) (hx : Passes CX X E) : OpR X (compareOp .NotEq) (rEqOwn X.K C sp (!·) E) := by
  intro pins s σ H x y v u Q I rx ry h
  obtain ⟨a, dx, fs, t, rfl, ha, ty, hn, q⟩ := h
  cases (show v = Value.ref a from rx)
  obtain ⟨mA, O, _⟩ := ins_getR I.hok ha
  obtain ⟨od, J, _⟩ := O.look
  obtain ⟨m, hF⟩ := I.fr
  refine ne_K (tb := t) hr.in1.units0 hF I.ok.mod.kin J (tyz_looks I ry ty) hn hne ho hm.at_ hm.fn ?_
  refine wpAny_mono (run_in (us := [.ref a, u]) (vs := [.ref a, y]) F hr.in1 I.env0.in1 hb .nil hx I (.cons rfl (.cons ry .nil)) (show sp _ H _ E from q)) (fun w s' z => ?_) fun _ _ x => x
  obtain ⟨z', H', I', rz, c, ez, qz⟩ := z
  subst ez
  have ew : w = Value.bool c := rz
  subst ew
  exact ⟨c, rfl, .bl (!c), H', I', rfl, qz⟩
def rLenOwn (C : Addr) (sp : Sp) (E : XK) : List V → Hp → VK → Prop := fun xs H Q => ∃ a dx fs, xs = [V.ref a] ∧ Rd H a (.ins C dx fs) ∧ sp [.ref a] H (fun z H' => ∃ i : Int, z = .int i ∧ (0 ≤ i ∧ i < 2 ^ 63) ∧ Q (.int i) H') E
theorem call_lenOwn (hm : Meth X.K C "__len__" f) (F : FnOk X.prog X.w X.K X.mg X.base CX k f fd ps sp) (hr : Room (k + 1) X.A) (hb : Binds X.K fd ps []) (hx : Passes CX X E) : CallR X (.builtin "len") (rLenOwn C sp E) := by
  intro pins s σ H xs us Q I r h
  obtain ⟨a, dx, fs, rfl, ha, q⟩ := h
  obtain ⟨u, rfl, ru⟩ := r.one
  cases (show u = Value.ref a from ru)
  obtain ⟨mA, O, _⟩ := ins_getR I.hok ha
  obtain ⟨od, J, _⟩ := O.look
  obtain ⟨m, hF⟩ := I.fr
  refine PySem.W.len_K hF I.ok.mod.kin J hm.at_ hm.fn ?_
  refine wpAny_mono (run_in (us := [.ref a]) (vs := [.ref a]) F hr.in1 I.env0.in1 hb .nil hx I (.cons rfl .nil) (show sp _ H _ E from q)) (fun w s' z => ?_) fun _ _ x => x
  obtain ⟨z', H', I', rz, i, ez, hi, qz⟩ := z
  subst ez
  obtain ⟨t, e⟩ := (show ∃ t, w = Value.int i t from rz)
  subst e
  exact ⟨hi, .int i, H', I'.tok _, ⟨_, rfl⟩, qz⟩
def rStrOwn (C : Addr) (sp : Sp) (E : XK) : List V → Hp → VK → Prop := fun xs H Q => ∃ a dx fs, xs = [V.ref a] ∧ Rd H a (.ins C dx fs) ∧ sp [.ref a] H (fun z H' => ∃ x : Str, z = .str x ∧ Q (.str x) H') E
theorem call_strOwn (hm : Meth X.K C "__str__" f) (F : FnOk X.prog X.w X.K X.mg X.base CX k f fd ps sp) (hr : Room (k + 2) X.A) (hb : Binds X.K fd ps []) (hx : Passes CX X E) : CallR X (.type "str") (rStrOwn C sp E) := by
  intro pins s σ H xs us Q I r h
  obtain ⟨a, dx, fs, rfl, ha, q⟩ := h
  obtain ⟨u, rfl, ru⟩ := r.one
  cases (show u = Value.ref a from ru)
  obtain ⟨mA, O, _⟩ := ins_getR I.hok ha
  obtain ⟨od, J, _⟩ := O.look
  obtain ⟨m, hF⟩ := I.fr
  have hr2 : Room k X.A.in1.in1 := (show Room (k + 1) X.A.in1 from Room.in1 hr).in1
  refine PySem.W.kso_call hr2.units0 I.kIn J hm.at_ hm.fn ?_
  refine wpAny_mono (run_in (us := [.ref a]) (vs := [.ref a]) F hr2 I.env0.in1.in1 hb .nil hx I (.cons rfl .nil) (show sp _ H _ E from q)) (fun w s' z => ?_) fun _ _ x => x
  obtain ⟨z', H', I', rz, y, ez, qz⟩ := z
  subst ez
  obtain ⟨t, e⟩ := (show ∃ t, w = Value.str y t from rz)
  subst e
  exact ⟨.str y, H', I', ⟨t, rfl⟩, qz⟩
end
/-- what == wants of an own class, the classes of T beside it -/
structure OwnEq (K : PySem.W.Frag) (T : List Str) (C : Addr) : Prop where
  own : ∀ x, x ∈ T → ∀ D, PySem.W.nsIn K mainGlobals x = some (some (.ref D)) → ClsI K D ∧ PySem.W.notFirst K C (.ref D) = true
  bt : ∀ n, n ∈ (["NoneType", "bool", "int", "str", "list", "tuple", "dict"] : List String) → PySem.W.notFirst K C (.type n) = true
  ne : PySem.W.findIn K (.ref C) "__ne__" = some (some (.builtin "object.__ne__"))
  ob : PySem.W.mroIn K C (.type "object") = some true
/-- what may stand on the other hand -/
def kTy (T : List Str) (e : Dv) (M : Mo) (R : Prop) : Prop := match insV M e with
  | some (x, _) => x ∈ T ∧ R
  | none => match tyN M e with
    | some _ => R
    | none => False
def dEqO (T : List Str) (c : Str) (sp : SpD) (g : Bool → Bool) : R2d := fun d e M Q => match insV M d with
  | some (c', _) => c' = c ∧ kTy T e M (sp [d, e] M (fun z M' => kB z fun b => Q (.bl (g b)) M') Ed0)
  | none => False
section
variable {X : Cx} {M0 : Mo} {H0 : Hp} {k : Nat} {ps : List Str} {B : FuncData → Prop} {sp : SpD} {E : XK} {c m : Str} {T : List Str}
theorem eqO_imp {C : Addr} {g : Bool → Bool} (W : OwnEq X.K T C) (n : PySem.W.nsIn X.K mainGlobals c = some (some (.ref C))) : ∀ x y H Q, L2op X.K (dEqO T c sp g) x y H Q → rEqOwn X.K C (LSp X.K sp) g E x y H Q := fun x y H Q ⟨d, e, M, Qd, r1, r2, sr, q, cc⟩ => by
  unfold dEqO at q
  split at q
  · rename_i c' fs ei
    obtain ⟨rfl, q⟩ := q
    obtain ⟨a, C', dx, vfs, ev, n', hv, rr⟩ := insV_ok sr r1 ei
    rw [n] at n'
    cases n'
    subst ev
    have fin : sp [d, e] M (fun z M' => kB z fun b => Qd (.bl (g b)) M') Ed0 → LSp X.K sp [.ref a, y] H (fun z H' => ∃ b, z = .bl b ∧ Q (.bl (g b)) H') E := fun q =>
      ⟨[d, e], M, _, Ed0, RDs.cons r1 (RDs.cons r2 RDs.nil), sr, q, fun z M' v H' s r hz => by
        dsimp only [kB] at hz
        split at hz
        · exact ⟨_, r.bl_of, cc _ _ _ _ s .bl hz⟩
        · exact hz.elim, ctx0⟩
    unfold kTy at q
    split at q
    · rename_i x' fs' e'
      obtain ⟨a', D, dx', vfs', ev, n2, hv', _⟩ := insV_ok sr r2 e'
      obtain ⟨ci, nf⟩ := W.own x' q.1 D n2
      exact ⟨a, dx, vfs, .ref D, rfl, hv, .inr ⟨a', D, dx', vfs', ev, hv', ci, rfl⟩, nf, fin q.2⟩
    · split at q
      · rename_i n3 e3
        refine ⟨a, dx, vfs, .type n3, rfl, hv, .inl (tyN_ok sr r2 e3), W.bt n3 ?_, fin q⟩
        rcases tyN_cases e3 with rfl | rfl | rfl | rfl | rfl | rfl | rfl <;> decide
      · exact q.elim
  · exact q.elim
theorem od_eqO (W : ∀ C, PySem.W.nsIn X.K mainGlobals c = some (some (.ref C)) → OwnEq X.K T C) (F : MethD X.prog X.w X.K X.mg X.base c "__eq__" k ps B sp) (hr : Room k X.A) (hb : ∀ fd, B fd → Binds X.K fd ps []) (hx : Passes (L2.CX X.prog X.w) X (fun _ _ _ => False)) :
    OpR X (compareOp .Eq) (L2op X.K (dEqO T c sp id)) := by
  obtain ⟨C, f, fd, n, cl, hm, b, F⟩ := F.ex
  exact fun pins s σ H x y v u Q I rx ry h => op_eqOwn hm F hr (hb fd b) hx pins s σ H x y v u Q I rx ry (eqO_imp (W C n) n x y H Q h)
theorem od_neO (W : ∀ C, PySem.W.nsIn X.K mainGlobals c = some (some (.ref C)) → OwnEq X.K T C) (F : MethD X.prog X.w X.K X.mg X.base c "__eq__" k ps B sp) (hr : Room (k + 1) X.A) (hb : ∀ fd, B fd → Binds X.K fd ps []) (hx : Passes (L2.CX X.prog X.w) X (fun _ _ _ => False)) :
    OpR X (compareOp .NotEq) (L2op X.K (dEqO T c sp (!·))) := by
  obtain ⟨C, f, fd, n, cl, hm, b, F⟩ := F.ex
  exact fun pins s σ H x y v u Q I rx ry h => op_neOwn hm (W C n).ne (W C n).ob F hr (hb fd b) hx pins s σ H x y v u Q I rx ry (eqO_imp (W C n) n x y H Q h)
/-- len(o) -/
def dLenO (c : Str) (sp : SpD) : RNd := fun ds M Q => match ds with
  | [d] => match insV M d with
    | some (c', _) => c' = c ∧ sp [d] M (fun z M' => kI z fun i => (0 ≤ i ∧ i < 4611686018427387904) ∧ Q (.int i) M') Ed0
    | none => False
  | _ => False
theorem cd_lenO (F : MethD X.prog X.w X.K X.mg X.base c "__len__" k ps B sp) (hr : Room (k + 1) X.A) (hb : ∀ fd, B fd → Binds X.K fd ps []) (hx : Passes (L2.CX X.prog X.w) X (fun _ _ _ => False)) : CallR X (.builtin "len") (LNop X.K (dLenO c sp)) := by
  obtain ⟨C, f, fd, n, cl, hm, b, F⟩ := F.ex
  refine cd_I (call_lenOwn hm F hr (hb fd b) hx) fun ds M Qd xs H Q rs sr q cc => ?_
  unfold dLenO at q
  split at q
  · rename_i d
    obtain ⟨v, rfl, r⟩ := rs.one
    split at q
    · rename_i c' fs ei
      obtain ⟨rfl, q⟩ := q
      obtain ⟨a, C', dx, vfs, ev, n', hv, rr⟩ := insV_ok sr r ei
      rw [n] at n'
      cases n'
      subst ev
      refine ⟨a, dx, vfs, rfl, hv, [d], M, _, Ed0, RDs.cons r RDs.nil, sr, q, fun z M' v H' s r hz => ?_, ctx0⟩
      dsimp only [kI] at hz
      split at hz
      · exact ⟨_, r.int_of, ⟨hz.1.1, Int.lt_trans hz.1.2 (by decide)⟩, cc _ _ _ _ s .int hz.2⟩
      · exact hz.elim
    · exact q.elim
  · exact q.elim
/-- str(o) -/
def dStrO (c : Str) (sp : SpD) : RNd := fun ds M Q => match ds with
  | [d] => match insV M d with
    | some (c', _) => c' = c ∧ sp [d] M (fun z M' => kStr z fun x => Q (.str x) M') Ed0
    | none => False
  | _ => False
theorem cd_strO (F : MethD X.prog X.w X.K X.mg X.base c "__str__" k ps B sp) (hr : Room (k + 2) X.A) (hb : ∀ fd, B fd → Binds X.K fd ps []) (hx : Passes (L2.CX X.prog X.w) X (fun _ _ _ => False)) : CallR X (.type "str") (LNop X.K (dStrO c sp)) := by
  obtain ⟨C, f, fd, n, cl, hm, b, F⟩ := F.ex
  refine cd_I (call_strOwn hm F hr (hb fd b) hx) fun ds M Qd xs H Q rs sr q cc => ?_
  unfold dStrO at q
  split at q
  · rename_i d
    obtain ⟨v, rfl, r⟩ := rs.one
    split at q
    · rename_i c' fs ei
      obtain ⟨rfl, q⟩ := q
      obtain ⟨a, C', dx, vfs, ev, n', hv, rr⟩ := insV_ok sr r ei
      rw [n] at n'
      cases n'
      subst ev
      refine ⟨a, dx, vfs, rfl, hv, [d], M, _, Ed0, RDs.cons r RDs.nil, sr, q, fun z M' v H' s r hz => ?_, ctx0⟩
      dsimp only [kStr] at hz
      split at hz
      · exact ⟨_, r.str_of, cc _ _ _ _ s .str hz⟩
      · exact hz.elim
    · exact q.elim
  · exact q.elim
/-- str(i), str(x) -/
def dStrOf : RNd := fun ds M Q => match ds with
  | [.int i] => i.natAbs.log2 < 1920 ∧ Q (.str (toString i)) M
  | _ => False
theorem cd_str : CallR X (.type "str") (LNop X.K dStrOf) := cd_I call_str_int fun ds M Qd xs H Q rs sr q c => by
  unfold dStrOf at q
  split at q
  · obtain ⟨v, rfl, r⟩ := rs.one
    rw [r.int_of]
    exact ⟨_, rfl, q.1, c _ M _ H (.refl sr) .str q.2⟩
  · exact q.elim
end
/-! ### f-strings -/
def dFmt (te : TED) : TED := fun sd M Q => te sd M fun d M1 => match d with
  | .str y => y.length ≤ 16777216 ∧ Q (.str y) M1
  | .int i => i.natAbs.log2 < 1920 ∧ Q (.str (toString i)) M1
  | _ => False
inductive PJd (X : Cx) (M0 : Mo) (H0 : Hp) : List Expr → List TED → Prop where
  | nil : PJd X M0 H0 [] []
  | cons {e : Expr} {t : TED} {es : List Expr} {ts : List TED} (h : PEd X M0 H0 e t) (r : PJd X M0 H0 es ts) : PJd X M0 H0 (e :: es) (t :: ts)
def dJs : List TED → Str → StD → Mo → (Str → Mo → Prop) → Prop
  | [], acc, _, M, Q => Q acc M
  | t :: ts, acc, sd, M, Q => t sd M fun d M1 => match d with
    | .str y => acc.length + y.length ≤ 16777216 ∧ dJs ts (acc ++ y) sd M1 Q
    | _ => False
def dJoined (ts : List TED) : TED := fun sd M Q => dJs ts Str.empty sd M fun out M1 => Q (.str out) M1
section
variable {X : Cx} {M0 : Mo} {H0 : Hp} {te : TED} {e v1 v2 : Expr} {rest : List Expr} {ts : List TED} {pos : Pos}
theorem de_fmt (he : PEd X M0 H0 e te) : PEd X M0 H0 (.FormattedValue e (-1) none pos) (dFmt te) :=
  PE.imp (pe_fmt he) fun σ H Q ⟨sd, M, Qd, w, q, cc⟩ => ⟨sd, M, _, w, q, fun d M1 v H1 s1 r1 q1 => by
    split at q1
    · exact .inl ⟨_, r1.str_of, by rw [← line_eq]; exact q1.1, cc _ _ _ _ s1 .str q1.2⟩
    · exact .inr ⟨_, r1.int_of, q1.1, cc _ _ _ _ s1 .str q1.2⟩
    · exact q1.elim⟩
theorem pjd_pj {es : List Expr} (h : PJd X M0 H0 es ts) : PJ X es (ts.map (LE X.K M0 H0)) := by
  induction h with
  | nil => exact .nil
  | cons h r ih => exact .cons h ih
theorem js_imp : ∀ (ts : List TED) (acc : Str) (sd : StD) (M : Mo) (σ : L2.St) (H : Hp) (Qd : Str → Mo → Prop) (Q : Str → Hp → Prop), At X.K M0 H0 sd M σ H → (∀ out M1 H1, Stp X.K M H M1 H1 → Qd out M1 → Q out H1) → dJs ts acc sd M Qd → tJs (ts.map (LE X.K M0 H0)) acc σ H Q
  | [], acc, sd, M, σ, H, Qd, Q, w, c, q => c acc M H w.here q
  | t :: ts, acc, sd, M, σ, H, Qd, Q, w, c, q => ⟨sd, M, _, w, q, fun d M1 v H1 s1 r1 q1 => by
    split at q1
    · rename_i y
      refine ⟨y, r1.str_of, by rw [PySem.Str.length_append, ← line_eq]; exact q1.1, ?_⟩
      exact js_imp ts (acc ++ y) sd M1 σ H1 Qd Q (w.on s1) (fun out M2 H2 s2 q2 => c out M2 H2 (s1.trans s2) q2) q1.2
    · exact q1.elim⟩
theorem de_joined (h : PJd X M0 H0 (v1 :: v2 :: rest) ts) : PEd X M0 H0 (.JoinedStr (v1 :: v2 :: rest) pos) (dJoined ts) :=
  PE.imp (pe_joined (pjd_pj h)) fun σ H Q ⟨sd, M, Qd, w, q, cc⟩ => js_imp ts Str.empty sd M σ H _ _ w (fun out M1 H1 s1 q1 => cc _ _ _ _ s1 .str q1) q
end
/-! ### sorted(text) -/
section
variable {X : Cx}
theorem call_sortedX (hcalm : X.calm = true) : CallR X (.builtin "sorted") (fun xs H Q => ∃ x : Str, xs = [.str x] ∧ x.length < 64 ∧
    ∀ ys p, ys.Perm (x.cps.toList.map fun c => (⟨#[c]⟩ : Str)) → sortedS ys = true → H p = none → Q (.ref p) (upd H p (.lst (ys.map V.str)))) := by
  intro pins s σ H xs us Q I r q
  obtain ⟨x, ex, h64, q⟩ := q
  subst ex
  obtain ⟨u, eu, rx⟩ := vals1 r
  subst eu
  obtain ⟨t, rfl⟩ := (show ∃ t, u = Value.str x t from rx)
  have hx : x.cps.size = x.length := rfl
  refine Calls.call_function_entry PyProof.Rows.kind_sorted PyProof.Rows.plain_sorted PyProof.Rows.entry_sorted (PyProof.Rows.args_sorted1 _) ?_
  unfold Builtin.«sorted»
  refine wpAny_bind (m := checkCount "sorted" 1 1 _) (wpAny_pure ?_)
  refine wpAny_bind (wpAny_collect_str (A := X.A.in1) (I.ok.hd hcalm) x t (fun s' acc hk hg hd ho hacc => ?_) (by rw [hx, sizeLine_eq]; omega))
  obtain ⟨h', g', d', tk, os'⟩ := s'
  obtain rfl : s.gens = g' := hg.symm
  obtain rfl : s.drawn = d' := hd.symm
  obtain rfl : s.os = os' := ho.symm
  have hal : acc.toList.length = x.length := by rw [Array.length_toList, hacc.1]; rfl
  have hS : StrsAre acc.toList (x.cps.toList.map fun c => (⟨#[c]⟩ : Str)) := strs_at (by rw [hal, List.length_map]; simp [Str.length]) fun j v e => by
    obtain ⟨c, u, hc, rfl⟩ := hacc.2 j v (by rw [← Array.getElem?_toList]; exact e)
    exact ⟨⟨#[c]⟩, u, by rw [List.getElem?_map, Array.getElem?_toList, hc]; rfl, rfl⟩
  have I1 : Inv X pins σ H { s with heap := h', toks := tk } := I.kept hk
  refine wpAny_bind (wpAny_newList ?_ (by rw [hal, sizeLine_eq]; omega))
  have hoL : (h'.push (seqObj "list" acc.toList.toArray 0)).get? h'.objs.size = some (seqObj "list" acc.toList.toArray 0) := Heap.get?_push_size _ rfl
  show wpAny _ _ _ _ _ { s with heap := h'.push (seqObj "list" acc.toList.toArray 0), toks := tk }
  refine wpAny_bind (wpAny_holding (wpAny_call_entry PyProof.Rows.slot_list_sort ⟨_, hoL, rfl⟩ PyProof.Rows.entry_list_sort
    (list_sort_treeK strKind_oneLt (s := { s with heap := h'.push (seqObj "list" acc.toList.toArray 0), toks := tk }) hoL hS.keysOf (fun v₁ v₂ rest e => keyKind_strs (by rw [← e]; exact hS)) (by rw [hal]; exact h64) fun st' hp hs => ⟨_, rfl, ?_⟩)
    (PyProof.Rows.args_list_sort _)))
  obtain ⟨ys, g1, g2, g3⟩ := sorted_out_str hS hp hs
  obtain ⟨e', he'⟩ := PyProof.Rows.sortedHeap_at (vs := acc.toList) (out := (arrOf st').map (·.2)) hoL
  have hlen : (ys.map V.str).length ≤ sizeLine := by
    rw [List.length_map, g2.length_eq, List.length_map, ← str_len]
    exact Nat.le_trans (Nat.le_of_lt h64) (by decide)
  refine wpAny_pure ⟨_, rfl, .ref h'.objs.size, upd H h'.objs.size (.lst (ys.map V.str)), I1.laid (t' := tk) (fun b u e => ?_) (Nat.le_refl _)
    (show ObjOk X.prog X.w _ _ _ (.lst (ys.map V.str)) from ⟨hlen, ((arrOf st').map (·.2)).toList, e', vals_of_strs g1, by rw [Array.toArray_toList]; exact he'⟩), rfl, q ys _ g2 g3 (I1.hok.fresh (Nat.le_refl _))⟩
  have hb : b < h'.objs.size := Heap.lt_size e
  rw [PyProof.Rows.sortedHeap_old (Nat.ne_of_lt hb) (by rw [size_push']; exact Nat.lt_succ_of_lt hb)]
  exact Heap.get?_push_of_some _ e
end
theorem sorted_ones {ys : List Str} {cs : List Nat} (hp : ys.Perm (cs.map fun c => (⟨#[c]⟩ : Str))) (hs : sortedS ys = true) : ∃ ds : List Nat, ys = ds.map (fun c => (⟨#[c]⟩ : Str)) ∧ ds.Perm cs ∧ ds.Pairwise (· ≤ ·) := by
  have h1 : ∀ y ∈ ys, ∃ c, y = ⟨#[c]⟩ := fun y hy => by
    obtain ⟨c, _, rfl⟩ := List.mem_map.mp (hp.mem_iff.mp hy)
    exact ⟨c, rfl⟩
  have h2 : ys = (ys.map fun y => y.cps.toList.headD 0).map (fun c => (⟨#[c]⟩ : Str)) := by
    rw [List.map_map]
    refine (List.map_id' ys).symm.trans (List.map_congr_left fun y hy => ?_)
    obtain ⟨c, rfl⟩ := h1 y hy
    rfl
  have h3 : (ys.map fun y => y.cps.toList.headD 0).Perm cs := by
    have := hp.map fun y => y.cps.toList.headD 0
    rw [List.map_map] at this
    refine this.trans (List.Perm.of_eq ?_)
    exact (List.map_congr_left fun c _ => rfl).trans (List.map_id' cs)
  refine ⟨_, h2, h3, ?_⟩
  generalize ys.map (fun y => y.cps.toList.headD 0) = ds at h2
  subst h2
  clear hp h1 h3
  have ris : ∀ (ds : List Nat) (p : Nat), risingS ⟨#[p]⟩ (ds.map fun c => (⟨#[c]⟩ : Str)) = true → (p :: ds).Pairwise (· ≤ ·) := by
    intro ds
    induction ds with
    | nil => intro p _; exact List.pairwise_singleton _ _
    | cons d ds ih =>
      intro p h
      simp only [List.map_cons, risingS, Bool.and_eq_true, Bool.not_eq_true'] at h
      have r := ih d h.2
      have h4 : p ≤ d := by
        have : (decide (d < p) || (d == p && ltCps [] [])) = false := h.1
        rw [Bool.or_eq_false_iff] at this
        have := of_decide_eq_false this.1
        omega
      rw [List.pairwise_cons] at r ⊢
      refine ⟨fun a ha => ?_, by rw [List.pairwise_cons]; exact r⟩
      rcases List.mem_cons.mp ha with rfl | ha
      · exact h4
      · exact Nat.le_trans h4 (r.1 a ha)
  cases ds with
  | nil => exact List.Pairwise.nil
  | cons d ds => exact ris ds d hs
/-- sorted(x) of a text -/
def onesD (cs : List Nat) : List Dv := cs.map fun c => .str ⟨#[c]⟩
def dSortX : RNd := fun ds M Q => match ds with
  | [.str x] => x.length < 64 ∧ ∀ cs : List Nat, cs.Perm x.cps.toList → cs.Pairwise (· ≤ ·) → ∀ p, M p = none → Q (.ref p) (mup M p (.lst (onesD cs)))
  | _ => False
section
variable {X : Cx}
theorem rds_strs {K : PySem.W.Frag} {H : Hp} : ∀ zs : List Str, RDs K H (zs.map Dv.str) (zs.map V.str)
  | [] => RDs.nil
  | z :: zs => RDs.cons .str (rds_strs zs)
theorem cd_sortX (hc : X.calm = true) : CallR X (.builtin "sorted") (LNop X.K dSortX) := cd_I (call_sortedX hc) fun ds M Qd xs H Q rs sr q c => by
  unfold dSortX at q
  split at q
  · rename_i x
    obtain ⟨v, rfl, r⟩ := rs.one
    rw [r.str_of]
    refine ⟨x, rfl, q.1, fun ys p hp hs hn => ?_⟩
    obtain ⟨cs, rfl, h1, h2⟩ := sorted_ones hp hs
    have e : onesD cs = (cs.map fun c => (⟨#[c]⟩ : Str)).map Dv.str := by unfold onesD; rw [List.map_map]; rfl
    refine c _ _ _ _ (Stp.new sr hn (oo := .lst (onesD cs)) ?_) .ref (q.2 cs h1 h2 p (sr.free hn))
    simp only [Own]
    exact ⟨_, upd_same, by rw [e]; exact rds_strs _⟩
  · exact q.elim
/-- list.clear, list.reverse -/
def dClear : RMd := fun d ds M Q => match d, ds with
  | .ref a, [] => match M a with
    | some (.lst _) => Q .non (mup M a (.lst []))
    | _ => False
  | _, _ => False
theorem md_clear : MtR X "list.clear" (LMop X.K dClear) := md_I mt_clear fun d ds M Qd x xs H Q r1 r2 sr q c => by
  unfold dClear at q
  split at q
  · split at q
    · rename_i e1
      obtain ⟨vs, hv, rr⟩ := own_at sr e1
      rw [r1.ref_of]
      unfold RDs at r2
      exact ⟨_, vs, rfl, r2, hv, c _ _ _ _ (stp_lst sr e1 hv fun H' k => RDs.nil) .non q⟩
    · exact q.elim
  · exact q.elim
def dReverse : RMd := fun d ds M Q => match d, ds with
  | .ref a, [] => match M a with
    | some (.lst xs) => Q .non (mup M a (.lst xs.reverse))
    | _ => False
  | _, _ => False
theorem md_reverse : MtR X "list.reverse" (LMop X.K dReverse) := md_I mt_reverse fun d ds M Qd x xs H Q r1 r2 sr q c => by
  unfold dReverse at q
  split at q
  · split at q
    · rename_i e1
      obtain ⟨vs, hv, rr⟩ := own_at sr e1
      rw [r1.ref_of]
      unfold RDs at r2
      exact ⟨_, vs, rfl, r2, hv, c _ _ _ _ (stp_lst sr e1 hv fun H' k => (rr.keep k).reverse) .non q⟩
    · exact q.elim
  · exact q.elim
end
/-! ### steps -/
theorem nf_same {K : PySem.W.Frag} {C : Addr} : PySem.W.notFirst K C (.ref C) = true := by simp [PySem.W.notFirst]
theorem nf_sub {K : PySem.W.Frag} {C : Addr} {t : Value} (h : PySem.W.subIn K t (.ref C) = some false) : PySem.W.notFirst K C t = true := by
  unfold PySem.W.notFirst
  rw [h]
  simp
section
variable {sd : StD} {M : Mo} {Q : QD} {d e : Dv} {a : Addr} {c x : Str} {fs : List (Str × Dv)} {T : List Str} {te : TED} {sp : SpD} {g : Bool → Bool} {i : Int} {ds : List Dv} {ts : List TED} {acc : Str} {t : TED} {R : Prop} {b : Bool} {F : Str → Mo → Prop}
instance s_eqOO : Step (dEqO T c sp g (.obj c fs) e M Q) (kTy T e M (sp [.obj c fs, e] M (fun z M' => kB z fun b => Q (.bl (g b)) M') Ed0)) := ⟨fun h => ⟨rfl, h⟩⟩
theorem i_eqOR (h1 : M a = some (.ins c fs)) (h : kTy T e M (sp [.ref a, e] M (fun z M' => kB z fun b => Q (.bl (g b)) M') Ed0)) : dEqO T c sp g (.ref a) e M Q := by
  unfold dEqO insV
  simp only [h1]
  exact ⟨trivial, h⟩
instance s_tyN : Step (kTy T .non M R) R := ⟨fun h => h⟩
instance s_tyI : Step (kTy T (.int i) M R) R := ⟨fun h => h⟩
instance s_tyS : Step (kTy T (.str x) M R) R := ⟨fun h => h⟩
instance s_tyL : Step (kTy T (.lst ds) M R) R := ⟨fun h => h⟩
instance s_tyT : Step (kTy T (.tup ds) M R) R := ⟨fun h => h⟩
instance s_tyB : Step (kTy T (.bl b) M R) R := ⟨fun h => h⟩
theorem i_tyO (h1 : x ∈ T) (h : R) : kTy T (.obj x fs) M R := ⟨h1, h⟩
theorem i_tyRL (h1 : M a = some (.lst ds)) (h : R) : kTy T (.ref a) M R := by
  unfold kTy insV tyN
  simp only [h1]
  exact h
theorem i_tyRO (h1 : M a = some (.ins x fs)) (h2 : x ∈ T) (h : R) : kTy T (.ref a) M R := by
  unfold kTy insV
  simp only [h1]
  exact ⟨h2, h⟩
section
variable {R : Bool → Prop}
instance s_isoN : Step (kIsO T c .non M R) (R false) := ⟨fun h => h⟩
instance s_isoI : Step (kIsO T c (.int i) M R) (R false) := ⟨fun h => h⟩
instance s_isoS : Step (kIsO T c (.str x) M R) (R false) := ⟨fun h => h⟩
instance s_isoL : Step (kIsO T c (.lst ds) M R) (R false) := ⟨fun h => h⟩
instance s_isoT : Step (kIsO T c (.tup ds) M R) (R false) := ⟨fun h => h⟩
instance s_isoB : Step (kIsO T c (.bl b) M R) (R false) := ⟨fun h => h⟩
theorem i_isoY (h1 : c ∈ T) (h : R true) : kIsO T c (.obj c fs) M R := ⟨h1, by rw [decide_eq_true rfl]; exact h⟩
theorem i_isoNo (h1 : x ∈ T) (h2 : x ≠ c) (h : R false) : kIsO T c (.obj x fs) M R := ⟨h1, by rw [decide_eq_false h2]; exact h⟩
theorem i_isoRL (h1 : M a = some (.lst ds)) (h : R false) : kIsO T c (.ref a) M R := by
  unfold kIsO insV tyN
  simp only [h1]
  exact h
theorem i_isoRY (h1 : M a = some (.ins c fs)) (h2 : c ∈ T) (h : R true) : kIsO T c (.ref a) M R := by
  unfold kIsO insV
  simp only [h1]
  exact ⟨h2, by simpa using h⟩
end
instance s_lenOO : Step (dLenO c sp [.obj c fs] M Q) (sp [.obj c fs] M (fun z M' => kI z fun i => (0 ≤ i ∧ i < 4611686018427387904) ∧ Q (.int i) M') Ed0) := ⟨fun h => ⟨rfl, h⟩⟩
theorem i_lenOR (h1 : M a = some (.ins c fs)) (h : sp [.ref a] M (fun z M' => kI z fun i => (0 ≤ i ∧ i < 4611686018427387904) ∧ Q (.int i) M') Ed0) : dLenO c sp [.ref a] M Q := by
  unfold dLenO insV
  simp only [h1]
  exact ⟨trivial, h⟩
instance s_strOO : Step (dStrO c sp [.obj c fs] M Q) (sp [.obj c fs] M (fun z M' => kStr z fun x => Q (.str x) M') Ed0) := ⟨fun h => ⟨rfl, h⟩⟩
theorem i_strOR (h1 : M a = some (.ins c fs)) (h : sp [.ref a] M (fun z M' => kStr z fun x => Q (.str x) M') Ed0) : dStrO c sp [.ref a] M Q := by
  unfold dStrO insV
  simp only [h1]
  exact ⟨trivial, h⟩
theorem log_ok (h : -4611686018427387904 ≤ i ∧ i ≤ 4611686018427387904) : i.natAbs.log2 < 1920 := by
  have h1 : i.natAbs < 2 ^ 63 := by omega
  rcases Nat.eq_zero_or_pos i.natAbs with e | e
  · rw [e]; decide
  · have := (Nat.log2_lt (by omega)).mpr h1
    omega
theorem i_strOfI (hl : -4611686018427387904 ≤ i ∧ i ≤ 4611686018427387904) (h : Q (.str (toString i)) M) : dStrOf [.int i] M Q := ⟨log_ok hl, h⟩
def kFmt (d : Dv) (M : Mo) (Q : QD) : Prop := match d with
  | .str y => y.length ≤ 16777216 ∧ Q (.str y) M
  | .int i => i.natAbs.log2 < 1920 ∧ Q (.str (toString i)) M
  | _ => False
instance s_fmt : Step (dFmt te sd M Q) (te sd M fun d M1 => kFmt d M1 Q) := ⟨id⟩
theorem i_fmtS (hl : x.length ≤ 16777216) (h : Q (.str x) M) : kFmt (.str x) M Q := ⟨hl, h⟩
theorem i_fmtI (hl : -4611686018427387904 ≤ i ∧ i ≤ 4611686018427387904) (h : Q (.str (toString i)) M) : kFmt (.int i) M Q := ⟨log_ok hl, h⟩
def kJs (ts : List TED) (acc : Str) (sd : StD) (d : Dv) (M : Mo) (F : Str → Mo → Prop) : Prop := match d with
  | .str y => acc.length + y.length ≤ 16777216 ∧ dJs ts (acc ++ y) sd M F
  | _ => False
instance s_joined : Step (dJoined ts sd M Q) (dJs ts Str.empty sd M fun out M1 => Q (.str out) M1) := ⟨id⟩
instance s_js : Step (dJs (t :: ts) acc sd M F) (t sd M fun d M1 => kJs ts acc sd d M1 F) := ⟨id⟩
instance s_js0 : Step (dJs [] acc sd M F) (F acc M) := ⟨id⟩
theorem i_kJs (hl : acc.length + x.length ≤ 16777216) (h : dJs ts (acc ++ x) sd M F) : kJs ts acc sd (.str x) M F := ⟨hl, h⟩
theorem i_sortX (hl : x.length < 64) (h : ∀ cs : List Nat, cs.Perm x.cps.toList → cs.Pairwise (· ≤ ·) → ∀ p, M p = none → Q (.ref p) (mup M p (.lst (onesD cs)))) : dSortX [.str x] M Q := ⟨hl, h⟩
theorem i_clear (h1 : M a = some (.lst ds)) (h : Q .non (mup M a (.lst []))) : dClear (.ref a) [] M Q := by unfold dClear; simp only [h1]; exact h
theorem i_reverse (h1 : M a = some (.lst ds)) (h : Q .non (mup M a (.lst ds.reverse))) : dReverse (.ref a) [] M Q := by unfold dReverse; simp only [h1]; exact h
end
end DL

namespace DL
open PySem PySem.Spec PyProof.Rows L2
/-! ### what an owned list shows: a tree -/
inductive Vw (M : Mo) : Dv → Dv → Prop where
  | non : Vw M .non .non
  | bl (b : Bool) : Vw M (.bl b) (.bl b)
  | int (i : Int) : Vw M (.int i) (.int i)
  | str (x : Str) : Vw M (.str x) (.str x)
  | tup {ds es : List Dv} (l : ds.length = es.length) (h : ∀ (i : Nat) (d e : Dv), ds[i]? = some d → es[i]? = some e → Vw M d e) : Vw M (.tup ds) (.tup es)
  | lst {ds es : List Dv} (l : ds.length = es.length) (h : ∀ (i : Nat) (d e : Dv), ds[i]? = some d → es[i]? = some e → Vw M d e) : Vw M (.lst ds) (.lst es)
  | own {a : Addr} {ds es : List Dv} (m : M a = some (.lst ds)) (l : ds.length = es.length) (h : ∀ (i : Nat) (d e : Dv), ds[i]? = some d → es[i]? = some e → Vw M d e) : Vw M (.ref a) (.lst es)
/-- plain trees: no truths, good texts, so deep at most -/
def Pln : Nat → Dv → Prop
  | _, .non => True
  | _, .int _ => True
  | _, .str x => GoodS x
  | n + 1, .tup ds => ∀ d, d ∈ ds → Pln n d
  | n + 1, .lst ds => ∀ d, d ∈ ds → Pln n d
  | _, _ => False
noncomputable def dq (d e : Dv) : Bool := by classical exact decide (d = e)
theorem dq_same {d : Dv} : dq d d = true := by unfold dq; simp
theorem dq_ne {d e : Dv} (h : d ≠ e) : dq d e = false := by unfold dq; simp [h]
theorem dq_iff {d e : Dv} : dq d e = true ↔ d = e := by unfold dq; simp
theorem dq_of {d e : Dv} (h : d = e) : dq d e = true := dq_iff.mpr h
theorem Pln.mono : ∀ {n m : Nat} {d : Dv}, Pln n d → n ≤ m → Pln m d
  | n, m, .non, _, _ => by cases m <;> trivial
  | n, m, .int _, _, _ => by cases m <;> trivial
  | n, m, .str x, h, _ => by
    have h' : GoodS x := by cases n <;> exact h
    cases m <;> exact h'
  | n + 1, m + 1, .tup ds, h, hm => fun d hd => (h d hd).mono (by omega)
  | n + 1, m + 1, .lst ds, h, hm => fun d hd => (h d hd).mono (by omega)
  | 0, m, .tup ds, h, _ => h.elim
  | 0, m, .lst ds, h, _ => h.elim
  | n + 1, 0, .tup ds, _, hm => by omega
  | n + 1, 0, .lst ds, _, hm => by omega
  | 0, m, .bl _, h, _ => h.elim
  | n + 1, m, .bl _, h, _ => h.elim
  | 0, m, .ty _, h, _ => h.elim
  | n + 1, m, .ty _, h, _ => h.elim
  | 0, m, .ref _, h, _ => h.elim
  | n + 1, m, .ref _, h, _ => h.elim
  | 0, m, .obj _ _, h, _ => h.elim
  | n + 1, m, .obj _ _, h, _ => h.elim
  | 0, m, .dct _, h, _ => h.elim
  | n + 1, m, .dct _, h, _ => h.elim
  | 0, m, .dctT _, h, _ => h.elim
  | n + 1, m, .dctT _, h, _ => h.elim
theorem Pln.vw {M : Mo} : ∀ {n : Nat} {d : Dv}, Pln n d → Vw M d d
  | n, .non, _ => .non
  | n, .int _, _ => .int _
  | n, .str x, _ => .str _
  | n + 1, .tup ds, h => .tup rfl fun i d e h1 h2 => by
    rw [h1] at h2
    cases h2
    exact (h d (List.mem_of_getElem? h1)).vw
  | n + 1, .lst ds, h => .lst rfl fun i d e h1 h2 => by
    rw [h1] at h2
    cases h2
    exact (h d (List.mem_of_getElem? h1)).vw
  | 0, .tup ds, h => h.elim
  | 0, .lst ds, h => h.elim
  | 0, .bl _, h => h.elim
  | n + 1, .bl _, h => h.elim
  | 0, .ty _, h => h.elim
  | n + 1, .ty _, h => h.elim
  | 0, .ref _, h => h.elim
  | n + 1, .ref _, h => h.elim
  | 0, .obj _ _, h => h.elim
  | n + 1, .obj _ _, h => h.elim
  | 0, .dct _, h => h.elim
  | n + 1, .dct _, h => h.elim
  | 0, .dctT _, h => h.elim
  | n + 1, .dctT _, h => h.elim
mutual
theorem pln_py : ∀ {n : Nat} {d : Dv}, Pln n d → ∃ p, pyD d = some p ∧ p.canLay0 = true ∧ p.depth ≤ n
  | n, .non, _ => ⟨.none, by unfold pyD; rfl, rfl, by show 0 ≤ n; omega⟩
  | n, .int i, _ => ⟨.int i, by unfold pyD; rfl, rfl, by show 0 ≤ n; omega⟩
  | n, .str x, h => ⟨.str x, by unfold pyD; rfl, goodS_ok (by cases n <;> exact h), by show 0 ≤ n; omega⟩
  | n + 1, .tup ds, h => by
    obtain ⟨ps, e, h1, h2⟩ := plns_py (n := n) (ds := ds) h
    exact ⟨.tuple ps, by unfold pyD; rw [e]; rfl, by unfold PyData.canLay0; exact h1, by unfold PyData.depth; omega⟩
  | n + 1, .lst ds, h => by
    obtain ⟨ps, e, h1, h2⟩ := plns_py (n := n) (ds := ds) h
    exact ⟨.list ps, by unfold pyD; rw [e]; rfl, by unfold PyData.canLay0; exact h1, by unfold PyData.depth; omega⟩
  | 0, .tup ds, h => h.elim
  | 0, .lst ds, h => h.elim
  | 0, .bl _, h => h.elim
  | n + 1, .bl _, h => h.elim
  | 0, .ty _, h => h.elim
  | n + 1, .ty _, h => h.elim
  | 0, .ref _, h => h.elim
  | n + 1, .ref _, h => h.elim
  | 0, .obj _ _, h => h.elim
  | n + 1, .obj _ _, h => h.elim
  | 0, .dct _, h => h.elim
  | n + 1, .dct _, h => h.elim
  | 0, .dctT _, h => h.elim
  | n + 1, .dctT _, h => h.elim
theorem plns_py : ∀ {n : Nat} {ds : List Dv}, (∀ d, d ∈ ds → Pln n d) → ∃ ps, pyDs ds = some ps ∧ PyData.canLayAll0 ps = true ∧ PyData.depthAll ps ≤ n
  | n, [], _ => ⟨[], by unfold pyDs; rfl, rfl, by show 0 ≤ n; omega⟩
  | n, d :: ds, h => by
    obtain ⟨p, e1, h1, h2⟩ := pln_py (h d List.mem_cons_self)
    obtain ⟨ps, e2, h3, h4⟩ := plns_py (n := n) (ds := ds) fun e he => h e (List.mem_cons_of_mem _ he)
    exact ⟨p :: ps, by unfold pyDs; rw [e1, e2], by unfold PyData.canLayAll0; rw [h1, h3]; rfl, by unfold PyData.depthAll; omega⟩
end
theorem pyD_atom : pyD .non = some .none ∧ (∀ i, pyD (.int i) = some (.int i)) ∧ (∀ x, pyD (.str x) = some (.str x)) := ⟨by unfold pyD; rfl, fun i => by unfold pyD; rfl, fun x => by unfold pyD; rfl⟩
theorem pyD_tup {ds : List Dv} {p : PyData} (h : pyD (.tup ds) = some p) : ∃ ps, pyDs ds = some ps ∧ p = .tuple ps := by
  unfold pyD at h
  cases e : pyDs ds with
  | none => rw [e] at h; cases h
  | some ps => rw [e] at h; cases h; exact ⟨ps, rfl, rfl⟩
theorem pyD_lst {ds : List Dv} {p : PyData} (h : pyD (.lst ds) = some p) : ∃ ps, pyDs ds = some ps ∧ p = .list ps := by
  unfold pyD at h
  cases e : pyDs ds with
  | none => rw [e] at h; cases h
  | some ps => rw [e] at h; cases h; exact ⟨ps, rfl, rfl⟩
/-- the kind of a plain thing -/
inductive PK : Nat → Dv → PyData → Prop where
  | non {n : Nat} : PK n .non .none
  | int {n : Nat} (i : Int) : PK n (.int i) (.int i)
  | str {n : Nat} (x : Str) : PK n (.str x) (.str x)
  | tup {n : Nat} {ds : List Dv} {ps : List PyData} (h : ∀ d, d ∈ ds → Pln n d) (e : pyDs ds = some ps) : PK (n + 1) (.tup ds) (.tuple ps)
  | lst {n : Nat} {ds : List Dv} {ps : List PyData} (h : ∀ d, d ∈ ds → Pln n d) (e : pyDs ds = some ps) : PK (n + 1) (.lst ds) (.list ps)
theorem Pln.kind {n : Nat} {d : Dv} {p : PyData} (h : Pln n d) (e : pyD d = some p) : PK n d p := by
  cases d with
  | non => rw [pyD_atom.1] at e; cases e; exact .non
  | int i => rw [pyD_atom.2.1] at e; cases e; exact .int i
  | str i => rw [pyD_atom.2.2] at e; cases e; exact .str i
  | tup ds =>
    obtain ⟨ps, e1, rfl⟩ := pyD_tup e
    cases n with
    | zero => exact h.elim
    | succ n => exact .tup h e1
  | lst ds =>
    obtain ⟨ps, e1, rfl⟩ := pyD_lst e
    cases n with
    | zero => exact h.elim
    | succ n => exact .lst h e1
  | _ => cases n <;> exact h.elim
theorem plns_eqv {P : Dv → Prop} (ih : ∀ d e p q, P d → pyD d = some p → pyD e = some q → (∃ m, Pln m e) → (PyData.eqv p q = true ↔ d = e)) : ∀ (ds es : List Dv) (ps qs : List PyData), (∀ d, d ∈ ds → P d) → (∀ e, e ∈ es → ∃ m, Pln m e) → pyDs ds = some ps → pyDs es = some qs → (PyData.eqvAll ps qs = true ↔ ds = es)
  | [], [], ps, qs, _, _, h1, h2 => by
    unfold pyDs at h1 h2
    cases h1; cases h2
    exact ⟨fun _ => rfl, fun _ => rfl⟩
  | [], e :: es, ps, qs, _, _, h1, h2 => by
    unfold pyDs at h1 h2
    cases h1
    split at h2
    · cases h2
      exact ⟨fun z => by simp [PyData.eqvAll] at z, fun z => by cases z⟩
    · cases h2
  | d :: ds, [], ps, qs, _, _, h1, h2 => by
    unfold pyDs at h1 h2
    cases h2
    split at h1
    · cases h1
      exact ⟨fun z => by simp [PyData.eqvAll] at z, fun z => by cases z⟩
    · cases h1
  | d :: ds, e :: es, ps, qs, hd, he, h1, h2 => by
    unfold pyDs at h1 h2
    split at h1
    · rename_i p ps' a1 a2
      cases h1
      split at h2
      · rename_i q qs' b1 b2
        cases h2
        have r1 := ih d e p q (hd d List.mem_cons_self) a1 b1 (he e List.mem_cons_self)
        have r2 := plns_eqv ih ds es ps' qs' (fun x hx => hd x (List.mem_cons_of_mem _ hx)) (fun x hx => he x (List.mem_cons_of_mem _ hx)) a2 b2
        simp only [PyData.eqvAll, Bool.and_eq_true, List.cons.injEq]
        rw [r1, r2]
      · cases h2
    · cases h1
theorem pln_eqv : ∀ (n : Nat) (d e : Dv) (p q : PyData), Pln n d → pyD d = some p → pyD e = some q → (∃ m, Pln m e) → (PyData.eqv p q = true ↔ d = e)
  | n, d, e, p, q, h1, a1, a2, ⟨m, h2⟩ => by
    have k1 := h1.kind a1
    have k2 := h2.kind a2
    clear h1 h2 a1 a2
    cases k1 with
    | non => cases k2 <;> simp [PyData.eqv]
    | int i => cases k2 <;> simp [PyData.eqv]
    | str x => cases k2 <;> simp [PyData.eqv]
    | tup hd e1 =>
      cases k2 with
      | tup he e2 =>
        rename_i n ds ps m es qs
        have := plns_eqv (P := Pln n) (fun d e p q h a1 a2 h2 => pln_eqv n d e p q h a1 a2 h2) ds es ps qs hd (fun e h => ⟨_, he e h⟩) e1 e2
        simp only [PyData.eqv, Dv.tup.injEq]
        exact this
      | _ => simp [PyData.eqv]
    | lst hd e1 =>
      cases k2 with
      | lst he e2 =>
        rename_i n ds ps m es qs
        have := plns_eqv (P := Pln n) (fun d e p q h a1 a2 h2 => pln_eqv n d e p q h a1 a2 h2) ds es ps qs hd (fun e h => ⟨_, he e h⟩) e1 e2
        simp only [PyData.eqv, Dv.lst.injEq]
        exact this
      | _ => simp [PyData.eqv]
theorem Pln.shp {n : Nat} {d : Dv} (h : Pln n d) (hn : n ≤ 64) : ∃ p, pyD d = some p ∧ SeqAt.shaped p = true := by
  obtain ⟨p, e, h1, h2⟩ := pln_py h
  exact ⟨p, e, by unfold SeqAt.shaped; rw [h1, decide_eq_true (by omega)]; rfl⟩
theorem pln_dq {n m : Nat} {d e : Dv} {p q : PyData} (h1 : Pln n d) (h2 : Pln m e) (a1 : pyD d = some p) (a2 : pyD e = some q) : PyData.eqv p q = dq d e := by
  have := pln_eqv n d e p q h1 a1 a2 ⟨m, h2⟩
  rw [Bool.eq_iff_iff, this, dq_iff]
/-- what is seen of a thing, as the library's data -/
theorem vw_py {K : PySem.W.Frag} {M : Mo} {H : Hp} (s : SR K M H) {d e : Dv} (w : Vw M d e) : ∀ {v : V} {p : PyData}, RD K H d v → pyD e = some p → Dp K H v p := by
  have all : ∀ (ds es : List Dv) (vs : List V) (ps : List PyData), ds.length = es.length → (∀ (i : Nat) (d e : Dv), ds[i]? = some d → es[i]? = some e → ∀ {v : V} {p : PyData}, RD K H d v → pyD e = some p → Dp K H v p) → RDs K H ds vs → pyDs es = some ps → DpAll K H vs ps := by
    intro ds
    induction ds with
    | nil =>
      intro es vs ps l _ r e
      cases es with
      | nil =>
        unfold RDs at r
        unfold pyDs at e
        subst r
        cases e
        exact .nil
      | cons _ _ => simp at l
    | cons d ds ih =>
      intro es vs ps l h r e
      cases es with
      | nil => simp at l
      | cons x es =>
        unfold RDs at r
        obtain ⟨v, w, rfl, r1, r2⟩ := r
        unfold pyDs at e
        split at e
        · rename_i p ps' a1 a2
          cases e
          exact .cons (h 0 d x rfl rfl r1 a1) (ih es w ps' (by simpa using l) (fun i d e h1 h2 => h (i + 1) d e (by simpa using h1) (by simpa using h2)) r2 a2)
        · cases e
  induction w with
  | non => intro v p r h; unfold pyD at h; cases h; rw [r.non_of]; exact .non
  | bl b => intro v p r h; unfold pyD at h; cases h; rw [r.bl_of]; exact .bl b
  | int i => intro v p r h; unfold pyD at h; cases h; rw [r.int_of]; exact .int i
  | str x => intro v p r h; unfold pyD at h; cases h; rw [r.str_of]; exact .str x
  | tup l h ih =>
    intro v p r e
    obtain ⟨ps, e1, rfl⟩ := pyD_tup e
    unfold RD at r
    obtain ⟨a, vs, rfl, sq, q⟩ := r
    exact .tup sq (all _ _ _ _ l ih q e1)
  | lst l h ih =>
    intro v p r e
    obtain ⟨ps, e1, rfl⟩ := pyD_lst e
    unfold RD at r
    obtain ⟨a, vs, rfl, sq, q⟩ := r
    exact .lst sq.seq (all _ _ _ _ l ih q e1)
  | own m l h ih =>
    intro v p r e
    obtain ⟨ps, e1, rfl⟩ := pyD_lst e
    have o := s _ _ m
    simp only [Own] at o
    obtain ⟨vs, hv, q⟩ := o
    rw [r.ref_of]
    exact .lst (.inl (.inl hv)) (all _ _ _ _ l ih q e1)
/-- d == e of what is seen -/
def dEqV (g : Bool → Bool) : R2d := fun d e M Q => ∃ d' e', Vw M d d' ∧ Vw M e e' ∧ Pln 60 d' ∧ Pln 60 e' ∧ Q (.bl (g (dq d' e'))) M
section
variable {X : Cx}
theorem od_eqV (hu : X.A.units + 64 < cLine) : OpR X (compareOp .Eq) (L2op X.K (dEqV id)) := by
  refine opd_I (op_eqD hu) fun d e M Qd x y H Q r1 r2 sr q c => ?_
  obtain ⟨d', e', w1, w2, p1, p2, q⟩ := q
  obtain ⟨p, a1, s1⟩ := p1.shp (by omega)
  obtain ⟨p', a2, s2⟩ := p2.shp (by omega)
  refine ⟨p, p', vw_py sr w1 r1 a1, vw_py sr w2 r2 a2, s1, s2, c _ M _ H (.refl sr) .bl ?_⟩
  rw [pln_dq p1 p2 a1 a2]
  exact q
theorem od_neV (hu : X.A.units + 64 < cLine) : OpR X (compareOp .NotEq) (L2op X.K (dEqV (!·))) := by
  refine opd_I (op_neD hu) fun d e M Qd x y H Q r1 r2 sr q c => ?_
  obtain ⟨d', e', w1, w2, p1, p2, q⟩ := q
  obtain ⟨p, a1, s1⟩ := p1.shp (by omega)
  obtain ⟨p', a2, s2⟩ := p2.shp (by omega)
  refine ⟨p, p', vw_py sr w1 r1 a1, vw_py sr w2 r2 a2, s1, s2, c _ M _ H (.refl sr) .bl ?_⟩
  rw [pln_dq p1 p2 a1 a2]
  exact q
end
section
variable {M : Mo} {Q : QD} {d e d' e' : Dv} {a p : Addr} {ds es : List Dv} {o : OO}
theorem i_eqV {g : Bool → Bool} (w1 : Vw M d d') (w2 : Vw M e e') (p1 : Pln 60 d') (p2 : Pln 60 e') (h : Q (.bl (g (dq d' e'))) M) : dEqV g d e M Q := ⟨d', e', w1, w2, p1, p2, h⟩
theorem i_eqP (h1 : Pln 60 d) (h2 : Pln 60 e) (h : Q (.bl (dq d e)) M) : dEq d e M Q := by
  obtain ⟨p, a1, s1⟩ := h1.shp (by omega)
  obtain ⟨q, a2, s2⟩ := h2.shp (by omega)
  have b1 : pyM M d = some p := by
    cases d with
    | ref a => exact h1.elim
    | _ => exact a1
  have b2 : pyM M e = some q := by
    cases e with
    | ref a => exact h2.elim
    | _ => exact a2
  have hq := pln_dq h1 h2 a1 a2
  unfold dEq
  split
  · rw [show decide (_ = _) = dq _ _ from by rw [Bool.eq_iff_iff, dq_iff, decide_eq_true_eq, Dv.int.injEq]]; exact h
  · rw [show decide (_ = _) = dq _ _ from by rw [Bool.eq_iff_iff, dq_iff, decide_eq_true_eq, Dv.str.injEq]]; exact h
  · exact h1.elim
  · simp only [b1, b2]
    rw [hq]
    exact ⟨s1, s2, h⟩
theorem i_neP (h1 : Pln 60 d) (h2 : Pln 60 e) (h : Q (.bl (!dq d e)) M) : dNe d e M Q := by
  obtain ⟨p, a1, s1⟩ := h1.shp (by omega)
  obtain ⟨q, a2, s2⟩ := h2.shp (by omega)
  have b1 : pyM M d = some p := by
    cases d with
    | ref a => exact h1.elim
    | _ => exact a1
  have b2 : pyM M e = some q := by
    cases e with
    | ref a => exact h2.elim
    | _ => exact a2
  have hq := pln_dq h1 h2 a1 a2
  unfold dNe
  split
  · rw [show decide (_ = _) = dq _ _ from by rw [Bool.eq_iff_iff, dq_iff, decide_eq_true_eq, Dv.int.injEq]]; exact h
  · rw [show decide (_ = _) = dq _ _ from by rw [Bool.eq_iff_iff, dq_iff, decide_eq_true_eq, Dv.str.injEq]]; exact h
  · exact h1.elim
  · simp only [b1, b2]
    rw [hq]
    exact ⟨s1, s2, h⟩
theorem i_dq {A B : Prop} (h1 : d = e → A) (h2 : d ≠ e → B) : if dq d e = true then A else B := by
  by_cases h : d = e
  · rw [dq_of h]; exact h1 h
  · rw [dq_ne h]; exact iteF (h2 h)
theorem i_dqn {A B : Prop} (h1 : d ≠ e → A) (h2 : d = e → B) : if (!dq d e) = true then A else B := by
  by_cases h : d = e
  · rw [dq_of h]; exact iteF (h2 h)
  · rw [dq_ne h]; exact h1 h
/-- shown trees, piece by piece -/
inductive VwL (M : Mo) : List Dv → List Dv → Prop where
  | nil : VwL M [] []
  | cons {d e : Dv} {ds es : List Dv} (h : Vw M d e) (r : VwL M ds es) : VwL M (d :: ds) (e :: es)
theorem VwL.len {M : Mo} {ds es : List Dv} (h : VwL M ds es) : ds.length = es.length := by
  induction h with
  | nil => rfl
  | cons h r ih => simp [ih]
theorem VwL.at {M : Mo} {ds es : List Dv} (h : VwL M ds es) : ∀ (i : Nat) (d e : Dv), ds[i]? = some d → es[i]? = some e → Vw M d e := by
  induction h with
  | nil => intro i d e h; simp at h
  | cons h r ih =>
    intro i d e h1 h2
    cases i with
    | zero => simp at h1 h2; subst h1; subst h2; exact h
    | succ i => exact ih i d e (by simpa using h1) (by simpa using h2)
theorem VwL.lst {M : Mo} {ds es : List Dv} (h : VwL M ds es) : Vw M (.lst ds) (.lst es) := .lst h.len h.at
theorem VwL.tup {M : Mo} {ds es : List Dv} (h : VwL M ds es) : Vw M (.tup ds) (.tup es) := .tup h.len h.at
theorem VwL.own {M : Mo} {a : Addr} {ds es : List Dv} (m : M a = some (.lst ds)) (h : VwL M ds es) : Vw M (.ref a) (.lst es) := .own m h.len h.at
theorem vwl_self {M : Mo} : ∀ {n : Nat} {ds : List Dv}, (∀ d, d ∈ ds → Pln n d) → VwL M ds ds
  | _, [], _ => .nil
  | n, d :: ds, h => .cons (h d List.mem_cons_self).vw (vwl_self fun e he => h e (List.mem_cons_of_mem _ he))
theorem pln_strs {n : Nat} {zs : List Str} (h : ∀ z, z ∈ zs → GoodS z) : ∀ d, d ∈ zs.map Dv.str → Pln n d := fun d hd => by
  obtain ⟨z, hz, rfl⟩ := List.mem_map.mp hd
  cases n <;> exact h z hz
theorem pln_nil {n : Nat} : ∀ d, d ∈ ([] : List Dv) → Pln n d := fun d hd => by cases hd
theorem pln_cons {n : Nat} {e : Dv} {ds : List Dv} (h : Pln n e) (r : ∀ d, d ∈ ds → Pln n d) : ∀ d, d ∈ e :: ds → Pln n d := fun d hd => by
  rcases List.mem_cons.mp hd with rfl | hd
  · exact h
  · exact r d hd
/-- what is seen, later on -/
theorem Vw.to {M M' : Mo} {d e : Dv} (h : Vw M d e) (s : ∀ a ds, M a = some (.lst ds) → M' a = some (.lst ds)) : Vw M' d e := by
  induction h with
  | non => exact .non
  | bl b => exact .bl b
  | int i => exact .int i
  | str x => exact .str x
  | tup l h ih => exact .tup l ih
  | lst l h ih => exact .lst l ih
  | own m l h ih => exact .own (s _ _ m) l ih
theorem Vw.new (h : Vw M d e) (hp : M p = none) : Vw (mup M p o) d e := h.to fun a ds q => by rw [mup_ne (mne2 hp q)]; exact q
theorem Vw.ins {c : Str} {fs : List (Str × Dv)} (h : Vw M d e) (hp : M p = some (.ins c fs)) : Vw (mup M p o) d e := h.to fun a ds q => by
  have : a ≠ p := fun z => by subst z; rw [hp] at q; cases q
  rw [mup_ne this]; exact q
theorem i_isiR {b : String} (h1 : M a = some (.lst ds)) (hk : knownT b = true) (q : Q (.bl (isiB "list" b)) M) : dIsi [.ref a, .ty b] M Q := i_isi (e_tyNR h1) hk q
end
/-! comprehensions over a list that may be owned -/
section
variable {M : Mo} {ds : List Dv} {g : Tgt} {tt : TTD} {te : TED} {sw : StD} {F : List Dv → Mo → Prop} {i : Nat} {d y : Dv} {ok : Mo → Prop}
theorem lk_mapO (f : Dv → Dv) (hn : ds.length ≤ 16777216) (hok : ok M)
    (hs : ∀ i d, ds[i]? = some d → dG g d sw M fun sd2 M2 => tt sd2 M2 fun b M3 => if b = true then te sd2 M3 fun y M4 => M4 = M ∧ (ds.take i).map f ++ [y] = (ds.take (i + 1)).map f else M3 = M ∧ (ds.take i).map f = (ds.take (i + 1)).map f) (hd : F (ds.map f) M) : kLc ⟨ds, ok⟩ g tt te sw F M := by
  refine ⟨hn, fun i acc M' => M' = M ∧ acc = (ds.take i).map f, ⟨rfl, by simp⟩, fun _ _ _ _ h => by rw [h.1]; exact hok, fun i d acc M' h1 h2 => ?_, fun acc M' h1 h2 => ?_⟩
  · rintro ⟨rfl, rfl⟩
    exact hs i d h1
  · obtain ⟨rfl, rfl⟩ := h2
    rw [List.take_of_length_le (Nat.le_refl _)]
    exact hd
theorem lk_fmapO (f : Dv → Option Dv) (hn : ds.length ≤ 16777216) (hok : ok M)
    (hs : ∀ i d, ds[i]? = some d → dG g d sw M fun sd2 M2 => tt sd2 M2 fun b M3 => if b = true then te sd2 M3 fun y M4 => M4 = M ∧ (ds.take i).filterMap f ++ [y] = (ds.take (i + 1)).filterMap f else M3 = M ∧ (ds.take i).filterMap f = (ds.take (i + 1)).filterMap f) (hd : F (ds.filterMap f) M) : kLc ⟨ds, ok⟩ g tt te sw F M := by
  refine ⟨hn, fun i acc M' => M' = M ∧ acc = (ds.take i).filterMap f, ⟨rfl, by simp⟩, fun _ _ _ _ h => by rw [h.1]; exact hok, fun i d acc M' h1 h2 => ?_, fun acc M' h1 h2 => ?_⟩
  · rintro ⟨rfl, rfl⟩
    exact hs i d h1
  · obtain ⟨rfl, rfl⟩ := h2
    rw [List.take_of_length_le (Nat.le_refl _)]
    exact hd
theorem lt_ {es : List Dv} {e : Dv} (h : es[i]? = some e) : es.take i ++ [e] = es.take (i + 1) := by rw [List.take_add_one, h]; rfl
/-- the list that comes of it is told -/
theorem lk_toO (es : List Dv) (hl : ds.length = es.length) (hn : ds.length ≤ 16777216) (hok : ok M)
    (hs : ∀ i d e, ds[i]? = some d → es[i]? = some e → dG g d sw M fun sd2 M2 => tt sd2 M2 fun b M3 => if b = true then te sd2 M3 fun y M4 => M4 = M ∧ es.take i ++ [y] = es.take (i + 1) else M3 = M ∧ es.take i = es.take (i + 1)) (hd : F es M) : kLc ⟨ds, ok⟩ g tt te sw F M := by
  refine ⟨hn, fun i acc M' => M' = M ∧ acc = es.take i, ⟨rfl, by simp⟩, fun _ _ _ _ h => by rw [h.1]; exact hok, fun i d acc M' h1 h2 => ?_, fun acc M' h1 h2 => ?_⟩
  · rintro ⟨rfl, rfl⟩
    have hi : i < ds.length := (List.getElem?_eq_some_iff.mp h1).1
    exact hs i d _ h1 (List.getElem?_eq_getElem (by omega))
  · obtain ⟨rfl, rfl⟩ := h2
    have e : es.take (ItD.mk ds ok).ds.length = es := List.take_of_length_le (by show es.length ≤ ds.length; omega)
    rw [e]
    exact hd
end
theorem idx_get {l : List Nat} {c : Nat} (h : c ∈ l) : l[l.idxOf c]? = some c := by
  have hi := List.idxOf_lt_length_of_mem h
  rw [List.getElem?_eq_getElem hi, List.getElem_idxOf]
theorem idx_first {l : List Nat} {c j : Nat} (hj : j < l.idxOf c) : l[j]? ≠ some c := fun e => by
  have := List.not_of_lt_findIdx hj
  obtain ⟨hj2, e2⟩ := List.getElem?_eq_some_iff.mp e
  simp [e2] at this
/-! loops that keep the store -/
section
variable {ds : List Dv} {g : TGD} {tb : TSD} {a : StD → Mo → Prop} {r : QD} {sd : StD} {M : Mo} {ok : Mo → Prop}
theorem fo_anyK (W : Nat → StD → Prop) (hok : ok M) (h0 : W 0 sd)
    (hs : ∀ i d sd, ds[i]? = some d → W i sd → g d sd M fun sd2 M2 => tb ⟨fun sd M' => W (i + 1) sd ∧ M' = M, r, a, fun sd M' => W (i + 1) sd ∧ M' = M⟩ sd2 M2) (hd : ∀ sd, W ds.length sd → a sd M) :
    kFor ⟨ds, ok⟩ g tb a r sd M :=
  ⟨fun i sd M' => W i sd ∧ M' = M, ⟨h0, rfl⟩, fun _ _ _ _ h => by rw [h.2]; exact hok, fun i d sd M' he hw => by obtain ⟨hw, rfl⟩ := hw; exact hs i d sd he hw, fun sd M' hw => by obtain ⟨hw, rfl⟩ := hw; exact hd sd hw⟩
end
theorem tyN_seq {M : Mo} {d : Dv} {ds : List Dv} (h : seqL M d = some ds) : tyN M d = some "list" := by
  cases d with
  | lst xs => rfl
  | ref a =>
    unfold seqL at h
    dsimp only at h
    split at h
    · rename_i e
      unfold tyN
      simp only [e]
    · cases h
  | _ => cases h
theorem isN_seq {M : Mo} {d : Dv} {ds : List Dv} (h : seqL M d = some ds) : isN d = false := by
  cases d with
  | non => cases h
  | _ => rfl
theorem kEnG {M : Mo} {d : Dv} {ds : List Dv} {F : List Dv → (Mo → Prop) → Prop} (h : seqL M d = some ds) (q : ∀ ok, ok M → F (enumD 0 ds) ok) : kEn M [d] F := by
  cases d with
  | lst xs => cases h; exact q _ trivial
  | ref a =>
    unfold seqL at h
    dsimp only at h
    split at h
    · rename_i e
      cases h
      unfold kEn
      simp only [e]
      exact q _ e
    · cases h
  | _ => cases h
theorem kSqG {M : Mo} {d : Dv} {ds : List Dv} {F : List Dv → (Mo → Prop) → Prop} (h : seqL M d = some ds) (q : ∀ ok, ok M → F ds ok) : kSq M d F := by
  cases d with
  | lst xs => cases h; exact q _ trivial
  | ref a =>
    unfold seqL at h
    dsimp only at h
    split at h
    · rename_i e
      cases h
      unfold kSq
      simp only [e]
      exact q _ e
    · cases h
  | _ => cases h
theorem seq_new {M : Mo} {d : Dv} {ds : List Dv} {p : Addr} {o : OO} (h : seqL M d = some ds) (hp : M p = none) : seqL (mup M p o) d = some ds := by
  cases d with
  | lst xs => exact h
  | ref a =>
    unfold seqL at h ⊢
    dsimp only at h ⊢
    split at h
    · rename_i e
      rw [mup_ne (mne2 hp e), e]
      exact h
    · cases h
  | _ => cases h
theorem seq_ins {M : Mo} {d : Dv} {ds : List Dv} {p : Addr} {o : OO} {c : Str} {fs : List (Str × Dv)} (h : seqL M d = some ds) (hp : M p = some (.ins c fs)) : seqL (mup M p o) d = some ds := by
  cases d with
  | lst xs => exact h
  | ref a =>
    unfold seqL at h ⊢
    dsimp only at h ⊢
    split at h
    · rename_i e
      have : a ≠ p := fun z => by subst z; rw [hp] at e; cases e
      rw [mup_ne this, e]
      exact h
    · cases h
  | _ => cases h
theorem vw_str {M : Mo} {d : Dv} {x : Str} (h : Vw M d (.str x)) : d = .str x := by cases h; rfl
theorem vw_int {M : Mo} {d : Dv} {i : Int} (h : Vw M d (.int i)) : d = .int i := by cases h; rfl
theorem vw_non {M : Mo} {d : Dv} (h : Vw M d .non) : d = .non := by cases h; rfl
theorem vw_tup {M : Mo} {d : Dv} {es : List Dv} (h : Vw M d (.tup es)) : ∃ ds, d = .tup ds ∧ VwL M ds es := by
  cases h with
  | @tup ds _ l h =>
    refine ⟨ds, rfl, ?_⟩
    have go : ∀ (ds es : List Dv), ds.length = es.length → (∀ (i : Nat) d e, ds[i]? = some d → es[i]? = some e → Vw M d e) → VwL M ds es := by
      intro ds
      induction ds with
      | nil => intro es l h; cases es with
        | nil => exact .nil
        | cons _ _ => simp at l
      | cons d ds ih => intro es l h; cases es with
        | nil => simp at l
        | cons e es => exact .cons (h 0 d e rfl rfl) (ih es (by simpa using l) fun i d e h1 h2 => h (i + 1) d e (by simpa using h1) (by simpa using h2))
    exact go ds es l h
theorem vw_lst {M : Mo} {d : Dv} {es : List Dv} (h : Vw M d (.lst es)) : ∃ ds, seqL M d = some ds ∧ VwL M ds es := by
  have go : ∀ (ds es : List Dv), ds.length = es.length → (∀ (i : Nat) d e, ds[i]? = some d → es[i]? = some e → Vw M d e) → VwL M ds es := by
    intro ds
    induction ds with
    | nil => intro es l h; cases es with
      | nil => exact .nil
      | cons _ _ => simp at l
    | cons d ds ih => intro es l h; cases es with
      | nil => simp at l
      | cons e es => exact .cons (h 0 d e rfl rfl) (ih es (by simpa using l) fun i d e h1 h2 => h (i + 1) d e (by simpa using h1) (by simpa using h2))
  cases h with
  | @lst ds _ l h => exact ⟨ds, rfl, go ds es l h⟩
  | @own a ds _ m l h => exact ⟨ds, e_seqR m, go ds es l h⟩
theorem vwl_two {M : Mo} {ds : List Dv} {a b : Dv} (h : VwL M ds [a, b]) : ∃ x y, ds = [x, y] ∧ Vw M x a ∧ Vw M y b := by
  cases h with
  | cons h r => cases r with
    | cons h2 r => cases r; exact ⟨_, _, rfl, h, h2⟩
theorem VwL.get {M : Mo} {ds es : List Dv} (h : VwL M ds es) {i : Nat} {d : Dv} (hd : ds[i]? = some d) : ∃ e, es[i]? = some e ∧ Vw M d e := by
  have hi := (List.getElem?_eq_some_iff.mp hd).1
  have l := h.len
  exact ⟨es[i], List.getElem?_eq_getElem (by omega), h.at i d _ hd (List.getElem?_eq_getElem (by omega))⟩
/-- trees without lists are seen as they are -/
theorem vwl_eq {M : Mo} {ds es : List Dv} (h : VwL M ds es) (he : ∀ d e, e ∈ es → Vw M d e → d = e) : ds = es := by
  induction h with
  | nil => rfl
  | cons h r ih =>
    rw [he _ _ List.mem_cons_self h, ih fun d e hm hv => he d e (List.mem_cons_of_mem _ hm) hv]
theorem VwL.to {M M' : Mo} {ds es : List Dv} (h : VwL M ds es) (s : ∀ a ds, M a = some (.lst ds) → M' a = some (.lst ds)) : VwL M' ds es := by
  induction h with
  | nil => exact .nil
  | cons h r ih => exact .cons (h.to s) ih
theorem VwL.new {M : Mo} {p : Addr} {o : OO} {ds es : List Dv} (h : VwL M ds es) (hp : M p = none) : VwL (mup M p o) ds es := h.to fun a ds q => by rw [mup_ne (mne2 hp q)]; exact q
theorem VwL.snoc {M : Mo} {ds es : List Dv} {d e : Dv} (h : VwL M ds es) (h2 : Vw M d e) : VwL M (ds ++ [d]) (es ++ [e]) := by
  induction h with
  | nil => exact .cons h2 .nil
  | cons h r ih => exact .cons h ih
end DL

namespace DL
open PySem PySem.Spec PyProof.Rows L2
/-! ### a list of ints -/
def intsOf : List Dv → Option (List Int)
  | [] => some []
  | .int i :: ds => (intsOf ds).map (i :: ·)
  | _ => none
theorem intsOf_ok {K : PySem.W.Frag} {H : Hp} : ∀ {ds : List Dv} {vs : List V} {ns : List Int}, RDs K H ds vs → intsOf ds = some ns → vs = ns.map V.int
  | [], vs, bs, r, h => by unfold intsOf at h; cases h; exact r.zero
  | d :: ds, vs, bs, r, h => by
    unfold RDs at r
    obtain ⟨v, w, rfl, r1, r2⟩ := r
    cases d with
    | int b =>
      unfold intsOf at h
      cases q : intsOf ds with
      | none => rw [q] at h; cases h
      | some cs =>
        rw [q] at h
        cases h
        rw [r1.int_of, intsOf_ok r2 q]
        rfl
    | _ => unfold intsOf at h; cases h
theorem intsOf_map (ns : List Int) : intsOf (ns.map Dv.int) = some ns := by
  induction ns with
  | nil => rfl
  | cons n ns ih => simp [intsOf, ih]
theorem rds_ints {K : PySem.W.Frag} {H : Hp} : ∀ (ns : List Int), RDs K H (ns.map Dv.int) (ns.map V.int)
  | [] => RDs.nil
  | n :: ns => RDs.cons .int (rds_ints ns)
/-! ### max(xs, default=d) -/
theorem max_dflt (a v : Value) : argsOk "max" ⟨[a], [(Str.ofString "default", v)]⟩ := by unfold argsOk; kernel_rfl
section
variable {prog : Program} {w : World} {A : Around} {R : Result → Shared → Prop} {I : Addr} {fp wr : List Addr} {n : Nat} {P : Nat → Value → Prop} {St : Nat → Heap → Prop}
theorem maxK_loop (kw : List (Str × Value)) (W : Walks prog w A.in1 I fp wr n P St) (bt : Nat → Nat → Bool) (hcmp : CmpOf prog w A.in1 .Gt P bt) (S : Addr) (hSf : S ∉ fp) :
    ∀ (k j : Nat) (s : Shared) (vb : Value) (c : Nat), n - (j + 1) = k → j + 1 ≤ n → St (j + 1) s.heap → P (argBest bt j) vb →
    s.heap.get? S = some { cls := .type "list", dict := none, data := .seq #[vb, vb] c, slots := #[] } →
    (∀ v h' tk, P (argBest bt (n - 1)) v → (∀ b o, b ∉ wr → b ≠ S → s.heap.get? b = some o → h'.get? b = some o) → R (.ok (.ret v)) { s with heap := h', toks := tk }) →
    codeAny (model prog w) A (.builtin "max.loop" ⟨[.ref I, .none, .ref S], kw⟩) R s := by
  have hSw : S ∉ wr := fun h => hSf (W.sub _ h)
  have hname : (toString "max" ++ toString ".loop" : String) = "max.loop" := by decide
  intro k
  induction k with
  | zero =>
    intro j s vb c hk hj hst hPb hS hR
    have hin : j + 1 = n := by omega
    refine codeAny_builtin PySem.F.entry_max_loop ?_
    rw [Around.under_plainId PySem.F.plain_max_loop _]
    show wpAny _ A.in1 (seqItems? (.ref S) >>= _) _ _ s
    refine wpAny_bind (wpAny_seqItems hS rfl ?_)
    show wpAny _ A.in1 (tryCatch (pyNext (.ref I)) _ >>= _) _ _ s
    refine wpAny_bind (wpAny_tryCatch (W.done s _ _ (hin ▸ hst) fun h' tk hk' => ?_))
    have hS' := hk' S _ hSw hS
    show wpAny _ A.in1 (updateSeq S (fun _ => #[]) >>= _) _ _ _
    refine wpAny_bind ?_
    refine wpAny_updateSeq hS' rfl (wpAny_bind (wpAny_letGo (wpAny_pure ?_)))
    refine hR vb _ tk (by rw [← hin]; exact hPb) fun b o hbw hbS e => (Heap.get?_update_other _ _ (Ne.symm hbS)).trans (hk' b o hbw e)
  | succ k ih =>
    intro j s vb c hk hj hst hPb hS hR
    have hlt : j + 1 < n := by omega
    refine codeAny_builtin PySem.F.entry_max_loop ?_
    rw [Around.under_plainId PySem.F.plain_max_loop _]
    show wpAny _ A.in1 (seqItems? (.ref S) >>= _) _ _ s
    refine wpAny_bind (wpAny_seqItems hS rfl ?_)
    show wpAny _ A.in1 (tryCatch (pyNext (.ref I)) _ >>= _) _ _ s
    refine wpAny_bind (wpAny_tryCatch (W.item (j + 1) s _ _ hlt hst fun v h' tk hP hst' hk' => ?_))
    have hS' := hk' S _ hSw hS
    show wpAny _ A.in1 (tryCatch (holding [v, v] (richCompare .Gt v vb >>= _)) _ >>= _) _ _ _
    refine wpAny_bind (wpAny_tryCatch (wpAny_holding (wpAny_bind (hcmp (j + 1) (argBest bt j) v vb _ _ _ hP hPb ?_))))
    refine wpAny_bind (wpAny_holding (wpAny_truthy_bool ?_))
    refine wpAny_bind (wpAny_letGo (wpAny_pure ?_))
    cases hb : bt (j + 1) (argBest bt j) with
    | true =>
      simp only [if_true]
      refine wpAny_bind ?_
      refine wpAny_updateSeq hS' rfl (wpAny_bind (wpAny_letGo ?_))
      rw [hname]
      refine wpAny_pure ⟨plainId_quiet PySem.F.plain_max_loop _, ih (j + 1) _ v _ (by omega) hlt (W.frame _ _ _ hst' fun b hbf o e => ?_) (by simp only [argBest, hb, if_true]; exact hP) (Heap.get?_update_self _ hS' rfl)
        fun v' h'' tk'' hP' hk'' => ?_⟩
      · exact (Heap.get?_update_other _ _ (fun h : S = b => hSf (by rw [h]; exact hbf))).trans e
      · exact hR v' h'' tk'' hP' fun b o hbw hbS e => hk'' b o hbw hbS ((Heap.get?_update_other _ _ (Ne.symm hbS)).trans (hk' b o hbw e))
    | false =>
      simp only [Bool.false_eq_true, if_false]
      refine wpAny_bind (wpAny_letGo ?_)
      rw [hname]
      refine wpAny_pure ⟨plainId_quiet PySem.F.plain_max_loop _, ih (j + 1) _ vb c (by omega) hlt hst' (by simp only [argBest, hb, Bool.false_eq_true, if_false]; exact hPb) hS' fun v' h'' tk'' hP' hk'' => ?_⟩
      exact hR v' h'' tk'' hP' fun b o hbw hbS e => hk'' b o hbw hbS (hk' b o hbw e)
theorem maxK_first (kw : List (Str × Value)) (W : Walks prog w A.in1 I fp wr n P St) (bt : Nat → Nat → Bool) (hcmp : CmpOf prog w A.in1 .Gt P bt) (S : Addr) (hSf : S ∉ fp) (hn : 0 < n) {s : Shared} {c : Nat} (hst : St 0 s.heap)
    (hS : s.heap.get? S = some { cls := .type "list", dict := none, data := .seq #[] c, slots := #[] })
    (hR : ∀ v h' tk, P (argBest bt (n - 1)) v → (∀ b o, b ∉ wr → b ≠ S → s.heap.get? b = some o → h'.get? b = some o) → R (.ok (.ret v)) { s with heap := h', toks := tk }) :
    codeAny (model prog w) A (.builtin "max.loop" ⟨[.ref I, .none, .ref S], kw⟩) R s := by
  have hSw : S ∉ wr := fun h => hSf (W.sub _ h)
  have hname : (toString "max" ++ toString ".loop" : String) = "max.loop" := by decide
  refine codeAny_builtin PySem.F.entry_max_loop ?_
  rw [Around.under_plainId PySem.F.plain_max_loop _]
  show wpAny _ A.in1 (seqItems? (.ref S) >>= _) _ _ s
  refine wpAny_bind (wpAny_seqItems hS rfl ?_)
  show wpAny _ A.in1 (tryCatch (pyNext (.ref I)) _ >>= _) _ _ s
  refine wpAny_bind (wpAny_tryCatch (W.item 0 s _ _ hn hst fun v h' tk hP hst' hk' => ?_))
  have hS' := hk' S _ hSw hS
  show wpAny _ A.in1 (updateSeq S (fun _ => #[v, v]) >>= _) _ _ _
  refine wpAny_bind ?_
  refine wpAny_updateSeq hS' rfl ?_
  rw [hname]
  refine wpAny_pure ⟨plainId_quiet PySem.F.plain_max_loop _, maxK_loop kw W bt hcmp S hSf _ 0 _ v _ rfl hn (W.frame _ _ _ hst' fun b hbf o e => ?_) hP (Heap.get?_update_self _ hS' rfl) fun v' h'' tk'' hP' hk'' => ?_⟩
  · exact (Heap.get?_update_other _ _ (fun h : S = b => hSf (by rw [h]; exact hbf))).trans e
  · exact hR v' h'' tk'' hP' fun b o hbw hbS e => hk'' b o hbw hbS ((Heap.get?_update_other _ _ (Ne.symm hbS)).trans (hk' b o hbw e))
theorem maxK_none (d : Value) (W : Walks prog w A.in1 I fp wr n P St) (S : Addr) (hSf : S ∉ fp) (hn : n = 0) {s : Shared} {c : Nat} (hst : St 0 s.heap)
    (hS : s.heap.get? S = some { cls := .type "list", dict := none, data := .seq #[] c, slots := #[] })
    (hR : ∀ h' tk, (∀ b o, b ∉ wr → b ≠ S → s.heap.get? b = some o → h'.get? b = some o) → R (.ok (.ret d)) { s with heap := h', toks := tk }) :
    codeAny (model prog w) A (.builtin "max.loop" ⟨[.ref I, .none, .ref S], [(Str.ofString "default", d)]⟩) R s := by
  have hSw : S ∉ wr := fun h => hSf (W.sub _ h)
  refine codeAny_builtin PySem.F.entry_max_loop ?_
  rw [Around.under_plainId PySem.F.plain_max_loop _]
  show wpAny _ A.in1 (seqItems? (.ref S) >>= _) _ _ s
  refine wpAny_bind (wpAny_seqItems hS rfl ?_)
  show wpAny _ A.in1 (tryCatch (pyNext (.ref I)) _ >>= _) _ _ s
  refine wpAny_bind (wpAny_tryCatch (W.done s _ _ (hn ▸ hst) fun h' tk hk' => ?_))
  show wpAny _ A.in1 (PySem.rule _ >>= _) _ _ _
  refine wpAny_bind (wpAny_rule ?_)
  exact wpAny_pure (hR h' tk fun b o hbw hbS e => hk' b o hbw e)
end
section
variable {prog : Program} {w : World} {A : Around} {E : Value → Shared → Prop} {s : Shared} {l : Addr}
theorem max_dflt_raw {its : List Value} {ns : List Int} {d : Value} {Q : Value → Shared → Prop} (hh : A.handled = none) (hl : s.heap.IsList l its.toArray) (hi : IntsAre its ns)
    (h0 : ns = [] → ∀ h' tk, (∀ b o, s.heap.get? b = some o → h'.get? b = some o) → Q d { s with heap := h', toks := tk })
    (h : 0 < ns.length → ∀ h' tk M t', (∀ b o, s.heap.get? b = some o → h'.get? b = some o) → M ∈ ns → (∀ a, a ∈ ns → a ≤ M) → Q (.int M t') { s with heap := h', toks := tk }) :
    wpAny (model prog w) A (call (.builtin "max") [.ref l] [(Str.ofString "default", d)]) Q E s := by
  have hname : (toString "max" ++ toString ".loop" : String) = "max.loop" := by decide
  obtain ⟨xs, e⟩ := hi.allInts.items
  have hn : numsOf (intItems xs).toList = ns := by rw [← e]; exact hi.numsOf
  rw [nums_intItems] at hn
  subst hn
  rw [e] at hl
  refine kmk_tree PySem.F.kind_max PySem.F.plain_max PySem.F.entry_max (max_dflt _ _) ?_
  show wpAny _ A.in1 (Builtin.Builtins.bindParams "max" ["key", "default"] 0 ⟨[], [(Str.ofString "default", d)]⟩ >>= _) _ _ s
  refine wpAny_bind (wpAny_of_eq (show Builtin.Builtins.bindParams "max" ["key", "default"] 0 ⟨[], [(Str.ofString "default", d)]⟩ = pure [none, some d] from rfl) ?_)
  refine wpAny_bind (wpAny_pure ?_)
  refine wpAny_bind (iter_intList hl fun s₂ e2 st hfp hlI => ?_)
  subst e2
  refine wpAny_bind (wpAny_newObj_type ?_)
  have W := Walks.list (prog := prog) (w := w) (A := A.in1) hh _ l hlI (intItems xs)
  have hSf : (s.heap.push { cls := .type "list_iterator", data := .fields #[.ref l, .int 0 0] }).objs.size ∉ [s.heap.objs.size, l] := fun hm => Nat.lt_irrefl _ (hfp _ hm)
  have old : ∀ {h' : Heap} {b : Addr} {o : Obj}, (∀ b o, b ∉ [s.heap.objs.size] → b ≠ (s.heap.push { cls := .type "list_iterator", data := .fields #[.ref l, .int 0 0] }).objs.size → ((s.heap.push { cls := .type "list_iterator", data := .fields #[.ref l, .int 0 0] }).push { cls := .type "list", data := .seq ([] : List Value).toArray }).get? b = some o → h'.get? b = some o) → s.heap.get? b = some o → h'.get? b = some o := fun {h' b o} hk e => by
    have hlt := Heap.lt_size e
    refine hk b o (fun hm => ?_) (fun q => ?_) (Heap.get?_push_of_some _ (Heap.get?_push_of_some _ e))
    · rcases List.mem_cons.mp hm with e1 | hm
      · exact absurd (e1 ▸ hlt) (Nat.lt_irrefl _)
      · cases hm
    · have hS : (s.heap.push { cls := .type "list_iterator", data := .fields #[.ref l, .int 0 0] }).objs.size = s.heap.objs.size + 1 := size_push' ..
      rw [q, hS] at hlt
      exact absurd hlt (Nat.not_lt.mpr (Nat.le_succ _))
  rw [hname]
  by_cases hz : xs.size = 0
  · refine wpAny_pure ⟨plainId_quiet PySem.F.plain_max_loop _, maxK_none d W _ hSf (by simpa [intItems] using hz) (W.frame _ _ _ st fun b _ o e => Heap.get?_push_of_some _ e) (Heap.get?_push_size _ rfl) fun h' tk hk => ?_⟩
    exact h0 (by have : xs = #[] := Array.eq_empty_of_size_eq_zero hz
                 subst this; rfl) h' tk fun b o e => old hk e
  · have hsz : 0 < xs.size := Nat.pos_of_ne_zero hz
    refine wpAny_pure ⟨plainId_quiet PySem.F.plain_max_loop _, maxK_first [(Str.ofString "default", d)] W _ (CmpOf.ints_gt (numAt xs) (fun _ _ => intItems_at)) _ hSf (by simpa [intItems] using hsz) (W.frame _ _ _ st fun b _ o e => Heap.get?_push_of_some _ e) (Heap.get?_push_size _ rfl) fun v h' tk hv hk => ?_⟩
    have hv : (intItems xs)[argBest (fun i j => decide (numAt xs i > numAt xs j)) (xs.size - 1)]? = some v := by simpa [intItems] using hv
    obtain ⟨t, rfl⟩ := intItems_at hv
    obtain ⟨h1, h2⟩ := argBest_gt (numAt xs) (xs.size - 1)
    refine h (by simpa using hsz) h' tk _ t (fun b o e => old hk e) ?_ fun a ha => ?_
    · rw [numAt_eq]; exact PySem.getD_mem (by rw [List.length_map, Array.length_toList]; omega)
    · obtain ⟨j, hj, rfl⟩ := mem_getD ha
      rw [List.length_map, Array.length_toList] at hj
      rw [← numAt_eq]; exact h2 j (by omega)
end
/-! ### set(xs) of ints -/
section
variable {prog : Program} {w : World} {A : Around} {R : Result → Shared → Prop} {I : Addr} {fp wr : List Addr} {G : Array GenState → Array GenState → Prop} {n : Nat} {P : Nat → Value → Prop} {St : Nat → Shared → Prop}
theorem loopIs (W : WalksS prog w A.in1 I fp wr G n P St) (S : Addr) (hSf : S ∉ fp) (ns : List Int) (hsz : ns.length = n) (hnb : n < scanBound)
    (hval : ∀ i v, P i v → ∃ t, v = .int (ns.getD i 0) t) :
    ∀ (k i m : Nat) (s : Shared), n - i = k → i ≤ n → m ≤ i → St i s →
      SetR w s.heap S (fun k' => decide (k' ∈ ns.take i)) m →
      (∀ s' m, m ≤ n → Moved (S :: wr) G s s' → SetR w s'.heap S (fun k' => decide (k' ∈ ns)) m → R (.ok (.ret .none)) s') →
      codeAny (model prog w) A (.builtin "set.update.loop" ⟨[.ref S, .ref I], []⟩) R s := by
  have hSw : S ∉ wr := fun h => hSf (W.sub _ h)
  have hsub : ∀ b ∈ wr, b ∈ S :: wr := fun b hb => List.mem_cons_of_mem _ hb
  intro k
  induction k with
  | zero =>
    intro i m s hk hi hm0 hst hS hR
    have hin : i = n := by omega
    subst hin
    refine codeAny_builtin PyProof.Rows.F.entry_set_update_loop ?_
    rw [Around.under_plainId PyProof.Rows.F.plain_set_update_loop _]
    show wpAny _ A.in1 (pyNext (.ref I) >>= _) _ _ s
    refine wpAny_bind (W.done s _ _ hst fun s' hm => ?_)
    show wpAny _ A.in1 (ret Value.none) _ _ s'
    refine wpAny_pure (hR s' m hm0 (hm.mono hsub) ?_)
    have := SetR.at hS (fun o ho => hm.heap S o hSw ho)
    rw [List.take_of_length_le (by omega)] at this
    exact this
  | succ k ih =>
    intro i m s hk hi hm0 hst hS hR
    have hlt : i < n := by omega
    refine codeAny_builtin PyProof.Rows.F.entry_set_update_loop ?_
    rw [Around.under_plainId PyProof.Rows.F.plain_set_update_loop _]
    show wpAny _ A.in1 (pyNext (.ref I) >>= _) _ _ s
    refine wpAny_bind (W.item i s _ _ hlt hst fun v s' hP hst' hm => ?_)
    obtain ⟨t, rfl⟩ := hval i v hP
    have hS' : SetR w s'.heap S (fun k' => decide (k' ∈ ns.take i)) m := SetR.at hS (fun o ho => hm.heap S o hSw ho)
    show wpAny _ A.in1 (holding [Value.int (ns.getD i 0) t] (setAdd S (.int (ns.getD i 0) t)) >>= _) _ _ s'
    refine wpAny_bind (wpAny_holding ?_)
    unfold setAdd
    refine wpAny_holding ?_
    refine wpAny_bind ((intKind prog w).pyHash (k := ns.getD i 0) (intKind_is _ _ _ _) ?_)
    refine setR_add_hashed (P := prog) (s := { s' with toks := s'.toks + 1 }) hS' (by omega) fun h' hsb hS2 => ?_
    have hx : i < ns.length := by omega
    have e1 : ns.getD i 0 = ns[i] := by
      rw [List.getD_eq_getElem?_getD, List.getElem?_eq_getElem hx]
      rfl
    have hSi : SetR w h' S (fun k' => decide (k' ∈ ns.take (i + 1))) (if decide (ns.getD i 0 ∈ ns.take i) = true then m else m + 1) := by
      refine SetR.congr hS2 fun k' => ?_
      rw [List.take_succ_eq_append_getElem hx, e1]
      have a1 : (k' ∈ ns.take i ++ [ns[i]]) ↔ (k' ∈ ns.take i ∨ k' = ns[i]) := by rw [List.mem_append, List.mem_singleton]
      rw [decide_eq_decide.mpr a1, Bool.decide_or]
    refine wpAny_pure ⟨plainId_quiet PyProof.Rows.F.plain_set_update_loop _, ih (i + 1) _ _ (by omega) hlt (by split <;> omega) (W.frame _ s' _ _ hst' (Nat.le_succ _) fun b hb o e => ?_) hSi fun s'' m'' hm3 hm'' hS'' => ?_⟩
    · rw [hsb.2 b (fun h : b = S => hSf (by rw [← h]; exact hb))]; exact e
    · refine hR s'' m'' hm3 (Moved.trans W.gtrans ((hm.mono hsub).then_heap (Nat.le_succ _) fun b o hb e => ?_) hm'') hS''
      rw [hsb.2 b (fun h : b = S => hb (by rw [h]; exact List.mem_cons_self))]; exact e
end
section
variable {prog : Program} {w : World} {A : Around} {E : Value → Shared → Prop} {s : Shared}
theorem code_set_led1 (a : Value) {Q₁ : Value → Shared → Prop}
    (h : Q₁ (.ref s.heap.objs.size) { s with heap := s.heap.push { cls := .type "set", dict := none, data := .set #[] 0 (.fresh 0 0 (!w.params.followText "set-order")) } }) :
    codeAny (model prog w) A (.call (.builtin "set.__new__") ⟨[.type "set", a], []⟩) (wants Q₁ E) s := by
  refine codeAny_of_tree ?_
  show wpAny _ A.in1 (do checkBuiltinCall "set.__new__" ⟨[.type "set", a], []⟩; again (.builtin "set.__new__" ⟨[.type "set", a], []⟩)) _ _ s
  refine wpAny_bind (wpAny_of_eq (PySem.F.newCall_set_1 a) (wpAny_pure ⟨plainId_quiet PySem.F.plain_set_new _, codeAny_builtin PySem.F.entry_set_new ?_⟩))
  rw [Around.under_plainId PySem.F.plain_set_new _]
  unfold Builtin.«set.__new__» Builtin.Frozenset.newClass
  have hsub := sub_set_self
  obtain ⟨hp, g, d, tk, os⟩ := s
  dsimp only
  wp_walk
  refine wpAny_askSetting (wpAny_pure ?_)
  dsimp only
  simp only [newObj]
  refine wpAny_bind (wpAny_alloc (wpAny_pure ?_))
  exact wpAny_pure h
set_option maxHeartbeats 3200000 in
theorem call_set_ints {l : Addr} {items : Array Value} {ns : List Int} {Q : Value → Shared → Prop}
    (hh : A.handled = none) (hl : s.heap.IsList l items) (hi : IntsAre items.toList ns) (hn1 : ns.length < scanBound)
    (h : ∀ (h' : Heap) (tk m : Nat), m ≤ ns.length → SetR w h' s.heap.objs.size (fun k' => decide (k' ∈ ns)) m →
      (∀ b o, b < s.heap.objs.size → s.heap.get? b = some o → h'.get? b = some o) → Q (.ref s.heap.objs.size) { s with heap := h', toks := tk }) :
    wpAny (model prog w) A (call (.type "set") [.ref l]) Q E s := by
  obtain ⟨c, tl, hmro⟩ := PySem.F.called_set.mro
  have hmade := PySem.F.called_set.made
  have hsub := PySem.F.called_set.sub
  refine wpAny_call (codeAny_of_tree ?_)
  show wpAny _ _ (callAny (.type "set") _) _ _ _
  refine wpAny_pure ⟨Code.quiet_builtin _ (by decide +kernel), codeAny_builtin PySem.F.entry_type_call ?_⟩
  rw [Around.under_plain (weight_type_call_type "set" [.ref l] []) rfl]
  have h1 := PySem.F.called_set.notType
  have h2 := PySem.F.called_set.canCreate
  have hct := PySem.F.typeCall_set_1 (.ref l)
  repeat (any_goals (first | assumption | wp_step))
  refine codeAny_mono (code_set_led1 (.ref l) (E := E) (Q₁ := fun obj s₁ => obj = .ref s.heap.objs.size ∧ s₁ = { s with heap := s.heap.push { cls := .type "set", dict := none, data := .set #[] 0 (.fresh 0 0 (!w.params.followText "set-order")) } }) ⟨rfl, rfl⟩) fun r s₁ hr => ?_
  cases r with
  | error e => exact hr
  | ok fl =>
    cases fl with
    | ret obj =>
      obtain ⟨rfl, rfl⟩ := hr
      have hS0 : SetR w (s.heap.push { cls := .type "set", dict := none, data := .set #[] 0 (.fresh 0 0 (!w.params.followText "set-order")) }) s.heap.objs.size (fun _ => false) 0 := setR_fresh w
      generalize (!w.params.followText "set-order") = led at hS0 ⊢
      have hS : (s.heap.push { cls := .type "set", dict := none, data := .set #[] 0 (.fresh 0 0 led) }).get? s.heap.objs.size = some { cls := .type "set", dict := none, data := .set #[] 0 (.fresh 0 0 led) } := Heap.get?_push_size _ rfl
      have hT : Shared.TypeIs { s with heap := s.heap.push { cls := .type "set", dict := none, data := .set #[] 0 (.fresh 0 0 led) } } (.ref s.heap.objs.size) "set" := ⟨_, hS, rfl⟩
      have hli := PySem.F.called_set.init.lookup
      have hbi := PySem.F.called_set.init.bind (.ref s.heap.objs.size)
      repeat (any_goals (first | assumption | wp_step))
      refine codeAny_mono (codeAny_call_builtin (R := wants (fun r s₂ => r = .none ∧ ∃ h' tk m, s₂ = { s with heap := h', toks := tk } ∧ m ≤ ns.length ∧
          SetR w h' s.heap.objs.size (fun k' => decide (k' ∈ ns)) m ∧
          (∀ b o, b < s.heap.objs.size → s.heap.get? b = some o → h'.get? b = some o)) E) PySem.F.called_set.init.plain PySem.F.entry_set_init (check_set_init_1 hT ?_)) fun r₂ s₂ hr₂ => ?_
      · obtain ⟨ol, hol, hcl, nl, hdl⟩ := hl
        obtain ⟨ocls, odict, odata, oslots⟩ := ol
        simp only at hcl hdl
        subst hcl; subst hdl
        have hol' : (s.heap.push { cls := .type "set", dict := none, data := .set #[] 0 (.fresh 0 0 led) }).get? l = some { cls := .type "list", dict := odict, data := .seq items nl, slots := oslots } := Heap.get?_push_of_some _ hol
        have hsls := PySem.F.sub_list_set
        have hslf := PySem.F.sub_list_frozenset
        have hne : (Value.type "list" == Value.type "dict") = false := by decide
        have hl1 : (s.heap.push { cls := .type "set", dict := none, data := .set #[] 0 (.fresh 0 0 led) }).IsList l items := ⟨_, hol', rfl, nl, rfl⟩
        unfold Builtin.«set.__init__» noKeywords Builtin.Frozenset.updateFrom
        generalize hPI : pyIter = PI
        wp_walk
        subst hPI
        refine wpAny_pyIter_list hl1 ?_
        refine wpAny_bind (wpAny_runValue ?_)
        have hlS : l < s.heap.objs.size := Heap.lt_size hol
        have hh3 : A.in1.in1.in1.handled = none := by simp [hh]
        have hneI : l ≠ (s.heap.push { cls := .type "set", dict := none, data := .set #[] 0 (.fresh 0 0 led) }).objs.size := by
          rw [Heap.size_push]; exact Nat.ne_of_lt (Nat.lt_succ_of_lt hlS)
        have hSf : s.heap.objs.size ∉ [(s.heap.push { cls := .type "set", dict := none, data := .set #[] 0 (.fresh 0 0 led) }).objs.size, l] := by
          rw [Heap.size_push]; simp only [List.mem_cons, List.mem_singleton, List.not_mem_nil, or_false, not_or]
          exact ⟨Nat.ne_of_lt (Nat.lt_succ_self _), Nat.ne_of_gt hlS⟩
        have hsz : ns.length = items.size := by rw [← hi.length, Array.length_toList]
        have hval : ∀ (i : Nat) (v : Value), items[i]? = some v → ∃ t, v = .int (ns.getD i 0) t := fun i v hv => IntsAre.int_at hi i v (by rw [Array.getElem?_toList]; exact hv)
        refine loopIs ((Walks.list hh3 _ l hneI items).toS) s.heap.objs.size
          hSf ns hsz (by rw [← hsz]; exact hn1) hval (items.size - 0) 0 0 _ (by omega) (Nat.zero_le _) (Nat.le_refl _)
          ⟨⟨_, Heap.get?_push_size _ rfl, rfl, rfl⟩, (hl1.push _)⟩ ?hS0 ?hR
        case hS0 =>
          exact SetR.congr (SetR.at hS0 fun o ho => Heap.get?_push_of_some _ ho) fun k => by simp
        case hR =>
          intro s' m hm9 hm hS'
          obtain ⟨h', g', d', tk', os'⟩ := s'
          have eg : g' = s.gens := hm.gens
          have ed : d' = s.drawn := hm.drawn
          have eo : os' = s.os := hm.os
          subst eg; subst ed; subst eo
          show wpAny _ _ _ _ _ _
          refine wpAny_pure ?_
          show wpAny _ _ (ret Value.none) _ _ _
          refine wpAny_pure ⟨rfl, h', tk', m, rfl, by rw [hsz]; exact hm9, hS', fun b o hb e => ?_⟩
          have hb1 : b ≠ s.heap.objs.size := Nat.ne_of_lt hb
          have hb2 : b ≠ (s.heap.push { cls := .type "set", dict := none, data := .set #[] 0 (.fresh 0 0 led) }).objs.size := by
            rw [Heap.size_push]; exact Nat.ne_of_lt (Nat.lt_succ_of_lt hb)
          exact hm.heap b o (by simp only [List.mem_cons, List.mem_singleton, List.not_mem_nil, or_false, not_or]; exact ⟨hb1, hb2⟩) (Heap.get?_push_of_some _ (Heap.get?_push_of_some _ e))
      · cases r₂ with
        | error e => exact hr₂
        | ok fl₂ =>
          cases fl₂ with
          | ret r =>
            obtain ⟨rfl, h', tk, m, rfl, hm9, hS', hk'⟩ := hr₂
            repeat (any_goals (first | assumption | wp_step))
            exact h _ _ _ hm9 hS' hk'
          | _ => exact hr₂.elim
    | _ => exact hr.elim
end
/-! ### xs.extend(ys), ys a list of any sort -/
theorem ext_any (l : Addr) (items : Array Value) (n : Nat) (b : Addr) (items2 : Array Value) (n2 : Nat) (dd : Option Addr) (sl : Array (Option Value)) (hc0 : ¬(!items.isEmpty && Builtin.List.listTooLong (items.size + items2.size)) = true) (hc1 : items.size ≤ sizeLine) (hs2 : items.size + items2.size ≤ sizeLine + 1) :
    Meets (Builtin.«list.extend» ⟨[.ref l, .ref b], []⟩) (fun _ R s => s.heap.get? l = some { cls := .type "list", dict := none, data := .seq items n, slots := #[] } ∧ s.heap.get? b = some { cls := .type "list", dict := dd, data := .seq items2 n2, slots := sl } ∧ R (.ok (.ret Value.none)) { s with heap := s.heap.update l (Obj.mapSeq fun x => x ++ items2), toks := s.toks }) :=
  .of_wp fun prog w A R s h => by
    obtain ⟨hp, g, d, tk, os⟩ := s; obtain ⟨hl, hb, h⟩ := h; have f1 := AutoSeq1.idx_int; have f2 := AutoSeq1.sub_tuple_tuple; have f3 := AutoSeq1.sub_list_list; have f4 := AutoSeq1.sub_tuple_list; have f5 := AutoSeq1.sub_list_tuple;
    have hz' : (items ++ items2).size ≤ sizeLine + 1 := by rw [Array.size_append]; exact hs2
    wp_walk using (wpAny_updateSeq hl rfl (hz := hc1) (_hz' := hz')), AutoSeq1.wpAny_loadPart' hl, AutoSeq1.wpAny_loadPart' hb; exact ⟨_, rfl, h⟩
def rExtL (K : PySem.W.Frag) : V → List V → Hp → VK → Prop := fun x vs H Q => ∃ l b xs zs, x = .ref l ∧ vs = [.ref b] ∧ H l = some (.lst xs) ∧ SqL K H b zs ∧ xs.length + zs.length ≤ sizeLine ∧ Q .non (upd H l (.lst (xs ++ zs)))
theorem mt_extL {X : Cx} : MtR X "list.extend" (rExtL X.K) := by
  intro pins s σ H x vs v us Q I rx rv h
  obtain ⟨l, b, xs, zs, rfl, rfl, hH, hB, hz, q⟩ := h
  cases rx
  obtain ⟨u, rfl, ru⟩ := rv.one
  cases ru
  obtain ⟨z, its, n, r, hl, e⟩ := I.lstM hH
  obtain ⟨its2, r2, ⟨o2, n2, e2, hc2, hd2, hs2⟩, z2⟩ := I.list hB
  have hl2 := r2.length
  obtain ⟨ocls, odict, odata, oslots⟩ := o2
  simp only at hc2 hd2 hs2
  subst hc2; subst hd2; subst hs2
  have hsz : its.toArray.size + its2.toArray.size ≤ sizeLine := by rw [List.size_toArray, List.size_toArray]; omega
  have hlong : ¬ (!its.toArray.isEmpty && Builtin.List.listTooLong (its.toArray.size + its2.toArray.size)) = true := by
    rw [notLongL hsz, Bool.and_false]
    exact Bool.false_ne_true
  refine call_meets PySem.F.slot_list_extend ⟨_, e, rfl⟩ PySem.F.entry_list_extend (PySem.F.args_list_extend_2 _ _)
    (ext_any l its.toArray n b its2.toArray n2 _ _ hlong (by rw [List.size_toArray]; omega) (by omega)) ⟨e, e2, ?_⟩
  refine ⟨.non, _, I.lset (its' := its ++ its2) hH e (by simp) (r.append r2) ?_, rfl, q⟩
  rw [List.length_append]
  omega
def dExtL : RMd := fun d ds M Q => match d, ds with
  | .ref a, [e] => match M a, seqL M e with
    | some (.lst xs), some ys => xs.length + ys.length ≤ 16777216 ∧ Q .non (mup M a (.lst (xs ++ ys)))
    | _, _ => False
  | _, _ => False
theorem md_extL {X : Cx} : MtR X "list.extend" (LMop X.K dExtL) := md_I mt_extL fun d ds M Qd x xs H Q r1 r2 sr q c => by
  unfold dExtL at q
  split at q
  · rename_i a b
    split at q
    · rename_i zs ys e1 e2
      obtain ⟨vs, hv, rr⟩ := own_at sr e1
      obtain ⟨u, rfl, rb⟩ := r2.one
      obtain ⟨b, us, rfl, sq, ru⟩ := seqL_ok sr rb e2
      rw [r1.ref_of]
      exact ⟨a, b, vs, us, rfl, rfl, hv, sq, by rw [← rr.length, ← ru.length, ← line_eq]; exact q.1, c _ _ _ _ (stp_lst sr e1 hv fun H' k => (rr.keep k).app (ru.keep k)) .non q.2⟩
    · exact q.elim
  · exact q.elim
theorem i_extL {M : Mo} {Q : QD} {a : Addr} {d : Dv} {xs ys : List Dv} (h1 : M a = some (.lst xs)) (h2 : seqL M d = some ys) (h3 : xs.length + ys.length ≤ 16777216) (q : Q .non (mup M a (.lst (xs ++ ys)))) : dExtL (.ref a) [d] M Q := by
  unfold dExtL
  simp only [h1, h2]
  exact ⟨h3, q⟩
/-! ### the data layer's rules -/
section
variable {X : Cx} {M0 : Mo} {H0 : Hp} {x : Str} {p pos : Pos} {e : Expr} {es : List Expr} {kws : List Keyword} {t tk : TAD} {ks : List Str} {id : String}
def dMaxL : RNd := fun ds M Q => match ds with
  | [d] => match (seqL M d).bind intsOf with
    | some ns => 0 < ns.length ∧ ∀ m, m ∈ ns → (∀ y, y ∈ ns → y ≤ m) → Q (.int m) M
    | none => False
  | _ => False
theorem cd_maxL (hc : X.calm = true) : CallR X (.builtin "max") (LNop X.K dMaxL) := cd_I (cr_max hc) fun ds M Qd xs H Q rs sr q c => by
  unfold dMaxL at q
  split at q
  · rename_i d
    obtain ⟨v, rfl, r⟩ := rs.one
    split at q
    · rename_i ns e
      obtain ⟨es, h1, h2⟩ := Option.bind_eq_some_iff.mp e
      obtain ⟨a, vs, rfl, sq, rr⟩ := seqL_ok sr r h1
      rw [intsOf_ok rr h2] at sq
      exact ⟨a, ns, rfl, sq, q.1, fun m h1 h2 => c _ _ _ _ (.refl sr) .int (q.2 m h1 h2)⟩
    · exact q.elim
  · exact q.elim
/-- sorted(xs) of ints -/
def dSortI : RNd := fun ds M Q => match ds with
  | [d] => match (seqL M d).bind intsOf with
    | some ns => ∀ ns' : List Int, ns'.Perm ns → ns'.Pairwise (· ≤ ·) → ∀ p, M p = none → Q (.ref p) (mup M p (.lst (ns'.map .int)))
    | none => False
  | _ => False
theorem cd_sortI : CallR X (.builtin "sorted") (LNop X.K dSortI) := cd_I cr_sortedI fun ds M Qd xs H Q rs sr q c => by
  unfold dSortI at q
  split at q
  · rename_i d
    obtain ⟨v, rfl, r⟩ := rs.one
    split at q
    · rename_i ns e
      obtain ⟨es, h1, h2⟩ := Option.bind_eq_some_iff.mp e
      obtain ⟨a, vs, rfl, sq, rr⟩ := seqL_ok sr r h1
      rw [intsOf_ok rr h2] at sq
      exact ⟨a, ns, rfl, sq, fun ns' p h1 h2 hp => c _ _ _ _ (Stp.new sr hp (own_lst hp (rds_ints ns'))) .ref (q ns' h1 h2 p (sr.free hp))⟩
    · exact q.elim
  · exact q.elim
/-- a built-in called with keywords -/
abbrev RKd := List Dv → List Dv → Mo → QD → Prop
def LKop (K : PySem.W.Frag) (rd : RKd) : List V → List V → Hp → VK → Prop := fun xs zs H Q => ∃ ds es M Qd, RDs K H ds xs ∧ RDs K H es zs ∧ SR K M H ∧ rd ds es M Qd ∧ Ct K M H Qd Q
def dCK (rd : RKd) (t tk : TAD) : TED := fun sd M Q => t sd M fun ds M1 => tk sd M1 fun es M2 => rd ds es M2 Q
theorem de_callBK {rd : RKd} (hc : CallRK X (.builtin id) ks (LKop X.K rd)) (hg : Gl X x) (hm : X.mg x = none) (hv : bootBuiltins x = some (.builtin id)) (ha : PAd X M0 H0 (e :: es) t) (hk : PKd X M0 H0 kws tk) (hn : x ≠ "__name__" := by decide) (hdb : (x == ("__debug__" : Str)) = false := by decide)
    (he : backTo pos (starEach (e :: es) X.env) = (false, eval e X.env) :: backTo pos (starEach es X.env) := by rfl) (hpl : (backTo pos (starEach (e :: es) X.env)).any (·.1) = false := by rfl)
    (hall : (backToKw pos (keywordEach kws X.env)).all (·.1.isSome) = true := by rfl) (hnone : (backToKw pos (keywordEach kws X.env)).any (·.1.isNone) = false := by rfl) (hks : (backToKw pos (keywordEach kws X.env)).filterMap (·.1) = ks := by rfl) :
    PEd X M0 H0 (.Call (.Name x p) (e :: es) kws pos) (dCK rd t tk) :=
  PE.imp (pe_callBK hc hg hm hv ha hk hn hdb he hpl hall hnone hks) fun σ H Q ⟨sd, M, Qd, w, q, c⟩ => ⟨sd, M, _, w, q, fun ds M1 vs H1 s1 r1 q1 => ⟨sd, M1, _, w.on s1, q1, fun zs M2 ws H2 s2 r2 q2 =>
    ⟨ds, zs, M2, Qd, r1.keep s2.keep, r2, s2.sr, q2, c.on (s1.trans s2)⟩⟩⟩
def rMaxDef (K : PySem.W.Frag) : List V → List V → Hp → VK → Prop := fun vs zs H Q => ∃ (a : Addr) (ns : List Int) (d : Int), vs = [V.ref a] ∧ zs = [V.int d] ∧ SqL K H a (ns.map V.int) ∧
  ∀ m, (ns = [] → m = d) → (0 < ns.length → m ∈ ns ∧ ∀ y, y ∈ ns → y ≤ m) → Q (.int m) H
theorem cr_maxDef (hc : X.calm = true) : CallRK X (.builtin "max") [Str.ofString "default"] (rMaxDef X.K) := by
  intro pins s σ H vs zs us ws Q I r rz h
  obtain ⟨a, ns, d, rfl, rfl, hs, q⟩ := h
  obtain rfl := Vals.ref1 r
  obtain ⟨w1, rfl, e1⟩ := vals1 rz
  obtain ⟨t, rfl⟩ := e1
  obtain ⟨its, rv, hl, _⟩ := I.list hs
  refine max_dflt_raw (I.ok.hd hc) hl.isList rv.ints (fun hz h' tk hk => ⟨.int d, H, I.kept hk, ⟨_, rfl⟩, q d (fun _ => rfl) fun z => ?_⟩) fun hz h' tk m t' hk h1 h2 => ⟨.int m, H, I.kept hk, ⟨_, rfl⟩, q m (fun z => ?_) fun _ => ⟨h1, h2⟩⟩
  · rw [hz] at z; simp at z
  · rw [z] at hz; simp at hz
def dMaxDef : RKd := fun ds es M Q => match ds, es with
  | [d], [.int k] => match (seqL M d).bind intsOf with
    | some ns => ∀ m : Int, (ns = [] → m = k) → (0 < ns.length → m ∈ ns ∧ ∀ y, y ∈ ns → y ≤ m) → Q (.int m) M
    | none => False
  | _, _ => False
theorem cd_maxDef (hc : X.calm = true) : CallRK X (.builtin "max") [Str.ofString "default"] (LKop X.K dMaxDef) := by
  intro pins s σ H xs zs us ws Q I rv rz ⟨ds, es, M, Qd, rs, rs2, sr, q, c⟩
  refine cr_maxDef hc pins s σ H xs zs us ws Q I rv rz ?_
  unfold dMaxDef at q
  split at q
  · rename_i d k
    obtain ⟨v, rfl, r⟩ := rs.one
    obtain ⟨u, rfl, r2⟩ := rs2.one
    split at q
    · rename_i ns e
      obtain ⟨es, h1, h2⟩ := Option.bind_eq_some_iff.mp e
      obtain ⟨a, vs, rfl, sq, rr⟩ := seqL_ok sr r h1
      rw [intsOf_ok rr h2] at sq
      exact ⟨a, ns, k, rfl, by rw [r2.int_of], sq, fun m h1 h2 => c _ _ _ _ (.refl sr) .int (q m h1 h2)⟩
    · exact q.elim
  · exact q.elim
/-- sorted(set(xs)) of ints -/
def kSortSet (d : Dv) (M : Mo) (Q : QD) : Prop := match (seqL M d).bind intsOf with
  | some ns => ns.length < 64 ∧ ∀ ms : List Int, ms.Pairwise (· < ·) → (∀ k, k ∈ ms ↔ k ∈ ns) → ∀ p, M p = none → Q (.ref p) (mup M p (.lst (ms.map .int)))
  | none => False
def dSortSet (t : TED) : TED := fun sd M Q => t sd M fun d M1 => kSortSet d M1 Q
def tSortSet (K : PySem.W.Frag) (ta : TE) : TE := fun σ H Q => ta σ H fun v H1 => ∃ (a : Addr) (ns : List Int), v = V.ref a ∧ SqL K H1 a (ns.map V.int) ∧ ns.length < 64 ∧
  ∀ (ms : List Int), ms.Pairwise (· < ·) → (∀ k, k ∈ ms ↔ k ∈ ns) → ∀ p, H1 p = none → Q (.ref p) (upd H1 p (.lst (ms.map V.int)))
theorem sorted_run {s : Shared} {pins : List (Addr × Obj)} {σ : L2.St} {H : Hp} {S : Int → Bool} {a : Addr} {n : Nat} {Q : VK} (I : Inv X pins σ H s) (hc : X.calm = true) (hS : SetR X.w s.heap a S n) (h64 : n < 64)
    (q : ∀ (ms : List Int), ms.Pairwise (· < ·) → (∀ k, k ∈ ms ↔ S k = true) → ∀ p, H p = none → Q (.ref p) (upd H p (.lst (ms.map V.int)))) : wpAny (model X.prog X.w) X.A (call (.builtin "sorted") [.ref a]) (EP X pins σ Q) X.xe s := by
  refine sorted_set (P := X.prog) hS (I.ok.hd hc) h64 fun s' p out c ms k g o hp hg' hi hs' hm' hl => ?_
  have hlen : (ms.map V.int).length ≤ sizeLine := by rw [List.length_map, hl, sizeLine_eq]; omega
  have hn : H p = none := I.hok.fresh hp
  have J : Inv X pins σ (upd H p (.lst (ms.map V.int))) { s with heap := s'.heap, gens := s'.gens, drawn := s'.drawn, toks := s'.toks } :=
    I.call (ch := []) (Un.laid k hp hn) (I.hok.laid k hp ⟨hlen, out.toList, c, vals_of_ints hi, hg'⟩) (by rw [g]; exact I.bare) (fun _ z => nomatch z)
  have e : s' = { s with heap := s'.heap, gens := s'.gens, drawn := s'.drawn, toks := s'.toks } := by
    cases s'
    cases s
    cases o
    rfl
  rw [e]
  exact ⟨.ref p, _, J, rfl, q ms hs' hm' p hn⟩
theorem pe_sortSet {a : Expr} {ta : TE} {p p2 q pos : Pos} (hc : X.calm = true) (hg : Gl X "sorted") (hm : X.mg "sorted" = none) (hg2 : Gl X "set") (hm2 : X.mg "set" = none) (ha : PE X a ta) (hv : bootBuiltins "sorted" = some (.builtin "sorted"))
    (na : starEach [a] X.env = (false, eval a X.env) :: starEach [] X.env := by rfl) : PE X (.Call (.Name "sorted" p) [.Call (.Name "set" p2) [a] [] q] [] pos) (tSortSet X.K ta) := by
  refine ⟨fun pins s σ H Q I h => ?_⟩
  refine Call_ (ld_blt I hg hm hv ?_)
  refine PyProof.Rows.callWith_builtin1 (PyProof.Rows.args_cons ?_ rfl) rfl rfl
  refine Call_ (ld_blt I hg2 hm2 boot_set ?_)
  refine PyProof.Rows.callWith_type1 (PyProof.Rows.args_cons (thn (ha.run pins s σ H _ I h) fun v s1 ⟨x, H1, I1, r1, q1⟩ => PyProof.Rows.args_nil ?_) na) na rfl
  obtain ⟨l, ns, rfl, hs, h64, q1⟩ := q1
  cases r1
  obtain ⟨its, rv, pl, hz⟩ := I1.list hs
  refine call_set_ints (I1.ok.hd hc) pl.isList (by simpa using rv.ints) (by unfold scanBound; omega) fun h' tk m hm9 hS hk => ?_
  refine PyProof.Rows.args_nil ?_
  have I2 : Inv X pins σ H1 { s1 with heap := h', toks := tk } := I1.kept fun b o e => hk b o (Heap.lt_size e) e
  exact sorted_run I2 hc hS (by omega) fun ms hs' hm' p hn => q1 ms hs' (fun k => by rw [hm' k, decide_eq_true_iff]) p hn
theorem de_sortSet {a : Expr} {ta : TED} {p p2 q pos : Pos} (hc : X.calm = true) (hg : Gl X "sorted") (hm : X.mg "sorted" = none) (hg2 : Gl X "set") (hm2 : X.mg "set" = none) (hv : bootBuiltins "sorted" = some (.builtin "sorted")) (ha : PEd X M0 H0 a ta)
    (na : starEach [a] X.env = (false, eval a X.env) :: starEach [] X.env := by rfl) : PEd X M0 H0 (.Call (.Name "sorted" p) [.Call (.Name "set" p2) [a] [] q] [] pos) (dSortSet ta) :=
  PE.imp (pe_sortSet hc hg hm hg2 hm2 ha hv na) fun σ H Q ⟨sd, M, Qd, w, q, c⟩ => ⟨sd, M, _, w, q, fun d M1 v H1 s1 r1 q1 => by
    unfold kSortSet at q1
    split at q1
    · rename_i ns e
      obtain ⟨es, h1, h2⟩ := Option.bind_eq_some_iff.mp e
      obtain ⟨a, vs, rfl, sq, rr⟩ := seqL_ok s1.sr r1 h1
      rw [intsOf_ok rr h2] at sq
      exact ⟨a, ns, rfl, sq, q1.1, fun ms h1 h2 p hp => c _ _ _ _ (s1.trans (Stp.new s1.sr hp (own_lst hp (rds_ints ms)))) .ref (q1.2 ms h1 h2 p (s1.sr.free hp))⟩
    · exact q1.elim⟩
/-- list(range(n)) -/
def kListRg (d : Dv) (M : Mo) (Q : QD) : Prop := match d with
  | .int n => 0 ≤ n ∧ n ≤ 16777216 ∧ ∀ p, M p = none → Q (.ref p) (mup M p (.lst ((List.range n.toNat).map fun i => Dv.int (i : Nat))))
  | _ => False
def dListRg (t : TED) : TED := fun sd M Q => t sd M fun d M1 => kListRg d M1 Q
theorem rds_rg {K : PySem.W.Frag} {H : Hp} (n : Int) : RDs K H ((List.range n.toNat).map fun i => Dv.int (i : Nat)) (rgV 0 n) := by
  have e : rgV 0 n = ((List.range n.toNat).map fun i => ((i : Nat) : Int)).map V.int := by
    unfold rgV
    rw [List.map_map, Int.sub_zero]
    refine List.map_congr_left fun i _ => ?_
    show V.int (0 + (i : Nat)) = V.int (i : Nat)
    rw [Int.zero_add]
  have e2 : ((List.range n.toNat).map fun i => Dv.int (i : Nat)) = ((List.range n.toNat).map fun i => ((i : Nat) : Int)).map Dv.int := by rw [List.map_map]; rfl
  rw [e, e2]
  exact rds_ints _
theorem de_listRg {a : Expr} {ta : TED} {p p2 q pos : Pos} (hc : X.calm = true) (hg : Gl X "list") (hm : X.mg "list" = none) (hg2 : Gl X "range") (hm2 : X.mg "range" = none) (ha : PEd X M0 H0 a ta)
    (na : starEach [a] X.env = (false, eval a X.env) :: starEach [] X.env := by rfl) (nb : starEach [.Call (.Name "range" p2) [a] [] q] X.env = (false, eval (.Call (.Name "range" p2) [a] [] q) X.env) :: starEach [] X.env := by rfl) : PEd X M0 H0 (.Call (.Name "list" p) [.Call (.Name "range" p2) [a] [] q] [] pos) (dListRg ta) :=
  PE.imp (pe_listRg hc hg hm (prg_1 hg2 hm2 ha na) nb) fun σ H Q ⟨sd, M, Qd, w, q, c⟩ => ⟨sd, M, _, w, q, fun d M1 v H1 s1 r1 q1 => by
    unfold kListRg at q1
    split at q1
    · rename_i n
      exact ⟨n, r1.int_of, RgOk.of_le (Int.le_refl _) q1.2.1 (by decide) q1.1, fun p hp => c _ _ _ _ (s1.trans (Stp.new s1.sr hp (own_lst hp (rds_rg n)))) .ref (q1.2.2 p (s1.sr.free hp))⟩
    · exact q1.elim⟩
end
section
variable {sd : StD} {M : Mo} {Q : QD} {d : Dv} {ds : List Dv} {ns : List Int} {t : TED} {ta tk : TAD}
instance s_sortSet : Step (dSortSet t sd M Q) (t sd M fun d M1 => kSortSet d M1 Q) := ⟨id⟩
instance s_listRg : Step (dListRg t sd M Q) (t sd M fun d M1 => kListRg d M1 Q) := ⟨id⟩
instance s_ck {rd : RKd} : Step (dCK rd ta tk sd M Q) (ta sd M fun ds M1 => tk sd M1 fun es M2 => rd ds es M2 Q) := ⟨id⟩
theorem i_sortSet (h0 : seqL M d = some (ns.map .int)) (hl : ns.length < 64) (h : ∀ ms : List Int, ms.Pairwise (· < ·) → (∀ k, k ∈ ms ↔ k ∈ ns) → ∀ p, M p = none → Q (.ref p) (mup M p (.lst (ms.map .int)))) : kSortSet d M Q := by
  unfold kSortSet
  rw [h0]
  simp only [Option.bind_some, intsOf_map]
  exact ⟨hl, h⟩
theorem i_listRg {n : Nat} (hl : (n : Int) ≤ 16777216) (h : ∀ p, M p = none → Q (.ref p) (mup M p (.lst ((List.range n).map fun i => Dv.int (i : Nat))))) : kListRg (.int (n : Nat)) M Q := ⟨by omega, hl, h⟩
theorem i_sortI (h0 : seqL M d = some (ns.map .int)) (h : ∀ ns' : List Int, ns'.Perm ns → ns'.Pairwise (· ≤ ·) → ∀ p, M p = none → Q (.ref p) (mup M p (.lst (ns'.map .int)))) : dSortI [d] M Q := by
  unfold dSortI
  simp only [h0, Option.bind_some, intsOf_map]
  exact h
theorem i_maxL (h0 : seqL M d = some (ns.map .int)) (hl : 0 < ns.length) (h : ∀ m, m ∈ ns → (∀ y, y ∈ ns → y ≤ m) → Q (.int m) M) : dMaxL [d] M Q := by
  unfold dMaxL
  simp only [h0, Option.bind_some, intsOf_map]
  exact ⟨hl, h⟩
theorem i_maxDef {k : Int} (h0 : seqL M d = some (ns.map .int)) (h : ∀ m : Int, (ns = [] → m = k) → (0 < ns.length → m ∈ ns ∧ ∀ y, y ∈ ns → y ≤ m) → Q (.int m) M) : dMaxDef [d] [.int k] M Q := by
  unfold dMaxDef
  simp only [h0, Option.bind_some, intsOf_map]
  exact h
end
end DL

namespace DL
open PySem PySem.Spec PyProof.Rows L2
/-! ### xs == ys of two lists, item by item, by any ==; the first unlike ones end it -/
section
open PySem.SeqAt
open AutoSeq1 (wpAny_loadPart')
open MeetsSeq MeetsSeq2 MeetsSeq3 SeqRoads2
variable {prog : Program} {w : World} {A : Around} {R : Result → Shared → Prop}
def ListB (prog : Program) (w : World) (A : Around) (E : Value → Shared → Prop) (l b : Addr) (N : Nat) (I : Nat → Shared → Prop) (F : Shared → Prop) : Prop :=
  ∀ i s, I i s → ∃ (items items2 : Array Value) (n n2 : Nat) (dd dd2 : Option Addr) (sl sl2 : Array (Option Value)), s.heap.get? l = some { cls := .type "list", dict := dd, data := .seq items n, slots := sl } ∧ s.heap.get? b = some { cls := .type "list", dict := dd2, data := .seq items2 n2, slots := sl2 } ∧ items.size = N ∧ items2.size = N ∧
    ∀ (h1 : i < items.size) (h2 : i < items2.size), wpAny (model prog w) A.in1 (eqBool items[i] items2[i]) (fun r s' => (r = true ∧ I (i + 1) s') ∨
      (r = false ∧ F s' ∧ ∃ (its its2 : Array Value) (m m2 : Nat) (de de2 : Option Addr) (so so2 : Array (Option Value)), s'.heap.get? l = some { cls := .type "list", dict := de, data := .seq its m, slots := so } ∧ s'.heap.get? b = some { cls := .type "list", dict := de2, data := .seq its2 m2, slots := so2 } ∧ i < its.size ∧ i < its2.size)) E s
theorem eq_loopB (l b : Addr) (N : Nat) (I : Nat → Shared → Prop) (F : Shared → Prop) (hl : ListB prog w A (fun e s' => R (.error e) s') l b N I F)
    (fin : ∀ s, I N s → R (.ok (.ret (.bool true))) s) (finF : ∀ s, F s → R (.ok (.ret (.bool false))) s) (k : Nat) :
    ∀ i : Nat, N - i = k → i ≤ N → ∀ s, I i s →
      wpAny (model prog w) A.in1 (Builtin.«list.__eq__.loop» ⟨[.ref l, .ref b, rawInt i, rawInt 2], []⟩) (GQ.FinOf prog w A R) (fun e s' => R (.error e) s') s := by
  induction k with
  | zero =>
    intro i hk hi s h
    obtain ⟨items, items2, n, n2, dd, dd2, sl, sl2, hl1, hb1, hs1, hs2, _⟩ := hl _ _ h
    have hi' : i = N := by omega
    have hR : R (.ok (.ret (.bool true))) s := fin s (hi' ▸ h)
    obtain ⟨hp, g, d, tk, os⟩ := s
    wp_walk using wpAny_loadPart' hl1, wpAny_loadPart' hb1
    have hi1 : items[((i : Nat) : Int).toNat]? = none := by simp; omega
    have hi2 : items2[((i : Nat) : Int).toNat]? = none := by simp; omega
    rw [hi1, hi2]
    wp_walk using wpAny_loadPart' hl1, wpAny_loadPart' hb1
    show R (.ok (.ret (.bool (items.size == items2.size)))) _
    rw [hs1, hs2]
    simpa using hR
  | succ k ih =>
    intro i hk hi s h
    obtain ⟨items, items2, n, n2, dd, dd2, sl, sl2, hl1, hb1, hs1, hs2, turn⟩ := hl _ _ h
    have hlt : i < items.size := by omega
    have hlt2 : i < items2.size := by omega
    have ht := turn hlt hlt2
    obtain ⟨hp, g, d, tk, os⟩ := s
    wp_walk using wpAny_loadPart' hl1, wpAny_loadPart' hb1
    have hi1 : items[((i : Nat) : Int).toNat]? = some items[i] := by simp [hlt]
    have hi2 : items2[((i : Nat) : Int).toNat]? = some items2[i] := by simp [hlt2]
    have hc : ((i : Int) + 1) = ((i + 1 : Nat) : Int) := by omega
    rw [hi1, hi2]
    refine wpAny_bind (wpAny_mono ht (fun r s2 h2 => ?_) fun _ _ x => x)
    rcases h2 with ⟨hr, h2⟩ | ⟨hr, h2, its, its2, m, m2, de, de2, so, so2, hl3, hb3, hz1, hz2⟩
    · subst hr
      have hrec := ih (i + 1) (by omega) (by omega) s2 h2
      obtain ⟨hp2, g2, d2, tk2, os2⟩ := s2
      wp_walk
      rw [hc]
      exact ⟨plainId_quiet plain_eq_loop _, codeAny_builtin entry_eq_loop (by
        rw [Around.under_plainId plain_eq_loop _]
        exact hrec)⟩
    · subst hr
      have hF := finF s2 h2
      obtain ⟨hp2, g2, d2, tk2, os2⟩ := s2
      have hi3 : its[((i : Nat) : Int).toNat]? = some its[i] := by simp [hz1]
      have hi4 : its2[((i : Nat) : Int).toNat]? = some its2[i] := by simp [hz2]
      wp_walk using wpAny_loadPart' hl3, wpAny_loadPart' hb3
      rw [hi3, hi4]
      wp_walk
      exact hF
theorem list_eqB (l b : Addr) (N : Nat) (I : Nat → Shared → Prop) (F : Shared → Prop) (hl : ListB prog w A (fun e s' => R (.error e) s') l b N I F)
    (fin : ∀ s, I N s → R (.ok (.ret (.bool true))) s) (finF : ∀ s, F s → R (.ok (.ret (.bool false))) s) {s : Shared} (h : I 0 s) :
    wpAny (model prog w) A.in1 (Builtin.«list.__eq__» ⟨[.ref l, .ref b], []⟩) (GQ.FinOf prog w A R) (fun e s' => R (.error e) s') s := by
  obtain ⟨items, items2, n, n2, dd, dd2, sl, sl2, hl1, hb1, hs1, hs2, _⟩ := hl _ _ h
  have hrec := eq_loopB (A := A) (R := R) l b N I F hl fin finF _ 0 rfl (Nat.zero_le _) s h
  obtain ⟨hp, g, d, tk, os⟩ := s
  have f3 := AutoSeq1.sub_list_list
  have hne : ¬ (items.size != items2.size) = true := by simp [hs1, hs2]
  wp_walk using wpAny_loadPart' hl1, wpAny_loadPart' hb1
  exact ⟨plainId_quiet plain_eq_loop _, codeAny_builtin entry_eq_loop (by
    rw [Around.under_plainId plain_eq_loop _]
    exact hrec)⟩
end
section
open PySem.SeqAt
variable {prog : Program} {w : World} {A : Around} {E : Value → Shared → Prop} {s : Shared}
theorem rc_listB {l b : Addr} {N : Nat} {Q : Value → Shared → Prop} (hu : A.units < cLine) (I : Nat → Shared → Prop) (F : Shared → Prop) (hl : ListB prog w A E l b N I F)
    (fin : ∀ s, I N s → Q (.bool true) s) (finF : ∀ s, F s → Q (.bool false) s) (h : I 0 s) : wpAny (model prog w) A (richCompare .Eq (.ref l) (.ref b)) Q E s := by
  obtain ⟨items, items2, n, n2, dd, dd2, sl, sl2, hl1, hb1, _, _, _⟩ := hl _ _ h
  refine wpAny_richCompare_same_room (op := .Eq) ⟨_, hl1, rfl⟩ ⟨_, hb1, rfl⟩ PySem.F.slot_list_eq (GQ.call_here PySem.F.slot_list_eq ⟨_, hl1, rfl⟩ PySem.F.entry_list_eq (PySem.F.args_list_eq_2 _ _) ?_) hu
  exact list_eqB (R := wants (fun v s' => v ≠ .notImplemented ∧ Q v s') E) l b N I F hl (fun s' q => ⟨(fun x => nomatch x), fin s' q⟩) (fun s' q => ⟨(fun x => nomatch x), finF s' q⟩) h
end
section
open PySem.SeqAt
open AutoSeq1 (wpAny_loadPart')
open MeetsSeq MeetsSeq2 MeetsSeq3 SeqRoads2
variable {prog : Program} {w : World} {A : Around} {R : Result → Shared → Prop}
theorem ne_loopB (l b : Addr) (N : Nat) (I : Nat → Shared → Prop) (F : Shared → Prop) (hl : ListB prog w A (fun e s' => R (.error e) s') l b N I F)
    (fin : ∀ s, I N s → R (.ok (.ret (.bool false))) s) (finF : ∀ s, F s → R (.ok (.ret (.bool true))) s) (k : Nat) :
    ∀ i : Nat, N - i = k → i ≤ N → ∀ s, I i s →
      wpAny (model prog w) A.in1 (Builtin.«list.__eq__.loop» ⟨[.ref l, .ref b, rawInt i, rawInt 3], []⟩) (GQ.FinOf prog w A R) (fun e s' => R (.error e) s') s := by
  induction k with
  | zero =>
    intro i hk hi s h
    obtain ⟨items, items2, n, n2, dd, dd2, sl, sl2, hl1, hb1, hs1, hs2, _⟩ := hl _ _ h
    have hi' : i = N := by omega
    have hR : R (.ok (.ret (.bool false))) s := fin s (hi' ▸ h)
    obtain ⟨hp, g, d, tk, os⟩ := s
    wp_walk using wpAny_loadPart' hl1, wpAny_loadPart' hb1
    have hi1 : items[((i : Nat) : Int).toNat]? = none := by simp; omega
    have hi2 : items2[((i : Nat) : Int).toNat]? = none := by simp; omega
    rw [hi1, hi2]
    wp_walk using wpAny_loadPart' hl1, wpAny_loadPart' hb1
    show R (.ok (.ret (.bool (items.size != items2.size)))) _
    rw [hs1, hs2]
    simpa using hR
  | succ k ih =>
    intro i hk hi s h
    obtain ⟨items, items2, n, n2, dd, dd2, sl, sl2, hl1, hb1, hs1, hs2, turn⟩ := hl _ _ h
    have hlt : i < items.size := by omega
    have hlt2 : i < items2.size := by omega
    have ht := turn hlt hlt2
    obtain ⟨hp, g, d, tk, os⟩ := s
    wp_walk using wpAny_loadPart' hl1, wpAny_loadPart' hb1
    have hi1 : items[((i : Nat) : Int).toNat]? = some items[i] := by simp [hlt]
    have hi2 : items2[((i : Nat) : Int).toNat]? = some items2[i] := by simp [hlt2]
    have hc : ((i : Int) + 1) = ((i + 1 : Nat) : Int) := by omega
    rw [hi1, hi2]
    refine wpAny_bind (wpAny_mono ht (fun r s2 h2 => ?_) fun _ _ x => x)
    rcases h2 with ⟨hr, h2⟩ | ⟨hr, h2, its, its2, m, m2, de, de2, so, so2, hl3, hb3, hz1, hz2⟩
    · subst hr
      have hrec := ih (i + 1) (by omega) (by omega) s2 h2
      obtain ⟨hp2, g2, d2, tk2, os2⟩ := s2
      wp_walk
      rw [hc]
      exact ⟨plainId_quiet plain_eq_loop _, codeAny_builtin entry_eq_loop (by
        rw [Around.under_plainId plain_eq_loop _]
        exact hrec)⟩
    · subst hr
      have hF := finF s2 h2
      obtain ⟨hp2, g2, d2, tk2, os2⟩ := s2
      have hi3 : its[((i : Nat) : Int).toNat]? = some its[i] := by simp [hz1]
      have hi4 : its2[((i : Nat) : Int).toNat]? = some its2[i] := by simp [hz2]
      wp_walk using wpAny_loadPart' hl3, wpAny_loadPart' hb3
      rw [hi3, hi4]
      wp_walk
      exact hF
theorem list_neB (l b : Addr) (N : Nat) (I : Nat → Shared → Prop) (F : Shared → Prop) (hl : ListB prog w A (fun e s' => R (.error e) s') l b N I F)
    (fin : ∀ s, I N s → R (.ok (.ret (.bool false))) s) (finF : ∀ s, F s → R (.ok (.ret (.bool true))) s) {s : Shared} (h : I 0 s) :
    wpAny (model prog w) A.in1 (Builtin.«list.__ne__» ⟨[.ref l, .ref b], []⟩) (GQ.FinOf prog w A R) (fun e s' => R (.error e) s') s := by
  obtain ⟨items, items2, n, n2, dd, dd2, sl, sl2, hl1, hb1, hs1, hs2, _⟩ := hl _ _ h
  have hrec := ne_loopB (A := A) (R := R) l b N I F hl fin finF _ 0 rfl (Nat.zero_le _) s h
  obtain ⟨hp, g, d, tk, os⟩ := s
  have f3 := AutoSeq1.sub_list_list
  have hne : ¬ (items.size != items2.size) = true := by simp [hs1, hs2]
  wp_walk using wpAny_loadPart' hl1, wpAny_loadPart' hb1
  exact ⟨plainId_quiet plain_eq_loop _, codeAny_builtin entry_eq_loop (by
    rw [Around.under_plainId plain_eq_loop _]
    exact hrec)⟩
end
section
open PySem.SeqAt
variable {prog : Program} {w : World} {A : Around} {E : Value → Shared → Prop} {s : Shared}
theorem nc_listB {l b : Addr} {N : Nat} {Q : Value → Shared → Prop} (hu : A.units < cLine) (I : Nat → Shared → Prop) (F : Shared → Prop) (hl : ListB prog w A E l b N I F)
    (fin : ∀ s, I N s → Q (.bool false) s) (finF : ∀ s, F s → Q (.bool true) s) (h : I 0 s) : wpAny (model prog w) A (richCompare .NotEq (.ref l) (.ref b)) Q E s := by
  obtain ⟨items, items2, n, n2, dd, dd2, sl, sl2, hl1, hb1, _, _, _⟩ := hl _ _ h
  refine wpAny_richCompare_same_room (op := .NotEq) ⟨_, hl1, rfl⟩ ⟨_, hb1, rfl⟩ PySem.F.slot_list_ne (GQ.call_here PySem.F.slot_list_ne ⟨_, hl1, rfl⟩ PySem.F.entry_list_ne (PySem.F.args_list_ne_2 _ _) ?_) hu
  exact list_neB (R := wants (fun v s' => v ≠ .notImplemented ∧ Q v s') E) l b N I F hl (fun s' q => ⟨(fun x => nomatch x), fin s' q⟩) (fun s' q => ⟨(fun x => nomatch x), finF s' q⟩) h
end
section
open PySem.SeqAt
open AutoSeq1 (wpAny_loadPart')
open MeetsSeq MeetsSeq2 MeetsSeq3 SeqRoads2
theorem list_ne_lengths (l b : Addr) (items items2 : Array Value) (n n2 : Nat) (dd dd2 : Option Addr) (sl sl2 : Array (Option Value)) (hc0 : (items.size != items2.size) = true) :
    Meets (Builtin.«list.__ne__» ⟨[.ref l, .ref b], []⟩)
      (fun _ R s => s.heap.get? l = some { cls := .type "list", dict := dd, data := .seq items n, slots := sl } ∧ s.heap.get? b = some { cls := .type "list", dict := dd2, data := .seq items2 n2, slots := sl2 } ∧
        R (.ok (.ret (.bool true))) s) :=
  .of_wp fun prog w A R s h => by
    obtain ⟨hp, g, d, tk, os⟩ := s; obtain ⟨hl, hb, h⟩ := h
    have f3 := AutoSeq1.sub_list_list
    wp_walk using wpAny_loadPart' hl, wpAny_loadPart' hb
    exact ⟨_, rfl, h⟩
theorem ne_lengths {prog : Program} {w : World} {A : Around} {E : Value → Shared → Prop} {s : Shared} {l b : Addr} {items items2 : Array Value} {Q : Value → Shared → Prop} (hl : s.heap.IsList l items) (hb : s.heap.IsList b items2) (hsz : (items.size != items2.size) = true) (hu : A.units < cLine)
    (h : Q (.bool true) s) : wpAny (model prog w) A (compareOp .NotEq (.ref l) (.ref b)) Q E s := by
  obtain ⟨⟨cls, dd, data, sl⟩, ho, hc, n, hd⟩ := id hl
  obtain ⟨⟨cls2, dd2, data2, sl2⟩, ho2, hc2, n2, hd2⟩ := id hb
  simp only at hc hd hc2 hd2
  subst hc hd hc2 hd2
  exact richCompare_meets_room (op := .NotEq) ⟨_, ho, rfl⟩ ⟨_, ho2, rfl⟩ PySem.F.slot_list_ne PySem.F.entry_list_ne (PySem.F.args_list_ne_2 _ _) (list_ne_lengths l b items items2 n n2 dd dd2 sl sl2 hsz)
    ⟨ho, ho2, show Value.bool true ≠ Value.notImplemented ∧ Q (.bool true) s from ⟨(fun x => nomatch x), h⟩⟩ hu
end
/-! ### the same value shows the same tree -/
theorem relV_inj {x y : V} {u : Value} (a : RelV x u) (b : RelV y u) : x = y := by
  cases x <;> cases y <;> (unfold L2.RelV at a b) <;> first
    | rfl
    | (obtain ⟨t, a⟩ := a; obtain ⟨t', b⟩ := b; rw [a] at b; cases b <;> rfl)
    | (obtain ⟨t, a⟩ := a; rw [a] at b; cases b)
    | (obtain ⟨t', b⟩ := b; rw [a] at b; cases b)
    | (rw [a] at b; cases b <;> rfl)
theorem vals_inj : ∀ {xs ys : List V} {us : List Value}, Vals xs us → Vals ys us → xs = ys
  | _, _, _, .nil, .nil => rfl
  | _, _, _, .cons a r, .cons b t => by rw [relV_inj a b, vals_inj r t]
/-- trees of one shape -/
inductive Shp : Dv → Dv → Prop where
  | non : Shp .non .non
  | bl (a b : Bool) : Shp (.bl a) (.bl b)
  | int (i j : Int) : Shp (.int i) (.int j)
  | str (x y : Str) : Shp (.str x) (.str y)
  | lst {ds es : List Dv} (h : ∀ (i : Nat) d e, ds[i]? = some d → es[i]? = some e → Shp d e) : Shp (.lst ds) (.lst es)
  | obj {c : Str} {fs gs : List (Str × Dv)} (h : ∀ (i : Nat) (x y : Str × Dv), fs[i]? = some x → gs[i]? = some y → Shp x.2 y.2) : Shp (.obj c fs) (.obj c gs)
theorem rds_inj {K : PySem.W.Frag} {H : Hp} : ∀ {ds es : List Dv} {vs : List V}, (∀ (i : Nat) d e, ds[i]? = some d → es[i]? = some e → ∀ v, RD K H d v → RD K H e v → d = e) → RDs K H ds vs → RDs K H es vs → ds = es
  | [], [], _, _, _, _ => rfl
  | [], e :: es, vs, _, r, r' => by
    rw [r.zero] at r'
    unfold RDs at r'
    obtain ⟨v, w, z, _⟩ := r'
    cases z
  | d :: ds, [], vs, _, r, r' => by
    rw [r'.zero] at r
    unfold RDs at r
    obtain ⟨v, w, z, _⟩ := r
    cases z
  | d :: ds, e :: es, vs, h, r, r' => by
    unfold RDs at r r'
    obtain ⟨v, w, rfl, r1, r2⟩ := r
    obtain ⟨v', w', z, r1', r2'⟩ := r'
    cases z
    rw [h 0 d e rfl rfl v r1 r1', rds_inj (fun i d e h1 h2 => h (i + 1) d e (by simpa using h1) (by simpa using h2)) r2 r2']
theorem rdf_inj {K : PySem.W.Frag} {H : Hp} : ∀ {fs gs : List (Str × Dv)} {vs : List (Str × V)}, (∀ (i : Nat) x y, fs[i]? = some x → gs[i]? = some y → ∀ v, RD K H x.2 v → RD K H y.2 v → x.2 = y.2) → RDf K H fs vs → RDf K H gs vs → fs = gs
  | [], [], _, _, _, _ => rfl
  | [], (f, e) :: es, vs, _, r, r' => by
    unfold RDf at r r'
    subst r
    obtain ⟨v, w, z, _⟩ := r'
    cases z
  | (f, d) :: ds, [], vs, _, r, r' => by
    unfold RDf at r r'
    subst r'
    obtain ⟨v, w, z, _⟩ := r
    cases z
  | (f, d) :: ds, (g, e) :: es, vs, h, r, r' => by
    unfold RDf at r r'
    obtain ⟨v, w, rfl, r1, r2⟩ := r
    obtain ⟨v', w', z, r1', r2'⟩ := r'
    cases z
    have e1 : d = e := h 0 (f, d) (f, e) rfl rfl v r1 r1'
    rw [e1, rdf_inj (fun i x y h1 h2 => h (i + 1) x y (by simpa using h1) (by simpa using h2)) r2 r2']
theorem RD.inj {X : Cx} {pins : List (Addr × Obj)} {σ : L2.St} {H : Hp} {s : Shared} (I : Inv X pins σ H s) {d e : Dv} (h : Shp d e) : ∀ v, RD X.K H d v → RD X.K H e v → d = e := by
  induction h with
  | non => intro v _ _; rfl
  | bl a b => intro v r r'; have z := r.bl_of.symm.trans r'.bl_of; cases z; rfl
  | int i j => intro v r r'; have z := r.int_of.symm.trans r'.int_of; cases z; rfl
  | str x y => intro v r r'; have z := r.str_of.symm.trans r'.str_of; cases z; rfl
  | lst h ih =>
    intro v r r'
    unfold RD at r r'
    obtain ⟨a, vs, rfl, q, rr⟩ := r
    obtain ⟨b, ws, z, q', rr'⟩ := r'
    cases z
    obtain ⟨its, w1, ⟨o, n, g, c1, c2, c3⟩, _⟩ := I.list q.seq
    obtain ⟨its', w1', ⟨o', n', g', c1', c2', c3'⟩, _⟩ := I.list q'.seq
    rw [g] at g'
    cases g'
    rw [c3] at c3'
    cases c3'
    have e := vals_inj w1 w1'
    subst e
    rw [rds_inj ih rr rr']
  | obj h ih =>
    intro v r r'
    unfold RD at r r'
    obtain ⟨a, o, C, dx, vfs, rfl, n, g, rr⟩ := r
    obtain ⟨b, o', C', dx', vfs', z, n', g', rr'⟩ := r'
    cases z
    rw [g] at g'
    cases g'
    rw [rdf_inj ih rr rr']
/-! ### == of two lists of instances of one own class with its own == -/
/-- item by item: what the own == tells, and what is told unlike is not the same -/
structure EqIt (T : List Str) (c : Str) (sp : SpD) (M : Mo) (d e : Dv) (b : Bool) : Prop where
  l : ∃ fs, insV M d = some (c, fs)
  r : ∃ gs, insV M e = some (c, gs)
  t : c ∈ T
  s : sp [d, e] M (fun z M' => z = .bl b ∧ M' = M) Ed0
  a : b = true ∨ (Shp d e ∧ d ≠ e)
def dEqLs (T : List Str) (c : Str) (sp : SpD) (g : Bool → Bool) : R2d := fun d e M Q => ∃ (ds es : List Dv) (bs : List Bool), seqL M d = some ds ∧ seqL M e = some es ∧
  ((ds.length ≠ es.length ∧ Q (.bl (g false)) M) ∨ (ds.length = es.length ∧ bs.length = ds.length ∧ (∀ (i : Nat) x y b, ds[i]? = some x → es[i]? = some y → bs[i]? = some b → EqIt T c sp M x y b) ∧ Q (.bl (g (bs.all id))) M))
section
variable {X : Cx} {M0 : Mo} {H0 : Hp} {k : Nat} {ps : List Str} {B : FuncData → Prop} {sp : SpD} {E : XK} {c m : Str} {T : List Str}
theorem rc_listOwn (A : Around) (hA : A = X.A) (W : ∀ C, PySem.W.nsIn X.K mainGlobals c = some (some (.ref C)) → OwnEq X.K T C) (F : MethD X.prog X.w X.K X.mg X.base c "__eq__" k ps B sp) (hr : Room (k + 1) X.A) (hb : ∀ fd, B fd → Binds X.K fd ps []) (hx : Passes (L2.CX X.prog X.w) X (fun _ _ _ => False))
    {pins : List (Addr × Obj)} {σ : L2.St} {H : Hp} {s : Shared} {M : Mo} {d e : Dv} {a b : Addr} {ds es : List Dv} {bs : List Bool} {Q : Bool → Hp → Prop} (I : Inv X pins σ H s) (sr : SR X.K M H) (r1 : RD X.K H d (.ref a)) (r2 : RD X.K H e (.ref b)) (h1 : seqL M d = some ds) (h2 : seqL M e = some es)
    (hl : ds.length = es.length) (hbl : bs.length = ds.length) (hit : ∀ (i : Nat) x y b, ds[i]? = some x → es[i]? = some y → bs[i]? = some b → EqIt T c sp M x y b) (q : ∀ H', Stp X.K M H M H' → Q (bs.all id) H') :
    wpAny (model X.prog X.w) A (richCompare .Eq (.ref a) (.ref b)) (fun v s' => ∃ t H', v = .bool t ∧ Inv X pins σ H' s' ∧ Q t H') X.xe s := by
  subst hA
  obtain ⟨C, f, fd, n, cl, hm, b0, F⟩ := F.ex
  have W := W C n
  refine rc_listB (N := ds.length) hr.units0 (fun i s' => i ≤ ds.length ∧ ∃ H', Inv X pins σ H' s' ∧ Stp X.K M H M H' ∧ ∀ j, j < i → bs[j]? = some true) (fun s' => ∃ H', Inv X pins σ H' s' ∧ Stp X.K M H M H' ∧ bs.all id = false) ?_ ?_ ?_ ⟨Nat.zero_le _, H, I, .refl sr, fun j hj => absurd hj (Nat.not_lt_zero _)⟩
  · rintro i s' ⟨hi, H', I', st, hj⟩
    obtain ⟨a', vs, ea, sq1, rr1⟩ := seqL_ok st.sr (r1.keep st.keep) h1
    obtain ⟨b', ws, eb, sq2, rr2⟩ := seqL_ok st.sr (r2.keep st.keep) h2
    cases ea; cases eb
    obtain ⟨its, w1, ⟨⟨oc, od, oda, os⟩, no, g1, c1, c2, c3⟩, _⟩ := I'.list sq1
    obtain ⟨its2, w2, ⟨⟨oc', od', oda', os'⟩, no', g2, c1', c2', c3'⟩, _⟩ := I'.list sq2
    simp only at c1 c2 c3 c1' c2' c3'
    subst c1 c2 c3 c1' c2' c3'
    have l1 : its.length = ds.length := by rw [← w1.length, ← rr1.length]
    have l2 : its2.length = ds.length := by rw [← w2.length, ← rr2.length, hl]
    refine ⟨its.toArray, its2.toArray, no, no', _, _, _, _, g1, g2, by simpa using l1, by simpa using l2, fun k1 k2 => ?_⟩
    have hi' : i < ds.length := by rw [List.size_toArray, l1] at k1; exact k1
    have gx := List.getElem?_eq_getElem hi'
    have gy := List.getElem?_eq_getElem (show i < es.length by omega)
    have gb := List.getElem?_eq_getElem (show i < bs.length by omega)
    have q1 := hit i _ _ _ gx gy gb
    obtain ⟨vx, hvx, rx⟩ := rr1.get gx
    obtain ⟨vy, hvy, ry⟩ := rr2.get gy
    obtain ⟨ux, hux, wx⟩ := w1.get hvx
    obtain ⟨uy, huy, wy⟩ := w2.get hvy
    have ex : its.toArray[i] = ux := by
      have : its[i]? = some its.toArray[i] := by rw [List.getElem?_eq_getElem (by rw [l1]; exact hi')] <;> simp
      exact Option.some.inj (this.symm.trans hux)
    have ey : its2.toArray[i] = uy := by
      have : its2[i]? = some its2.toArray[i] := by rw [List.getElem?_eq_getElem (by rw [l2]; exact hi')] <;> simp
      exact Option.some.inj (this.symm.trans huy)
    rw [ex, ey]
    generalize ds[i] = x at gx q1 rx
    generalize es[i] = y at gy q1 ry
    generalize bs[i] = bi at gb q1
    obtain ⟨fs, hfs⟩ := q1.l
    obtain ⟨gs, hgs⟩ := q1.r
    obtain ⟨ax, C1, dx, vfs, e1, n1, hx1, _⟩ := insV_ok st.sr rx hfs
    obtain ⟨bx, C2, dy, vgs, e2, n2, hy1, _⟩ := insV_ok st.sr ry hgs
    rw [n] at n1 n2
    cases n1
    cases n2
    subst e1
    subst e2
    cases (show ux = Value.ref ax from wx)
    cases (show uy = Value.ref bx from wy)
    have next : bi = true → ∀ s2 H2, Inv X pins σ H2 s2 → Stp X.K M H M H2 → i + 1 ≤ ds.length ∧ ∃ H', Inv X pins σ H' s2 ∧ Stp X.K M H M H' ∧ ∀ j, j < i + 1 → bs[j]? = some true := fun hb1 s2 H2 I2 st2 => ⟨hi', H2, I2, st2, fun j hj2 => by
      by_cases z : j = i
      · rw [z, gb, hb1]
      · exact hj j (by omega)⟩
    by_cases hab : ax = bx
    · subst hab
      have hbi : bi = true := q1.a.elim id fun ⟨h3, h4⟩ => absurd (RD.inj I' h3 _ rx ry) h4
      exact SeqAt.EqAt.same (A := X.A.in1) (s := s') (.ref ax) X.prog X.w X.xe _ (.inl ⟨rfl, next hbi _ H' I' st⟩)
    · refine GQ.eqBool_refG hab ?_
      obtain ⟨mA, O, _⟩ := ins_getR I'.hok hx1
      obtain ⟨od, J, _⟩ := O.look
      obtain ⟨m, hF⟩ := I'.fr
      obtain ⟨ci, nf⟩ := W.own c q1.t C n
      have ty : TyZ X.K H' (.ref bx) (.ref C) := .inr ⟨bx, C, dy, vgs, rfl, hy1, ci, rfl⟩
      refine PySem.W.cmp_K (op := .Eq) (tb := .ref C) hr.in1.units0 hF I'.ok.mod.kin J (tyz_looks I' (show L2.RelV (.ref bx) (Value.ref bx) from rfl) ty) nf hm.at_ hm.fn ?_
      refine wpAny_mono (run_in (A := X.A.in1) (Q := fun z H2 => z = .bl bi ∧ Stp X.K M H' M H2) (us := [.ref ax, .ref bx]) (vs := [.ref ax, .ref bx]) F hr.in1 I'.env0.in1 (hb fd b0) .nil hx I' (.cons rfl (.cons rfl .nil))
        (show LSp X.K sp [.ref ax, .ref bx] H' (fun z H2 => z = .bl bi ∧ Stp X.K M H' M H2) _ from ⟨[x, y], M, _, Ed0, RDs.cons rx (RDs.cons ry RDs.nil), st.sr, q1.s, fun z M' v H2 s2 rz hz => by
          obtain ⟨rfl, rfl⟩ := hz
          exact ⟨rz.bl_of, s2⟩, ctx0⟩)) (fun w s2 z => ?_) fun _ _ x => x
      obtain ⟨z', H2, I2, rz, ez, st2⟩ := z
      subst ez
      have ew : w = Value.bool bi := rz
      subst ew
      have st3 := st.trans st2
      refine ⟨bi, rfl, ?_⟩
      cases hbi : bi with
      | true => exact .inl ⟨rfl, next hbi _ H2 I2 st3⟩
      | false =>
        refine .inr ⟨rfl, ⟨H2, I2, st3, ?_⟩, ?_⟩
        · rw [hbi] at gb
          cases e : bs.all id with
          | false => rfl
          | true => exact absurd (List.all_eq_true.mp e false (List.mem_of_getElem? gb)) (by decide)
        · obtain ⟨a', vs, ea, sq1, rr1⟩ := seqL_ok st3.sr (r1.keep st3.keep) h1
          obtain ⟨b', ws, eb, sq2, rr2⟩ := seqL_ok st3.sr (r2.keep st3.keep) h2
          cases ea; cases eb
          obtain ⟨its, w1, ⟨⟨oc, od, oda, os⟩, no, g1, c1, c2, c3⟩, _⟩ := I2.list sq1
          obtain ⟨its2, w2, ⟨⟨oc', od', oda', os'⟩, no', g2, c1', c2', c3'⟩, _⟩ := I2.list sq2
          simp only at c1 c2 c3 c1' c2' c3'
          subst c1 c2 c3 c1' c2' c3'
          exact ⟨its.toArray, its2.toArray, no, no', _, _, _, _, g1, g2, by rw [List.size_toArray, ← w1.length, ← rr1.length]; exact hi', by rw [List.size_toArray, ← w2.length, ← rr2.length, ← hl]; exact hi'⟩
  · rintro s' ⟨_, H', I', st, hj⟩
    have e : bs.all id = true := List.all_eq_true.mpr fun x hx => by
      obtain ⟨j, hj2⟩ := List.getElem?_of_mem hx
      have := hj j (by rw [← hbl]; exact (List.getElem?_eq_some_iff.mp hj2).1)
      rw [hj2] at this
      cases this
      rfl
    have q := q H' st
    rw [e] at q
    exact ⟨true, H', rfl, I', q⟩
  · rintro s' ⟨H', I', st, e⟩
    have q := q H' st
    rw [e] at q
    exact ⟨false, H', rfl, I', q⟩
theorem od_eqLs (W : ∀ C, PySem.W.nsIn X.K mainGlobals c = some (some (.ref C)) → OwnEq X.K T C) (F : MethD X.prog X.w X.K X.mg X.base c "__eq__" k ps B sp) (hr : Room (k + 1) X.A) (hb : ∀ fd, B fd → Binds X.K fd ps []) (hx : Passes (L2.CX X.prog X.w) X (fun _ _ _ => False)) :
    OpR X (compareOp .Eq) (L2op X.K (dEqLs T c sp id)) := by
  intro pins s σ H x y v u Q I rx ry ⟨d, e, M, Qd, r1, r2, sr, q, cc⟩
  obtain ⟨ds, es, bs, h1, h2, q⟩ := q
  obtain ⟨a, vs, rfl, sq1, rr1⟩ := seqL_ok sr r1 h1
  obtain ⟨b, ws, rfl, sq2, rr2⟩ := seqL_ok sr r2 h2
  cases (show v = Value.ref a from rx)
  cases (show u = Value.ref b from ry)
  rcases q with ⟨hl, q⟩ | ⟨hl, hbl, hit, q⟩
  · obtain ⟨its, w1, p1, _⟩ := I.list sq1
    obtain ⟨its2, w2, p2, _⟩ := I.list sq2
    have hne : (its.toArray.size != its2.toArray.size) = true := by
      rw [List.size_toArray, List.size_toArray, ← w1.length, ← w2.length, ← rr1.length, ← rr2.length]
      exact bne_iff_ne.mpr hl
    exact SeqAt.eq_list_lengthsAt p1.isList p2.isList hne hr.units0 ⟨.bl false, H, I, rfl, cc _ _ _ _ (.refl sr) .bl q⟩
  · exact wpAny_mono (rc_listOwn X.A rfl W F hr hb hx (Q := fun t H' => Q (.bl t) H') I sr r1 r2 h1 h2 hl hbl hit fun H' st => cc _ _ _ _ st .bl q) (fun v s' ⟨t, H', ev, I', q⟩ => ⟨.bl t, H', I', ev, q⟩) fun _ _ x => x
theorem nc_listOwn (A : Around) (hA : A = X.A) (W : ∀ C, PySem.W.nsIn X.K mainGlobals c = some (some (.ref C)) → OwnEq X.K T C) (F : MethD X.prog X.w X.K X.mg X.base c "__eq__" k ps B sp) (hr : Room (k + 1) X.A) (hb : ∀ fd, B fd → Binds X.K fd ps []) (hx : Passes (L2.CX X.prog X.w) X (fun _ _ _ => False))
    {pins : List (Addr × Obj)} {σ : L2.St} {H : Hp} {s : Shared} {M : Mo} {d e : Dv} {a b : Addr} {ds es : List Dv} {bs : List Bool} {Q : Bool → Hp → Prop} (I : Inv X pins σ H s) (sr : SR X.K M H) (r1 : RD X.K H d (.ref a)) (r2 : RD X.K H e (.ref b)) (h1 : seqL M d = some ds) (h2 : seqL M e = some es)
    (hl : ds.length = es.length) (hbl : bs.length = ds.length) (hit : ∀ (i : Nat) x y b, ds[i]? = some x → es[i]? = some y → bs[i]? = some b → EqIt T c sp M x y b) (q : ∀ H', Stp X.K M H M H' → Q (bs.all id) H') :
    wpAny (model X.prog X.w) A (richCompare .NotEq (.ref a) (.ref b)) (fun v s' => ∃ t H', v = .bool (!t) ∧ Inv X pins σ H' s' ∧ Q t H') X.xe s := by
  subst hA
  obtain ⟨C, f, fd, n, cl, hm, b0, F⟩ := F.ex
  have W := W C n
  refine nc_listB (N := ds.length) hr.units0 (fun i s' => i ≤ ds.length ∧ ∃ H', Inv X pins σ H' s' ∧ Stp X.K M H M H' ∧ ∀ j, j < i → bs[j]? = some true) (fun s' => ∃ H', Inv X pins σ H' s' ∧ Stp X.K M H M H' ∧ bs.all id = false) ?_ ?_ ?_ ⟨Nat.zero_le _, H, I, .refl sr, fun j hj => absurd hj (Nat.not_lt_zero _)⟩
  · rintro i s' ⟨hi, H', I', st, hj⟩
    obtain ⟨a', vs, ea, sq1, rr1⟩ := seqL_ok st.sr (r1.keep st.keep) h1
    obtain ⟨b', ws, eb, sq2, rr2⟩ := seqL_ok st.sr (r2.keep st.keep) h2
    cases ea; cases eb
    obtain ⟨its, w1, ⟨⟨oc, od, oda, os⟩, no, g1, c1, c2, c3⟩, _⟩ := I'.list sq1
    obtain ⟨its2, w2, ⟨⟨oc', od', oda', os'⟩, no', g2, c1', c2', c3'⟩, _⟩ := I'.list sq2
    simp only at c1 c2 c3 c1' c2' c3'
    subst c1 c2 c3 c1' c2' c3'
    have l1 : its.length = ds.length := by rw [← w1.length, ← rr1.length]
    have l2 : its2.length = ds.length := by rw [← w2.length, ← rr2.length, hl]
    refine ⟨its.toArray, its2.toArray, no, no', _, _, _, _, g1, g2, by simpa using l1, by simpa using l2, fun k1 k2 => ?_⟩
    have hi' : i < ds.length := by rw [List.size_toArray, l1] at k1; exact k1
    have gx := List.getElem?_eq_getElem hi'
    have gy := List.getElem?_eq_getElem (show i < es.length by omega)
    have gb := List.getElem?_eq_getElem (show i < bs.length by omega)
    have q1 := hit i _ _ _ gx gy gb
    obtain ⟨vx, hvx, rx⟩ := rr1.get gx
    obtain ⟨vy, hvy, ry⟩ := rr2.get gy
    obtain ⟨ux, hux, wx⟩ := w1.get hvx
    obtain ⟨uy, huy, wy⟩ := w2.get hvy
    have ex : its.toArray[i] = ux := by
      have : its[i]? = some its.toArray[i] := by rw [List.getElem?_eq_getElem (by rw [l1]; exact hi')] <;> simp
      exact Option.some.inj (this.symm.trans hux)
    have ey : its2.toArray[i] = uy := by
      have : its2[i]? = some its2.toArray[i] := by rw [List.getElem?_eq_getElem (by rw [l2]; exact hi')] <;> simp
      exact Option.some.inj (this.symm.trans huy)
    rw [ex, ey]
    generalize ds[i] = x at gx q1 rx
    generalize es[i] = y at gy q1 ry
    generalize bs[i] = bi at gb q1
    obtain ⟨fs, hfs⟩ := q1.l
    obtain ⟨gs, hgs⟩ := q1.r
    obtain ⟨ax, C1, dx, vfs, e1, n1, hx1, _⟩ := insV_ok st.sr rx hfs
    obtain ⟨bx, C2, dy, vgs, e2, n2, hy1, _⟩ := insV_ok st.sr ry hgs
    rw [n] at n1 n2
    cases n1
    cases n2
    subst e1
    subst e2
    cases (show ux = Value.ref ax from wx)
    cases (show uy = Value.ref bx from wy)
    have next : bi = true → ∀ s2 H2, Inv X pins σ H2 s2 → Stp X.K M H M H2 → i + 1 ≤ ds.length ∧ ∃ H', Inv X pins σ H' s2 ∧ Stp X.K M H M H' ∧ ∀ j, j < i + 1 → bs[j]? = some true := fun hb1 s2 H2 I2 st2 => ⟨hi', H2, I2, st2, fun j hj2 => by
      by_cases z : j = i
      · rw [z, gb, hb1]
      · exact hj j (by omega)⟩
    by_cases hab : ax = bx
    · subst hab
      have hbi : bi = true := q1.a.elim id fun ⟨h3, h4⟩ => absurd (RD.inj I' h3 _ rx ry) h4
      exact SeqAt.EqAt.same (A := X.A.in1) (s := s') (.ref ax) X.prog X.w X.xe _ (.inl ⟨rfl, next hbi _ H' I' st⟩)
    · refine GQ.eqBool_refG hab ?_
      obtain ⟨mA, O, _⟩ := ins_getR I'.hok hx1
      obtain ⟨od, J, _⟩ := O.look
      obtain ⟨m, hF⟩ := I'.fr
      obtain ⟨ci, nf⟩ := W.own c q1.t C n
      have ty : TyZ X.K H' (.ref bx) (.ref C) := .inr ⟨bx, C, dy, vgs, rfl, hy1, ci, rfl⟩
      refine PySem.W.cmp_K (op := .Eq) (tb := .ref C) hr.in1.units0 hF I'.ok.mod.kin J (tyz_looks I' (show L2.RelV (.ref bx) (Value.ref bx) from rfl) ty) nf hm.at_ hm.fn ?_
      refine wpAny_mono (run_in (A := X.A.in1) (Q := fun z H2 => z = .bl bi ∧ Stp X.K M H' M H2) (us := [.ref ax, .ref bx]) (vs := [.ref ax, .ref bx]) F hr.in1 I'.env0.in1 (hb fd b0) .nil hx I' (.cons rfl (.cons rfl .nil))
        (show LSp X.K sp [.ref ax, .ref bx] H' (fun z H2 => z = .bl bi ∧ Stp X.K M H' M H2) _ from ⟨[x, y], M, _, Ed0, RDs.cons rx (RDs.cons ry RDs.nil), st.sr, q1.s, fun z M' v H2 s2 rz hz => by
          obtain ⟨rfl, rfl⟩ := hz
          exact ⟨rz.bl_of, s2⟩, ctx0⟩)) (fun w s2 z => ?_) fun _ _ x => x
      obtain ⟨z', H2, I2, rz, ez, st2⟩ := z
      subst ez
      have ew : w = Value.bool bi := rz
      subst ew
      have st3 := st.trans st2
      refine ⟨bi, rfl, ?_⟩
      cases hbi : bi with
      | true => exact .inl ⟨rfl, next hbi _ H2 I2 st3⟩
      | false =>
        refine .inr ⟨rfl, ⟨H2, I2, st3, ?_⟩, ?_⟩
        · rw [hbi] at gb
          cases e : bs.all id with
          | false => rfl
          | true => exact absurd (List.all_eq_true.mp e false (List.mem_of_getElem? gb)) (by decide)
        · obtain ⟨a', vs, ea, sq1, rr1⟩ := seqL_ok st3.sr (r1.keep st3.keep) h1
          obtain ⟨b', ws, eb, sq2, rr2⟩ := seqL_ok st3.sr (r2.keep st3.keep) h2
          cases ea; cases eb
          obtain ⟨its, w1, ⟨⟨oc, od, oda, os⟩, no, g1, c1, c2, c3⟩, _⟩ := I2.list sq1
          obtain ⟨its2, w2, ⟨⟨oc', od', oda', os'⟩, no', g2, c1', c2', c3'⟩, _⟩ := I2.list sq2
          simp only at c1 c2 c3 c1' c2' c3'
          subst c1 c2 c3 c1' c2' c3'
          exact ⟨its.toArray, its2.toArray, no, no', _, _, _, _, g1, g2, by rw [List.size_toArray, ← w1.length, ← rr1.length]; exact hi', by rw [List.size_toArray, ← w2.length, ← rr2.length, ← hl]; exact hi'⟩
  · rintro s' ⟨_, H', I', st, hj⟩
    have e : bs.all id = true := List.all_eq_true.mpr fun x hx => by
      obtain ⟨j, hj2⟩ := List.getElem?_of_mem hx
      have := hj j (by rw [← hbl]; exact (List.getElem?_eq_some_iff.mp hj2).1)
      rw [hj2] at this
      cases this
      rfl
    have q := q H' st
    rw [e] at q
    exact ⟨true, H', rfl, I', q⟩
  · rintro s' ⟨H', I', st, e⟩
    have q := q H' st
    rw [e] at q
    exact ⟨false, H', rfl, I', q⟩
theorem od_neLs (W : ∀ C, PySem.W.nsIn X.K mainGlobals c = some (some (.ref C)) → OwnEq X.K T C) (F : MethD X.prog X.w X.K X.mg X.base c "__eq__" k ps B sp) (hr : Room (k + 1) X.A) (hb : ∀ fd, B fd → Binds X.K fd ps []) (hx : Passes (L2.CX X.prog X.w) X (fun _ _ _ => False)) :
    OpR X (compareOp .NotEq) (L2op X.K (dEqLs T c sp (!·))) := by
  intro pins s σ H x y v u Q I rx ry ⟨d, e, M, Qd, r1, r2, sr, q, cc⟩
  obtain ⟨ds, es, bs, h1, h2, q⟩ := q
  obtain ⟨a, vs, rfl, sq1, rr1⟩ := seqL_ok sr r1 h1
  obtain ⟨b, ws, rfl, sq2, rr2⟩ := seqL_ok sr r2 h2
  cases (show v = Value.ref a from rx)
  cases (show u = Value.ref b from ry)
  rcases q with ⟨hl, q⟩ | ⟨hl, hbl, hit, q⟩
  · obtain ⟨its, w1, p1, _⟩ := I.list sq1
    obtain ⟨its2, w2, p2, _⟩ := I.list sq2
    have hne : (its.toArray.size != its2.toArray.size) = true := by
      rw [List.size_toArray, List.size_toArray, ← w1.length, ← w2.length, ← rr1.length, ← rr2.length]
      exact bne_iff_ne.mpr hl
    exact ne_lengths p1.isList p2.isList hne hr.units0 ⟨.bl true, H, I, rfl, cc _ _ _ _ (.refl sr) .bl q⟩
  · exact wpAny_mono (nc_listOwn X.A rfl W F hr hb hx (Q := fun t H' => Q (.bl (!t)) H') I sr r1 r2 h1 h2 hl hbl hit fun H' st => cc _ _ _ _ st .bl q) (fun v s' ⟨t, H', ev, I', q⟩ => ⟨.bl (!t), H', I', ev, q⟩) fun _ _ x => x
end
section
variable {M : Mo} {Q : QD} {T : List Str} {c : Str} {sp : SpD} {g : Bool → Bool} {d e : Dv} {ds es : List Dv}
theorem i_eqLs (bs : List Bool) (h1 : seqL M d = some ds) (h2 : seqL M e = some es) (hl : ds.length = es.length) (hb : bs.length = ds.length) (hit : ∀ (i : Nat) x y b, ds[i]? = some x → es[i]? = some y → bs[i]? = some b → EqIt T c sp M x y b) (h : Q (.bl (g (bs.all id))) M) : dEqLs T c sp g d e M Q :=
  ⟨ds, es, bs, h1, h2, .inr ⟨hl, hb, hit, h⟩⟩
theorem i_eqLn (h1 : seqL M d = some ds) (h2 : seqL M e = some es) (hl : ds.length ≠ es.length) (h : Q (.bl (g false)) M) : dEqLs T c sp g d e M Q :=
  ⟨ds, es, [], h1, h2, .inl ⟨hl, h⟩⟩
end
end DL

namespace DL
open PySem PySem.Spec PyProof.Rows L2
/-! ### a, b = x, y with plain local names -/
def kTwo (ds : List Dv) (R : Dv → Dv → Prop) : Prop := match ds with
  | [d, e] => R d e
  | _ => False
def kThree (ds : List Dv) (R : Dv → Dv → Dv → Prop) : Prop := match ds with
  | [d, e, f] => R d e f
  | _ => False
def dPar2 (i j : Nat) (ta : TAD) : TSD := fun D sd M => ta sd M fun ds M1 => kTwo ds fun d e => gN i d sd M1 fun sd1 M2 => gN j e sd1 M2 D.nx
def dPar3 (i j l : Nat) (ta : TAD) : TSD := fun D sd M => ta sd M fun ds M1 => kThree ds fun d e f => gN i d sd M1 fun sd1 M2 => gN j e sd1 M2 fun sd2 M3 => gN l f sd2 M3 D.nx
section
variable {X : Cx} {M0 : Mo} {H0 : Hp}
theorem ds_par2 {i j : Nat} {x y : Str} {a b : Expr} {ta : TAD} {px py pt pos : Pos} {kt k2 pt2} (hc : X.calm = true) (hN : X.N.Nodup) (hi : X.N[i]? = some x) (hj : X.N[j]? = some y) (hij : i ≠ j)
    (hx : X.env.scope.names.lookup x = some .local) (hy : X.env.scope.names.lookup y = some .local) (ha : PAd X M0 H0 [a, b] ta)
    (hw : swappedStores [.Tuple [.Name x px, .Name y py] kt pt] (.Tuple [a, b] k2 pt2) X.env = pure (some [x, y]) := by rfl)
    (hs : swapsWithSole [.Tuple [.Name x px, .Name y py] kt pt] (.Tuple [a, b] k2 pt2) pos.line X.env = pure false := by rfl) :
    PSd X M0 H0 (.Assign [.Tuple [.Name x px, .Name y py] kt pt] (.Tuple [a, b] k2 pt2) pos) (dPar2 i j ta) :=
  PS.imp (ps_par hc hN hi hj hij hx hy ha hw hs) fun D σ H ⟨sd, M, Dd, w, q, c⟩ => ⟨sd, M, _, w, q, fun ds M1 vs H1 s1 r1 q1 => by
    unfold kTwo at q1
    split at q1
    · obtain ⟨v, u, rfl, r1, r2⟩ := r1.two
      exact ⟨v, u, rfl, c.nx _ _ _ _ s1 (((w.on s1).rs.set r1 i).set r2 j) q1⟩
    · exact q1.elim⟩
theorem RDs.three {K : PySem.W.Frag} {H : Hp} {d e f : Dv} {vs : List V} (r : RDs K H [d, e, f] vs) : ∃ v u w, vs = [v, u, w] ∧ RD K H d v ∧ RD K H e u ∧ RD K H f w := by
  unfold RDs at r
  obtain ⟨v, w, rfl, r1, r2⟩ := r
  obtain ⟨u, z, rfl, r3, r4⟩ := r2.two
  exact ⟨v, u, z, rfl, r1, r3, r4⟩
theorem ds_par3 {i j l : Nat} {x y z : Str} {a b c : Expr} {ta : TAD} {px py pz pt pos : Pos} {kt k2 pt2} (hc : X.calm = true) (hN : X.N.Nodup) (hi : X.N[i]? = some x) (hj : X.N[j]? = some y) (hl : X.N[l]? = some z) (hij : i ≠ j) (hil : i ≠ l) (hjl : j ≠ l)
    (hx : X.env.scope.names.lookup x = some .local) (hy : X.env.scope.names.lookup y = some .local) (hz : X.env.scope.names.lookup z = some .local) (ha : PAd X M0 H0 [a, b, c] ta)
    (hw : swappedStores [.Tuple [.Name x px, .Name y py, .Name z pz] kt pt] (.Tuple [a, b, c] k2 pt2) X.env = pure (some [x, y, z]) := by rfl)
    (hs : swapsWithSole [.Tuple [.Name x px, .Name y py, .Name z pz] kt pt] (.Tuple [a, b, c] k2 pt2) pos.line X.env = pure false := by rfl) :
    PSd X M0 H0 (.Assign [.Tuple [.Name x px, .Name y py, .Name z pz] kt pt] (.Tuple [a, b, c] k2 pt2) pos) (dPar3 i j l ta) :=
  PS.imp (ps_par3 hc hN hi hj hl hij hil hjl hx hy hz ha hw hs) fun D σ H ⟨sd, M, Dd, w, q, c⟩ => ⟨sd, M, _, w, q, fun ds M1 vs H1 s1 r1 q1 => by
    unfold kThree at q1
    split at q1
    · obtain ⟨v, u, z, rfl, r1, r2, r3⟩ := r1.three
      exact ⟨v, u, z, rfl, c.nx _ _ _ _ s1 ((((w.on s1).rs.set r1 i).set r2 j).set r3 l) q1⟩
    · exact q1.elim⟩
end
section
variable {sd : StD} {M : Mo} {D : EndsD} {i j l : Nat} {ta : TAD} {d e f : Dv} {R : Dv → Dv → Prop} {R3 : Dv → Dv → Dv → Prop}
instance s_par2 {a b : StD → Mo → Prop} {r : QD} {c : StD → Mo → Prop} : Step (dPar2 i j ta ⟨a, r, b, c⟩ sd M) (ta sd M fun ds M1 => kTwo ds fun d e => gN i d sd M1 fun sd1 M2 => gN j e sd1 M2 a) := ⟨id⟩
instance s_par3 {a b : StD → Mo → Prop} {r : QD} {c : StD → Mo → Prop} : Step (dPar3 i j l ta ⟨a, r, b, c⟩ sd M) (ta sd M fun ds M1 => kThree ds fun d e f => gN i d sd M1 fun sd1 M2 => gN j e sd1 M2 fun sd2 M3 => gN l f sd2 M3 a) := ⟨id⟩
instance s_kTwo : Step (kTwo [d, e] R) (R d e) := ⟨id⟩
instance s_kThree : Step (kThree [d, e, f] R3) (R3 d e f) := ⟨id⟩
end
/-! ### o.f += e, of ints -/
def kAugS (c f : Str) (i : Int) (nx : StD → Mo → Prop) (sd : StD) (a : Addr) (M : Mo) : Prop := match M a with
  | some (.ins c2 fs) => c2 = c ∧ fs.length < 1000 ∧ nx sd (mup M a (.ins c (putD f (.int i) fs)))
  | _ => False
def kAugF (T : List (Str × Str)) (f : Str) (te : TED) (nx : StD → Mo → Prop) (sd : StD) (o : Dv) (M : Mo) : Prop := match o with
  | .ref a => match M a with
    | some (.ins c fs) => (c, f) ∈ T ∧ match fs.lookup f with
      | some (.int i) => te sd M fun y M2 => match y with
        | .int j => kAugS c f (i + j) nx sd a M2
        | _ => False
      | _ => False
    | _ => False
  | _ => False
def dSFldAdd (T : List (Str × Str)) (f : Str) (to te : TED) : TSD := fun D sd M => to sd M fun o M1 => kAugF T f te D.nx sd o M1
section
variable {X : Cx} {M0 : Mo} {H0 : Hp} {T : List (Str × Str)} {e o : Expr} {te to : TED} {f : Str} {pos tpos : Pos}
theorem ds_fldadd (hT : FldOk X.K T) (ho : PEd X M0 H0 o to) (he : PEd X M0 H0 e te) : PSd X M0 H0 (.AugAssign (.Attribute o f tpos) .Add e pos) (dSFldAdd T f to te) :=
  PS.imp (ps_fldaug ho he in_add) fun Dn σ H ⟨sd, M, Dd, w, q, c⟩ => ⟨sd, M, _, w, q, fun od M1 ov H1 s1 r1 q1 => by
    unfold kAugF at q1
    split at q1
    · rename_i a
      split at q1
      · rename_i cn fs e1
        obtain ⟨m, q1⟩ := q1
        split at q1
        · rename_i i l
          obtain ⟨C, dx, vfs, n, hv, rr⟩ := ins_at s1.sr e1
          obtain ⟨k1, k2⟩ := hT.ok _ _ m C n
          obtain ⟨v', l', r'⟩ := rr.lookup l
          refine ⟨a, C, dx, vfs, v', r1.ref_of, hv, k1, k2, l', sd, M1, _, w.on s1, q1, fun y M2 yv H2 s2 r2 q2 => ?_⟩
          split at q2
          · rename_i j
            refine ⟨i, j, r'.int_of, r2.int_of, ?_⟩
            unfold kAugS at q2
            split at q2
            · rename_i c2 fs2 e2
              obtain ⟨rfl, hl, q2⟩ := q2
              obtain ⟨C2, dx2, vfs2, n2, hv2, rr2⟩ := ins_at s2.sr e2
              rw [n] at n2
              cases n2
              have mu : Mutd (H2 a) := by rw [hv2]; trivial
              have st : Stp X.K M2 H2 (mup M2 a (.ins c2 (putD f (.int (i + j)) fs2))) (upd H2 a (.ins C dx2 (putF f (.int (i + j)) vfs2))) := by
                refine Stp.set s2.sr e2 mu ?_
                simp only [Own]
                have k : Keep H2 (upd H2 a (.ins C dx2 (putF f (.int (i + j)) vfs2))) := Keep.mut mu
                exact ⟨C, dx2, _, n, upd_same, RDf.put f .int (rr2.keep k)⟩
              have s3 := s1.trans (s2.trans st)
              exact ⟨dx2, vfs2, hv2, by rw [← rr2.length]; exact hl, c.nx _ _ _ _ s3 (w.rs.keep s3.keep) q2⟩
            · exact q2.elim
          · exact q2.elim
        · exact q1.elim
      · exact q1.elim
    · exact q1.elim⟩
end
section
variable {sd : StD} {M : Mo} {Q : QD} {d v : Dv} {a : Addr} {c f m : Str} {fs fs' : List (Str × Dv)} {T : List (Str × Str)} {te to : TED} {i j : Int} {nx : StD → Mo → Prop}
instance s_sfldadd {b k : StD → Mo → Prop} {r : QD} : Step (dSFldAdd T f to te ⟨nx, r, b, k⟩ sd M) (to sd M fun o M1 => kAugF T f te nx sd o M1) := ⟨id⟩
def kJ (y : Dv) (F : Int → Prop) : Prop := match y with
  | .int j => F j
  | _ => False
instance s_kJ {F : Int → Prop} : Step (kJ (.int j) F) (F j) := ⟨id⟩
theorem i_augF (h1 : M a = some (.ins c fs)) (h2 : (c, f) ∈ T) (h3 : fs.lookup f = some (.int i)) (q : te sd M fun y M2 => kJ y fun j => kAugS c f (i + j) nx sd a M2) : kAugF T f te nx sd (.ref a) M := by
  unfold kAugF
  simp only [h1, h3]
  exact ⟨h2, q⟩
theorem i_augS (h1 : M a = some (.ins c fs)) (hp : PutAt f (.int i) fs fs') (h3 : fs.length < 1000) (q : nx sd (mup M a (.ins c fs'))) : kAugS c f i nx sd a M := by
  unfold kAugS
  simp only [h1]
  rw [hp.eq]
  exact ⟨trivial, h3, q⟩
end
end DL

namespace DL
open PySem PySem.Spec PyProof.Rows L2
/-! ### texts compared -/
def dGtS : R2d := fun d e M Q => match d, e with
  | .str x, .str y => Q (.bl (decide (y.cps.toList < x.cps.toList))) M
  | _, _ => False
def dLtS : R2d := fun d e M Q => match d, e with
  | .str x, .str y => Q (.bl (decide (x.cps.toList < y.cps.toList))) M
  | _, _ => False
section
variable {X : Cx}
theorem od_gtS : OpR X (compareOp .Gt) (L2op X.K dGtS) := opd_I op_gt_str fun d e M Qd x y H Q r1 r2 sr q c => by
  unfold dGtS at q
  split at q
  · exact ⟨_, _, r1.str_of, r2.str_of, c _ M _ H (.refl sr) .bl q⟩
  · exact q.elim
theorem od_ltS : OpR X (compareOp .Lt) (L2op X.K dLtS) := opd_I op_lt_str fun d e M Qd x y H Q r1 r2 sr q c => by
  unfold dLtS at q
  split at q
  · exact ⟨_, _, r1.str_of, r2.str_of, c _ M _ H (.refl sr) .bl q⟩
  · exact q.elim
end
section
variable {M : Mo} {Q : QD} {x y : Str}
instance s_gtS : Step (dGtS (.str x) (.str y) M Q) (Q (.bl (decide (y.cps.toList < x.cps.toList))) M) := ⟨id⟩
instance s_ltS : Step (dLtS (.str x) (.str y) M Q) (Q (.bl (decide (x.cps.toList < y.cps.toList))) M) := ⟨id⟩
end
section
variable {X : Cx} {M0 : Mo} {H0 : Hp} {k : Nat} {ps : List Str} {B : FuncData → Prop} {sp : SpD} {x : Str} {p pos : Pos} {e : Expr} {es : List Expr} {t : TAD} {Wd : WXD} {W : WX}
/-- f(..) in a try's suite -/
theorem de_callFS (F : FnD X.prog X.w X.K X.mg X.base x k ps B sp) (hr : Room k X.A) (hg : Gl X x) (hb : ∀ fd, B fd → Binds X.K fd ps []) (tk : L2.Takes X W) (cw : CtW X.K M0 H0 Wd W)
    (ha : PAd X M0 H0 (e :: es) t) (hdb : (x == ("__debug__" : Str)) = false := by decide) (he : starEach (e :: es) X.env = (false, eval e X.env) :: starEach es X.env := by rfl) (hpl : (backTo pos (starEach es X.env)).any (·.1) = false := by rfl) :
    PEd X M0 H0 (.Call (.Name x p) (e :: es) [] pos) (dCallS sp Wd t) := by
  obtain ⟨f, fd, hm, hk, b, F⟩ := F.ex
  exact de_callS F hr hg hm hk (hb fd b) tk cw ha hdb he hpl
end
instance s_callS {sp : SpD} {Wd : WXD} {t : TAD} {sd : StD} {M : Mo} {Q : QD} : Step (dCallS sp Wd t sd M Q) (t sd M fun ds M1 => sp ds M1 Q fun x f d M' => Wd x f d sd M') := ⟨id⟩
end DL

namespace DL
open PySem PySem.Spec PyProof.Rows L2
/-! ### zip of any two, strict -/
abbrev IsZipS (h : Heap) (z TI TO : Addr) (f0 : Value) : Prop :=
  h.get? z = some { cls := .type "zip", dict := none, data := .fields #[f0, .bool false, .bool true, .ref TI, .ref TO], slots := #[] }
section
variable {prog : Program} {w : World} {A : Around} {E : Value → Shared → Prop} {s : Shared} {z TI TO i1 i2 : Addr} {fp1 fp2 fp : List Addr} {it : Addr} {n n1 n2 i : Nat} {P P1 P2 : Nat → Value → Prop} {St St1 St2 : Nat → Heap → Prop} {a1 a2 : Value}
theorem noe_item {Q : Option Value → Shared → Prop} (D : Draws prog w A it fp n P St) (hi : i < n) (st : St i s.heap) (hQ : ∀ x h' tk, P i x → St (i + 1) h' → Heap.SameBut it s.heap h' → Q (some x) { s with heap := h', toks := tk }) :
    wpAny (model prog w) A (Builtin.SmallTypes.nextOrEnd (.ref it)) Q E s := by
  unfold Builtin.SmallTypes.nextOrEnd
  exact wpAny_bind (wpAny_attempt (D.item i s _ _ hi st fun x h' tk a b c => wpAny_pure (hQ x h' tk a b c)))
theorem noe_end {Q : Option Value → Shared → Prop} (D : Draws prog w A it fp n P St) (st : St n s.heap) (hQ : ∀ h', Heap.ExtBut it s.heap h' → Q none { s with heap := h' }) :
    wpAny (model prog w) A (Builtin.SmallTypes.nextOrEnd (.ref it)) Q E s := by
  unfold Builtin.SmallTypes.nextOrEnd
  refine wpAny_bind (wpAny_attempt (D.done s _ _ st fun h' e hk he => ?_))
  obtain ⟨o, ho, hc⟩ := he
  refine wpAny_bind (wpAny_isInstance (T := "StopIteration") (b := true) ⟨o, ho, hc⟩ isSubtype_stop ?_)
  exact wpAny_pure (hQ _ hk)
theorem zipSt_item {Q : Value → Shared → Prop} (S : ZipSep2 z TI TO i1 i2 fp1 fp2) (D1 : Draws prog w A i1 fp1 n1 P1 St1) (D2 : Draws prog w A i2 fp2 n2 P2 St2)
    (hz : IsZipS s.heap z TI TO .none) (hTI : IsTupOf2 s.heap TI (.ref i1) (.ref i2)) (hTO : IsTupOf2 s.heap TO a1 a2) (st1 : St1 i s.heap) (st2 : St2 i s.heap) (hlt1 : i < n1) (hlt2 : i < n2)
    (hQ : ∀ x1 x2 h' tk, P1 i x1 → P2 i x2 → IsZipS h' z TI TO (rawInt s.heap.objs.size) → IsTupOf2 h' TO x1 x2 → St1 (i + 1) h' → St2 (i + 1) h' → IsTupOf2 h' s.heap.objs.size x1 x2 → h'.objs.size = s.heap.objs.size + 1 →
      (∀ c o, c ≠ z → c ≠ TO → c ≠ i1 → c ≠ i2 → s.heap.get? c = some o → h'.get? c = some o) → Q (.ref s.heap.objs.size) { s with heap := h', toks := tk }) :
    wpAny (model prog w) A (Builtin.«zip.__next__» ⟨[.ref z], []⟩) (fun fin s' => ∃ v, fin = .done (.ret v) ∧ Q v s') E s := by
  obtain ⟨hp, g, d, tk0, os⟩ := s
  show wpAny _ _ (field (.ref z) 2 >>= _) _ _ _
  refine wpAny_bind (wpAny_field hz rfl (x := .bool true) rfl ?_)
  show wpAny _ _ (field (.ref z) 3 >>= _) _ _ _
  refine wpAny_bind (wpAny_field hz rfl (x := .ref TI) rfl ?_)
  refine wpAny_bind (wpAny_seqItems hTI rfl ?_)
  show wpAny _ _ (Builtin.SmallTypes.ownedTupleIsFree (.ref z) >>= _) _ _ _
  refine wpAny_bind ?_
  unfold Builtin.SmallTypes.ownedTupleIsFree
  refine wpAny_bind (wpAny_field hz rfl (x := .none) rfl (wpAny_pure ?_))
  simp only [if_true]
  refine wpAny_bind (wpAny_rule ?_)
  refine wpAny_bind (wpAny_field hz rfl (x := .ref TO) rfl ?_)
  refine wpAny_bind (wpAny_setField_rec hz (by simp) fun g0 hz0 hs0 => ?_)
  replace hz0 : IsZipS g0 z TI TO .ellipsis := hz0
  replace hs0 : Heap.SameBut z hp g0 := hs0
  refine wpAny_bind ?_
  simp only [List.zipIdx_cons, List.zipIdx_nil, List.forIn_cons, List.forIn_nil]
  refine wpAny_bind (wpAny_bind (wpAny_onRaise ?_))
  show wpAny _ _ (Builtin.SmallTypes.nextOrEnd (.ref i1)) _ _ ⟨g0, g, d, tk0, os⟩
  refine noe_item D1 hlt1 (D1.over st1 hs0 S.zf1) fun x1 p1 tk1 hx1 sn1 hp1 => ?_
  replace hp1 : Heap.SameBut i1 g0 p1 := hp1
  have hU1 : IsTupOf2 p1 TO a1 a2 := hp1.extBut _ _ S.Ti1 (hs0.extBut _ _ S.TOz hTO)
  refine wpAny_bind (wpAny_seqItems (s := ⟨p1, g, d, tk1, os⟩) hU1 rfl ?_)
  refine wpAny_bind (updateSeq_IsTupOf2 (s := ⟨p1, g, d, tk1, os⟩) hU1 fun g1 hT1 hs1 => ?_)
  replace hT1 : IsTupOf2 g1 TO x1 a2 := hT1
  replace hs1 : Heap.SameBut TO p1 g1 := hs1
  refine wpAny_bind (wpAny_letGo (wpAny_pure ?_))
  refine wpAny_bind (wpAny_bind (wpAny_onRaise ?_))
  show wpAny _ _ (Builtin.SmallTypes.nextOrEnd (.ref i2)) _ _ ⟨g1, g, d, tk1, os⟩
  refine noe_item D2 hlt2 (D2.over (D2.over (D2.over st2 hs0 S.zf2) hp1 S.sep1_2) hs1 S.Tf2) fun x2 p2 tk2 hx2 sn2 hp2 => ?_
  replace hp2 : Heap.SameBut i2 g1 p2 := hp2
  have hU2 : IsTupOf2 p2 TO x1 a2 := hp2.extBut _ _ S.Ti2 hT1
  refine wpAny_bind (wpAny_seqItems (s := ⟨p2, g, d, tk2, os⟩) hU2 rfl ?_)
  refine wpAny_bind (updateSeq_IsTupOf2 (s := ⟨p2, g, d, tk2, os⟩) hU2 fun g2 hT2 hs2 => ?_)
  replace hT2 : IsTupOf2 g2 TO x1 x2 := hT2
  replace hs2 : Heap.SameBut TO p2 g2 := hs2
  refine wpAny_bind (wpAny_letGo (wpAny_pure (wpAny_pure ?_)))
  refine wpAny_bind (wpAny_seqItems (s := ⟨g2, g, d, tk2, os⟩) hT2 rfl ?_)
  refine wpAny_bind (wpAny_newTuple ?_)
  have hsz : g2.objs.size = hp.objs.size := by rw [hs2.1, hp2.1, hs1.1, hp1.1, hs0.1]
  have hzz : IsZipS g2 z TI TO .ellipsis := (hs2.extBut _ _ S.TOz.symm (hp2.extBut _ _ S.zi2 (hs1.extBut _ _ S.TOz.symm (hp1.extBut _ _ S.zi1 hz0))))
  have hkk : ∀ c o, c ≠ z → c ≠ TO → c ≠ i1 → c ≠ i2 → hp.get? c = some o → g2.get? c = some o := fun c o cz cT c1 c2 e =>
    (hs2.extBut _ _ cT (hp2.extBut _ _ c2 (hs1.extBut _ _ cT (hp1.extBut _ _ c1 (hs0.extBut _ _ cz e)))))
  have hj1 : St1 (i + 1) g2 := (D1.over (D1.over (D1.over sn1 hs1 S.Tf1) hp2 S.sep2_1) hs2 S.Tf1)
  have hj2 : St2 (i + 1) g2 := (D2.over sn2 hs2 S.Tf2)
  have hzlt : z < g2.objs.size := Heap.lt_size hzz
  show wpAny _ _ (Builtin.SmallTypes.ownedTupleHandOut (.ref z) (.ref g2.objs.size) >>= _) _ _ ⟨g2.push { cls := .type "tuple", data := .seq #[x1, x2] }, g, d, tk2, os⟩
  refine wpAny_bind ?_
  unfold Builtin.SmallTypes.ownedTupleHandOut
  have hz₆ : IsZipS (g2.push { cls := .type "tuple", data := .seq #[x1, x2] }) z TI TO .ellipsis := Heap.get?_push_of_some _ hzz
  refine wpAny_bind (wpAny_setField_rec hz₆ (by simp) fun h₇ hz₇ hs₇ => ?_)
  replace hz₇ : IsZipS h₇ z TI TO (rawInt g2.objs.size) := hz₇
  refine wpAny_setField_rec hz₇ (by simp) fun h₈ hz₈ hs₈ => ?_
  replace hz₈ : IsZipS h₈ z TI TO (rawInt g2.objs.size) := hz₈
  replace hs₇ : Heap.SameBut z (g2.push { cls := .type "tuple", data := .seq #[x1, x2] }) h₇ := hs₇
  replace hs₈ : Heap.SameBut z h₇ h₈ := hs₈
  have up : ∀ c o, c ≠ z → g2.get? c = some o → h₈.get? c = some o := fun c o c1 e => hs₈.extBut _ _ c1 (hs₇.extBut _ _ c1 (Heap.get?_push_of_some _ e))
  have hT₈ : IsTupOf2 h₈ g2.objs.size x1 x2 := hs₈.extBut _ _ (Nat.ne_of_gt hzlt) (hs₇.extBut _ _ (Nat.ne_of_gt hzlt) (Heap.get?_push_size _ rfl))
  have hz8 : h₈.objs.size = g2.objs.size + 1 := by rw [hs₈.1, hs₇.1, Heap.size_push]
  rw [hsz] at hz₈ hT₈ hz8
  refine wpAny_pure ⟨_, rfl, ?_⟩
  show Q (.ref g2.objs.size) ⟨h₈, g, d, tk2, os⟩
  rw [hsz]
  exact hQ x1 x2 h₈ tk2 hx1 hx2 hz₈ (up _ _ S.TOz hT2) (D1.frame _ _ _ hj1 fun b hb o e => up b o (fun q => S.zf1 (q ▸ hb)) e) (D2.frame _ _ _ hj2 fun b hb o e => up b o (fun q => S.zf2 (q ▸ hb)) e) hT₈ hz8 fun c o cz cT c1 c2 e => up c o cz (hkk c o cz cT c1 c2 e)
theorem zipSt_end {Q : Fin → Shared → Prop} (hh : A.handled = none) (S : ZipSep2 z TI TO i1 i2 fp1 fp2) (D1 : Draws prog w A i1 fp1 n P1 St1) (D2 : Draws prog w A i2 fp2 n P2 St2)
    (hz : IsZipS s.heap z TI TO .none) (hTI : IsTupOf2 s.heap TI (.ref i1) (.ref i2)) (hTO : IsTupOf2 s.heap TO a1 a2) (st1 : St1 n s.heap) (st2 : St2 n s.heap)
    (hE : ∀ h' tk e, (∀ c o, c ≠ z → c ≠ TO → c ≠ i1 → c ≠ i2 → s.heap.get? c = some o → h'.get? c = some o) → (∃ o, h'.get? e = some o ∧ o.cls = .type "StopIteration") → E (.ref e) { s with heap := h', toks := tk }) :
    wpAny (model prog w) A (Builtin.«zip.__next__» ⟨[.ref z], []⟩) Q E s := by
  obtain ⟨hp, g, d, tk0, os⟩ := s
  show wpAny _ _ (field (.ref z) 2 >>= _) _ _ _
  refine wpAny_bind (wpAny_field hz rfl (x := .bool true) rfl ?_)
  show wpAny _ _ (field (.ref z) 3 >>= _) _ _ _
  refine wpAny_bind (wpAny_field hz rfl (x := .ref TI) rfl ?_)
  refine wpAny_bind (wpAny_seqItems hTI rfl ?_)
  show wpAny _ _ (Builtin.SmallTypes.ownedTupleIsFree (.ref z) >>= _) _ _ _
  refine wpAny_bind ?_
  unfold Builtin.SmallTypes.ownedTupleIsFree
  refine wpAny_bind (wpAny_field hz rfl (x := .none) rfl (wpAny_pure ?_))
  simp only [if_true]
  refine wpAny_bind (wpAny_rule ?_)
  refine wpAny_bind (wpAny_field hz rfl (x := .ref TO) rfl ?_)
  refine wpAny_bind (wpAny_setField_rec hz (by simp) fun g0 hz0 hs0 => ?_)
  replace hz0 : IsZipS g0 z TI TO .ellipsis := hz0
  replace hs0 : Heap.SameBut z hp g0 := hs0
  refine wpAny_bind ?_
  simp only [List.zipIdx_cons, List.zipIdx_nil, List.forIn_cons, List.forIn_nil]
  refine wpAny_bind (wpAny_bind (wpAny_onRaise ?_))
  show wpAny _ _ (Builtin.SmallTypes.nextOrEnd (.ref i1)) _ _ ⟨g0, g, d, tk0, os⟩
  refine noe_end D1 (D1.over st1 hs0 S.zf1) fun q1 hq1 => ?_
  replace hq1 : Heap.ExtBut i1 g0 q1 := hq1
  have z1 : IsZipS q1 z TI TO .ellipsis := hq1 _ _ S.zi1 hz0
  show wpAny _ _ (setField (.ref z) 0 .none >>= _) _ _ _
  refine wpAny_bind (wpAny_setField_rec z1 (by simp) fun q2 z2 hs2 => ?_)
  replace hs2 : Heap.SameBut z q1 q2 := hs2
  refine wpAny_bind ?_
  show wpAny _ _ (((Builtin.SmallTypes.nextOrEnd (.ref i2) >>= _) >>= _) >>= _) _ _ ⟨q2, g, d, tk0, os⟩
  refine wpAny_bind (wpAny_bind (wpAny_bind (noe_end D2 ?_ fun q3 hq3 => ?_)))
  · refine D2.frame _ _ _ (D2.over st2 hs0 S.zf2) fun b hb o e => hs2.extBut b o (fun q => S.zf2 (q ▸ hb)) (hq1 b o (fun q => S.sep1_2 (q ▸ hb)) e)
  replace hq3 : Heap.ExtBut i2 q2 q3 := hq3
  show wpAny _ _ (pure _) _ _ _
  refine wpAny_pure ?_
  show wpAny _ _ (pure _) _ _ _
  refine wpAny_pure ?_
  refine wpAny_bind (wpAny_rule ?_)
  show wpAny _ _ (newExc (.type "StopIteration") [] >>= _) _ _ _
  refine wpAny_bind ?_
  simp only [newExc, newTuple]
  refine wpAny_bind (wpAny_newObj_type ?_ (by size_fits))
  refine wpAny_bind (m := firstArgMember _ _) (wpAny_of_eq (a := Value.none) (by first | rfl | (simp only [firstArgMember]; rfl)) ?_)
  refine wpAny_newObj_type ?_ (by size_fits)
  simp only [raiseNew]
  refine wpAny_bind (wpAny_handled ?_)
  rw [hh]
  refine wpAny_bind (wpAny_pure (wpAny_throw ?_))
  refine hE _ _ _ (fun c o cz cT c1 c2 x => Heap.get?_push_of_some _ (Heap.get?_push_of_some _ (hq3 _ _ c2 (hs2.extBut _ _ cz (hq1 _ _ c1 (hs0.extBut _ _ cz x)))))) ⟨_, Heap.get?_push_size _ rfl, rfl⟩
theorem pyNext_zipSt_item {Q : Option Value → Shared → Prop} (S : ZipSep2 z TI TO i1 i2 fp1 fp2) (D1 : Draws prog w A.in1 i1 fp1 n1 P1 St1) (D2 : Draws prog w A.in1 i2 fp2 n2 P2 St2)
    (hz : IsZipS s.heap z TI TO .none) (hTI : IsTupOf2 s.heap TI (.ref i1) (.ref i2)) (hTO : IsTupOf2 s.heap TO a1 a2) (st1 : St1 i s.heap) (st2 : St2 i s.heap) (hlt1 : i < n1) (hlt2 : i < n2)
    (hQ : ∀ x1 x2 h' tk, P1 i x1 → P2 i x2 → IsZipS h' z TI TO (rawInt s.heap.objs.size) → IsTupOf2 h' TO x1 x2 → St1 (i + 1) h' → St2 (i + 1) h' → IsTupOf2 h' s.heap.objs.size x1 x2 → h'.objs.size = s.heap.objs.size + 1 →
      (∀ c o, c ≠ z → c ≠ TO → c ≠ i1 → c ≠ i2 → s.heap.get? c = some o → h'.get? c = some o) → Q (some (.ref s.heap.objs.size)) { s with heap := h', toks := tk }) :
    wpAny (model prog w) A (pyNext (.ref z)) Q E s := by
  have hT : s.TypeIs (.ref z) "zip" := ⟨_, hz, rfl⟩
  unfold pyNext
  exact wpAny_bind (wpAny_attempt (wpAny_callSpecial?_slot (name := Str.ofString "__next__") hT F.slot_zip_next
    (wpAny_call_entry F.slot_zip_next hT F.entry_zip_next
      (zipSt_item S D1 D2 hz hTI hTO st1 st2 hlt1 hlt2 fun x1 x2 h' tk y1 y2 b1 b2 d1 d2 b5 b6 b7 => wpAny_pure (hQ x1 x2 h' tk y1 y2 b1 b2 d1 d2 b5 b6 b7)) (F.args_zip_next_1 _))))
theorem pyNext_zipSt_end {Q : Option Value → Shared → Prop} (hh : A.handled = none) (S : ZipSep2 z TI TO i1 i2 fp1 fp2) (D1 : Draws prog w A.in1 i1 fp1 n P1 St1) (D2 : Draws prog w A.in1 i2 fp2 n P2 St2)
    (hz : IsZipS s.heap z TI TO .none) (hTI : IsTupOf2 s.heap TI (.ref i1) (.ref i2)) (hTO : IsTupOf2 s.heap TO a1 a2) (st1 : St1 n s.heap) (st2 : St2 n s.heap)
    (hQ : ∀ h' tk, (∀ c o, c ≠ z → c ≠ TO → c ≠ i1 → c ≠ i2 → s.heap.get? c = some o → h'.get? c = some o) → Q none { s with heap := h', toks := tk }) : wpAny (model prog w) A (pyNext (.ref z)) Q E s := by
  have hT : s.TypeIs (.ref z) "zip" := ⟨_, hz, rfl⟩
  unfold pyNext
  refine wpAny_bind (wpAny_attempt (wpAny_callSpecial?_slot (name := Str.ofString "__next__") hT F.slot_zip_next
    (wpAny_call_entry F.slot_zip_next hT F.entry_zip_next (zipSt_end (by simpa using hh) S D1 D2 hz hTI hTO st1 st2 fun h' tk e hk he => ?_) (F.args_zip_next_1 _))))
  obtain ⟨o, ho, hc⟩ := he
  refine wpAny_bind (wpAny_isInstance (T := "StopIteration") (b := true) ⟨o, ho, hc⟩ isSubtype_stop ?_)
  exact wpAny_pure (hQ _ _ hk)
theorem letGo_zipSt {elts : List Expr} {x1} {pos : Pos} {z TI TO T : Addr} {Q : Unit → Shared → Prop} (hz : IsZipS s.heap z TI TO (rawInt T))
    (hQ : ∀ h', IsZipS h' z TI TO .none → Heap.SameBut z s.heap h' → Q () { s with heap := h' }) :
    wpAny (model prog w) A (letOwnedTupleGo (.Tuple elts x1 pos) (.ref z) (.ref T)) Q E s := by
  unfold letOwnedTupleGo
  refine wpAny_bind (wpAny_load hz ?_)
  show wpAny _ _ (if (["enumerate", "zip", "dict_itemiterator", "dict_reverseitemiterator", "odict_iterator", "itertools.zip_longest", "itertools.pairwise"].contains "zip" &&
      (#[rawInt T, .bool false, .bool true, .ref TI, .ref TO] : Array Value)[0]? == some (rawInt T)) = true then _ else _) Q E s
  rw [if_pos (by simp)]
  refine wpAny_bind (wpAny_rule ?_)
  show wpAny _ _ (setField (.ref z) 0 .none) Q E s
  exact wpAny_setField_rec hz (by simp) fun h' hz' hs' => hQ h' hz' hs'
theorem pyIter_zipSt {z TI TO : Addr} {f0 : Value} {Q : Value → Shared → Prop} (hz : IsZipS s.heap z TI TO f0) (h : Q (.ref z) s) : wpAny (model prog w) A (pyIter (.ref z)) Q E s := by
  have hT : s.TypeIs (.ref z) "zip" := ⟨_, hz, rfl⟩
  refine wpAny_pyIter_slot hT F.slot_zip_iter (wpAny_call_entry F.slot_zip_iter hT F.entry_zip_iter ?_ (F.args_zip_iter_1 _))
  show wpAny _ _ (ret (.ref z)) _ _ s
  exact wpAny_pure ⟨_, rfl, "zip", _, hT, F.slot_zip_next.lookup, h⟩
end
theorem vals_back : ∀ {xs : List V} {us : List Value} {i : Nat} {u : Value}, Vals xs us → us[i]? = some u → ∃ x, xs[i]? = some x ∧ RelV x u
  | [], _, i, u, h, e => by cases h; simp at e
  | x :: xs, _, i, u, h, e => by
    cases h with
    | cons r rr =>
      cases i with
      | zero => simp at e; subst e; exact ⟨x, rfl, r⟩
      | succ i => exact vals_back (i := i) rr (by simpa using e)
/-- what zip draws from: a list, a tuple, a text -/
structure ZSrc (P : Program) (w : World) (K : PySem.W.Frag) (it : Addr) (fp : List Addr) (St : Nat → Heap → Prop) (G : Hp → List V → Prop) : Prop where
  obj : ∀ i h, St i h → ∃ o, h.get? it = some o ∧ ∀ v, o.data ≠ .cell v
  keep : ∀ i h h', St i h → (∀ o, h.get? it = some o → h'.get? it = some o) → St i h'
  inj : ∀ (X : Cx), X.prog = P → X.w = w → X.K = K → ∀ (pins : List (Addr × Obj)) (s : Shared) (σ : L2.St) (H : Hp), Inv X pins σ H s → ∀ f g, G H f → G H g → f = g
  draws : ∀ (X : Cx), X.prog = P → X.w = w → X.K = K → ∀ (pins : List (Addr × Obj)) (s : Shared) (σ : L2.St) (H : Hp), Inv X pins σ H s → ∀ f, G H f → ∃ (Pv : Nat → Value → Prop) (S2 : Nat → Heap → Prop),
    (∀ A : Around, A.handled = none → Draws P w A it fp f.length Pv S2) ∧ (∀ i, St i s.heap → S2 i s.heap) ∧ (∀ i h, S2 i h → St i h) ∧ ∀ i v, Pv i v → ∃ x, f[i]? = some x ∧ RelV x v
theorem zsrc_list {P : Program} {w : World} {K : PySem.W.Frag} {it a : Addr} (hne : a ≠ it) : ZSrc P w K it [it, a] (fun i h => h.IsListIter it a i) (fun H xs => SqL K H a xs) where
  obj := fun i h ⟨o, e, _, d⟩ => ⟨o, e, fun v q => by rw [d] at q; cases q⟩
  keep := fun i h h' st k => st.at k
  inj := fun X hP hw hK pins s σ H I f g h1 h2 => by subst hP hw hK; exact I.list_inj h1 h2
  draws := fun X hP hw hK pins s σ H I xs g => by
    subst hP hw hK
    obtain ⟨its, rv, pl, hz⟩ := I.list g
    refine ⟨fun i v => its.toArray[i]? = some v, fun i h => h.IsListIter it a i ∧ h.IsList a its.toArray, fun A hh => ?_, fun i st => ⟨st, pl.isList⟩, fun i h st => st.1, fun i v hv => ?_⟩
    · have e : its.toArray.size = xs.length := by rw [List.size_toArray, rv.length]
      rw [← e]
      exact Draws.list hh it a hne its.toArray
    · have hv : its.toArray[i]? = some v := hv
      rw [List.getElem?_toArray] at hv
      exact vals_back rv hv
theorem zsrc_tup {P : Program} {w : World} {K : PySem.W.Frag} {it a : Addr} (hne : a ≠ it) : ZSrc P w K it [it, a] (fun i h => h.IsTupleIter it a i) (fun H xs => SqT K H a xs) where
  obj := fun i h ⟨o, e, _, d⟩ => ⟨o, e, fun v q => by rw [d] at q; cases q⟩
  keep := fun i h h' st k => st.at k
  inj := fun X hP hw hK pins s σ H I f g h1 h2 => by subst hP hw hK; exact I.tuple_inj h1 h2
  draws := fun X hP hw hK pins s σ H I xs g => by
    subst hP hw hK
    obtain ⟨its, rv, pl, hz⟩ := I.tuple g
    refine ⟨fun i v => its.toArray[i]? = some v, fun i h => h.IsTupleIter it a i ∧ h.IsTuple a its.toArray, fun A hh => ?_, fun i st => ⟨st, pl⟩, fun i h st => st.1, fun i v hv => ?_⟩
    · have e : its.toArray.size = xs.length := by rw [List.size_toArray, rv.length]
      rw [← e]
      exact Draws.tuple hh it a hne its.toArray
    · have hv : its.toArray[i]? = some v := hv
      rw [List.getElem?_toArray] at hv
      exact vals_back rv hv
theorem zsrc_str {P : Program} {w : World} {K : PySem.W.Frag} {it : Addr} {x : Str} {t : Tok} : ZSrc P w K it [it] (fun i h => h.IsStrIter it (strIterType x) x t i) (fun _ f => f = x.cps.toList.map fun c => V.str ⟨#[c]⟩) where
  obj := fun i h ⟨o, e, _, d⟩ => ⟨o, e, fun v q => by rw [d] at q; cases q⟩
  keep := fun i h h' st k => sit_at st k
  inj := fun X hP hw hK pins s σ H I f g h1 h2 => h1.trans h2.symm
  draws := fun X hP hw hK pins s σ H I xs g => by
    subst g
    refine ⟨fun i v => ∃ c u, x.cps[i]? = some c ∧ v = .str ⟨#[c]⟩ u, fun i h => h.IsStrIter it (strIterType x) x t i, fun A hh => ?_, fun i st => st, fun i h st => st, fun i v ⟨c, u, h1, h2⟩ => ⟨.str ⟨#[c]⟩, ?_, ?_⟩⟩
    · rw [List.length_map, Array.length_toList]
      exact Draws.text hh it x t
    · rw [List.getElem?_map, Array.getElem?_toList, h1]; rfl
    · subst h2; exact ⟨_, rfl⟩
/-- pairs of two sources -/
def ItZ2 (G1 G2 : Hp → List V → Prop) : It :=
  ⟨fun i H => ∃ xs ys, i < xs.length ∧ i < ys.length ∧ G1 H xs ∧ G2 H ys, fun i H v H' => ∃ T a b, v = .ref T ∧ H T = none ∧ H' = upd H T (.tup [a, b]) ∧ ∀ xs ys, G1 H xs → G2 H ys → xs[i]? = some a ∧ ys[i]? = some b, fun i H => ∃ xs ys, (i ≤ xs.length ∧ i ≤ ys.length ∧ (i = xs.length ∨ i = ys.length)) ∧ G1 H xs ∧ G2 H ys⟩
theorem turn_zip2 {P : Program} {w : World} {K : PySem.W.Frag} {elts : List Expr} {kk : Nat} {tpos : Pos} {z TI TO i1 i2 : Addr} {fp1 fp2 : List Addr} {St1 St2 : Nat → Heap → Prop} {G1 G2 : Hp → List V → Prop} (D : ZipSep2 z TI TO i1 i2 fp1 fp2) (Z1 : ZSrc P w K i1 fp1 St1 G1) (Z2 : ZSrc P w K i2 fp2 St2 G2) :
    Turn P w K (.Tuple elts kk tpos) (ItZ2 G1 G2) [z, TI, TO, i1, i2] z (fun i h => IsZip h z TI TO .none ∧ IsTupOf2 h TI (.ref i1) (.ref i2) ∧ (∃ a b, IsTupOf2 h TO a b) ∧ St1 i h ∧ St2 i h) where
  mem := by simp
  obj := fun i h st c hc => by
    obtain ⟨hz, hTI, ⟨a, b, hTO⟩, st1, st2⟩ := st
    have e' : c = z ∨ c = TI ∨ c = TO ∨ c = i1 ∨ c = i2 := by simpa using hc
    rcases e' with q | q | q | q | q
    · rw [q]; exact ⟨_, hz, fun v q => nomatch q⟩
    · rw [q]; exact ⟨_, hTI, fun v q => nomatch q⟩
    · rw [q]; exact ⟨_, hTO, fun v q => nomatch q⟩
    · rw [q]; exact Z1.obj _ _ st1
    · rw [q]; exact Z2.obj _ _ st2
  keep := fun i h h' st k => by
    obtain ⟨hz, hTI, ⟨a, b, hTO⟩, h1, h2⟩ := st
    exact ⟨k z (by simp) _ hz, k TI (by simp) _ hTI, ⟨a, b, k TO (by simp) _ hTO⟩, Z1.keep _ _ _ h1 fun o q => k i1 (by simp) o q, Z2.keep _ _ _ h2 fun o q => k i2 (by simp) o q⟩
  item := by
    intro X hP hw hK hc i pins s σ H E I hf st hg
    obtain ⟨hz, hTI, ⟨x0, y0, hTO⟩, h1, h2⟩ := st
    obtain ⟨xs, ys, g1, g2, g3, g4⟩ := hg
    obtain ⟨P1, S1, d1, d2, d3, d4⟩ := Z1.draws X hP hw hK pins s σ H I xs g3
    obtain ⟨P2, S2, e1, e2, e3, e4⟩ := Z2.draws X hP hw hK pins s σ H I ys g4
    subst hP hw hK
    have zl : z < s.heap.objs.size := Heap.lt_size hz
    have hh : X.A.in1.handled = none := by have := I.ok.hd hc; simpa using this
    refine wpAny_pyNext_zipD2_item D (d1 _ hh) (e1 _ hh) hz hTI hTO (d2 _ h1) (e2 _ h2) g1 g2 fun u1 u2 h' tk p1 p2 z' o' a1 a2 hT hsz hk => ?_
    obtain ⟨x, hx, rx⟩ := d4 _ _ p1
    obtain ⟨y, hy, ry⟩ := e4 _ _ p2
    refine ⟨_, rfl, wpAny_letOwnedTupleGo_zip (s := { s with heap := h', toks := tk }) z' fun h'' z'' sb => ?_⟩
    have T2 : h''.get? s.heap.objs.size = some { cls := .type "tuple", data := .seq #[u1, u2] } := (sb.2 _ (Nat.ne_of_gt zl)).trans hT
    have new : ObjOk X.prog X.w (upd H s.heap.objs.size (.tup [x, y])) h'' s.heap.objs.size (.tup [x, y]) :=
      ⟨by show 2 ≤ sizeLine; decide, [u1, u2], .cons rx (.cons ry .nil), ⟨_, T2, rfl, _, rfl⟩⟩
    have I1 : Inv X pins σ (upd H s.heap.objs.size (.tup [x, y])) { s with heap := h'', toks := tk } :=
      I.turnedNew (ch := [z, TI, TO, i1, i2]) (fun c o hb q => (sb.2 c (fun q' => hb (by simp [q']))).trans (hk c o (fun q' => hb (by simp [q'])) (fun q' => hb (by simp [q'])) (fun q' => hb (by simp [q'])) (fun q' => hb (by simp [q'])) q)) hf (Nat.le_refl _) new
    have hf1 : fp1 = fp1 := rfl
    refine ⟨.ref s.heap.objs.size, _, I1, rfl, ⟨_, _, _, rfl, I.hok.fresh (Nat.le_refl _), rfl, fun xs' ys' k1 k2 => by rw [Z1.inj X rfl rfl rfl pins s σ H I _ _ k1 g3, Z2.inj X rfl rfl rfl pins s σ H I _ _ k2 g4]; exact ⟨hx, hy⟩⟩, ⟨z'', ?_, ⟨_, _, (sb.2 _ D.TOz).trans o'⟩, Z1.keep _ _ _ (d3 _ _ a1) fun o q => (sb.2 _ D.zi1.symm).trans q, Z2.keep _ _ _ (e3 _ _ a2) fun o q => (sb.2 _ D.zi2.symm).trans q⟩, fun c hcm => ?_⟩
    · exact (sb.2 _ D.TIz).trans (hk _ _ D.TIz D.TITO D.TIi1 D.TIi2 hTI)
    · have lt : c < s.heap.objs.size := by
        have e' : c = z ∨ c = TI ∨ c = TO ∨ c = i1 ∨ c = i2 := by simpa using hcm
        rcases e' with q | q | q | q | q
        · rw [q]; exact zl
        · rw [q]; exact Heap.lt_size hTI
        · rw [q]; exact Heap.lt_size hTO
        · rw [q]; obtain ⟨_, e1, _⟩ := Z1.obj _ _ h1; exact Heap.lt_size e1
        · rw [q]; obtain ⟨_, e2, _⟩ := Z2.obj _ _ h2; exact Heap.lt_size e2
      rw [upd_ne (Nat.ne_of_lt lt)]
      exact (hf c hcm).1
  done := by
    intro X hP hw hK hc i pins s σ H E I hf st hg
    obtain ⟨hz, hTI, ⟨x0, y0, hTO⟩, h1, h2⟩ := st
    obtain ⟨xs, ys, g1, g3, g4⟩ := hg
    obtain ⟨P1, S1, d1, d2, d3, d4⟩ := Z1.draws X hP hw hK pins s σ H I xs g3
    obtain ⟨P2, S2, e1, e2, e3, e4⟩ := Z2.draws X hP hw hK pins s σ H I ys g4
    subst hP hw hK
    have hh : X.A.in1.handled = none := by have := I.ok.hd hc; simpa using this
    obtain ⟨g1, g2, g5⟩ := g1
    exact wpAny_pyNext_zipD2_end D (d1 _ hh) (e1 _ hh) hz hTI hTO (d2 _ h1) (e2 _ h2) g1 g2 g5 fun h' tk hk => ⟨rfl, I.turnedL (t' := tk) (ch := [z, TI, TO, i1, i2]) (fun c o hb q =>
      hk c o (fun q' => hb (by simp [q'])) (fun q' => hb (by simp [q'])) (fun q' => hb (by simp [q'])) (fun q' => hb (by simp [q'])) q) hf⟩
  self := fun A i s Q E st h => wpAny_pyIter_zip st.1 h
/-- pairs of two sources -/
def ItZs (G1 G2 : Hp → List V → Prop) : It :=
  ⟨fun i H => ∃ xs ys, i < xs.length ∧ i < ys.length ∧ G1 H xs ∧ G2 H ys, fun i H v H' => ∃ T a b, v = .ref T ∧ H T = none ∧ H' = upd H T (.tup [a, b]) ∧ ∀ xs ys, G1 H xs → G2 H ys → xs[i]? = some a ∧ ys[i]? = some b, fun i H => ∃ xs ys, (i = xs.length ∧ i = ys.length) ∧ G1 H xs ∧ G2 H ys⟩
theorem turn_zips {P : Program} {w : World} {K : PySem.W.Frag} {elts : List Expr} {kk : Nat} {tpos : Pos} {z TI TO i1 i2 : Addr} {fp1 fp2 : List Addr} {St1 St2 : Nat → Heap → Prop} {G1 G2 : Hp → List V → Prop} (D : ZipSep2 z TI TO i1 i2 fp1 fp2) (Z1 : ZSrc P w K i1 fp1 St1 G1) (Z2 : ZSrc P w K i2 fp2 St2 G2) :
    Turn P w K (.Tuple elts kk tpos) (ItZs G1 G2) [z, TI, TO, i1, i2] z (fun i h => IsZipS h z TI TO .none ∧ IsTupOf2 h TI (.ref i1) (.ref i2) ∧ (∃ a b, IsTupOf2 h TO a b) ∧ St1 i h ∧ St2 i h) where
  mem := by simp
  obj := fun i h st c hc => by
    obtain ⟨hz, hTI, ⟨a, b, hTO⟩, st1, st2⟩ := st
    have e' : c = z ∨ c = TI ∨ c = TO ∨ c = i1 ∨ c = i2 := by simpa using hc
    rcases e' with q | q | q | q | q
    · rw [q]; exact ⟨_, hz, fun v q => nomatch q⟩
    · rw [q]; exact ⟨_, hTI, fun v q => nomatch q⟩
    · rw [q]; exact ⟨_, hTO, fun v q => nomatch q⟩
    · rw [q]; exact Z1.obj _ _ st1
    · rw [q]; exact Z2.obj _ _ st2
  keep := fun i h h' st k => by
    obtain ⟨hz, hTI, ⟨a, b, hTO⟩, h1, h2⟩ := st
    exact ⟨k z (by simp) _ hz, k TI (by simp) _ hTI, ⟨a, b, k TO (by simp) _ hTO⟩, Z1.keep _ _ _ h1 fun o q => k i1 (by simp) o q, Z2.keep _ _ _ h2 fun o q => k i2 (by simp) o q⟩
  item := by
    intro X hP hw hK hc i pins s σ H E I hf st hg
    obtain ⟨hz, hTI, ⟨x0, y0, hTO⟩, h1, h2⟩ := st
    obtain ⟨xs, ys, g1, g2, g3, g4⟩ := hg
    obtain ⟨P1, S1, d1, d2, d3, d4⟩ := Z1.draws X hP hw hK pins s σ H I xs g3
    obtain ⟨P2, S2, e1, e2, e3, e4⟩ := Z2.draws X hP hw hK pins s σ H I ys g4
    subst hP hw hK
    have zl : z < s.heap.objs.size := Heap.lt_size hz
    have hh : X.A.in1.handled = none := by have := I.ok.hd hc; simpa using this
    refine pyNext_zipSt_item D (d1 _ hh) (e1 _ hh) hz hTI hTO (d2 _ h1) (e2 _ h2) g1 g2 fun u1 u2 h' tk p1 p2 z' o' a1 a2 hT hsz hk => ?_
    obtain ⟨x, hx, rx⟩ := d4 _ _ p1
    obtain ⟨y, hy, ry⟩ := e4 _ _ p2
    refine ⟨_, rfl, letGo_zipSt (s := { s with heap := h', toks := tk }) z' fun h'' z'' sb => ?_⟩
    have T2 : h''.get? s.heap.objs.size = some { cls := .type "tuple", data := .seq #[u1, u2] } := (sb.2 _ (Nat.ne_of_gt zl)).trans hT
    have new : ObjOk X.prog X.w (upd H s.heap.objs.size (.tup [x, y])) h'' s.heap.objs.size (.tup [x, y]) :=
      ⟨by show 2 ≤ sizeLine; decide, [u1, u2], .cons rx (.cons ry .nil), ⟨_, T2, rfl, _, rfl⟩⟩
    have I1 : Inv X pins σ (upd H s.heap.objs.size (.tup [x, y])) { s with heap := h'', toks := tk } :=
      I.turnedNew (ch := [z, TI, TO, i1, i2]) (fun c o hb q => (sb.2 c (fun q' => hb (by simp [q']))).trans (hk c o (fun q' => hb (by simp [q'])) (fun q' => hb (by simp [q'])) (fun q' => hb (by simp [q'])) (fun q' => hb (by simp [q'])) q)) hf (Nat.le_refl _) new
    have hf1 : fp1 = fp1 := rfl
    refine ⟨.ref s.heap.objs.size, _, I1, rfl, ⟨_, _, _, rfl, I.hok.fresh (Nat.le_refl _), rfl, fun xs' ys' k1 k2 => by rw [Z1.inj X rfl rfl rfl pins s σ H I _ _ k1 g3, Z2.inj X rfl rfl rfl pins s σ H I _ _ k2 g4]; exact ⟨hx, hy⟩⟩, ⟨z'', ?_, ⟨_, _, (sb.2 _ D.TOz).trans o'⟩, Z1.keep _ _ _ (d3 _ _ a1) fun o q => (sb.2 _ D.zi1.symm).trans q, Z2.keep _ _ _ (e3 _ _ a2) fun o q => (sb.2 _ D.zi2.symm).trans q⟩, fun c hcm => ?_⟩
    · exact (sb.2 _ D.TIz).trans (hk _ _ D.TIz D.TITO D.TIi1 D.TIi2 hTI)
    · have lt : c < s.heap.objs.size := by
        have e' : c = z ∨ c = TI ∨ c = TO ∨ c = i1 ∨ c = i2 := by simpa using hcm
        rcases e' with q | q | q | q | q
        · rw [q]; exact zl
        · rw [q]; exact Heap.lt_size hTI
        · rw [q]; exact Heap.lt_size hTO
        · rw [q]; obtain ⟨_, e1, _⟩ := Z1.obj _ _ h1; exact Heap.lt_size e1
        · rw [q]; obtain ⟨_, e2, _⟩ := Z2.obj _ _ h2; exact Heap.lt_size e2
      rw [upd_ne (Nat.ne_of_lt lt)]
      exact (hf c hcm).1
  done := by
    intro X hP hw hK hc i pins s σ H E I hf st hg
    obtain ⟨hz, hTI, ⟨x0, y0, hTO⟩, h1, h2⟩ := st
    obtain ⟨xs, ys, g1, g3, g4⟩ := hg
    obtain ⟨P1, S1, d1, d2, d3, d4⟩ := Z1.draws X hP hw hK pins s σ H I xs g3
    obtain ⟨P2, S2, e1, e2, e3, e4⟩ := Z2.draws X hP hw hK pins s σ H I ys g4
    subst hP hw hK
    have hh : X.A.in1.handled = none := by have := I.ok.hd hc; simpa using this
    obtain ⟨g1, g2⟩ := g1
    have w1 := d2 _ h1
    have w2 := e2 _ h2
    have D1 := d1 _ hh
    have D2 := e1 _ hh
    rw [← g1] at D1
    rw [← g2] at D2
    exact pyNext_zipSt_end (by simpa using hh) D D1 D2 hz hTI hTO w1 w2 fun h' tk hk => ⟨rfl, I.turnedL (t' := tk) (ch := [z, TI, TO, i1, i2]) (fun c o hb q =>
      hk c o (fun q' => hb (by simp [q'])) (fun q' => hb (by simp [q'])) (fun q' => hb (by simp [q'])) (fun q' => hb (by simp [q'])) q) hf⟩
  self := fun A i s Q E st h => pyIter_zipSt st.1 h
def IsSrc (h : Heap) (u : Value) (ty : String) : Prop := (∃ x t, u = .str x t ∧ ty = strIterType x) ∨ (∃ l items, u = .ref l ∧ h.IsList l items ∧ ty = "list_iterator") ∨ (∃ l items, u = .ref l ∧ h.IsTuple l items ∧ ty = "tuple_iterator")
theorem IsSrc.push {h : Heap} {u : Value} {ty : String} (o : Obj) (s : IsSrc h u ty) : IsSrc (h.push o) u ty := by
  rcases s with s | ⟨l, its, e, s, t⟩ | ⟨l, its, e, ⟨ol, e1, e2⟩, t⟩
  · exact .inl s
  · exact .inr (.inl ⟨l, its, e, s.push o, t⟩)
  · exact .inr (.inr ⟨l, its, e, ⟨ol, Heap.get?_push_of_some _ e1, e2⟩, t⟩)
theorem pyIter_src {prog : Program} {w : World} {A : Around} {E : Value → Shared → Prop} {s : Shared} {u : Value} {ty : String} {Q : Value → Shared → Prop} (h : IsSrc s.heap u ty)
    (hQ : Q (.ref s.heap.objs.size) { s with heap := s.heap.push { cls := .type ty, data := .fields #[u, .int 0 0] } }) : wpAny (model prog w) A (pyIter u) Q E s := by
  rcases h with ⟨x, t, rfl, rfl⟩ | ⟨l, its, rfl, h, rfl⟩ | ⟨l, its, rfl, h, rfl⟩
  · exact wpAny_pyIter_strU hQ
  · exact wpAny_pyIter_list h hQ
  · exact wpAny_pyIter_tuple h hQ
abbrev zg1 (h : Heap) (u : Value) (t : String) : Heap := h.push { cls := .type t, data := .fields #[u, .int 0 0] }
abbrev zg2 (h : Heap) (u v : Value) (t r : String) : Heap := zg1 (zg1 h u t) v r
abbrev zg3 (h : Heap) (u v : Value) (t r : String) : Heap := (zg2 h u v t r).push { cls := .type "tuple", data := .seq #[.ref h.objs.size, .ref (zg1 h u t).objs.size] }
abbrev zg4 (h : Heap) (u v : Value) (t r : String) : Heap := (zg3 h u v t r).push { cls := .type "tuple", data := .seq #[.none, .none] }
abbrev zg5 (h : Heap) (u v : Value) (t r : String) (b : Bool) : Heap := (zg4 h u v t r).push { cls := .type "zip", data := .fields #[.none, .bool false, .bool b, .ref (zg2 h u v t r).objs.size, .ref (zg3 h u v t r).objs.size] }
set_option maxHeartbeats 1000000 in
theorem meets_zipG (u v : Value) (t r : String) :
    Meets (Builtin.«zip.__new__» ⟨[.type "zip", u, v], []⟩) (fun _ R s => IsSrc s.heap u t ∧ IsSrc s.heap v r ∧ R (.ok (.ret (.ref (zg4 s.heap u v t r).objs.size))) { s with heap := zg5 s.heap u v t r false }) :=
  .of_wp fun prog w A R s h => by
    obtain ⟨hp, g, d, tk, os⟩ := s
    obtain ⟨h1, h2, h⟩ := h
    have hsub := sub_zip
    wp_walk using (pyIter_src h1), (pyIter_src (h2.push _))
    exact ⟨_, rfl, h⟩
set_option maxHeartbeats 1000000 in
theorem meets_zipGs (u v : Value) (t r : String) :
    Meets (Builtin.«zip.__new__» ⟨[.type "zip", u, v], [("strict", .bool true)]⟩) (fun _ R s => IsSrc s.heap u t ∧ IsSrc s.heap v r ∧ R (.ok (.ret (.ref (zg4 s.heap u v t r).objs.size))) { s with heap := zg5 s.heap u v t r true }) :=
  .of_wp fun prog w A R s h => by
    obtain ⟨hp, g, d, tk, os⟩ := s
    obtain ⟨h1, h2, h⟩ := h
    have hsub := sub_zip
    wp_walk using (pyIter_src h1), (pyIter_src (h2.push _))
    exact ⟨_, rfl, h⟩
section
variable {prog : Program} {w : World} {A : Around} {E : Value → Shared → Prop} {s : Shared}
theorem zg_facts (h : Heap) (u v : Value) (t r : String) (b : Bool) : let h' := zg5 h u v t r b
    (zg4 h u v t r).objs.size = h.objs.size + 4 ∧ h'.get? (h.objs.size + 4) = some { cls := .type "zip", dict := none, data := .fields #[.none, .bool false, .bool b, .ref (h.objs.size + 2), .ref (h.objs.size + 3)], slots := #[] } ∧
      IsTupOf2 h' (h.objs.size + 2) (.ref h.objs.size) (.ref (h.objs.size + 1)) ∧ IsTupOf2 h' (h.objs.size + 3) .none .none ∧ h'.get? h.objs.size = some { cls := .type t, data := .fields #[u, .int 0 0] } ∧ h'.get? (h.objs.size + 1) = some { cls := .type r, data := .fields #[v, .int 0 0] } ∧
      (∀ c o, h.get? c = some o → h'.get? c = some o) := by
  have z1 : (zg1 h u t).objs.size = h.objs.size + 1 := Heap.size_push ..
  have z2 : (zg2 h u v t r).objs.size = h.objs.size + 2 := by rw [Heap.size_push, z1]
  have z3 : (zg3 h u v t r).objs.size = h.objs.size + 3 := by rw [Heap.size_push, z2]
  have z4 : (zg4 h u v t r).objs.size = h.objs.size + 4 := by rw [Heap.size_push, z3]
  have g5 : (zg5 h u v t r b).get? (zg4 h u v t r).objs.size = some _ := Heap.get?_push_size _ rfl
  have g4 : (zg5 h u v t r b).get? (zg3 h u v t r).objs.size = some _ := Heap.get?_push_of_some _ (Heap.get?_push_size _ rfl)
  have g3 : (zg5 h u v t r b).get? (zg2 h u v t r).objs.size = some _ := Heap.get?_push_of_some _ (Heap.get?_push_of_some _ (Heap.get?_push_size _ rfl))
  have g2 : (zg5 h u v t r b).get? (zg1 h u t).objs.size = some _ := Heap.get?_push_of_some _ (Heap.get?_push_of_some _ (Heap.get?_push_of_some _ (Heap.get?_push_size _ rfl)))
  have g1 : (zg5 h u v t r b).get? h.objs.size = some _ := Heap.get?_push_of_some _ (Heap.get?_push_of_some _ (Heap.get?_push_of_some _ (Heap.get?_push_of_some _ (Heap.get?_push_size _ rfl))))
  rw [z2, z3, z4] at g5
  rw [z1, z2] at g3
  rw [z3] at g4
  rw [z1] at g2
  exact ⟨z4, g5, g3, g4, g1, g2, fun c o q => Heap.get?_push_of_some _ (Heap.get?_push_of_some _ (Heap.get?_push_of_some _ (Heap.get?_push_of_some _ (Heap.get?_push_of_some _ q))))⟩
theorem call_zipG {u v : Value} {t r : String} {Q : Value → Shared → Prop} (h1 : IsSrc s.heap u t) (h2 : IsSrc s.heap v r) (h : Q (.ref (s.heap.objs.size + 4)) { s with heap := zg5 s.heap u v t r false }) :
    wpAny (model prog w) A (call (.type "zip") [u, v]) Q E s := by
  refine callType_new F.called_zip (by decide) (F.typeCall_zip_2 _ _) (F.newCall_zip_2 _ _) (fun obj => F.args_object_init_3 obj _ _) F.entry_zip_new (meets_zipG u v t r) ?_
  obtain ⟨z4, g5, _⟩ := zg_facts s.heap u v t r false
  refine ⟨h1, h2, ?_⟩
  show _ ∧ _
  rw [z4]
  exact ⟨⟨_, g5, rfl⟩, h⟩
theorem typeCall_zipS (a b : Value) : checkTypeCall "zip" ⟨[a, b], [(Str.ofString "strict", .bool true)]⟩ = pure () := by kernel_rfl
theorem newCall_zipS (a b : Value) : checkBuiltinCall "zip.__new__" ⟨[.type "zip", a, b], [(Str.ofString "strict", .bool true)]⟩ = pure () := by kernel_rfl
theorem args_zipS (a b c : Value) : argsOk "object.__init__" ⟨[a, b, c], [(Str.ofString "strict", .bool true)]⟩ := by unfold argsOk; kernel_rfl
theorem call_zipGs {u v : Value} {t r : String} {Q : Value → Shared → Prop} (h1 : IsSrc s.heap u t) (h2 : IsSrc s.heap v r) (h : Q (.ref (s.heap.objs.size + 4)) { s with heap := zg5 s.heap u v t r true }) :
    wpAny (model prog w) A (call (.type "zip") [u, v] [(Str.ofString "strict", .bool true)]) Q E s := by
  refine callType_newKw F.called_zip (by decide) (typeCall_zipS _ _) (newCall_zipS _ _) (fun obj => args_zipS obj _ _) F.entry_zip_new (meets_zipGs u v t r) ?_
  obtain ⟨z4, g5, _⟩ := zg_facts s.heap u v t r true
  refine ⟨h1, h2, ?_⟩
  show _ ∧ _
  rw [z4]
  exact ⟨⟨_, g5, rfl⟩, h⟩
end
/-- what may be zipped -/
inductive ZArg (K : PySem.W.Frag) (H : Hp) : V → (Hp → List V → Prop) → Prop
  | str (x : Str) : ZArg K H (.str x) (fun _ f => f = x.cps.toList.map fun c => V.str ⟨#[c]⟩)
  | lst {a : Addr} {xs : List V} (h : SqL K H a xs) : ZArg K H (.ref a) (fun H xs => SqL K H a xs)
  | tup {a : Addr} {xs : List V} (h : SqT K H a xs) : ZArg K H (.ref a) (fun H xs => SqT K H a xs)
theorem ZArg.mk {X : Cx} {pins : List (Addr × Obj)} {s : Shared} {σ : L2.St} {H : Hp} {v : V} {G : Hp → List V → Prop} {u : Value} (I : Inv X pins σ H s) (z : ZArg X.K H v G) (r : RelV v u) :
    ∃ ty, IsSrc s.heap u ty ∧ ∀ it, s.heap.objs.size ≤ it → ∃ fp St, ZSrc X.prog X.w X.K it fp St G ∧ (∀ h : Heap, h.get? it = some { cls := .type ty, data := .fields #[u, .int 0 0] } → St 0 h) ∧ it ∈ fp ∧ ∀ b ∈ fp, b = it ∨ b < s.heap.objs.size := by
  cases z with
  | str x =>
    obtain ⟨t, rfl⟩ := r
    exact ⟨_, .inl ⟨x, t, rfl, rfl⟩, fun it _ => ⟨_, _, zsrc_str (t := t), fun h e => ⟨_, e, rfl, rfl⟩, by simp, fun b hb => .inl (by simpa using hb)⟩⟩
  | lst h =>
    cases r
    obtain ⟨its, rv, pl, hz⟩ := I.list h
    exact ⟨_, .inr (.inl ⟨_, _, rfl, pl.isList, rfl⟩), fun it hi => ⟨_, _, zsrc_list (fun e => by have := pl.lt; rw [e] at this; exact absurd (Nat.lt_of_lt_of_le this hi) (Nat.lt_irrefl _)), fun h e => ⟨_, e, rfl, rfl⟩, by simp, fun b hb => by
      rcases List.mem_cons.mp hb with q | q
      · exact .inl q
      · rw [List.mem_singleton.mp q]; exact .inr pl.lt⟩⟩
  | tup h =>
    cases r
    obtain ⟨its, rv, pl, hz⟩ := I.tuple h
    obtain ⟨o1, ho1, _⟩ := id pl
    have lt := Heap.lt_size ho1
    exact ⟨_, .inr (.inr ⟨_, _, rfl, pl, rfl⟩), fun it hi => ⟨_, _, zsrc_tup (fun e => by rw [e] at lt; exact absurd (Nat.lt_of_lt_of_le lt hi) (Nat.lt_irrefl _)), fun h e => ⟨_, e, rfl, rfl⟩, by simp, fun b hb => by
      rcases List.mem_cons.mp hb with q | q
      · exact .inl q
      · rw [List.mem_singleton.mp q]; exact .inr lt⟩⟩
theorem zle {a I : Nat} (h : a = I ∨ a < I) : a ≤ I := by omega
theorem zle1 {a I : Nat} (h : a = I + 1 ∨ a < I) : a ≤ I + 1 := by omega
theorem zne {I j k : Nat} (h : j ≠ k) : I + j ≠ I + k := by omega
theorem zne0 {I j : Nat} (h : j ≠ 0) : I + j ≠ I := by omega
theorem znle {I j k : Nat} (h : k < j) : ¬ I + j ≤ I + k := by omega
theorem znle0 {I j : Nat} (h : 0 < j) : ¬ I + j ≤ I := by omega
theorem zn1 {I : Nat} : ¬ (I = I + 1 ∨ I < I) := by omega
theorem zn2 {I : Nat} : ¬ (I + 1 = I ∨ I + 1 < I) := by omega
theorem zip_sep (I : Nat) {fp1 fp2 : List Addr} (m1 : I ∈ fp1) (m2 : I + 1 ∈ fp2) (l1 : ∀ b ∈ fp1, b = I ∨ b < I) (l2 : ∀ b ∈ fp2, b = I + 1 ∨ b < I) : ZipSep2 (I + 4) (I + 2) (I + 3) I (I + 1) fp1 fp2 :=
  ⟨zne (by decide), zne (by decide), zne (by decide), zne0 (by decide), m1, fun q => znle0 (by decide) (zle (l1 _ q)), fun q => znle0 (by decide) (zle (l1 _ q)), zne (by decide), m2, fun q => znle (by decide) (zle1 (l2 _ q)), fun q => znle (by decide) (zle1 (l2 _ q)), fun q => zn1 (l2 _ q), fun q => zn2 (l1 _ q)⟩
theorem zip_fp {X : Cx} {pins : List (Addr × Obj)} {s : Shared} {σ : L2.St} {H : Hp} (I : Inv X pins σ H s) : ∀ c, c ∈ [s.heap.objs.size + 4, s.heap.objs.size + 2, s.heap.objs.size + 3, s.heap.objs.size, s.heap.objs.size + 1] → FpOk X pins H c := fun c hcm => by
  have e' : c = s.heap.objs.size + 4 ∨ c = s.heap.objs.size + 2 ∨ c = s.heap.objs.size + 3 ∨ c = s.heap.objs.size ∨ c = s.heap.objs.size + 1 := by simpa using hcm
  have hle : s.heap.objs.size ≤ c := by
    rcases e' with z | z | z | z | z
    · rw [z]; exact Nat.le_add_right _ _
    · rw [z]; exact Nat.le_add_right _ _
    · rw [z]; exact Nat.le_add_right _ _
    · rw [z]; exact Nat.le_refl _
    · rw [z]; exact Nat.le_add_right _ _
  exact I.fpOk hle (I.hok.fresh hle)
def iZipG (K : PySem.W.Frag) (ta : TA) : TI := fun σ H R => ta σ H fun vs H1 => ∃ v1 v2 G1 G2, vs = [v1, v2] ∧ ZArg K H1 v1 G1 ∧ ZArg K H1 v2 G2 ∧ R (ItZ2 G1 G2) H1
def iZipGs (K : PySem.W.Frag) (ta tk : TA) : TI := fun σ H R => ta σ H fun vs H1 => tk σ H1 fun zs H2 => ∃ v1 v2 G1 G2, vs = [v1, v2] ∧ zs = [.bl true] ∧ ZArg K H2 v1 G1 ∧ ZArg K H2 v2 G2 ∧ R (ItZs G1 G2) H2
theorem pi_zipG {X : Cx} {e e2 : Expr} {ta : TA} {p pos tpos : Pos} {elts : List Expr} {kk : Nat} (hg : Gl X "zip") (hm : X.mg "zip" = none) (ha : PA X [e, e2] ta)
    (hs : starEach [e, e2] X.env = (false, eval e X.env) :: starEach [e2] X.env := by rfl) (hpl : (backTo pos (starEach [e2] X.env)).any (·.1) = false := by rfl) :
    PI X (.Tuple elts kk tpos) (.Call (.Name "zip" p) [e, e2] [] pos) (iZipG X.K ta) := by
  refine ⟨fun pins s σ H R I h => ?_⟩
  refine Call_ (ld_blt I hg hm PyProof.Rows.boot_zip (PyProof.Rows.callWith_type1 (thn (ha.run pos pins s σ H _ I h) fun us s1 ⟨vs, H1, I1, r1, q1⟩ => ?_) hs hpl))
  obtain ⟨v1, v2, G1, G2, rfl, a1, a2, q⟩ := q1
  cases r1 with
  | cons r rr =>
    cases rr with
    | cons r' rr =>
      cases rr
      obtain ⟨t1, s1', m1⟩ := a1.mk I1 r
      obtain ⟨t2, s2', m2⟩ := a2.mk I1 r'
      obtain ⟨fp1, St1, Z1, b1, c1, d1⟩ := m1 s1.heap.objs.size (Nat.le_refl _)
      obtain ⟨fp2, St2, Z2, b2, c2, d2⟩ := m2 (s1.heap.objs.size + 1) (Nat.le_add_right _ _)
      refine call_zipG s1' s2' ?_
      obtain ⟨_, g5, g3, g4, g1, g2, hk⟩ := zg_facts s1.heap _ _ t1 t2 false
      refine wpAny_pyIter_zip g5 ?_
      have I2 : Inv X pins σ H1 { s1 with heap := zg5 s1.heap _ _ t1 t2 false } := I1.kept (t' := s1.toks) hk
      exact ⟨s1.heap.objs.size + 4, [s1.heap.objs.size + 4, s1.heap.objs.size + 2, s1.heap.objs.size + 3, s1.heap.objs.size, s1.heap.objs.size + 1], _, _, H1, rfl, I2, turn_zip2 (zip_sep _ c1 c2 d1 d2) Z1 Z2, ⟨g5, g3, ⟨_, _, g4⟩, b1 _ g1, b2 _ g2⟩, zip_fp I1, q⟩
section
variable {M : Model} {A : Around} {E : Value → Shared → Prop} {s : Shared} {env : Env}
theorem callWith_typeK {pos : Pos} {T : String} {first : List Value} {args : List (Bool × Sem Value)} {keywords : List (Option Str × Sem Value)} {Q : Value → Shared → Prop}
    (hplain : args.any (·.1) = false) (hkw : keywords.any (·.1.isNone) = false)
    (h : wpAny M A (evalArgs (.type T) true args keywords) (fun a s₁ => wpAny M A (call (.type T) (first ++ a.pos) a.kw) Q E s₁) E s) :
    wpAny M A (callWith pos (.type T) first args keywords) Q E s := by
  unfold callWith
  refine wpAny_bind (wpAny_holding (wpAny_mono h (fun a s₁ h₁ => wpAny_bind (wpAny_standAt ?_)) fun _ _ x => x))
  simp only [hplain, hkw, Bool.or_false]
  refine wpAny_bind (wpAny_pure ?_)
  exact wpAny_bind (wpAny_mono h₁ (fun r s₂ hr => wpAny_bind (wpAny_holding (wpAny_point (wpAny_pure hr)))) fun _ _ x => x)
theorem callWith_kwT {pos : Pos} {T : String} {e : Expr} {rest : List Expr} {kws : List Keyword} {Q : Value → Shared → Prop}
    (h : wpAny M A (spliced (backTo pos (starEach (e :: rest) env))) (fun vs s₁ => wpAny M A (evalAll ((backToKw pos (keywordEach kws env)).map (·.2)))
      (fun kvs s₂ => wpAny M A (call (.type T) vs (((backToKw pos (keywordEach kws env)).filterMap (·.1)).zip kvs)) Q E s₂) E s₁) E s)
    (he : backTo pos (starEach (e :: rest) env) = (false, eval e env) :: backTo pos (starEach rest env) := by rfl)
    (hplain : (backTo pos (starEach (e :: rest) env)).any (·.1) = false := by rfl)
    (hall : (backToKw pos (keywordEach kws env)).all (·.1.isSome) = true := by rfl)
    (hkw : (backToKw pos (keywordEach kws env)).any (·.1.isNone) = false := by rfl) :
    wpAny M A (callWith pos (.type T) [] (backTo pos (starEach (e :: rest) env)) (backToKw pos (keywordEach kws env))) Q E s := by
  refine callWith_typeK hplain hkw ?_
  rw [he] at h ⊢
  exact PyProof.Rows.evalArgs_kwB hall h
end
theorem pi_zipGs {X : Cx} {e e2 : Expr} {ta tk : TA} {p pos tpos : Pos} {elts : List Expr} {kk : Nat} {kws : List Keyword} (hg : Gl X "zip") (hm : X.mg "zip" = none) (ha : PA X [e, e2] ta) (hk : L2.PK X kws tk)
    (he : backTo pos (starEach [e, e2] X.env) = (false, eval e X.env) :: backTo pos (starEach [e2] X.env) := by rfl) (hpl : (backTo pos (starEach [e, e2] X.env)).any (·.1) = false := by rfl)
    (hall : (backToKw pos (keywordEach kws X.env)).all (·.1.isSome) = true := by rfl) (hnone : (backToKw pos (keywordEach kws X.env)).any (·.1.isNone) = false := by rfl) (hks : (backToKw pos (keywordEach kws X.env)).filterMap (·.1) = [Str.ofString "strict"] := by rfl) :
    PI X (.Tuple elts kk tpos) (.Call (.Name "zip" p) [e, e2] kws pos) (iZipGs X.K ta tk) := by
  refine ⟨fun pins s σ H R I h => ?_⟩
  refine wpAny_Call_Name_kw (ld_blt I hg hm PyProof.Rows.boot_zip ?_ (by decide) (by decide))
  refine callWith_kwT (thn (ha.run pos pins s σ H _ I h) fun us s1 ⟨vs, H1, I1, r1, q1⟩ => thn (hk.run pos pins s1 σ H1 _ I1 q1) fun ws s2 ⟨zs, H2, I2, r2, q2⟩ => ?_) he hpl hall hnone
  rw [hks]
  obtain ⟨v1, v2, G1, G2, rfl, rfl, a1, a2, q⟩ := q2
  obtain ⟨w1, rfl, e1⟩ := vals1 r2
  cases e1
  cases r1 with
  | cons r rr =>
    cases rr with
    | cons r' rr =>
      cases rr
      obtain ⟨t1, s1', m1⟩ := a1.mk I2 r
      obtain ⟨t2, s2', m2⟩ := a2.mk I2 r'
      obtain ⟨fp1, St1, Z1, b1, c1, d1⟩ := m1 s2.heap.objs.size (Nat.le_refl _)
      obtain ⟨fp2, St2, Z2, b2, c2, d2⟩ := m2 (s2.heap.objs.size + 1) (Nat.le_add_right _ _)
      refine call_zipGs s1' s2' ?_
      obtain ⟨_, g5, g3, g4, g1, g2, hk⟩ := zg_facts s2.heap _ _ t1 t2 true
      refine pyIter_zipSt g5 ?_
      have I3 : Inv X pins σ H2 { s2 with heap := zg5 s2.heap _ _ t1 t2 true } := I2.kept (t' := s2.toks) hk
      exact ⟨s2.heap.objs.size + 4, [s2.heap.objs.size + 4, s2.heap.objs.size + 2, s2.heap.objs.size + 3, s2.heap.objs.size, s2.heap.objs.size + 1], _, _, H2, rfl, I3, turn_zips (zip_sep _ c1 c2 d1 d2) Z1 Z2, ⟨g5, g3, ⟨_, _, g4⟩, b1 _ g1, b2 _ g2⟩, zip_fp I2, q⟩
/-! ### zip over data -/
def zSeq (M : Mo) : Dv → Option (List Dv × Option (Addr × List Dv))
  | .str x => some (signsD x, none)
  | .lst ds => some (ds, none)
  | .tup ds => some (ds, none)
  | .ref a => match M a with
    | some (.lst ds) => some (ds, some (a, ds))
    | _ => none
  | _ => none
def okOf : Option (Addr × List Dv) → Option (Addr × List Dv) → Mo → Prop
  | none, none => fun _ => True
  | some p, none => fun M => M p.1 = some (.lst p.2)
  | none, some p => fun M => M p.1 = some (.lst p.2)
  | some p, some q => fun M => M p.1 = some (.lst p.2) ∧ M q.1 = some (.lst q.2)
def okO : Option (Addr × List Dv) → Mo → Prop
  | none => fun _ => True
  | some p => fun M => M p.1 = some (.lst p.2)
theorem okOf_ok {o1 o2 : Option (Addr × List Dv)} {M : Mo} (h : okOf o1 o2 M) : okO o1 M ∧ okO o2 M := by
  cases o1 <;> cases o2
  · exact ⟨trivial, trivial⟩
  · exact ⟨trivial, h⟩
  · exact ⟨h, trivial⟩
  · exact h
theorem rds_signs {K : PySem.W.Frag} {H : Hp} (x : Str) : RDs K H (signsD x) (x.cps.toList.map fun c => V.str ⟨#[c]⟩) := by
  unfold signsD
  induction x.cps.toList with
  | nil => exact RDs.nil
  | cons c cs ih => exact RDs.cons .str ih
theorem zSeq_ok {K : PySem.W.Frag} {M : Mo} {H : Hp} {d : Dv} {v : V} {ds : List Dv} {o : Option (Addr × List Dv)} (s : SR K M H) (r : RD K H d v) (h : zSeq M d = some (ds, o)) :
    ∃ G, ZArg K H v G ∧ ∀ M1 H1, Stp K M H M1 H1 → okO o M1 → ∃ vs, G H1 vs ∧ RDs K H1 ds vs := by
  unfold zSeq at h
  split at h
  · rename_i x
    cases h
    rw [r.str_of]
    exact ⟨_, .str x, fun M1 H1 _ _ => ⟨_, rfl, rds_signs x⟩⟩
  · cases h
    unfold RD at r
    obtain ⟨a, vs, rfl, f, q⟩ := r
    exact ⟨_, .lst f.seq, fun M1 H1 st _ => ⟨vs, (st.keep.fz f).seq, q.keep st.keep⟩⟩
  · cases h
    unfold RD at r
    obtain ⟨a, vs, rfl, f, q⟩ := r
    exact ⟨_, .tup f, fun M1 H1 st _ => ⟨vs, st.keep.seqT f, q.keep st.keep⟩⟩
  · rename_i a
    split at h
    · rename_i ds' e
      cases h
      obtain ⟨vs, hv, q⟩ := own_at s e
      rw [r.ref_of]
      exact ⟨_, .lst (.inl (.inl hv)), fun M1 H1 st ho => by
        obtain ⟨vs1, hv1, q1⟩ := own_at st.sr ho
        exact ⟨vs1, .inl (.inl hv1), q1⟩⟩
    · cases h
  · cases h
def pairD (xs ys : List Dv) : List Dv := List.zipWith (fun a b => Dv.tup [a, b]) xs ys
theorem pairD_len (xs ys : List Dv) : (pairD xs ys).length = min xs.length ys.length := List.length_zipWith
theorem pairD_get {xs ys : List Dv} {i : Nat} {d : Dv} (h : (pairD xs ys)[i]? = some d) : ∃ a b, xs[i]? = some a ∧ ys[i]? = some b ∧ d = .tup [a, b] := by
  unfold pairD at h
  rw [List.getElem?_zipWith] at h
  split at h
  · rename_i a b e1 e2
    exact ⟨a, b, e1, e2, (Option.some.inj h).symm⟩
  · cases h
def kZip (M : Mo) (ds : List Dv) (F : List Dv → List Dv → (Mo → Prop) → Prop) : Prop := match ds with
  | [d, e] => match zSeq M d, zSeq M e with
    | some (xs, o1), some (ys, o2) => F xs ys (okOf o1 o2)
    | _, _ => False
  | _ => False
theorem i_kZip {M : Mo} {d e : Dv} {xs ys : List Dv} {o1 o2 : Option (Addr × List Dv)} {F : List Dv → List Dv → (Mo → Prop) → Prop} (h1 : zSeq M d = some (xs, o1)) (h2 : zSeq M e = some (ys, o2)) (h : F xs ys (okOf o1 o2)) : kZip M [d, e] F := by
  unfold kZip
  simp only [h1, h2]
  exact h
theorem zSeq_ref {M : Mo} {a : Addr} {ds : List Dv} (h : M a = some (.lst ds)) : zSeq M (.ref a) = some (ds, some (a, ds)) := by
  unfold zSeq
  simp only [h]
theorem zSeq_str {M : Mo} {x : Str} : zSeq M (.str x) = some (signsD x, none) := rfl
theorem zSeq_lst {M : Mo} {ds : List Dv} : zSeq M (.lst ds) = some (ds, none) := rfl
theorem zSeq_tup {M : Mo} {ds : List Dv} : zSeq M (.tup ds) = some (ds, none) := rfl
def iZipD (ta : TAD) : TID := fun sd M R => ta sd M fun ds M1 => kZip M1 ds fun xs ys ok => R ⟨pairD xs ys, ok⟩ M1
def iZipDs (ta tk : TAD) : TID := fun sd M R => ta sd M fun ds M1 => tk sd M1 fun es M2 => es = [.bl true] ∧ kZip M2 ds fun xs ys ok => xs.length = ys.length ∧ R ⟨pairD xs ys, ok⟩ M2
instance s_izip {ta : TAD} {sd : StD} {M : Mo} {R : ItD → Mo → Prop} : Step (iZipD ta sd M R) (ta sd M fun ds M1 => kZip M1 ds fun xs ys ok => R ⟨pairD xs ys, ok⟩ M1) := ⟨id⟩
instance s_izips {ta tk : TAD} {sd : StD} {M : Mo} {R : ItD → Mo → Prop} : Step (iZipDs ta tk sd M R) (ta sd M fun ds M1 => tk sd M1 fun es M2 => es = [.bl true] ∧ kZip M2 ds fun xs ys ok => xs.length = ys.length ∧ R ⟨pairD xs ys, ok⟩ M2) := ⟨id⟩
instance s_isTrue {p : Prop} : Step ([Dv.bl true] = [Dv.bl true] ∧ p) p := ⟨fun h => ⟨rfl, h⟩⟩
theorem itz_rel {K : PySem.W.Frag} {M : Mo} {H : Hp} {xs ys : List Dv} {o1 o2 : Option (Addr × List Dv)} {G1 G2 : Hp → List V → Prop} (k1 : ∀ M1 H1, Stp K M H M1 H1 → okO o1 M1 → ∃ vs, G1 H1 vs ∧ RDs K H1 xs vs) (k2 : ∀ M1 H1, Stp K M H M1 H1 → okO o2 M1 → ∃ vs, G2 H1 vs ∧ RDs K H1 ys vs) : ItRel K ⟨pairD xs ys, okOf o1 o2⟩ M H (ItZ2 G1 G2) :=
  ⟨fun i d M1 H1 s o e => by
    obtain ⟨a, b, e1, e2, rfl⟩ := pairD_get e
    obtain ⟨p1, p2⟩ := okOf_ok o
    obtain ⟨vs, g1, r1⟩ := k1 M1 H1 s p1
    obtain ⟨ws, g2, r2⟩ := k2 M1 H1 s p2
    obtain ⟨x, hx, rx⟩ := r1.get e1
    obtain ⟨y, hy, ry⟩ := r2.get e2
    refine ⟨⟨vs, ws, (List.getElem?_eq_some_iff.mp hx).1, (List.getElem?_eq_some_iff.mp hy).1, g1, g2⟩, fun v H2 z => ?_⟩
    obtain ⟨T, c1, c2, rfl, hT, rfl, h1⟩ := z
    obtain ⟨h2, h3⟩ := h1 vs ws g1 g2
    rw [hx] at h2
    rw [hy] at h3
    cases h2
    cases h3
    exact ⟨Stp.new0 s.sr hT, RD.pair rx ry hT⟩, fun M1 H1 s o => by
    obtain ⟨p1, p2⟩ := okOf_ok o
    obtain ⟨vs, g1, r1⟩ := k1 M1 H1 s p1
    obtain ⟨ws, g2, r2⟩ := k2 M1 H1 s p2
    refine ⟨vs, ws, ?_, g1, g2⟩
    show (pairD xs ys).length ≤ _ ∧ (pairD xs ys).length ≤ _ ∧ ((pairD xs ys).length = _ ∨ (pairD xs ys).length = _)
    rw [pairD_len, ← r1.length, ← r2.length]
    omega⟩
theorem itzs_rel2 {K : PySem.W.Frag} {M : Mo} {H : Hp} {xs ys : List Dv} {o1 o2 : Option (Addr × List Dv)} {G1 G2 : Hp → List V → Prop} (hl : xs.length = ys.length) (k1 : ∀ M1 H1, Stp K M H M1 H1 → okO o1 M1 → ∃ vs, G1 H1 vs ∧ RDs K H1 xs vs) (k2 : ∀ M1 H1, Stp K M H M1 H1 → okO o2 M1 → ∃ vs, G2 H1 vs ∧ RDs K H1 ys vs) : ItRel K ⟨pairD xs ys, okOf o1 o2⟩ M H (ItZs G1 G2) :=
  ⟨fun i d M1 H1 s o e => (itz_rel k1 k2).go i d M1 H1 s o e, fun M1 H1 s o => by
    obtain ⟨vs, ws, h1, h2, h3⟩ := (itz_rel k1 k2).stop M1 H1 s o
    obtain ⟨p1, p2⟩ := okOf_ok o
    obtain ⟨vs, g1, r1⟩ := k1 M1 H1 s p1
    obtain ⟨ws, g2, r2⟩ := k2 M1 H1 s p2
    refine ⟨vs, ws, ?_, g1, g2⟩
    show (pairD xs ys).length = _ ∧ (pairD xs ys).length = _
    rw [pairD_len, ← r1.length, ← r2.length]
    omega⟩
section
variable {X : Cx} {M0 : Mo} {H0 : Hp}
theorem di_zip {e e2 : Expr} {ta : TAD} {p pos tpos : Pos} {elts : List Expr} {kk : Nat} (hg : Gl X "zip") (hm : X.mg "zip" = none) (ha : PAd X M0 H0 [e, e2] ta) (hs : starEach [e, e2] X.env = (false, eval e X.env) :: starEach [e2] X.env := by rfl) (hpl : (backTo pos (starEach [e2] X.env)).any (·.1) = false := by rfl) :
    PId X M0 H0 (.Tuple elts kk tpos) (.Call (.Name "zip" p) [e, e2] [] pos) (iZipD ta) :=
  PI.imp (pi_zipG hg hm ha hs hpl) fun σ H R ⟨sd, M, Rd, w, q, c⟩ => ⟨sd, M, _, w, q, fun ds M1 vs H1 s1 r1 q1 => by
    unfold kZip at q1
    split at q1
    · rename_i d e
      obtain ⟨v, v2, rfl, ra, rb⟩ := r1.two
      split at q1
      · rename_i xs o1 ys o2 e1 e2
        obtain ⟨G1, z1, k1⟩ := zSeq_ok s1.sr ra e1
        obtain ⟨G2, z2, k2⟩ := zSeq_ok s1.sr rb e2
        exact ⟨v, v2, G1, G2, rfl, z1, z2, c _ _ _ _ s1 (itz_rel k1 k2) q1⟩
      · exact q1.elim
    · exact q1.elim⟩
theorem di_zips {e e2 : Expr} {ta tk : TAD} {p pos tpos : Pos} {elts : List Expr} {kk : Nat} {kws : List Keyword} (hg : Gl X "zip") (hm : X.mg "zip" = none) (ha : PAd X M0 H0 [e, e2] ta) (hk : PKd X M0 H0 kws tk)
    (he : backTo pos (starEach [e, e2] X.env) = (false, eval e X.env) :: backTo pos (starEach [e2] X.env) := by rfl) (hpl : (backTo pos (starEach [e, e2] X.env)).any (·.1) = false := by rfl)
    (hall : (backToKw pos (keywordEach kws X.env)).all (·.1.isSome) = true := by rfl) (hnone : (backToKw pos (keywordEach kws X.env)).any (·.1.isNone) = false := by rfl) (hks : (backToKw pos (keywordEach kws X.env)).filterMap (·.1) = [Str.ofString "strict"] := by rfl) :
    PId X M0 H0 (.Tuple elts kk tpos) (.Call (.Name "zip" p) [e, e2] kws pos) (iZipDs ta tk) :=
  PI.imp (pi_zipGs hg hm ha hk he hpl hall hnone hks) fun σ H R ⟨sd, M, Rd, w, q, c⟩ => ⟨sd, M, _, w, q, fun ds M1 vs H1 s1 r1 q1 => ⟨sd, M1, _, w.on s1, q1, fun es M2 zs H2 s2 r2 q2 => by
    obtain ⟨rfl, q2⟩ := q2
    obtain ⟨z, rfl, rz⟩ := r2.one
    rw [rz.bl_of]
    unfold kZip at q2
    split at q2
    · rename_i d e
      obtain ⟨v, v2, rfl, ra, rb⟩ := r1.two
      split at q2
      · rename_i xs o1 ys o2 e1 e2
        obtain ⟨hl, q2⟩ := q2
        obtain ⟨G1, z1, k1⟩ := zSeq_ok s2.sr (ra.keep s2.keep) e1
        obtain ⟨G2, z2, k2⟩ := zSeq_ok s2.sr (rb.keep s2.keep) e2
        exact ⟨v, v2, G1, G2, rfl, rfl, z1, z2, c _ _ _ _ (s1.trans s2) (itzs_rel2 hl k1 k2) q2⟩
      · exact q2.elim
    · exact q2.elim⟩⟩
end
end DL

namespace DL
open PySem PySem.Spec PyProof.Rows L2
/-! ### sorted(xs) of texts -/
def dSortS : RNd := fun ds M Q => match ds with
  | [d] => match (seqL M d).bind strsOf with
    | some ns => ns.length < 64 ∧ ∀ ns' : List Str, ns'.Perm ns → sortedS ns' = true → ∀ p, M p = none → Q (.ref p) (mup M p (.lst (ns'.map .str)))
    | none => False
  | _ => False
section
variable {X : Cx}
theorem cd_sortS : CallR X (.builtin "sorted") (LNop X.K dSortS) := cd_I cr_sortedS fun ds M Qd xs H Q rs sr q c => by
  unfold dSortS at q
  split at q
  · rename_i d
    obtain ⟨v, rfl, r⟩ := rs.one
    split at q
    · rename_i ns e
      obtain ⟨es, h1, h2⟩ := Option.bind_eq_some_iff.mp e
      obtain ⟨a, vs, rfl, sq, rr⟩ := seqL_ok sr r h1
      rw [strsOf_ok rr h2] at sq
      exact ⟨a, ns, rfl, sq, q.1, fun ns' p h1 h2 hp => c _ _ _ _ (Stp.new sr hp (own_lst hp (rds_strs ns'))) .ref (q.2 ns' h1 h2 p (sr.free hp))⟩
    · exact q.elim
  · exact q.elim
end
theorem i_sortS {M : Mo} {Q : QD} {d : Dv} {cs : List Nat} (h0 : seqL M d = some (cs.map fun c => Dv.str ⟨#[c]⟩)) (hl : cs.length < 64) (h : ∀ ds : List Nat, ds.Perm cs → ds.Pairwise (· ≤ ·) → ∀ p, M p = none → Q (.ref p) (mup M p (.lst (onesD ds)))) : dSortS [d] M Q := by
  unfold dSortS
  have e0 : (cs.map fun c => Dv.str ⟨#[c]⟩) = (cs.map fun c => (⟨#[c]⟩ : Str)).map Dv.str := by rw [List.map_map]; rfl
  rw [e0] at h0
  simp only [h0, Option.bind_some, strsOf_map]
  refine ⟨by rw [List.length_map]; exact hl, fun ns' hp hs p hpn => ?_⟩
  obtain ⟨ds, rfl, h1, h2⟩ := sorted_ones hp hs
  have e : onesD ds = (ds.map fun c => (⟨#[c]⟩ : Str)).map Dv.str := by unfold onesD; rw [List.map_map]; rfl
  rw [← e]
  exact h ds h1 h2 p hpn
end DL

namespace DL
open PySem PySem.Spec PyProof.Rows L2
/-! ### {True: e}.get(c) -/
def tPick (tk tv tc : TE) : TE := fun σ H Q => tk σ H fun k H1 => k = .bl true ∧ tv σ H1 fun v H2 => tc σ H2 fun c H3 => ∃ b, c = .bl b ∧ Q (if b = true then v else .non) H3
section
variable {X : Cx} {k v c : Expr} {tk tv tc : TE} {dpos apos cpos : Pos}
theorem pe_pick (hk : PE X k tk) (hv : PE X v tv) (hc : PE X c tc) (m : M1 X (.Dict [some k] [v] dpos) "get" apos c cpos) : PE X (.Call (.Attribute (.Dict [some k] [v] dpos) "get" apos) [c] [] cpos) (tPick tk tv tc) := by
  refine ⟨fun pins s σ H Q I h => ?_⟩
  refine wpAny_Call_method m.base m.few m.line PySem.F.plainAttrs_dict PySem.F.slot_dict_get PySem.F.type_dict_get ?_
  have I1 : Inv X ((s.heap.objs.size, ({ cls := .type "dict", data := .dict #[] } : Obj)) :: pins) σ H { s with heap := s.heap.push { cls := .type "dict", data := .dict #[] } } :=
    ClX.pin_new (t' := s.toks) I (fun _ _ q => Heap.get?_push_of_some _ q) (Nat.le_refl _) (Heap.get?_push_size _ rfl) (fun v z => nomatch z)
  refine wpAny_Dict_walk (knd := leafKind X.prog X.w) rfl rfl (by simp) (by show 1 ≤ 15; decide) ?_
  refine pairTrees_cons_walk (thn (hk.run _ _ σ _ _ I1 h) fun kv s1 ⟨kd, H1, I2, r1, ek, q1⟩ => thn (hv.run _ _ σ _ _ I2 q1) fun vv s2 ⟨vd, H2, I3, r2, q2⟩ => pairTrees_nil_walk ?_)
  subst ek
  obtain rfl : kv = Value.bool true := r1
  have hn := ClX.pin_un I3
  have hp := I3.pin _ (List.mem_append_right _ List.mem_cons_self)
  obtain ⟨f0, f1, f2, f3, f4, f5⟩ := I.fpOk (H' := H2) (Nat.le_refl s.heap.objs.size) hn
  refine ⟨[(.num 1, vv)], ⟨rfl, rfl, True.intro⟩, ⟨_, #[], 0, ClX.pin_at I3, ⟨rfl, rfl, rfl⟩, rfl, fun _ he => by simp at he, Pairs.nil, List.nodup_nil⟩, fun h' dd hs => ?_⟩
  have I4 : Inv X pins σ H2 { s2 with heap := h', toks := s2.toks + 1 } := (ClX.unpin I3).turned (it := s.heap.objs.size) (fun b o hb e => (hs.2 b hb).trans e) f0 f1 f3 f4 f5
  refine ⟨dd.typeIs, fun b q => ?_, ?_⟩
  · cases q
    obtain ⟨ob, _, _, h1, h2, _⟩ := dd
    exact ⟨ob, h1, h2.2.1⟩
  obtain ⟨o', es, ep, ho', hx', hd', hr'⟩ := id dd
  have I5 : Inv X ((s.heap.objs.size, o') :: pins) σ H2 { s2 with heap := h', toks := s2.toks + 1 } := I4.pins_of fun p hp2 => by
    rcases List.mem_cons.mp hp2 with e | e
    · subst e
      exact ⟨ho', f0, f1, f2, fun v z => by rw [hd'] at z; cases z⟩
    · exact I4.pin p (List.mem_append_right _ e)
  rw [m.trees]
  refine Calls.callWith_builtin rfl (Calls.evalArgs_plain (Calls.spliced_cons (thn (hc.run _ _ σ H2 _ I5 q2) fun cv s3 ⟨cd, H3, I6, r3, b, ec, q3⟩ => Calls.spliced_nil ?_)))
  subst ec
  obtain rfl : cv = Value.bool b := r3
  have dd3 : s3.heap.DictOf (leafKind X.prog X.w) s.heap.objs.size (merged [] [(.num 1, vv)]) := ⟨o', es, ep, ClX.pin_at I6, hx', hd', hr'⟩
  have hb : (s.heap.objs.size == sysModules) = false := beq_eq_false_iff_ne.mpr (Ne.symm (Nat.ne_of_lt I.big))
  have hkey : (leafKind X.prog X.w).is (.num (if b = true then 1 else 0)) (.bool b) = true := by cases b <;> rfl
  refine call_meetsIn PySem.F.slot_dict_get dd3.typeIs PySem.F.entry_dict_get (PySem.F.args_dict_get_2 _ _) (meets_dict_get (leafKind X.prog X.w) s.heap.objs.size hkey hb) ⟨_, dd3.mapOf, ?_⟩
  refine ⟨_, H3, (ClX.unpin I6).tok _, ?_, q3⟩
  cases b
  · exact rfl
  · exact r2
end
def kTr (k : Dv) (p : Prop) : Prop := match k with
  | .bl true => p
  | _ => False
def kBl (c : Dv) (F : Bool → Prop) : Prop := match c with
  | .bl b => F b
  | _ => False
def dPick (tk tv tc : TED) : TED := fun sd M Q => tk sd M fun k M1 => kTr k (tv sd M1 fun v M2 => tc sd M2 fun c M3 => kBl c fun b => Q (if b = true then v else .non) M3)
section
variable {X : Cx} {M0 : Mo} {H0 : Hp} {k v c : Expr} {tk tv tc : TED} {dpos apos cpos : Pos}
theorem de_pick (hk : PEd X M0 H0 k tk) (hv : PEd X M0 H0 v tv) (hc : PEd X M0 H0 c tc)
    (hbase : attributeBase (.Dict [some k] [v] dpos) "get" X.env (eval (.Dict [some k] [v] dpos) X.env) = eval (.Dict [some k] [v] dpos) X.env := by rfl)
    (hfew : ((backTo cpos (starEach [c] X.env)).all (fun x => !x.1) && (backToKw cpos (keywordEach [] X.env)).all (fun x => x.1.isSome)
      && decide (([c] : List Expr).length + ([] : List Keyword).length + (if ([] : List Keyword).isEmpty then 0 else 1) < 30)) = true := by rfl)
    (hline : (apos.endLine == cpos.line) = true := by rfl) (ht : backTo cpos (starEach [c] X.env) = [(false, eval c X.env)] := by rfl) :
    PEd X M0 H0 (.Call (.Attribute (.Dict [some k] [v] dpos) "get" apos) [c] [] cpos) (dPick tk tv tc) :=
  PE.imp (pe_pick hk hv hc ⟨hbase, hfew, hline, ht⟩) fun σ H Q ⟨sd, M, Qd, w, q, ct⟩ => ⟨sd, M, _, w, q, fun kd M1 kv H1 s1 r1 q1 => by
    unfold kTr at q1
    split at q1
    · refine ⟨r1.bl_of, sd, M1, _, w.on s1, q1, fun vd M2 vv H2 s2 r2 q2 => ⟨sd, M2, _, (w.on s1).on s2, q2, fun cd M3 cv H3 s3 r3 q3 => ?_⟩⟩
      unfold kBl at q3
      split at q3
      · rename_i b
        refine ⟨b, r3.bl_of, ct _ _ _ _ (s1.trans (s2.trans s3)) ?_ q3⟩
        cases b
        · exact .non
        · exact r2.keep s3.keep
      · exact q3.elim
    · exact q1.elim⟩
end
section
variable {sd : StD} {M : Mo} {Q : QD} {tk tv tc : TED} {p : Prop} {b : Bool} {F : Bool → Prop}
instance s_pick : Step (dPick tk tv tc sd M Q) (tk sd M fun k M1 => kTr k (tv sd M1 fun v M2 => tc sd M2 fun c M3 => kBl c fun b => Q (if b = true then v else .non) M3)) := ⟨id⟩
instance s_kTr : Step (kTr (.bl true) p) p := ⟨id⟩
instance s_kBl : Step (kBl (.bl b) F) (F b) := ⟨id⟩
end
end DL

namespace DL
open PySem PySem.Spec PyProof.Rows L2 PySem.Froz
/-! ### sorted(set(text)) -/
theorem addTx_ris (h : Int) (v : Value) (D : SD) (r : Ris D.2.2.place.toList) : Ris (addTx h v D).2.2.place.toList := by
  have e : ∀ t : SetTable, Ris t.place.toList → ∀ ep es1 b, Ris (tailTx ep es1 t b).2.2.place.toList := fun t ht ep es1 b => by
    unfold tailTx
    split
    · exact relayAll_ris _ _ _
    · exact ht
  unfold addTx
  refine e _ ?_ _ _ _
  split
  · exact layNew_ris _ _ _ _ r
  · exact layNew_ris _ _ _ _ r
theorem addTx_led (h : Int) (v : Value) (D : SD) : (addTx h v D).2.2.led = D.2.2.led := by
  have e : ∀ t : SetTable, t.led = D.2.2.led → ∀ ep es1 b, (tailTx ep es1 t b).2.2.led = D.2.2.led := fun t ht ep es1 b => by
    unfold tailTx
    split
    · exact (relayAll_led _ _ _).trans ht
    · exact ht
  unfold addTx
  refine e _ ?_ _ _ _
  split
  · exact layNew_led _ _ _ _
  · exact layNew_led _ _ _ _
/-- the set of texts at a, its table rises and can be walked -/
def TS (P : Program) (w : World) (h : Heap) (a : Addr) (l : List Str) : Prop :=
  ∃ D : SD, h.get? a = some (sObj "set" D) ∧ TxOk P w D l ∧ l.Nodup ∧ Ris D.2.2.place.toList ∧ (w.params.followText "set-order" = true ∨ D.2.2.led = true)
section
variable {P : Program} {w : World} {A : Around} {E : Value → Shared → Prop} {s : Shared}
theorem TS.at {h h' : Heap} {a : Addr} {l : List Str} (R : TS P w h a l) (k : ∀ o, h.get? a = some o → h'.get? a = some o) : TS P w h' a l := by
  obtain ⟨D, ho, r⟩ := R
  exact ⟨D, k _ ho, r⟩
theorem old_x {a : Addr} {T : String} {D : SD} {l : List Str} {k : Str} {u : Tok} {Q : Bool → Shared → Prop} (ho : s.heap.get? a = some (sObj T D)) (F : TxOk P w D l) (hk : k ∈ l) (hb : l.length < scanBound)
    (h : Q false s) : wpAny (model P w) A (setAddHashed a (.str k u) (hashStr w k)) Q E s := by
  obtain ⟨es, ep, t⟩ := D
  have hd : (sObj T (es, ep, t)).data = .set es ep t := rfl
  have hf : t.fits es.size = true := F.fit
  have hel : ElemsOf (PySem.strKind P w) es.toList := F.el
  have hsz : es.size = l.length := F.sz
  have hb0 : es.size < scanBound := by omega
  have hkey : (PySem.strKind P w).is k (.str k u) = true := is_str k u
  unfold setAddHashed setAddHashedIn
  refine wpAny_holding (wpAny_bind (wpAny_setState_of ho hd hf ?_))
  dsimp only
  rw [byScan_of rfl hb0 hel]
  simp only [↓reduceIte]
  unfold setAddByScan
  refine wpAny_bind ?_
  refine wpAny_bind (wpAny_rule ?_)
  refine wpAny_bind (wpAny_setScan_of (knd := PySem.strKind P w) (k := k) hkey ho hd hf hel ?_)
  cases hr : List.findIdx? (fun e => (PySem.strKind P w).is k e.2) es.toList with
  | none =>
    obtain ⟨e, he, q⟩ := (F.mem k).mp hk
    have c := List.findIdx?_eq_none_iff.mp hr e he
    rw [q] at c
    cases c
  | some j =>
    dsimp only
    exact wpAny_pure (wpAny_pure h)
theorem ts_add {a : Addr} {l : List Str} {k : Str} {u : Tok} {Q : Bool → Shared → Prop} (R : TS P w s.heap a l) (hb : l.length + 1 < scanBound)
    (h : ∀ b h' l', Heap.SameBut a s.heap h' → TS P w h' a l' → (∀ j, j ∈ l' ↔ j ∈ l ∨ j = k) → l'.length ≤ l.length + 1 → Q b { s with heap := h' }) : wpAny (model P w) A (setAddHashed a (.str k u) (hashStr w k)) Q E s := by
  obtain ⟨D, ho, F, nd, r, hl⟩ := R
  by_cases hk : k ∈ l
  · refine old_x ho F hk (by omega) ?_
    exact h false s.heap l (Heap.SameBut.refl a s.heap) ⟨D, ho, F, nd, r, hl⟩ (fun j => ⟨.inl, fun z => z.elim id fun e => e ▸ hk⟩) (Nat.le_succ _)
  · refine add_x ho F hk hb ?_
    refine h true _ (k :: l) (Heap.SameBut.update s.heap a _) ⟨_, get_upd _ ho rfl, add_ok u F, List.nodup_cons.mpr ⟨hk, nd⟩, addTx_ris _ _ _ r, hl.imp id fun z => by rw [addTx_led]; exact z⟩ (fun j => by rw [List.mem_cons]; exact Or.comm) (Nat.le_refl _)
end
section
variable {prog : Program} {w : World} {A : Around} {R : Result → Shared → Prop} {I : Addr} {fp wr : List Addr} {G : Array GenState → Array GenState → Prop} {n : Nat} {P : Nat → Value → Prop} {St : Nat → Shared → Prop}
theorem loopTs (W : WalksS prog w A.in1 I fp wr G n P St) (S : Addr) (hSf : S ∉ fp) (xs : List Str) (hsz : xs.length = n) (hnb : n < scanBound)
    (hval : ∀ i v, P i v → ∃ t, v = .str (xs.getD i Str.empty) t) :
    ∀ (k i : Nat) (l : List Str) (s : Shared), n - i = k → i ≤ n → St i s → TS prog w s.heap S l → (∀ j, j ∈ l ↔ j ∈ xs.take i) → l.length ≤ i →
      (∀ s' l', Moved (S :: wr) G s s' → TS prog w s'.heap S l' → (∀ j, j ∈ l' ↔ j ∈ xs.take n) → l'.length ≤ n → R (.ok (.ret .none)) s') →
      codeAny (model prog w) A (.builtin "set.update.loop" ⟨[.ref S, .ref I], []⟩) R s := by
  have hSw : S ∉ wr := fun h => hSf (W.sub _ h)
  have hsub : ∀ b ∈ wr, b ∈ S :: wr := fun b hb => List.mem_cons_of_mem _ hb
  intro k
  induction k with
  | zero =>
    intro i l s hk hi hst hS hl hll hR
    have hin : i = n := by omega
    subst hin
    refine codeAny_builtin PyProof.Rows.F.entry_set_update_loop ?_
    rw [Around.under_plainId PyProof.Rows.F.plain_set_update_loop _]
    show wpAny _ A.in1 (pyNext (.ref I) >>= _) _ _ s
    refine wpAny_bind (W.done s _ _ hst fun s' hm => ?_)
    show wpAny _ A.in1 (ret Value.none) _ _ s'
    exact wpAny_pure (hR s' l (hm.mono hsub) (hS.at fun o ho => hm.heap S _ hSw ho) hl hll)
  | succ k ih =>
    intro i l s hk hi hst hS hl hll hR
    have hlt : i < n := by omega
    refine codeAny_builtin PyProof.Rows.F.entry_set_update_loop ?_
    rw [Around.under_plainId PyProof.Rows.F.plain_set_update_loop _]
    show wpAny _ A.in1 (pyNext (.ref I) >>= _) _ _ s
    refine wpAny_bind (W.item i s _ _ hlt hst fun v s' hP hst' hm => ?_)
    obtain ⟨t, rfl⟩ := hval i v hP
    have hS' : TS prog w s'.heap S l := hS.at fun o ho => hm.heap S _ hSw ho
    show wpAny _ A.in1 (holding [Value.str (xs.getD i Str.empty) t] (setAdd S (.str (xs.getD i Str.empty) t)) >>= _) _ _ s'
    refine wpAny_bind (wpAny_holding ?_)
    unfold setAdd
    refine wpAny_holding ?_
    refine wpAny_bind ((PySem.strKind prog w).pyHash (k := xs.getD i Str.empty) (strKind_is _ _ _ _) ?_)
    have hx : i < xs.length := by omega
    have e1 : xs.getD i Str.empty = xs[i] := by
      rw [List.getD_eq_getElem?_getD, List.getElem?_eq_getElem hx]
      rfl
    refine ts_add (s := { s' with toks := s'.toks + 1 }) hS' (by omega) fun b h' l' hsb hS2 hl2 hll2 => ?_
    have hSi : ∀ j, j ∈ l' ↔ j ∈ xs.take (i + 1) := fun j => by
      rw [hl2, hl, List.take_succ_eq_append_getElem hx, List.mem_append, List.mem_singleton, e1]
    refine wpAny_pure ⟨plainId_quiet PyProof.Rows.F.plain_set_update_loop _, ih (i + 1) l' _ (by omega) hlt (W.frame _ s' _ _ hst' (Nat.le_succ _) fun b hb o e => ?_) hS2 hSi (by omega) fun s'' l'' hm'' hS'' hl3 hll3 => ?_⟩
    · rw [hsb.2 b (fun h : b = S => hSf (by rw [← h]; exact hb))]; exact e
    · refine hR s'' l'' (Moved.trans W.gtrans ((hm.mono hsub).then_heap (Nat.le_succ _) fun b o hb e => ?_) hm'') hS'' hl3 hll3
      rw [hsb.2 b (fun h : b = S => hb (by rw [h]; exact List.mem_cons_self))]; exact e
end
section
variable {prog : Program} {w : World} {A : Around} {E : Value → Shared → Prop} {s : Shared}
set_option maxHeartbeats 3200000 in
theorem call_set_txs {x : Str} {t : Tok} {Q : Value → Shared → Prop} (hh : A.handled = none) (hn1 : x.cps.size < scanBound)
    (h : ∀ (h' : Heap) (tk : Nat) (l : List Str), TS prog w h' s.heap.objs.size l → (∀ j, j ∈ l ↔ j ∈ sgs x) →
      (∀ b o, b < s.heap.objs.size → s.heap.get? b = some o → h'.get? b = some o) → Q (.ref s.heap.objs.size) { s with heap := h', toks := tk }) :
    wpAny (model prog w) A (call (.type "set") [.str x t]) Q E s := by
  obtain ⟨c, tl, hmro⟩ := PySem.F.called_set.mro
  have hmade := PySem.F.called_set.made
  have hsub := PySem.F.called_set.sub
  refine wpAny_call (codeAny_of_tree ?_)
  show wpAny _ _ (callAny (.type "set") _) _ _ _
  refine wpAny_pure ⟨Code.quiet_builtin _ (by decide +kernel), codeAny_builtin PySem.F.entry_type_call ?_⟩
  rw [Around.under_plain (weight_type_call_type "set" [.str x t] []) rfl]
  have h1 := PySem.F.called_set.notType
  have h2 := PySem.F.called_set.canCreate
  have hct := PySem.F.typeCall_set_1 (.str x t)
  repeat (any_goals (first | assumption | wp_step))
  refine codeAny_mono (code_set_led1 (.str x t) (E := E) (Q₁ := fun obj s₁ => obj = .ref s.heap.objs.size ∧ s₁ = { s with heap := s.heap.push { cls := .type "set", dict := none, data := .set #[] 0 (.fresh 0 0 (!w.params.followText "set-order")) } }) ⟨rfl, rfl⟩) fun r s₁ hr => ?_
  cases r with
  | error e => exact hr
  | ok fl =>
    cases fl with
    | ret obj =>
      obtain ⟨rfl, rfl⟩ := hr
      have hS0 : TS prog w (s.heap.push { cls := .type "set", dict := none, data := .set #[] 0 (.fresh 0 0 (!w.params.followText "set-order")) }) s.heap.objs.size [] :=
        ⟨(#[], 0, .fresh 0 0 (!w.params.followText "set-order")), Heap.get?_push_size _ rfl, TxOk.nil (by rfl), .nil, .nil, by
          show _ ∨ (!w.params.followText "set-order") = true
          cases w.params.followText "set-order"
          · exact .inr rfl
          · exact .inl rfl⟩
      generalize (!w.params.followText "set-order") = led at hS0 ⊢
      have hS : (s.heap.push { cls := .type "set", dict := none, data := .set #[] 0 (.fresh 0 0 led) }).get? s.heap.objs.size = some { cls := .type "set", dict := none, data := .set #[] 0 (.fresh 0 0 led) } := Heap.get?_push_size _ rfl
      have hT : Shared.TypeIs { s with heap := s.heap.push { cls := .type "set", dict := none, data := .set #[] 0 (.fresh 0 0 led) } } (.ref s.heap.objs.size) "set" := ⟨_, hS, rfl⟩
      have hli := PySem.F.called_set.init.lookup
      have hbi := PySem.F.called_set.init.bind (.ref s.heap.objs.size)
      repeat (any_goals (first | assumption | wp_step))
      refine codeAny_mono (codeAny_call_builtin (R := wants (fun r s₂ => r = .none ∧ ∃ h' tk l, s₂ = { s with heap := h', toks := tk } ∧
          TS prog w h' s.heap.objs.size l ∧ (∀ j, j ∈ l ↔ j ∈ sgs x) ∧
          (∀ b o, b < s.heap.objs.size → s.heap.get? b = some o → h'.get? b = some o)) E) PySem.F.called_set.init.plain PySem.F.entry_set_init (check_set_init_1 hT ?_)) fun r₂ s₂ hr₂ => ?_
      · have hsls := PySem.F.sub_str_set
        have hslf := PySem.F.sub_str_frozenset
        have hne : (Value.type "str" == Value.type "dict") = false := by decide
        unfold Builtin.«set.__init__» noKeywords Builtin.Frozenset.updateFrom
        generalize hPI : pyIter = PI
        wp_walk
        subst hPI
        refine wpAny_pyIter_str fun o St WW st0 => ?_
        refine wpAny_bind (wpAny_runValue ?_)
        have hh3 : A.in1.in1.in1.handled = none := by simp [hh]
        have hSf : s.heap.objs.size ∉ [(s.heap.push { cls := .type "set", dict := none, data := .set #[] 0 (.fresh 0 0 led) }).objs.size] := by
          rw [Heap.size_push]; simp only [List.mem_singleton]
          exact Nat.ne_of_lt (Nat.lt_succ_self _)
        have hval : ∀ (i : Nat) (v : Value), SignAt x i v → ∃ t, v = .str ((sgs x).getD i Str.empty) t := fun i v ⟨c, u, hc, e⟩ => ⟨u, by
          rw [e, List.getD_eq_getElem?_getD, sgs, List.getElem?_map, Array.getElem?_toList, hc]
          rfl⟩
        refine loopTs ((WW _ hh3).toS) s.heap.objs.size
          hSf (sgs x) (sgs_len x) hn1 hval (x.cps.size - 0) 0 [] _ (by omega) (Nat.zero_le _)
          st0 ?hS0 (fun j => by simp) (Nat.le_refl _) ?hR
        case hS0 => exact hS0.at fun o ho => Heap.get?_push_of_some _ ho
        case hR =>
          intro s' l' hm hS' hl' hll
          obtain ⟨h', g', d', tk', os'⟩ := s'
          have eg : g' = s.gens := hm.gens
          have ed : d' = s.drawn := hm.drawn
          have eo : os' = s.os := hm.os
          subst eg; subst ed; subst eo
          show wpAny _ _ _ _ _ _
          refine wpAny_pure ?_
          show wpAny _ _ (ret Value.none) _ _ _
          refine wpAny_pure ⟨rfl, h', tk', l', rfl, hS', fun j => by rw [hl', List.take_of_length_le (by rw [sgs_len]; exact Nat.le_refl _)], fun b o hb e => ?_⟩
          have hb1 : b ≠ s.heap.objs.size := Nat.ne_of_lt hb
          have hb2 : b ≠ (s.heap.push { cls := .type "set", dict := none, data := .set #[] 0 (.fresh 0 0 led) }).objs.size := by
            rw [Heap.size_push]; exact Nat.ne_of_lt (Nat.lt_succ_of_lt hb)
          exact hm.heap b o (by simp only [List.mem_cons, List.mem_singleton, List.not_mem_nil, or_false, not_or]; exact ⟨hb1, hb2⟩) (Heap.get?_push_of_some _ (Heap.get?_push_of_some _ e))
      · cases r₂ with
        | error e => exact hr₂
        | ok fl₂ =>
          cases fl₂ with
          | ret r =>
            obtain ⟨rfl, h', tk, l, rfl, hS', hl', hk'⟩ := hr₂
            repeat (any_goals (first | assumption | wp_step))
            exact h _ _ _ hS' hl' hk'
          | _ => exact hr₂.elim
    | _ => exact hr.elim
end
/-! unlike ones, counted -/
theorem len_le : ∀ {l ys : List Str}, l.Nodup → (∀ k, k ∈ l → k ∈ ys) → l.length ≤ ys.length
  | [], ys, _, _ => Nat.zero_le _
  | k :: l, ys, nd, h => by
    obtain ⟨n1, n2⟩ := List.nodup_cons.mp nd
    have hk := h k List.mem_cons_self
    have := len_le (ys := ys.erase k) n2 fun j hj => (List.mem_erase_of_ne (fun e => n1 (by rw [← e]; exact hj))).mpr (h j (List.mem_cons_of_mem _ hj))
    rw [List.length_erase_of_mem hk] at this
    have := List.length_pos_of_mem hk
    rw [List.length_cons]
    omega
theorem nd_of : ∀ {ys l : List Str}, l.Nodup → (∀ k, k ∈ l → k ∈ ys) → ys.length ≤ l.length → ys.Nodup
  | [], _, _, _, _ => .nil
  | y :: ys, l, nd, h, hl => by
    have hy : y ∉ ys := fun hy => by
      have := len_le (ys := ys) nd fun k hk => (List.mem_cons.mp (h k hk)).elim (fun e => by rw [e]; exact hy) id
      rw [List.length_cons] at hl
      omega
    refine List.nodup_cons.mpr ⟨hy, ?_⟩
    by_cases c : y ∈ l
    · refine nd_of (l := l.erase y) (nd.erase y) (fun k hk => ?_) ?_
      · have hk2 := (List.Nodup.mem_erase_iff nd).mp hk
        exact (List.mem_cons.mp (h k hk2.2)).resolve_left hk2.1
      · rw [List.length_erase_of_mem c]
        rw [List.length_cons] at hl
        omega
    · have := len_le (ys := ys) nd fun k hk => (List.mem_cons.mp (h k hk)).resolve_left fun e => c (by rw [← e]; exact hk)
      rw [List.length_cons] at hl
      omega
theorem strs_of : ∀ (l : List Value), (∀ v ∈ l, ∃ k tk, v = Value.str k tk) → ∃ ys : List Str, StrsAre l ys ∧ ∀ k, k ∈ ys ↔ ∃ v ∈ l, ∃ tk, v = Value.str k tk
  | [], _ => ⟨[], .nil, fun k => by simp⟩
  | v :: l, h => by
    obtain ⟨k, tk, rfl⟩ := h v List.mem_cons_self
    obtain ⟨ys, h1, h2⟩ := strs_of l fun u hu => h u (List.mem_cons_of_mem _ hu)
    refine ⟨k :: ys, .cons k tk h1, fun j => ?_⟩
    rw [List.mem_cons, h2]
    constructor
    · rintro (rfl | ⟨v, hv, tk2, rfl⟩)
      · exact ⟨_, List.mem_cons_self, tk, rfl⟩
      · exact ⟨_, List.mem_cons_of_mem _ hv, tk2, rfl⟩
    · rintro ⟨v, hv, tk2, rfl⟩
      rcases List.mem_cons.mp hv with e | hv
      · cases e; exact .inl rfl
      · exact .inr ⟨_, hv, tk2, rfl⟩
section
variable {X : Cx}
theorem sorted_runT {s : Shared} {pins : List (Addr × Obj)} {σ : L2.St} {H : Hp} {a : Addr} {l : List Str} {Q : VK} (I : Inv X pins σ H s) (hc : X.calm = true) (hS : TS X.prog X.w s.heap a l) (h64 : l.length < 64)
    (q : ∀ (ys : List Str), ys.Nodup → (∀ k, k ∈ ys ↔ k ∈ l) → sortedS ys = true → ∀ p, H p = none → Q (.ref p) (upd H p (.lst (ys.map V.str)))) : wpAny (model X.prog X.w) X.A (call (.builtin "sorted") [.ref a]) (EP X pins σ Q) X.xe s := by
  obtain ⟨⟨es, ep, t⟩, ho, F, nd, r, hl⟩ := hS
  have hsz : es.size = l.length := F.sz
  have hsb : es.size < scanBound := by unfold scanBound; omega
  refine Calls.call_function_entry PyProof.Rows.kind_sorted PyProof.Rows.plain_sorted PyProof.Rows.entry_sorted (PyProof.Rows.args_sorted1 _) ?_
  unfold Builtin.«sorted»
  refine wpAny_bind (m := checkCount "sorted" 1 1 _) (wpAny_pure ?_)
  refine wpAny_bind (collect_set (A := X.A.in1) (I.ok.hd hc) ⟨_, ho, rfl, rfl⟩ F.fit hsb r hl fun s1 vs k1 hz g1 o1 pm => ?_)
  have hvl : vs.length = l.length := by rw [pm.length_eq, List.length_map, Array.length_toList]; exact hsz
  obtain ⟨zs, hZ, hzm⟩ := strs_of vs fun v hv => by
    obtain ⟨e, he, rfl⟩ := List.mem_map.mp (pm.mem_iff.mp hv)
    obtain ⟨⟨k, hk, _⟩, _⟩ := F.el e he
    obtain ⟨tk, h⟩ := Value.isStrOf_shape hk
    exact ⟨k, tk, h⟩
  have hzl : ∀ k, k ∈ zs ↔ k ∈ l := fun k => by
    rw [hzm, F.mem k]
    constructor
    · rintro ⟨v, hv, tk, rfl⟩
      obtain ⟨e, he, h⟩ := List.mem_map.mp (pm.mem_iff.mp hv)
      exact ⟨e, he, by rw [h]; exact is_str k tk⟩
    · rintro ⟨e, he, h⟩
      obtain ⟨tk, h⟩ := Value.isStrOf_shape h
      exact ⟨e.2, pm.mem_iff.mpr (List.mem_map.mpr ⟨e, he, rfl⟩), tk, h⟩
  have hzle : zs.length = vs.length := hZ.length.symm
  have hznd : zs.Nodup := nd_of nd (fun k hk => (hzl k).mpr hk) (by omega)
  obtain ⟨h', g', d', tk, os'⟩ := s1
  dsimp only at k1 hz g1 o1
  refine wpAny_bind (wpAny_newList ?_ (by rw [hvl, sizeLine_eq]; omega))
  have hoL : (h'.push (seqObj "list" vs.toArray 0)).get? h'.objs.size = some (seqObj "list" vs.toArray 0) := Heap.get?_push_size _ rfl
  show wpAny _ _ _ _ _ { heap := h'.push (seqObj "list" vs.toArray 0), gens := g', drawn := d', toks := tk, os := os' }
  refine wpAny_bind (wpAny_holding (wpAny_call_entry PyProof.Rows.slot_list_sort ⟨_, hoL, rfl⟩ PyProof.Rows.entry_list_sort
    (list_sort_treeK strKind_oneLt (s := { heap := h'.push (seqObj "list" vs.toArray 0), gens := g', drawn := d', toks := tk, os := os' }) hoL hZ.keysOf (fun v₁ v₂ rest e => keyKind_strs (by rw [← e]; exact hZ)) (by rw [hvl]; exact h64) fun st' hp hs => ⟨_, rfl, ?_⟩)
    (PyProof.Rows.args_list_sort _)))
  obtain ⟨ys, g2, g3, g4⟩ := sorted_out_str hZ hp hs
  obtain ⟨e', he'⟩ := PyProof.Rows.sortedHeap_at (vs := vs) (out := (arrOf st').map (·.2)) hoL
  have hlen : (ys.map V.str).length ≤ sizeLine := by
    rw [List.length_map, g3.length_eq, hzle, hvl]
    exact Nat.le_trans (Nat.le_of_lt h64) (by decide)
  have hn : H h'.objs.size = none := I.hok.fresh hz
  have kk : ∀ b u, s.heap.get? b = some u → (PyProof.Rows.sortedHeap (h'.push (seqObj "list" vs.toArray 0)) h'.objs.size vs ((arrOf st').map (·.2))).get? b = some u := fun b u e => by
    have e := k1 b u e
    have hb : b < h'.objs.size := Heap.lt_size e
    rw [PyProof.Rows.sortedHeap_old (Nat.ne_of_lt hb) (by rw [size_push']; exact Nat.lt_succ_of_lt hb)]
    exact Heap.get?_push_of_some _ e
  have J := I.call (ch := []) (t' := tk) (g' := g') (d' := d') (Un.laid kk hz hn) (I.hok.laid kk hz (show ObjOk X.prog X.w _ _ _ (.lst (ys.map V.str)) from ⟨hlen, ((arrOf st').map (·.2)).toList, e', vals_of_strs g2, by rw [Array.toArray_toList]; exact he'⟩)) (by rw [g1]; exact I.bare) (fun _ z => nomatch z)
  subst o1
  refine wpAny_pure ⟨_, rfl, .ref h'.objs.size, upd H h'.objs.size (.lst (ys.map V.str)), J, rfl, q ys (g3.nodup_iff.mpr hznd) (fun k => by rw [g3.mem_iff, hzl]) g4 _ hn⟩
def tSortTx (ta : TE) : TE := fun σ H Q => ta σ H fun v H1 => ∃ x : Str, v = V.str x ∧ x.length < 4096 ∧ (∀ l : List Str, l.Nodup → (∀ k, k ∈ l → k ∈ sgs x) → l.length < 64) ∧
  ∀ (ys : List Str), ys.Nodup → (∀ k, k ∈ ys ↔ k ∈ sgs x) → sortedS ys = true → ∀ p, H1 p = none → Q (.ref p) (upd H1 p (.lst (ys.map V.str)))
theorem pe_sortTx {a : Expr} {ta : TE} {p p2 q pos : Pos} (hc : X.calm = true) (hg : Gl X "sorted") (hm : X.mg "sorted" = none) (hg2 : Gl X "set") (hm2 : X.mg "set" = none) (ha : PE X a ta) (hv : bootBuiltins "sorted" = some (.builtin "sorted"))
    (na : starEach [a] X.env = (false, eval a X.env) :: starEach [] X.env := by rfl) : PE X (.Call (.Name "sorted" p) [.Call (.Name "set" p2) [a] [] q] [] pos) (tSortTx ta) := by
  refine ⟨fun pins s σ H Q I h => ?_⟩
  refine Call_ (ld_blt I hg hm hv ?_)
  refine PyProof.Rows.callWith_builtin1 (PyProof.Rows.args_cons ?_ rfl) rfl rfl
  refine Call_ (ld_blt I hg2 hm2 boot_set ?_)
  refine PyProof.Rows.callWith_type1 (PyProof.Rows.args_cons (thn (ha.run pins s σ H _ I h) fun v s1 ⟨x, H1, I1, r1, q1⟩ => PyProof.Rows.args_nil ?_) na) na rfl
  obtain ⟨z, rfl, hz, h64, q1⟩ := q1
  obtain ⟨t, rfl⟩ := r1
  refine call_set_txs (I1.ok.hd hc) hz fun h' tk l hS hl hk => ?_
  refine PyProof.Rows.args_nil ?_
  have I2 : Inv X pins σ H1 { s1 with heap := h', toks := tk } := I1.kept fun b o e => hk b o (Heap.lt_size e) e
  have nd : l.Nodup := by obtain ⟨_, _, _, nd, _⟩ := hS; exact nd
  exact sorted_runT I2 hc hS (h64 l nd fun k hk => (hl k).mp hk) fun ys n1 n2 n3 p hn => q1 ys n1 (fun k => by rw [n2, hl]) n3 p hn
end
/-- sorted(set(text)): the text's signs, each once, rising -/
def kSortTx (d : Dv) (M : Mo) (Q : QD) : Prop := match d with
  | .str x => x.length < 4096 ∧ (∀ l : List Nat, l.Nodup → (∀ c, c ∈ l → c ∈ x.cps.toList) → l.length < 64) ∧ ∀ ds : List Nat, ds.Pairwise (· < ·) → (∀ c, c ∈ ds ↔ c ∈ x.cps.toList) → ∀ p, M p = none → Q (.ref p) (mup M p (.lst (onesD ds)))
  | _ => False
def dSortTx (t : TED) : TED := fun sd M Q => t sd M fun d M1 => kSortTx d M1 Q
theorem ones_mem {ds : List Nat} {c : Nat} : (⟨#[c]⟩ : Str) ∈ ds.map (fun c => (⟨#[c]⟩ : Str)) ↔ c ∈ ds := by
  rw [List.mem_map]
  constructor
  · rintro ⟨d, hd, e⟩
    have : d = c := by have := congrArg (fun s : Str => s.cps.toList) e; simpa using this
    rw [← this]; exact hd
  · intro h
    exact ⟨c, h, rfl⟩
section
variable {X : Cx} {M0 : Mo} {H0 : Hp}
theorem de_sortTx {a : Expr} {ta : TED} {p p2 q pos : Pos} (hc : X.calm = true) (hg : Gl X "sorted") (hm : X.mg "sorted" = none) (hg2 : Gl X "set") (hm2 : X.mg "set" = none) (hv : bootBuiltins "sorted" = some (.builtin "sorted")) (ha : PEd X M0 H0 a ta)
    (na : starEach [a] X.env = (false, eval a X.env) :: starEach [] X.env := by rfl) : PEd X M0 H0 (.Call (.Name "sorted" p) [.Call (.Name "set" p2) [a] [] q] [] pos) (dSortTx ta) :=
  PE.imp (pe_sortTx hc hg hm hg2 hm2 ha hv na) fun σ H Q ⟨sd, M, Qd, w, q, c⟩ => ⟨sd, M, _, w, q, fun d M1 v H1 s1 r1 q1 => by
    unfold kSortTx at q1
    split at q1
    · rename_i x
      obtain ⟨h1, h2, h3⟩ := q1
      refine ⟨x, r1.str_of, h1, fun l nd hl => ?_, fun ys nd hm hs p hp => ?_⟩
      · have hl2 : ∀ k, k ∈ l → ∃ c, c ∈ x.cps.toList ∧ k = ⟨#[c]⟩ := fun k hk => by
          obtain ⟨c, hc, e⟩ := List.mem_map.mp (hl k hk)
          exact ⟨c, hc, e.symm⟩
        have e : l = (l.map fun y => y.cps.toList.headD 0).map (fun c => (⟨#[c]⟩ : Str)) := by
          rw [List.map_map]
          refine (List.map_id' l).symm.trans (List.map_congr_left fun y hy => ?_)
          obtain ⟨c, _, rfl⟩ := hl2 y hy
          rfl
        have := h2 (l.map fun y => y.cps.toList.headD 0) (by
          rw [e] at nd
          exact List.Pairwise.imp (fun h z => h (by rw [z])) (List.pairwise_map.mp nd)) fun c hc => by
          obtain ⟨k, hk, rfl⟩ := List.mem_map.mp hc
          obtain ⟨c3, hc3, rfl⟩ := hl2 k hk
          exact hc3
        rw [List.length_map] at this
        exact this
      · have hp1 : ys.Perm ((ys.map fun y => y.cps.toList.headD 0).map fun c => (⟨#[c]⟩ : Str)) := by
          rw [List.map_map]
          refine List.Perm.of_eq ((List.map_id' ys).symm.trans (List.map_congr_left fun y hy => ?_))
          obtain ⟨c, _, e⟩ := List.mem_map.mp ((hm y).mp hy)
          rw [← e]
          rfl
        obtain ⟨ds, rfl, _, hds⟩ := sorted_ones hp1 hs
        have e : onesD ds = (ds.map fun c => (⟨#[c]⟩ : Str)).map Dv.str := by unfold onesD; rw [List.map_map]; rfl
        have nd2 : ds.Nodup := List.Pairwise.imp (fun h z => h (by rw [z])) (List.pairwise_map.mp nd)
        have q2 := h3 ds ((hds.and nd2).imp fun {a b} h => by have := h.1; have := h.2; omega) (fun c => by rw [← ones_mem, hm]; exact ones_mem) p (s1.sr.free hp)
        exact c _ _ _ _ (s1.trans (Stp.new s1.sr hp (own_lst (ds := onesD ds) hp (by rw [e]; exact rds_strs _)))) .ref q2
    · exact q1.elim⟩
end
section
variable {sd : StD} {M : Mo} {Q : QD} {t : TED} {x : Str}
instance s_sortTx : Step (dSortTx t sd M Q) (t sd M fun d M1 => kSortTx d M1 Q) := ⟨id⟩
theorem i_sortTx (h1 : x.length < 4096) (h2 : ∀ l : List Nat, l.Nodup → (∀ c, c ∈ l → c ∈ x.cps.toList) → l.length < 64) (h : ∀ ds : List Nat, ds.Pairwise (· < ·) → (∀ c, c ∈ ds ↔ c ∈ x.cps.toList) → ∀ p, M p = none → Q (.ref p) (mup M p (.lst (onesD ds)))) : kSortTx (.str x) M Q := ⟨h1, h2, h⟩
end
end DL

namespace DL
open PySem PySem.Spec PyProof.Rows L2
/-! ### o.m(k = v, ..) -/
def tMethK (C : Addr) (m : Str) (nk : Nat) (sp : Sp) (gV : List V → List V → List V) (E : XK) (ta : TE) (tk : TA) : TE := fun σ H Q => ta σ H fun x H1 => ∃ a dx fs, x = .ref a ∧ Rd H1 a (.ins C dx fs) ∧ fs.lookup m = none ∧ tk σ H1 fun zs H2 => zs.length = nk ∧ sp (gV [x] zs) H2 Q E
theorem pe_methK0 {X : Cx} {CX : CXT} {k : Nat} {C f : Addr} {m : Str} {fd : FuncData} {ps ks : List Str} {sp : Sp} {E : XK} {o : Expr} {kws : List Keyword} {ta : TE} {tk : TA} {apos pos : Pos} {pl : Sem Bool} {g : List Value → List Value → List Value} {gV : List V → List V → List V}
    (he : PE X o ta) (c : Cls X.K C) (hm : Meth X.K C m f) (F : FnOk X.prog X.w X.K X.mg X.base CX k f fd ps sp) (hr : Room k X.A) (hb : KBn X.K fd ps 1 ks g gV) (hx : Passes CX X E) (hkw : L2.PK X kws tk)
    (hall : (backToKw pos (keywordEach kws X.env)).all (·.1.isSome) = true := by rfl) (hks : (backToKw pos (keywordEach kws X.env)).filterMap (·.1) = ks := by rfl)
    (hpl : ((backTo pos (starEach [] X.env)).any (·.1) || (backToKw pos (keywordEach kws X.env)).any (·.1.isNone)) = false := by rfl)
    (ht : eval (.Call (.Attribute o m apos) [] kws pos) X.env = (do
      let ov ← eval o X.env
      standAt apos.atName
      let (f, first) ← holding [ov] (getMethod ov m pl)
      callWith pos f first (backTo pos (starEach [] X.env)) (backToKw pos (keywordEach kws X.env))) := by rfl) :
    PE X (.Call (.Attribute o m apos) [] kws pos) (tMethK C m ks.length sp gV E ta tk) := by
  refine ⟨fun pins s σ H Q I h => ?_⟩
  refine PySem.W.methodCall_KW (pl := pl) (thn (he.run pins s σ H _ I h) fun u s1 ⟨x, H1, I1, rx, a, dx, fs, ex, ea, l, q⟩ => ?_) ht
  subst ex
  obtain rfl : u = Value.ref a := rx
  refine getmeth_okR I1 ea c hm l ?_
  refine PySem.W.callWith_KW0 (first := [.ref a]) (h₀ := X.base) I.ok.mod.kin hm.kp hall ?_ hpl
  refine thn (hkw.run pos pins s1 σ H1 _ I1 q) fun ws s2 ⟨zs, H2, I2, rz, l2, q2⟩ => ⟨I2.kIn, ?_⟩
  rw [hks]
  exact run_fnN (us := [.ref a]) (vs := [.ref a]) F hr hb hx I2 (.cons rfl .nil) rz rfl l2 q2
def dMeSV (c m : Str) (sp : SpD) (nk : Nat) (sel : List (Nat ⊕ Nat)) (dvs : List Dv) (Ed : EXD) (tk : TAD) (sd : StD) (d : Dv) (M : Mo) (Q : QD) : Prop := match insV M d with
  | some (c', fs) => c' = c ∧ fs.lookup m = none ∧ tk sd M fun zs M2 => zs.length = nk ∧ sp (d :: pick zs dvs sel) M2 Q Ed
  | none => False
def dMeS (c m : Str) (sp : SpD) (nk : Nat) (sel : List (Nat ⊕ Nat)) (dvs : List Dv) (Ed : EXD) (to : TED) (tk : TAD) : TED := fun sd M Q => to sd M fun d M1 => dMeSV c m sp nk sel dvs Ed tk sd d M1 Q
def kMeS (sp : SpD) (nk : Nat) (sel : List (Nat ⊕ Nat)) (dvs : List Dv) (Ed : EXD) (d : Dv) (zs : List Dv) (M : Mo) (Q : QD) : Prop := zs.length = nk ∧ sp (d :: pick zs dvs sel) M Q Ed
section
variable {X : Cx} {M0 : Mo} {H0 : Hp} {k : Nat} {ps ks : List Str} {B : FuncData → Prop} {sp : SpD} {ddvs : List Dv} {dvs : List V} {Ed : EXD} {E : XK} {c m : Str} {pos apos : Pos} {o : Expr} {kws : List Keyword} {to : TED} {tk : TAD} {sel : List (Nat ⊕ Nat)}
theorem de_methS {pl : Sem Bool} (F : MethD X.prog X.w X.K X.mg X.base c m k ps B sp) (hr : Room k X.A) (hb : ∀ fd, B fd → KBs X.K fd ps 1 ks sel dvs) (hdd : ∀ H, RDs X.K H ddvs dvs) (hx : Passes (L2.CX X.prog X.w) X E) (hE : CtX X.K M0 H0 Ed E)
    (ho : PEd X M0 H0 o to) (hkw : PKd X M0 H0 kws tk) (hall : (backToKw pos (keywordEach kws X.env)).all (·.1.isSome) = true := by rfl) (hks : (backToKw pos (keywordEach kws X.env)).filterMap (·.1) = ks := by rfl)
    (hpl : ((backTo pos (starEach [] X.env)).any (·.1) || (backToKw pos (keywordEach kws X.env)).any (·.1.isNone)) = false := by rfl)
    (ht : eval (.Call (.Attribute o m apos) [] kws pos) X.env = (do
      let ov ← eval o X.env
      standAt apos.atName
      let (f, first) ← holding [ov] (getMethod ov m pl)
      callWith pos f first (backTo pos (starEach [] X.env)) (backToKw pos (keywordEach kws X.env))) := by rfl) :
    PEd X M0 H0 (.Call (.Attribute o m apos) [] kws pos) (dMeS c m sp ks.length sel ddvs Ed to tk) := by
  obtain ⟨C, f, fd, n, cl, hm, b, F⟩ := F.ex
  obtain ⟨its, _, hb⟩ := hb fd b
  refine PE.imp (pe_methK0 ho cl hm F hr hb hx hkw hall hks hpl ht) fun σ H Q ⟨sd, M, Qd, w, q, cc⟩ => ⟨sd, M, _, w, q, fun d M1 v H1 s1 r1 q1 => ?_⟩
  unfold dMeSV at q1
  split at q1
  · rename_i c' fs e
    obtain ⟨rfl, l, q1⟩ := q1
    obtain ⟨a, C', dx, vfs, ev, n', hv, rr⟩ := insV_ok s1.sr r1 e
    rw [n] at n'
    cases n'
    refine ⟨a, dx, vfs, ev, hv, rr.lookup_none l, sd, M1, _, w.on s1, q1, fun zs M2 ws H2 s2 r2 ⟨l2, q2⟩ => ⟨by rw [← r2.length]; exact l2, d :: pick zs ddvs sel, M2, Qd, Ed, ?_, s2.sr, q2, cc.on (s1.trans s2), hE.on (w.st.trans (s1.trans s2))⟩⟩
    exact RDs.cons (r1.keep s2.keep) (pick_rds r2 (hdd H2) sel)
  · exact q1.elim
end
section
variable {c m : Str} {a : Addr} {fs : List (Str × Dv)} {sp : SpD} {nk : Nat} {sel : List (Nat ⊕ Nat)} {dvs zs r : List Dv} {Ed : EXD} {to : TED} {tk : TAD} {sd : StD} {d : Dv} {M : Mo} {Q : QD}
instance s_meS : Step (dMeS c m sp nk sel dvs Ed to tk sd M Q) (to sd M fun d M1 => dMeSV c m sp nk sel dvs Ed tk sd d M1 Q) := ⟨id⟩
theorem i_meSK (h2 : fs.lookup m = none) (q : tk sd M fun zs M2 => kMeS sp nk sel dvs Ed (.obj c fs) zs M2 Q) : dMeSV c m sp nk sel dvs Ed tk sd (.obj c fs) M Q := ⟨rfl, h2, q⟩
theorem i_meSR (h1 : M a = some (.ins c fs)) (h2 : fs.lookup m = none) (q : tk sd M fun zs M2 => kMeS sp nk sel dvs Ed (.ref a) zs M2 Q) : dMeSV c m sp nk sel dvs Ed tk sd (.ref a) M Q := by
  unfold dMeSV insV
  simp only [h1]
  exact ⟨trivial, h2, q⟩
theorem i_kMeS (h2 : zs.length = nk) [p : Pick zs dvs sel r] (h : sp (d :: r) M Q Ed) : kMeS sp nk sel dvs Ed d zs M Q := ⟨h2, by rw [p.eq]; exact h⟩
end
/-! ### f(k = v, ..), nothing by place -/
theorem pe_callN0 {X : Cx} {CX : CXT} {k : Nat} {x : Str} {f : Addr} {fd : FuncData} {ps ks : List Str} {sp : Sp} {E : XK} {kws : List Keyword} {tk : TA} {p pos : Pos} {g : List Value → List Value → List Value} {gV : List V → List V → List V}
    (F : FnOk X.prog X.w X.K X.mg X.base CX k f fd ps sp) (hr : Room k X.A) (hg : Gl X x) (hm : X.mg x = some (.ref f)) (hk : PySem.W.keepIn X.K (.ref f) = true) (hb : KBn X.K fd ps 0 ks g gV) (hx : Passes CX X E)
    (hkw : L2.PK X kws tk) (hall : (backToKw pos (keywordEach kws X.env)).all (·.1.isSome) = true := by rfl) (hks : (backToKw pos (keywordEach kws X.env)).filterMap (·.1) = ks := by rfl)
    (hdb : (x == ("__debug__" : Str)) = false := by decide)
    (hpl : ((backTo pos (starEach [] X.env)).any (·.1) || (backToKw pos (keywordEach kws X.env)).any (·.1.isNone)) = false := by rfl) :
    PE X (.Call (.Name x p) [] kws pos) (tCallN 0 ks.length sp gV E tNil tk) := by
  refine ⟨fun pins s σ H Q I h => ?_⟩
  refine wpAny_Call_Name_kw (ld_glob I hg hm ?_ hdb)
  refine PySem.W.callWith_KW0 (h₀ := X.base) I.ok.mod.kin hk hall ?_ hpl
  refine thn (hkw.run pos pins s σ H _ I h) fun ws s2 ⟨zs, H2, I2, rz, l1, l2, q2⟩ => ⟨I2.kIn, ?_⟩
  rw [hks]
  exact run_fnN (us := []) (vs := []) F hr hb hx I2 .nil rz rfl l2 q2
section
variable {X : Cx} {M0 : Mo} {H0 : Hp} {k : Nat} {ps ks : List Str} {B : FuncData → Prop} {sp : SpD} {ddvs : List Dv} {dvs : List V} {Ed : EXD} {E : XK} {x : Str} {p pos : Pos} {kws : List Keyword} {tk : TAD} {sel : List (Nat ⊕ Nat)}
theorem de_calS0 (F : FnD X.prog X.w X.K X.mg X.base x k ps B sp) (hr : Room k X.A) (hg : Gl X x) (hb : ∀ fd, B fd → KBs X.K fd ps 0 ks sel dvs) (hdd : ∀ H, RDs X.K H ddvs dvs)
    (hx : Passes (L2.CX X.prog X.w) X E) (hE : CtX X.K M0 H0 Ed E) (hkw : PKd X M0 H0 kws tk) (hall : (backToKw pos (keywordEach kws X.env)).all (·.1.isSome) = true := by rfl) (hks : (backToKw pos (keywordEach kws X.env)).filterMap (·.1) = ks := by rfl)
    (hdb : (x == ("__debug__" : Str)) = false := by decide)
    (hpl : ((backTo pos (starEach [] X.env)).any (·.1) || (backToKw pos (keywordEach kws X.env)).any (·.1.isNone)) = false := by rfl) : PEd X M0 H0 (.Call (.Name x p) [] kws pos) (dCalS sp 0 ks.length sel ddvs Ed dNilA tk) := by
  obtain ⟨f, fd, hm, hk, b, F⟩ := F.ex
  obtain ⟨its, _, hb⟩ := hb fd b
  refine PE.imp (pe_callN0 F hr hg hm hk hb hx hkw hall hks hdb hpl) fun σ H Q h => ?_
  refine tnil_imp (M0 := M0) (H0 := H0) σ H _ ((fun ⟨sd, M, Qd, w, q, c⟩ => ⟨sd, M, _, w, q, fun ds M1 vs H1 s1 r1 q1 => ⟨sd, M1, _, w.on s1, q1, fun zs M2 ws H2 s2 r2 ⟨l1, l2, q2⟩ =>
    ⟨by rw [← r1.length]; exact l1, by rw [← r2.length]; exact l2, _, M2, Qd, Ed, (r1.keep s2.keep).app (pick_rds r2 (hdd H2) sel), s2.sr, q2, c.on (s1.trans s2), hE.on (w.st.trans (s1.trans s2))⟩⟩⟩ : LE X.K M0 H0 (dCalS sp 0 ks.length sel ddvs Ed dNilA tk) σ H Q → _) h)
end
end DL

/-! ### list(zip(x, y)) -/
namespace DL
open PySem PySem.Spec PyProof.Rows L2
section
open PySem.W
variable {prog : Program} {w : World} {A : Around} {E : Value → Shared → Prop} {s : Shared} {z TI TO i1 i2 : Addr} {fp1 fp2 : List Addr} {n1 n2 i : Nat} {P1 P2 : Nat → Value → Prop} {St1 St2 : Nat → Heap → Prop}
theorem zipH_item {T : Addr} {f : Bool} {oT : Obj} {Q : Value → Shared → Prop} (S : ZipSep2 z TI TO i1 i2 fp1 fp2) (D1 : Draws prog w A i1 fp1 n1 P1 St1) (D2 : Draws prog w A i2 fp2 n2 P2 St2)
    (hz : IsZipHeld s.heap z TI TO T f) (hT : s.heap.get? T = some oT) (hTI : IsTupOf2 s.heap TI (.ref i1) (.ref i2)) (st1 : St1 i s.heap) (st2 : St2 i s.heap) (hlt1 : i < n1) (hlt2 : i < n2)
    (hQ : ∀ x1 x2 h' tk, P1 i x1 → P2 i x2 → IsZipHeld h' z TI TO T true → St1 (i + 1) h' → St2 (i + 1) h' → IsTupOf2 h' s.heap.objs.size x1 x2 → h'.objs.size = s.heap.objs.size + 1 →
      (∀ c o, c ≠ z → c ≠ i1 → c ≠ i2 → s.heap.get? c = some o → h'.get? c = some o) → Q (.ref s.heap.objs.size) { s with heap := h', toks := tk }) :
    wpAny (model prog w) A (Builtin.«zip.__next__» ⟨[.ref z], []⟩) (fun fin s' => ∃ v, fin = .done (.ret v) ∧ Q v s') E s := by
  show wpAny _ _ (field (.ref z) 2 >>= _) _ _ _
  refine wpAny_bind (wpAny_field hz rfl (x := .bool false) rfl ?_)
  show wpAny _ _ (field (.ref z) 3 >>= _) _ _ _
  refine wpAny_bind (wpAny_field hz rfl (x := .ref TI) rfl ?_)
  refine wpAny_bind (wpAny_seqItems hTI rfl ?_)
  show wpAny _ _ (Builtin.SmallTypes.ownedTupleIsFree (.ref z) >>= _) _ _ _
  refine wpAny_bind (wpAny_tupleHeld_zip hz hT fun h₁ hz₁ hs₁ => ?_)
  simp only [Bool.false_eq_true, if_false]
  refine wpAny_bind ?_
  rw [← Array.forIn_toList]
  simp only [List.forIn_cons, List.forIn_nil]
  refine wpAny_bind (wpAny_bind (wpAny_holding ?_))
  show wpAny _ _ (Builtin.SmallTypes.nextOf (.ref i1) >>= _) _ _ _
  refine wpAny_bind (D1.item i { s with heap := h₁ } _ _ hlt1 (D1.over st1 hs₁ S.zf1) fun x1 h₂ tk1 hx1 sn1 hs₂ => wpAny_pure ?_)
  replace hs₂ : Heap.SameBut i1 h₁ h₂ := hs₂
  refine wpAny_pure ?_
  refine wpAny_bind (wpAny_bind (wpAny_holding ?_))
  show wpAny _ _ (Builtin.SmallTypes.nextOf (.ref i2) >>= _) _ _ _
  refine wpAny_bind (D2.item i { s with heap := h₂, toks := tk1 } _ _ hlt2 (D2.over (D2.over st2 hs₁ S.zf2) hs₂ S.sep1_2) fun x2 h₃ tk2 hx2 sn2 hs₃ => wpAny_pure ?_)
  replace hs₃ : Heap.SameBut i2 h₂ h₃ := hs₃
  refine wpAny_pure (wpAny_pure ?_)
  show wpAny _ _ (newTuple [x1, x2] >>= _) _ _ _
  refine wpAny_bind (wpAny_newTuple ?_)
  have hsz : h₃.objs.size = s.heap.objs.size := by rw [hs₃.1, hs₂.1, hs₁.1]
  have hz₃ : IsZipHeld h₃ z TI TO T true := hs₃.extBut _ _ S.zi2 (hs₂.extBut _ _ S.zi1 hz₁)
  have hk : ∀ c o, c ≠ z → c ≠ i1 → c ≠ i2 → s.heap.get? c = some o → h₃.get? c = some o := fun c o c1 c2 c3 e => hs₃.extBut _ _ c3 (hs₂.extBut _ _ c2 (hs₁.extBut _ _ c1 e))
  have j1 : St1 (i + 1) h₃ := D1.over sn1 hs₃ S.sep2_1
  refine wpAny_pure ⟨_, rfl, ?_⟩
  show Q (.ref h₃.objs.size) _
  have hp : IsTupOf2 (h₃.push { cls := .type "tuple", data := .seq #[x1, x2] }) h₃.objs.size x1 x2 := Heap.get?_push_size _ rfl
  have hz4 : (h₃.push { cls := .type "tuple", data := .seq #[x1, x2] }).objs.size = h₃.objs.size + 1 := Heap.size_push ..
  rw [hsz] at hp hz4 ⊢
  exact hQ x1 x2 _ tk2 hx1 hx2 (Heap.get?_push_of_some _ hz₃) (D1.frame _ _ _ j1 fun b hb o e => Heap.get?_push_of_some _ e) (D2.frame _ _ _ sn2 fun b hb o e => Heap.get?_push_of_some _ e) hp hz4 fun c o c1 c2 c3 e => Heap.get?_push_of_some _ (hk c o c1 c2 c3 e)
theorem zipH_end {T : Addr} {f : Bool} {oT : Obj} {Q : Fin → Shared → Prop} (S : ZipSep2 z TI TO i1 i2 fp1 fp2) (D1 : Draws prog w A i1 fp1 n1 P1 St1) (D2 : Draws prog w A i2 fp2 n2 P2 St2)
    (hz : IsZipHeld s.heap z TI TO T f) (hT : s.heap.get? T = some oT) (hTI : IsTupOf2 s.heap TI (.ref i1) (.ref i2)) (st1 : St1 i s.heap) (st2 : St2 i s.heap) (hl1 : i ≤ n1) (hl2 : i ≤ n2) (hend : i = n1 ∨ i = n2)
    (hE : ∀ h' e tk, (∀ c o, c ≠ z → c ≠ i1 → c ≠ i2 → s.heap.get? c = some o → h'.get? c = some o) → (∃ o, h'.get? e = some o ∧ o.cls = .type "StopIteration") → E (.ref e) { s with heap := h', toks := tk }) :
    wpAny (model prog w) A (Builtin.«zip.__next__» ⟨[.ref z], []⟩) Q E s := by
  show wpAny _ _ (field (.ref z) 2 >>= _) _ _ _
  refine wpAny_bind (wpAny_field hz rfl (x := .bool false) rfl ?_)
  show wpAny _ _ (field (.ref z) 3 >>= _) _ _ _
  refine wpAny_bind (wpAny_field hz rfl (x := .ref TI) rfl ?_)
  refine wpAny_bind (wpAny_seqItems hTI rfl ?_)
  show wpAny _ _ (Builtin.SmallTypes.ownedTupleIsFree (.ref z) >>= _) _ _ _
  refine wpAny_bind (wpAny_tupleHeld_zip hz hT fun h₁ hz₁ hs₁ => ?_)
  simp only [Bool.false_eq_true, if_false]
  refine wpAny_bind ?_
  rw [← Array.forIn_toList]
  simp only [List.forIn_cons, List.forIn_nil]
  refine wpAny_bind (wpAny_bind (wpAny_holding ?_))
  show wpAny _ _ (Builtin.SmallTypes.nextOf (.ref i1) >>= _) _ _ _
  by_cases q : i = n1
  · subst q
    refine wpAny_bind (D1.done { s with heap := h₁ } _ _ (D1.over st1 hs₁ S.zf1) fun h₂ e hs₂ he => ?_)
    exact hE h₂ e s.toks (fun c o c1 c2 _ x => hs₂ _ _ c2 (hs₁.extBut _ _ c1 x)) he
  · have q2 : i = n2 := hend.resolve_left q
    refine wpAny_bind (D1.item i { s with heap := h₁ } _ _ (by omega) (D1.over st1 hs₁ S.zf1) fun x1 h₂ tk1 hx1 sn1 hs₂ => wpAny_pure ?_)
    replace hs₂ : Heap.SameBut i1 h₁ h₂ := hs₂
    refine wpAny_pure ?_
    refine wpAny_bind (wpAny_bind (wpAny_holding ?_))
    show wpAny _ _ (Builtin.SmallTypes.nextOf (.ref i2) >>= _) _ _ _
    subst q2
    refine wpAny_bind (D2.done { s with heap := h₂, toks := tk1 } _ _ (D2.over (D2.over st2 hs₁ S.zf2) hs₂ S.sep1_2) fun h₃ e hs₃ he => ?_)
    exact hE h₃ e tk1 (fun c o c1 c2 c3 x => hs₃ _ _ c3 (hs₂.extBut _ _ c2 (hs₁.extBut _ _ c1 x))) he
theorem zipH_pnext {T : Addr} {f : Bool} {oT : Obj} {Q : Option Value → Shared → Prop} (S : ZipSep2 z TI TO i1 i2 fp1 fp2) (D1 : Draws prog w A.in1 i1 fp1 n1 P1 St1) (D2 : Draws prog w A.in1 i2 fp2 n2 P2 St2)
    (hz : IsZipHeld s.heap z TI TO T f) (hT : s.heap.get? T = some oT) (hTI : IsTupOf2 s.heap TI (.ref i1) (.ref i2)) (st1 : St1 i s.heap) (st2 : St2 i s.heap) (hlt1 : i < n1) (hlt2 : i < n2)
    (hQ : ∀ x1 x2 h' tk, P1 i x1 → P2 i x2 → IsZipHeld h' z TI TO T true → St1 (i + 1) h' → St2 (i + 1) h' → IsTupOf2 h' s.heap.objs.size x1 x2 → h'.objs.size = s.heap.objs.size + 1 →
      (∀ c o, c ≠ z → c ≠ i1 → c ≠ i2 → s.heap.get? c = some o → h'.get? c = some o) → Q (some (.ref s.heap.objs.size)) { s with heap := h', toks := tk }) :
    wpAny (model prog w) A (pyNext (.ref z)) Q E s := by
  have hTy : s.TypeIs (.ref z) "zip" := ⟨_, hz, rfl⟩
  unfold pyNext
  exact wpAny_bind (wpAny_attempt (wpAny_callSpecial?_slot (name := Str.ofString "__next__") hTy F.slot_zip_next
    (wpAny_call_entry F.slot_zip_next hTy F.entry_zip_next
      (zipH_item S D1 D2 hz hT hTI st1 st2 hlt1 hlt2 fun x1 x2 h' tk a1 a2 a3 a4 a5 a6 a7 a8 => wpAny_pure (hQ x1 x2 h' tk a1 a2 a3 a4 a5 a6 a7 a8)) (F.args_zip_next_1 _))))
theorem zipH_pend {T : Addr} {f : Bool} {oT : Obj} {Q : Option Value → Shared → Prop} (S : ZipSep2 z TI TO i1 i2 fp1 fp2) (D1 : Draws prog w A.in1 i1 fp1 n1 P1 St1) (D2 : Draws prog w A.in1 i2 fp2 n2 P2 St2)
    (hz : IsZipHeld s.heap z TI TO T f) (hT : s.heap.get? T = some oT) (hTI : IsTupOf2 s.heap TI (.ref i1) (.ref i2)) (st1 : St1 i s.heap) (st2 : St2 i s.heap) (hl1 : i ≤ n1) (hl2 : i ≤ n2) (hend : i = n1 ∨ i = n2)
    (hQ : ∀ h' tk, (∀ c o, c ≠ z → c ≠ i1 → c ≠ i2 → s.heap.get? c = some o → h'.get? c = some o) → Q none { s with heap := h', toks := tk }) :
    wpAny (model prog w) A (pyNext (.ref z)) Q E s := by
  have hTy : s.TypeIs (.ref z) "zip" := ⟨_, hz, rfl⟩
  unfold pyNext
  refine wpAny_bind (wpAny_attempt (wpAny_callSpecial?_slot (name := Str.ofString "__next__") hTy F.slot_zip_next
    (wpAny_call_entry F.slot_zip_next hTy F.entry_zip_next (zipH_end S D1 D2 hz hT hTI st1 st2 hl1 hl2 hend fun h' e tk hk he => ?_) (F.args_zip_next_1 _))))
  refine wpAny_bind (wpAny_isInstance (T := "StopIteration") (b := true) (by obtain ⟨o, h1, h2⟩ := he; exact ⟨o, h1, h2⟩) isSubtype_stop ?_)
  exact wpAny_pure (hQ h' tk hk)
end
end DL
namespace DL
open PySem PySem.Spec PyProof.Rows L2
theorem zip_no_len : typeLookup (.type "zip") "__len__" = pure none := am_miss_of_fast (by decide +kernel)
theorem zip_no_hint : typeLookup (.type "zip") "__length_hint__" = pure none := am_miss_of_fast (by decide +kernel)
section
open PySem.W
variable {prog : Program} {w : World} {A : Around} {E : Value → Shared → Prop} {s : Shared} {z TI TO i1 i2 : Addr} {fp1 fp2 : List Addr} {n1 n2 : Nat} {P1 P2 : Nat → Value → Prop} {St1 St2 : Nat → Heap → Prop} {R : Result → Shared → Prop}
def ZSt (z TI TO i1 i2 L : Addr) (St1 St2 : Nat → Heap → Prop) (i : Nat) (h : Heap) : Prop :=
  (IsZip h z TI TO .none ∨ ∃ T f oT, IsZipHeld h z TI TO T f ∧ h.get? T = some oT ∧ T ∉ [z, TO, i1, i2, L]) ∧ IsTupOf2 h TI (.ref i1) (.ref i2) ∧ (∃ a b, IsTupOf2 h TO a b) ∧ St1 i h ∧ St2 i h
/-- the pairs told so far -/
def ZIt (P1 P2 : Nat → Value → Prop) (N : Nat) (wr : List Addr) (h : Heap) (acc : Array Value) (i : Nat) : Prop := acc.size = i ∧ ∀ j v, acc[j]? = some v → ∃ T x y, v = .ref T ∧ IsTupOf2 h T x y ∧ P1 j x ∧ P2 j y ∧ T ∉ wr ∧ N ≤ T
theorem ZIt.keep {N : Nat} {wr : List Addr} {h h' : Heap} {acc : Array Value} {i : Nat} (q : ZIt P1 P2 N wr h acc i) (k : ∀ b o, b ∉ wr → h.get? b = some o → h'.get? b = some o) : ZIt P1 P2 N wr h' acc i :=
  ⟨q.1, fun j v e => by
    obtain ⟨T, x, y, rfl, h1, h2, h3, h4, h5⟩ := q.2 j v e
    exact ⟨T, x, y, rfl, k _ _ h4 h1, h2, h3, h4, h5⟩⟩
theorem ZIt.push {N : Nat} {wr : List Addr} {h : Heap} {acc : Array Value} {i : Nat} {T : Addr} {x y : Value} (q : ZIt P1 P2 N wr h acc i) (h1 : IsTupOf2 h T x y) (h2 : P1 i x) (h3 : P2 i y) (h4 : T ∉ wr) (h5 : N ≤ T) : ZIt P1 P2 N wr h (acc.push (.ref T)) (i + 1) := by
  refine ⟨by rw [Array.size_push, q.1], fun j v hj => ?_⟩
  rw [Array.getElem?_push] at hj
  split at hj
  · rename_i e; rw [q.1] at e; cases hj; rw [e]; exact ⟨T, x, y, rfl, h1, h2, h3, h4, h5⟩
  · exact q.2 j v hj
theorem zst_item {i : Nat} {L : Addr} {oL : Obj} {Q : Option Value → Shared → Prop} (hL : s.heap.get? L = some oL) (hL4 : L ∉ [z, TO, i1, i2]) (S : ZipSep2 z TI TO i1 i2 fp1 fp2) (D1 : Draws prog w A.in1 i1 fp1 n1 P1 St1) (D2 : Draws prog w A.in1 i2 fp2 n2 P2 St2)
    (st : ZSt z TI TO i1 i2 L St1 St2 i s.heap) (hl1 : i < n1) (hl2 : i < n2)
    (hQ : ∀ x y h' tk, P1 i x → P2 i y → ZSt z TI TO i1 i2 L St1 St2 (i + 1) h' → IsTupOf2 h' s.heap.objs.size x y → (∀ c o, c ∉ [z, TO, i1, i2] → s.heap.get? c = some o → h'.get? c = some o) → Q (some (.ref s.heap.objs.size)) { s with heap := h', toks := tk }) :
    wpAny (model prog w) A (pyNext (.ref z)) Q E s := by
  obtain ⟨hz, hTI, ⟨a, b, hTO⟩, st1, st2⟩ := st
  obtain ⟨o1, l1⟩ := D1.live i _ st1
  obtain ⟨o2, l2⟩ := D2.live i _ st2
  have nT : ∀ {c o}, s.heap.get? c = some o → s.heap.objs.size ≠ c := fun e => Nat.ne_of_gt (Heap.lt_size e)
  rcases hz with hz | ⟨T, f, oT, hz, hT, hTn⟩
  · have hn : s.heap.objs.size ∉ [z, TO, i1, i2, L] := by
      simp only [List.mem_cons, List.not_mem_nil, or_false, not_or]
      exact ⟨nT hz, nT hTO, nT l1, nT l2, nT hL⟩
    refine wpAny_pyNext_zipD2_item S D1 D2 hz hTI hTO st1 st2 hl1 hl2 fun x y h' tk p1 p2 z' o' a1 a2 hT hsz hk => ?_
    refine hQ x y h' tk p1 p2 ⟨.inr ⟨_, false, _, z', hT, hn⟩, hk _ _ S.TIz S.TITO S.TIi1 S.TIi2 hTI, ⟨_, _, o'⟩, a1, a2⟩ hT fun c o hc e => ?_
    simp only [List.mem_cons, List.not_mem_nil, or_false, not_or] at hc
    exact hk c o hc.1 hc.2.1 hc.2.2.1 hc.2.2.2 e
  · have hn : s.heap.objs.size ∉ [z, TO, i1, i2, L] := by
      simp only [List.mem_cons, List.not_mem_nil, or_false, not_or]
      exact ⟨nT hz, nT hTO, nT l1, nT l2, nT hL⟩
    have hTn2 := hTn
    simp only [List.mem_cons, List.not_mem_nil, or_false, not_or] at hTn2
    refine zipH_pnext S D1 D2 hz hT hTI st1 st2 hl1 hl2 fun x y h' tk p1 p2 z' a1 a2 hT' hsz hk => ?_
    refine hQ x y h' tk p1 p2 ⟨.inr ⟨T, true, _, z', hk _ _ hTn2.1 hTn2.2.2.1 hTn2.2.2.2.1 hT, hTn⟩, hk _ _ S.TIz S.TIi1 S.TIi2 hTI, ⟨_, _, hk _ _ S.TOz S.Ti1 S.Ti2 hTO⟩, a1, a2⟩ hT' fun c o hc e => ?_
    simp only [List.mem_cons, List.not_mem_nil, or_false, not_or] at hc
    exact hk c o hc.1 hc.2.2.1 hc.2.2.2 e
theorem zst_end {i : Nat} {L : Addr} {Q : Option Value → Shared → Prop} (S : ZipSep2 z TI TO i1 i2 fp1 fp2) (D1 : Draws prog w A.in1 i1 fp1 n1 P1 St1) (D2 : Draws prog w A.in1 i2 fp2 n2 P2 St2)
    (st : ZSt z TI TO i1 i2 L St1 St2 i s.heap) (hl1 : i ≤ n1) (hl2 : i ≤ n2) (hend : i = n1 ∨ i = n2)
    (hQ : ∀ h' tk, (∀ c o, c ∉ [z, TO, i1, i2] → s.heap.get? c = some o → h'.get? c = some o) → Q none { s with heap := h', toks := tk }) :
    wpAny (model prog w) A (pyNext (.ref z)) Q E s := by
  obtain ⟨hz, hTI, ⟨a, b, hTO⟩, st1, st2⟩ := st
  rcases hz with hz | ⟨T, f, oT, hz, hT, hTn⟩
  · refine wpAny_pyNext_zipD2_end S D1 D2 hz hTI hTO st1 st2 hl1 hl2 hend fun h' tk hk => hQ h' tk fun c o hc e => ?_
    simp only [List.mem_cons, List.not_mem_nil, or_false, not_or] at hc
    exact hk c o hc.1 hc.2.1 hc.2.2.1 hc.2.2.2 e
  · refine zipH_pend S D1 D2 hz hT hTI st1 st2 hl1 hl2 hend fun h' tk hk => hQ h' tk fun c o hc e => ?_
    simp only [List.mem_cons, List.not_mem_nil, or_false, not_or] at hc
    exact hk c o hc.1 hc.2.2.1 hc.2.2.2 e
theorem zst_frame {i : Nat} {h h' : Heap} (S : ZipSep2 z TI TO i1 i2 fp1 fp2) (D1 : Draws prog w A i1 fp1 n1 P1 St1) (D2 : Draws prog w A i2 fp2 n2 P2 St2) {L : Addr} (hL : L ∉ z :: TI :: TO :: (fp1 ++ fp2))
    (st : ZSt z TI TO i1 i2 L St1 St2 i h) (k : ∀ b o, b ≠ L → h.get? b = some o → h'.get? b = some o) : ZSt z TI TO i1 i2 L St1 St2 i h' := by
  have n : ∀ b, b ∈ z :: TI :: TO :: (fp1 ++ fp2) → b ≠ L := fun b hb e => hL (e ▸ hb)
  obtain ⟨hz, hTI, ⟨a, b, hTO⟩, st1, st2⟩ := st
  refine ⟨?_, k _ _ (n _ (by simp)) hTI, ⟨a, b, k _ _ (n _ (by simp)) hTO⟩, D1.frame _ _ _ st1 fun b hb o e => k b o (n b (by simp [hb])) e, D2.frame _ _ _ st2 fun b hb o e => k b o (n b (by simp [hb])) e⟩
  rcases hz with hz | ⟨T, f, oT, hz, hT, hTn⟩
  · exact .inl (k _ _ (n _ (by simp)) hz)
  · exact .inr ⟨T, f, oT, k _ _ (n _ (by simp)) hz, k _ _ (fun e => hTn (by simp [e])) hT, hTn⟩
theorem zlist_loop (S : ZipSep2 z TI TO i1 i2 fp1 fp2) (D1 : Draws prog w A.in1.in1 i1 fp1 n1 P1 St1) (D2 : Draws prog w A.in1.in1 i2 fp2 n2 P2 St2) (hn : min n1 n2 ≤ sizeLine) (L : Addr) (hL : L ∉ z :: TI :: TO :: (fp1 ++ fp2)) (N : Nat) (res : Value) :
    ∀ (k i : Nat) (s : Shared) (acc : Array Value) (c : Nat), min n1 n2 - i = k → i ≤ min n1 n2 → N ≤ s.heap.objs.size → ZSt z TI TO i1 i2 L St1 St2 i s.heap →
    s.heap.get? L = some { cls := .type "list", dict := none, data := .seq acc c, slots := #[] } → ZIt P1 P2 N [z, TO, i1, i2, L] s.heap acc i →
    (∀ h' tk acc' c', (∀ b o, b ∉ [z, TO, i1, i2, L] → s.heap.get? b = some o → h'.get? b = some o) → h'.get? L = some { cls := .type "list", dict := none, data := .seq acc' c', slots := #[] } → ZIt P1 P2 N [z, TO, i1, i2, L] h' acc' (min n1 n2) → R (.ok (.ret res)) { s with heap := h', toks := tk }) →
    codeAny (model prog w) A (.builtin "list.extend.loop" ⟨[.ref L, .ref z, res], []⟩) R s := by
  have m1 : i1 ∈ z :: TI :: TO :: (fp1 ++ fp2) := by simp [S.mem1]
  have m2 : i2 ∈ z :: TI :: TO :: (fp1 ++ fp2) := by simp [S.mem2]
  have hL4 : L ∉ [z, TO, i1, i2] := fun q => by
    simp only [List.mem_cons, List.not_mem_nil, or_false] at q
    rcases q with q | q | q | q
    · exact hL (by simp [q])
    · exact hL (by simp [q])
    · exact hL (q ▸ m1)
    · exact hL (q ▸ m2)
  have hsub : ∀ b, b ∉ [z, TO, i1, i2, L] → b ∉ [z, TO, i1, i2] ∧ b ≠ L := fun b hb => ⟨fun q => hb (by simp only [List.mem_cons, List.not_mem_nil, or_false] at q ⊢; rcases q with q | q | q | q <;> simp [q]), fun q => hb (by simp [q])⟩
  intro k
  induction k with
  | zero =>
    intro i s acc c hk hi hN hst hS hacc hR
    have hin : i = min n1 n2 := by omega
    refine codeAny_builtin F.entry_extend_loop ?_
    rw [Around.under_plainId F.plain_extend_loop _]
    show wpAny _ A.in1 (pyNext (.ref z) >>= _) _ _ s
    refine wpAny_bind (zst_end S D1 D2 hst (by omega) (by omega) (by omega) fun h' tk hm => ?_)
    rw [hin] at hacc
    exact wpAny_pure (hR h' tk acc c (fun b o hb e => hm b o (hsub b hb).1 e) (hm _ _ hL4 hS) (hacc.keep fun b o hb e => hm b o (hsub b hb).1 e))
  | succ k ih =>
    intro i s acc c hk hi hN hst hS hacc hR
    have hlt : i < min n1 n2 := by omega
    refine codeAny_builtin F.entry_extend_loop ?_
    rw [Around.under_plainId F.plain_extend_loop _]
    show wpAny _ A.in1 (pyNext (.ref z) >>= _) _ _ s
    refine wpAny_bind (zst_item hS hL4 S D1 D2 hst (by omega) (by omega) fun x y h' tk hP1 hP2 hst' hT hm => ?_)
    have hS' := hm _ _ hL4 hS
    have hTn : s.heap.objs.size ≠ L := Nat.ne_of_gt (Heap.lt_size hS)
    obtain ⟨hz0, _, ⟨_, _, hTO0⟩, st10, st20⟩ := hst
    obtain ⟨_, l1⟩ := D1.live i _ st10
    obtain ⟨_, l2⟩ := D2.live i _ st20
    have hTw : s.heap.objs.size ∉ [z, TO, i1, i2, L] := by
      simp only [List.mem_cons, List.not_mem_nil, or_false, not_or]
      refine ⟨?_, Nat.ne_of_gt (Heap.lt_size hTO0), Nat.ne_of_gt (Heap.lt_size l1), Nat.ne_of_gt (Heap.lt_size l2), hTn⟩
      rcases hz0 with hz0 | ⟨_, _, _, hz0, _, _⟩
      · exact Nat.ne_of_gt (Heap.lt_size hz0)
      · exact Nat.ne_of_gt (Heap.lt_size hz0)
    show wpAny _ A.in1 (updateSeq L (·.push (.ref s.heap.objs.size)) >>= _) _ _ _
    refine wpAny_bind ?_
    have oth : ∀ b o, b ≠ L → h'.get? b = some o → (h'.update L (Obj.mapSeq (·.push (.ref s.heap.objs.size)))).get? b = some o := fun b o hb e => (Heap.get?_update_other _ _ (Ne.symm hb)).trans e
    refine wpAny_updateSeq hS' rfl (wpAny_pure ⟨plainId_quiet F.plain_extend_loop _, ih (i + 1) _ (acc.push (.ref s.heap.objs.size)) _ (by omega) hlt (Nat.le_trans hN (Nat.le_of_lt (Heap.lt_size (oth _ _ hTn hT)))) (zst_frame S D1 D2 hL hst' oth) (Heap.get?_update_self _ hS' rfl) (((hacc.keep fun b o hb e => hm b o (hsub b hb).1 e).push hT hP1 hP2 hTw hN).keep fun b o hb e => oth b o (hsub b hb).2 e) fun h'' tk' acc' c' hm'' hS'' hacc' => ?_⟩)
      (by rw [hacc.1]; omega) (by show (acc.push (.ref s.heap.objs.size)).size ≤ sizeLine + 1; rw [Array.size_push, hacc.1]; omega)
    exact hR h'' tk' acc' c' (fun b o hb e => hm'' b o hb (oth b o (hsub b hb).2 (hm b o (hsub b hb).1 e))) hS'' hacc'
end
end DL
namespace DL
open PySem PySem.Spec PyProof.Rows L2
section
open PySem.W
variable {prog : Program} {w : World} {A : Around} {E : Value → Shared → Prop} {s : Shared} {z TI TO i1 i2 : Addr} {fp1 fp2 : List Addr} {n1 n2 : Nat} {P1 P2 : Nat → Value → Prop} {St1 St2 : Nat → Heap → Prop} {R : Result → Shared → Prop}
theorem zlist_init {N : Nat} (hN : N ≤ s.heap.objs.size) (S : ZipSep2 z TI TO i1 i2 fp1 fp2) (D1 : Draws prog w A.in1.in1 i1 fp1 n1 P1 St1) (D2 : Draws prog w A.in1.in1 i2 fp2 n2 P2 St2) (hn : min n1 n2 ≤ sizeLine) (L : Addr) (hL : L ∉ z :: TI :: TO :: (fp1 ++ fp2))
    (hz : IsZip s.heap z TI TO .none) (hTI : IsTupOf2 s.heap TI (.ref i1) (.ref i2)) (hTO : ∃ a b, IsTupOf2 s.heap TO a b) (st1 : St1 0 s.heap) (st2 : St2 0 s.heap)
    (hS : s.heap.get? L = some { cls := .type "list", data := .seq #[] })
    (hR : ∀ h' tk acc' c', (∀ b o, b ∉ [z, TO, i1, i2, L] → s.heap.get? b = some o → h'.get? b = some o) → h'.get? L = some { cls := .type "list", dict := none, data := .seq acc' c', slots := #[] } → ZIt P1 P2 N [z, TO, i1, i2, L] h' acc' (min n1 n2) → R (.ok (.ret .none)) { s with heap := h', toks := tk }) :
    wpAny (model prog w) A.in1 (Builtin.«list.__init__» ⟨[.ref L, .ref z], []⟩)
      (fun fin s' => match fin with | .done f => R (.ok f) s' | .again c' => c'.quiet = true ∧ codeAny (model prog w) A c' R s') (fun e s' => R (.error e) s') s := by
  have hLz : L ≠ z := fun e => hL (by simp [e])
  show wpAny _ A.in1 (do let old ← Builtin.List.listItems (.ref L); Builtin.List.listUpdate (.ref L) (fun _ => #[]); letGo old.toList.reverse; Builtin.List.listExtendWith (.ref L) (.ref z) .none) _ _ s
  refine wpAny_bind ?_
  unfold Builtin.List.listItems
  refine wpAny_bind (wpAny_seqItems hS rfl (wpAny_pure ?_))
  show wpAny _ A.in1 (updateSeq L (fun _ => #[]) >>= fun _ => letGo (#[] : Array Value).toList.reverse >>= fun _ => Builtin.List.listExtendWith (.ref L) (.ref z) .none) _ _ s
  refine wpAny_bind (wpAny_updateSeq hS rfl ?_)
  have hS₂ := Heap.get?_update_self (Obj.mapSeq (fun _ => (#[] : Array Value))) hS rfl
  have oth : ∀ b o, b ≠ L → s.heap.get? b = some o → (s.heap.update L (Obj.mapSeq (fun _ => (#[] : Array Value)))).get? b = some o :=
    fun b o hb e => (Heap.get?_update_other _ _ (Ne.symm hb)).trans e
  refine wpAny_bind (wpAny_letGo ?_)
  have st : ZSt z TI TO i1 i2 L St1 St2 0 s.heap := ⟨.inl hz, hTI, hTO, st1, st2⟩
  have st' := zst_frame S D1 D2 hL st oth
  generalize hh' : s.heap.update L (Obj.mapSeq (fun _ => (#[] : Array Value))) = h1 at hS₂ oth st'
  obtain ⟨hz1, _, _, _, _⟩ := id st'
  have hT : Shared.TypeIs { s with heap := h1 } (.ref z) "zip" := by
    rcases hz1 with hz1 | ⟨_, _, _, hz1, _, _⟩ <;> exact ⟨_, hz1, rfl⟩
  have hz2 : IsZip h1 z TI TO .none := oth _ _ hLz.symm hz
  unfold Builtin.List.listExtendWith
  refine wpAny_bind (wpAny_typeOf hT ?_)
  have g1 : Builtin.List.listSameRef (.ref L) (.ref z) = false := by simp [Builtin.List.listSameRef, hLz]
  have g2 : (Value.type "zip" == Value.type "list") = false := by decide
  have g3 : (Value.type "zip" == Value.type "tuple") = false := by decide
  simp only [g1, g2, g3, Bool.or_false, Bool.false_eq_true, if_false]
  refine wpAny_bind (wpAny_pyIter_zip hz2 ?_)
  refine wpAny_bind (wpAny_holding ?_)
  unfold Builtin.List.listLengthHint
  refine wpAny_bind (wpAny_specialOf hT zip_no_len ?_)
  show wpAny _ A.in1 (specialOf (Value.ref z) (Str.ofString "__length_hint__") >>= _) _ _ _
  refine wpAny_bind (wpAny_specialOf hT zip_no_hint ?_)
  refine wpAny_pure ?_
  show wpAny _ A.in1 (rule "list.extend.makes-room" >>= fun _ => Builtin.List.listTouch (.ref L) >>= fun _ =>
    again (.builtin "list.extend.loop" ⟨[.ref L, .ref z, .none], []⟩)) _ _ _
  refine wpAny_bind (wpAny_rule ?_)
  refine wpAny_bind ?_
  show wpAny _ A.in1 (updateSeq L (·.push .none) >>= fun _ => updateSeq L (·.pop)) _ _ _
  refine wpAny_bind (wpAny_updateSeq hS₂ rfl ?_)
  have hS₃ := Heap.get?_update_self (Obj.mapSeq (·.push Value.none)) hS₂ rfl
  refine wpAny_updateSeq (hz := by seq_fits) hS₃ rfl ?_
  have hS₄ := Heap.get?_update_self (Obj.mapSeq (·.pop)) hS₃ rfl
  have oth2 : ∀ b o, b ≠ L → h1.get? b = some o → ((h1.update L (Obj.mapSeq (·.push Value.none))).update L (Obj.mapSeq (·.pop))).get? b = some o :=
    fun b o hb e => (Heap.get?_update_other _ _ (Ne.symm hb)).trans ((Heap.get?_update_other _ _ (Ne.symm hb)).trans e)
  refine wpAny_pure ⟨plainId_quiet F.plain_extend_loop _, zlist_loop S D1 D2 hn L hL N .none _ 0 _ _ _ rfl (Nat.zero_le _) ?_ (zst_frame S D1 D2 hL st' oth2) hS₄ ⟨rfl, fun j v e => by simp at e⟩ fun h' tk acc' c' hm hS' hacc => ?_⟩
  · rw [show ((h1.update L (Obj.mapSeq (·.push Value.none))).update L (Obj.mapSeq (·.pop))).objs.size = s.heap.objs.size from by rw [← hh']; simp [Heap.size_update]]; exact hN
  exact hR h' tk acc' c' (fun b o hb e => hm b o hb (oth2 b o (fun q => hb (by simp [q])) (oth b o (fun q => hb (by simp [q])) e))) hS' hacc
theorem call_list_zip {Q : Value → Shared → Prop} (S : ZipSep2 z TI TO i1 i2 fp1 fp2) (D1 : Draws prog w A.in1.in1.in1 i1 fp1 n1 P1 St1) (D2 : Draws prog w A.in1.in1.in1 i2 fp2 n2 P2 St2) (hn : min n1 n2 ≤ sizeLine)
    (hfp : ∀ b ∈ fp1 ++ fp2, b < s.heap.objs.size)
    (hz : IsZip s.heap z TI TO .none) (hTI : IsTupOf2 s.heap TI (.ref i1) (.ref i2)) (hTO : ∃ a b, IsTupOf2 s.heap TO a b) (st1 : St1 0 s.heap) (st2 : St2 0 s.heap)
    (hQ : ∀ h' tk acc' c', (∀ b o, b ∉ [z, TO, i1, i2] → s.heap.get? b = some o → h'.get? b = some o) → h'.get? s.heap.objs.size = some { cls := .type "list", dict := none, data := .seq acc' c', slots := #[] } → ZIt P1 P2 s.heap.objs.size [z, TO, i1, i2, s.heap.objs.size] h' acc' (min n1 n2) → Q (.ref s.heap.objs.size) { s with heap := h', toks := tk }) :
    wpAny (model prog w) A (call (.type "list") [.ref z]) Q E s := by
  have hL : s.heap.objs.size ∉ z :: TI :: TO :: (fp1 ++ fp2) := fun hm => by
    obtain ⟨a, b, hTO⟩ := hTO
    rcases List.mem_cons.mp hm with q | hm
    · exact Nat.lt_irrefl _ (q ▸ Heap.lt_size hz)
    rcases List.mem_cons.mp hm with q | hm
    · exact Nat.lt_irrefl _ (q ▸ Heap.lt_size hTI)
    rcases List.mem_cons.mp hm with q | hm
    · exact Nat.lt_irrefl _ (q ▸ Heap.lt_size hTO)
    · exact Nat.lt_irrefl _ (hfp _ hm)
  refine callType_codes (Q₁ := fun obj s₁ => obj = .ref s.heap.objs.size ∧ s₁ = { s with heap := s.heap.push { cls := .type "list", data := .seq #[] } }) F.called_list (F.typeCall_list_1 _) F.entry_list_init
    (code_list_new _ ⟨rfl, rfl⟩) fun obj s₁ h₁ => ?_
  obtain ⟨rfl, rfl⟩ := h₁
  have hS : (s.heap.push { cls := .type "list", data := .seq #[] }).get? s.heap.objs.size = some { cls := .type "list", data := .seq #[] } := Heap.get?_push_size _ rfl
  have up : ∀ b o, s.heap.get? b = some o → (s.heap.push { cls := .type "list", data := .seq #[] }).get? b = some o := fun b o e => Heap.get?_push_of_some _ e
  obtain ⟨a, b, hTO⟩ := hTO
  refine ⟨⟨_, hS, rfl⟩, F.args_list_init_2 _ _, zlist_init (A := A.in1) (by rw [Heap.size_push]; exact Nat.le_succ _) S D1 D2 hn _ hL (up _ _ hz) (up _ _ hTI) ⟨a, b, up _ _ hTO⟩ (D1.frame _ _ _ st1 fun b _ o e => up b o e) (D2.frame _ _ _ st2 fun b _ o e => up b o e) hS fun h' tk acc' c' hm hS' hacc => ?_⟩
  refine ⟨rfl, hQ h' tk acc' c' (fun b o hb e => hm b o (fun q => ?_) (up b o e)) hS' hacc⟩
  simp only [List.mem_cons, List.not_mem_nil, or_false] at q hb
  rcases q with q | q | q | q | q
  · exact hb (.inl q)
  · exact hb (.inr (.inl q))
  · exact hb (.inr (.inr (.inl q)))
  · exact hb (.inr (.inr (.inr q)))
  · exact Nat.lt_irrefl _ (q ▸ Heap.lt_size e)
end
end DL
namespace DL
open PySem PySem.Spec PyProof.Rows L2
theorem inv_many {X : Cx} {pins : List (Addr × Obj)} {s : Shared} {σ : L2.St} {H H' : Hp} {h' : Heap} {ch : List Addr} {tk : Nat} (I : Inv X pins σ H s) (hf : ∀ b ∈ ch, FpOk X pins H b)
    (k : ∀ b o, b ∉ ch → s.heap.get? b = some o → h'.get? b = some o) (hH : ∀ b o, H b = some o → H' b = some o) (hN : ∀ b, H b = none → b < s.heap.objs.size → H' b = none)
    (hok : ∀ b u, H b = none → H' b = some u → ObjOk X.prog X.w H' h' b u) : Inv X pins σ H' { s with heap := h', toks := tk } := by
  have nit : ∀ b u, H b = some u → b ∉ ch := fun b u e z => by
    have q := (hf b z).1
    rw [q] at e; cases e
  refine I.call (g' := s.gens) (d' := s.drawn) (ch := ch) ⟨fun b o e _ _ hc => k b o hc e, fun b o e _ _ hc => ⟨o.slots, k b o hc e⟩, fun b o e n _ => hN b n (Heap.lt_size e), fun b o e hc => ⟨o, k b o hc e⟩, fun b xs e => hH _ _ e, fun b o u e => hH _ _ e, fun b ps e => ⟨#[], by rw [hH _ _ e]; simp⟩⟩ (fun b u e => ?_) I.bare
    (fun b hb => ⟨(hf b hb).2.2.2.1, (hf b hb).2.1, (hf b hb).2.2.2.2.1, (hf b hb).2.2.2.2.2⟩)
  cases q : H b with
  | none => exact hok b u q e
  | some u' =>
    have e2 := hH b u' q
    rw [e] at e2
    cases e2
    refine (I.hok b u q).stay (fun c v hc e3 => k c v ?_ e3) (fun c e3 => hH _ _ e3) fun c xs e3 => hH _ _ e3
    rcases hc with rfl | hc
    · exact nit _ _ q
    · exact nit _ _ hc
/-- two sources in pairs, laid anew -/
def ZPairs (H H' : Hp) (p : Addr) (xs ys : List V) : Prop := H p = none ∧ (∀ b o, H b = some o → H' b = some o) ∧ ∃ Ts : List Addr, H' p = some (.lst (Ts.map V.ref)) ∧ Ts.length = min xs.length ys.length ∧ ∀ (j : Nat) (T : Addr), Ts[j]? = some T → ∃ x y, H' T = some (.tup [x, y]) ∧ xs[j]? = some x ∧ ys[j]? = some y
def tListZip (K : PySem.W.Frag) (ta : TA) : TE := fun σ H Q => ta σ H fun vs H1 => ∃ v1 v2 G1 G2 xs ys, vs = [v1, v2] ∧ ZArg K H1 v1 G1 ∧ ZArg K H1 v2 G2 ∧ G1 H1 xs ∧ G2 H1 ys ∧ min xs.length ys.length ≤ sizeLine ∧ ∀ p H', ZPairs H1 H' p xs ys → Q (.ref p) H'
theorem vals_refs {Ts : List Addr} : Vals (Ts.map V.ref) (Ts.map Value.ref) := by
  induction Ts with
  | nil => exact .nil
  | cons t ts ih => exact .cons rfl ih
open Classical in
theorem pe_listZip {X : Cx} {e e2 : Expr} {ta : TA} {p p2 pos pos2 : Pos} (hc : X.calm = true) (hg : Gl X "list") (hm : X.mg "list" = none) (hv : bootBuiltins "list" = some (.type "list")) (hg2 : Gl X "zip") (hm2 : X.mg "zip" = none) (ha : PA X [e, e2] ta)
    (hs : starEach [e, e2] X.env = (false, eval e X.env) :: starEach [e2] X.env := by rfl) (hpl : (backTo pos2 (starEach [e2] X.env)).any (·.1) = false := by rfl)
    (na : starEach [.Call (.Name "zip" p2) [e, e2] [] pos2] X.env = (false, eval (.Call (.Name "zip" p2) [e, e2] [] pos2) X.env) :: starEach [] X.env := by rfl) :
    PE X (.Call (.Name "list" p) [.Call (.Name "zip" p2) [e, e2] [] pos2] [] pos) (tListZip X.K ta) := by
  refine ⟨fun pins s σ H Q I h => ?_⟩
  refine Call_ (ld_blt I hg hm hv ?_)
  refine PyProof.Rows.callWith_type1 (PyProof.Rows.args_cons ?_ rfl) na rfl
  refine Call_ (ld_blt I hg2 hm2 PyProof.Rows.boot_zip (PyProof.Rows.callWith_type1 (thn (ha.run pos2 pins s σ H _ I h) fun us s1 ⟨vs, H1, I1, r1, q1⟩ => ?_) hs hpl))
  obtain ⟨v1, v2, G1, G2, xs, ys, rfl, a1, a2, g1, g2, hsz, q⟩ := q1
  cases r1 with
  | cons r rr =>
    cases rr with
    | cons r' rr =>
      cases rr
      obtain ⟨t1, s1', m1⟩ := a1.mk I1 r
      obtain ⟨t2, s2', m2⟩ := a2.mk I1 r'
      obtain ⟨fp1, St1, Z1, b1, c1, d1⟩ := m1 s1.heap.objs.size (Nat.le_refl _)
      obtain ⟨fp2, St2, Z2, b2, c2, d2⟩ := m2 (s1.heap.objs.size + 1) (Nat.le_add_right _ _)
      refine call_zipG s1' s2' ?_
      obtain ⟨z4, k5, k3, k4, k1, k2, hk⟩ := zg_facts s1.heap _ _ t1 t2 false
      have I2 := I1.kept (t' := s1.toks) hk
      have hfp := zip_fp I1
      have ss := zip_sep s1.heap.objs.size c1 c2 d1 d2
      generalize zg5 s1.heap _ _ t1 t2 false = hz at z4 k5 k3 k4 k1 k2 hk I2
      refine PyProof.Rows.args_nil ?_
      have hh : X.A.in1.in1.in1.handled = none := by have := I2.ok.hd hc; simpa using this
      obtain ⟨P1, S1, e1, e2, e3, e4⟩ := Z1.draws X rfl rfl rfl pins _ σ H1 I2 xs g1
      obtain ⟨P2, S2, w1, w2, w3, w4⟩ := Z2.draws X rfl rfl rfl pins _ σ H1 I2 ys g2
      have l0 : s1.heap.objs.size + 4 < hz.objs.size := Heap.lt_size k5
      have lle : ∀ b, b ≤ s1.heap.objs.size + 1 → b < hz.objs.size := fun b hb => Nat.lt_of_le_of_lt hb (by omega)
      have lsu : ∀ b I : Nat, b = I ∨ b < I → b ≤ I + 1 := fun b I h => by omega
      have lsv : ∀ b I : Nat, b = I + 1 ∨ b < I → b ≤ I + 1 := fun b I h => by omega
      refine call_list_zip ss (e1 _ hh) (w1 _ hh) hsz (fun b hb => ?_) k5 k3 ⟨_, _, k4⟩ (e2 _ (b1 _ k1)) (w2 _ (b2 _ k2)) fun h' tk acc c hkk hS hacc => ?_
      · rcases List.mem_append.mp hb with q | q
        · exact lle b (lsu b _ (d1 b q))
        · exact lle b (lsv b _ (d2 b q))
      · obtain ⟨ha1, ha2⟩ := hacc
        -- the addresses
        have hT : ∀ (j : Nat) v, acc[j]? = some v → ∃ T x y u1 u2, v = .ref T ∧ IsTupOf2 h' T u1 u2 ∧ xs[j]? = some x ∧ ys[j]? = some y ∧ RelV x u1 ∧ RelV y u2 ∧ hz.objs.size ≤ T := fun j v ev => by
          obtain ⟨T, u1, u2, rfl, h1, h2, h3, h4, h5⟩ := ha2 j v ev
          obtain ⟨x, hx, rx⟩ := e4 _ _ h2
          obtain ⟨y, hy, ry⟩ := w4 _ _ h3
          exact ⟨T, x, y, u1, u2, rfl, h1, hx, hy, rx, ry, h5⟩
        obtain ⟨Ts, hTs⟩ : ∃ Ts : List Addr, acc.toList = Ts.map Value.ref := by
          have : ∀ l : List Value, (∀ v, v ∈ l → ∃ T, v = Value.ref T) → ∃ Ts : List Addr, l = Ts.map Value.ref := fun l => by
            induction l with
            | nil => exact fun _ => ⟨[], rfl⟩
            | cons v l ih =>
              intro hl
              obtain ⟨T, rfl⟩ := hl v List.mem_cons_self
              obtain ⟨Ts, rfl⟩ := ih fun v hv => hl v (List.mem_cons_of_mem _ hv)
              exact ⟨T :: Ts, rfl⟩
          refine this _ fun v hv => ?_
          obtain ⟨j, hj⟩ := List.getElem?_of_mem hv
          obtain ⟨T, _, _, _, _, e, _⟩ := hT j v (by rw [← Array.getElem?_toList]; exact hj)
          exact ⟨T, e⟩
        have hTj : ∀ (j : Nat) (T : Addr), Ts[j]? = some T → ∃ x y u1 u2, IsTupOf2 h' T u1 u2 ∧ xs[j]? = some x ∧ ys[j]? = some y ∧ RelV x u1 ∧ RelV y u2 ∧ hz.objs.size ≤ T := fun j T ej => by
          obtain ⟨T', x, y, u1, u2, e, r⟩ := hT j (.ref T) (by rw [← Array.getElem?_toList, hTs, List.getElem?_map, ej]; rfl)
          cases e
          exact ⟨x, y, u1, u2, r⟩
        have hLn : hz.objs.size ∉ Ts := fun hm => by
          obtain ⟨j, hj⟩ := List.getElem?_of_mem hm
          obtain ⟨T', u1, u2, e, _, _, _, h4, _⟩ := ha2 j (.ref hz.objs.size) (by rw [← Array.getElem?_toList, hTs, List.getElem?_map, hj]; rfl)
          cases e
          exact h4 (by simp)
        let pick : Addr → V × V → Prop := fun b q => ∃ j : Nat, Ts[j]? = some b ∧ xs[j]? = some q.1 ∧ ys[j]? = some q.2
        let H' : Hp := fun b => if b = hz.objs.size then some (.lst (Ts.map V.ref)) else if hb : ∃ q, pick b q then some (.tup [(choose hb).1, (choose hb).2]) else H1 b
        have old : ∀ b, b < hz.objs.size → H' b = H1 b := fun b hb => by
          show (if _ then _ else _) = _
          rw [if_neg (Nat.ne_of_lt hb), dif_neg]
          rintro ⟨q, j, hj, _⟩
          obtain ⟨_, _, _, _, _, _, _, _, _, h5⟩ := hTj j b hj
          exact absurd (Nat.lt_of_lt_of_le hb h5) (Nat.lt_irrefl _)
        have at_p : H' hz.objs.size = some (.lst (Ts.map V.ref)) := if_pos rfl
        have at_T : ∀ (j : Nat) (T : Addr), Ts[j]? = some T → ∃ x y u1 u2, H' T = some (.tup [x, y]) ∧ IsTupOf2 h' T u1 u2 ∧ xs[j]? = some x ∧ ys[j]? = some y ∧ RelV x u1 ∧ RelV y u2 := fun j T hj => by
          obtain ⟨x, y, u1, u2, h1, hx, hy, rx, ry, h5⟩ := hTj j T hj
          have hne : T ≠ hz.objs.size := fun e => hLn (e ▸ List.mem_of_getElem? hj)
          have hex : ∃ q, pick T q := ⟨(x, y), j, hj, hx, hy⟩
          have e : H' T = some (.tup [(choose hex).1, (choose hex).2]) := by
            show (if _ then _ else _) = _
            rw [if_neg hne, dif_pos hex]
          obtain ⟨j2, hj2, hx2, hy2⟩ := choose_spec hex
          obtain ⟨x2, y2, v1, v2, g1, gx, gy, sx, sy, _⟩ := hTj j2 T hj2
          have ee : (some _ : Option Obj) = some _ := h1.symm.trans g1
          injection ee with ee
          injection ee with _ _ ee _
          injection ee with ee
          have ee2 : [u1, u2] = [v1, v2] := by simpa using ee
          injection ee2 with q1 q2
          injection q2 with q2 _
          subst q1 q2
          rw [hx2] at gx
          rw [hy2] at gy
          have q3 : (choose hex).1 = x := relV_inj (by cases gx; exact sx) rx
          have q4 : (choose hex).2 = y := relV_inj (by cases gy; exact sy) ry
          rw [q3, q4] at e
          exact ⟨x, y, u1, u2, e, h1, hx, hy, rx, ry⟩
        have J : Inv X pins σ H' { s1 with heap := h', toks := tk } := by
          refine inv_many (s := { s1 with heap := hz }) (ch := [s1.heap.objs.size + 4, s1.heap.objs.size + 3, s1.heap.objs.size, s1.heap.objs.size + 1]) I2 (fun b hb => hfp b (by simp only [List.mem_cons, List.not_mem_nil, or_false] at hb ⊢; rcases hb with q | q | q | q <;> simp [q])) hkk (fun b o eb => ?_) (fun b nb hb => (old b hb).trans nb) (fun b u nb eb => ?_)
          · rw [old b (I2.hok.lt eb)]; exact eb
          · by_cases hb : b = hz.objs.size
            · subst hb
              rw [at_p] at eb
              cases eb
              refine ⟨?_, acc.toList, c, ?_, hS⟩
              · have : Ts.length = acc.toList.length := by rw [hTs, List.length_map]
                rw [List.length_map, this, Array.length_toList, ha1]
                exact hsz
              · rw [hTs]; exact vals_refs
            · have e : H' b = if hb : ∃ q, pick b q then some (.tup [(choose hb).1, (choose hb).2]) else H1 b := if_neg hb
              by_cases hex : ∃ q, pick b q
              · obtain ⟨q, j, hj, _⟩ := id hex
                obtain ⟨x, y, u1, u2, f1, f2, _, _, rx, ry⟩ := at_T j b hj
                rw [f1] at eb
                cases eb
                exact ⟨by show 2 ≤ sizeLine; decide, [u1, u2], .cons rx (.cons ry .nil), ⟨_, f2, rfl, _, rfl⟩⟩
              · rw [e, dif_neg hex, nb] at eb
                cases eb
        refine ⟨V.ref hz.objs.size, H', J, rfl, q hz.objs.size H' ⟨I2.hok.fresh (Nat.le_refl _), fun b o eb => by rw [old b (I2.hok.lt eb)]; exact eb, Ts, at_p, ?_, fun j T hj => ?_⟩⟩
        · have : Ts.length = acc.toList.length := by rw [hTs, List.length_map]
          rw [this, Array.length_toList, ha1]
        · obtain ⟨x, y, _, _, f1, _, f3, f4, _⟩ := at_T j T hj
          exact ⟨x, y, f1, f3, f4⟩
/-! over data -/
theorem zSeq_okO {M : Mo} {d : Dv} {ds : List Dv} {o : Option (Addr × List Dv)} (h : zSeq M d = some (ds, o)) : okO o M := by
  unfold zSeq at h
  split at h
  · cases h; trivial
  · cases h; trivial
  · cases h; trivial
  · split at h
    · rename_i e
      cases h
      exact e
    · cases h
  · cases h
def kListZip (ds : List Dv) (M : Mo) (Q : QD) : Prop := match ds with
  | [d, e] => match zSeq M d, zSeq M e with
    | some (xs, _), some (ys, _) => min xs.length ys.length ≤ 16777216 ∧ ∀ p, M p = none → Q (.ref p) (mup M p (.lst (pairD xs ys)))
    | _, _ => False
  | _ => False
def dListZip (ta : TAD) : TED := fun sd M Q => ta sd M fun ds M1 => kListZip ds M1 Q
instance s_listZip {ta : TAD} {sd : StD} {M : Mo} {Q : QD} : Step (dListZip ta sd M Q) (ta sd M fun ds M1 => kListZip ds M1 Q) := ⟨id⟩
theorem i_listZip {M : Mo} {d e : Dv} {xs ys : List Dv} {o1 o2 : Option (Addr × List Dv)} {Q : QD} (h1 : zSeq M d = some (xs, o1)) (h2 : zSeq M e = some (ys, o2)) (hl : min xs.length ys.length ≤ 16777216) (h : ∀ p, M p = none → Q (.ref p) (mup M p (.lst (pairD xs ys)))) : kListZip [d, e] M Q := by
  unfold kListZip
  simp only [h1, h2]
  exact ⟨hl, h⟩
theorem zpairs_stp {K : PySem.W.Frag} {M : Mo} {H H' : Hp} {p : Addr} {xs ys : List Dv} {vs ws : List V} (s : SR K M H) (r1 : RDs K H xs vs) (r2 : RDs K H ys ws) (z : ZPairs H H' p vs ws) : Stp K M H (mup M p (.lst (pairD xs ys))) H' := by
  obtain ⟨hp, hH, Ts, h1, h2, h3⟩ := z
  have k : Keep H H' := ⟨fun b xs e => hH _ _ e, fun b o u e => hH _ _ e, fun b q e => hH _ _ e⟩
  refine ⟨k, fun a o e => ?_, fun a o e => ?_, fun a o e _ n => ⟨hH _ _ e, ?_⟩⟩
  · by_cases q : a = p
    · subst q
      rw [mup_same] at e
      cases e
      simp only [Own]
      refine ⟨_, h1, ?_⟩
      have hl1 := r1.length
      have hl2 := r2.length
      have key : ∀ (Ts : List Addr) (xs ys : List Dv) (vs ws : List V), RDs K H' xs vs → RDs K H' ys ws → Ts.length = min vs.length ws.length → (∀ (j : Nat) (T : Addr), Ts[j]? = some T → ∃ x y, H' T = some (.tup [x, y]) ∧ vs[j]? = some x ∧ ws[j]? = some y) → RDs K H' (pairD xs ys) (Ts.map V.ref) := by
        intro Ts
        induction Ts with
        | nil =>
          intro xs ys vs ws a b hl _
          have := a.length
          have := b.length
          have e : pairD xs ys = [] := List.length_eq_zero_iff.mp (by rw [pairD_len]; simp only [List.length_nil] at hl; omega)
          rw [e]
          exact RDs.nil
        | cons T Ts ih =>
          intro xs ys vs ws a b hl hT
          cases xs with
          | nil => unfold RDs at a; subst a; simp at hl
          | cons x xs =>
            cases ys with
            | nil => unfold RDs at b; subst b; simp at hl
            | cons y ys =>
              unfold RDs at a b
              obtain ⟨v, vr, rfl, ra, a⟩ := a
              obtain ⟨u, ur, rfl, rb, b⟩ := b
              obtain ⟨x', y', g1, g2, g3⟩ := hT 0 T rfl
              simp at g2 g3
              subst g2 g3
              refine RDs.cons ?_ (ih xs ys vr ur a b (by simp only [List.length_cons] at hl; omega) fun j T hj => ?_)
              · unfold RD
                exact ⟨T, [v, u], rfl, .inl (.inl g1), RDs.cons ra (RDs.cons rb RDs.nil)⟩
              · obtain ⟨x', y', q1, q2, q3⟩ := hT (j + 1) T (by simpa using hj)
                exact ⟨x', y', q1, by simpa using q2, by simpa using q3⟩
      exact key Ts xs ys vs ws (r1.keep k) (r2.keep k) h2 h3
    · rw [mup_ne q] at e
      obtain ⟨u, hu⟩ := (s a o e).there
      exact (s a o e).keep k (by rw [hH _ _ hu, hu])
  · rw [hH _ _ e]
    intro z
    cases z
  · rw [mup_ne (ne_of_none e hp)]
    exact n
theorem de_listZip {X : Cx} {M0 : Mo} {H0 : Hp} {e e2 : Expr} {ta : TAD} {p p2 pos pos2 : Pos} (hc : X.calm = true) (hg : Gl X "list") (hm : X.mg "list" = none) (hg2 : Gl X "zip") (hm2 : X.mg "zip" = none) (hv : bootBuiltins "list" = some (.type "list")) (ha : PAd X M0 H0 [e, e2] ta)
    (hs : starEach [e, e2] X.env = (false, eval e X.env) :: starEach [e2] X.env := by rfl) (hpl : (backTo pos2 (starEach [e2] X.env)).any (·.1) = false := by rfl)
    (na : starEach [.Call (.Name "zip" p2) [e, e2] [] pos2] X.env = (false, eval (.Call (.Name "zip" p2) [e, e2] [] pos2) X.env) :: starEach [] X.env := by rfl) :
    PEd X M0 H0 (.Call (.Name "list" p) [.Call (.Name "zip" p2) [e, e2] [] pos2] [] pos) (dListZip ta) :=
  PE.imp (pe_listZip hc hg hm hv hg2 hm2 ha hs hpl na) fun σ H Q ⟨sd, M, Qd, w, q, c⟩ => ⟨sd, M, _, w, q, fun ds M1 vs H1 s1 r1 q1 => by
    unfold kListZip at q1
    split at q1
    · rename_i d e
      obtain ⟨v, v2, rfl, ra, rb⟩ := r1.two
      split at q1
      · rename_i xs o1 ys o2 e1 e2
        obtain ⟨G1, z1, k1⟩ := zSeq_ok s1.sr ra e1
        obtain ⟨G2, z2, k2⟩ := zSeq_ok s1.sr rb e2
        obtain ⟨xs', f1, f2⟩ := k1 M1 H1 (Stp.refl s1.sr) (zSeq_okO e1)
        obtain ⟨ys', f3, f4⟩ := k2 M1 H1 (Stp.refl s1.sr) (zSeq_okO e2)
        refine ⟨v, v2, G1, G2, xs', ys', rfl, z1, z2, f1, f3, by rw [← f2.length, ← f4.length]; exact q1.1, fun p H' z => ?_⟩
        exact c _ _ _ _ (s1.trans (zpairs_stp s1.sr f2 f4 z)) .ref (q1.2 p (s1.sr.free z.1))
      · exact q1.elim
    · exact q1.elim⟩
end DL
/-! ### sorted(set(xs)) of ints of few values -/
namespace DL
open PySem PySem.Spec PyProof.Rows L2
/-- few unlike ones -/
def FewI (ns : List Int) : Prop := ns.length + 1 < 4096 ∧ ∀ l : List Int, l.Nodup → (∀ k, k ∈ l → k ∈ ns) → l.length < 64
theorem FewI.of {ns : List Int} (h : ns.length < 64) : FewI ns := ⟨by omega, fun l h1 h2 => Nat.lt_of_le_of_lt (List.Nodup.length_le_of_subset h1 h2) h⟩
theorem FewI.range {ns : List Int} {n : Nat} (h : ns.length + 1 < 4096) (hn : n < 64) (h2 : ∀ k, k ∈ ns → 0 ≤ k ∧ k < (n : Int)) : FewI ns := ⟨h, fun l h1 h3 => by
  have : l ⊆ (List.range n).map fun i => ((i : Nat) : Int) := fun k hk => by
    obtain ⟨a, b⟩ := h2 k (h3 k hk)
    exact List.mem_map.mpr ⟨k.toNat, List.mem_range.mpr (by omega), by omega⟩
  have := List.Nodup.length_le_of_subset h1 this
  rw [List.length_map, List.length_range] at this
  omega⟩
def kSortSetF (d : Dv) (M : Mo) (Q : QD) : Prop := match (seqL M d).bind intsOf with
  | some ns => FewI ns ∧ ∀ ms : List Int, ms.Pairwise (· < ·) → (∀ k, k ∈ ms ↔ k ∈ ns) → ∀ p, M p = none → Q (.ref p) (mup M p (.lst (ms.map .int)))
  | none => False
def dSortSetF (t : TED) : TED := fun sd M Q => t sd M fun d M1 => kSortSetF d M1 Q
def tSortSetF (K : PySem.W.Frag) (ta : TE) : TE := fun σ H Q => ta σ H fun v H1 => ∃ (a : Addr) (ns : List Int), v = V.ref a ∧ SqL K H1 a (ns.map V.int) ∧ FewI ns ∧
  ∀ (ms : List Int), ms.Pairwise (· < ·) → (∀ k, k ∈ ms ↔ k ∈ ns) → ∀ p, H1 p = none → Q (.ref p) (upd H1 p (.lst (ms.map V.int)))
section
variable {X : Cx} {M0 : Mo} {H0 : Hp}
theorem pe_sortSetF {a : Expr} {ta : TE} {p p2 q pos : Pos} (hc : X.calm = true) (hg : Gl X "sorted") (hm : X.mg "sorted" = none) (hg2 : Gl X "set") (hm2 : X.mg "set" = none) (ha : PE X a ta) (hv : bootBuiltins "sorted" = some (.builtin "sorted"))
    (na : starEach [a] X.env = (false, eval a X.env) :: starEach [] X.env := by rfl) : PE X (.Call (.Name "sorted" p) [.Call (.Name "set" p2) [a] [] q] [] pos) (tSortSetF X.K ta) := by
  refine ⟨fun pins s σ H Q I h => ?_⟩
  refine Call_ (ld_blt I hg hm hv ?_)
  refine PyProof.Rows.callWith_builtin1 (PyProof.Rows.args_cons ?_ rfl) rfl rfl
  refine Call_ (ld_blt I hg2 hm2 boot_set ?_)
  refine PyProof.Rows.callWith_type1 (PyProof.Rows.args_cons (thn (ha.run pins s σ H _ I h) fun v s1 ⟨x, H1, I1, r1, q1⟩ => PyProof.Rows.args_nil ?_) na) na rfl
  obtain ⟨l, ns, rfl, hs, hf, q1⟩ := q1
  cases r1
  obtain ⟨its, rv, pl, hz⟩ := I1.list hs
  refine call_set_ints (I1.ok.hd hc) pl.isList (by simpa using rv.ints) (by have := hf.1; unfold scanBound; omega) fun h' tk m hm9 hS hk => ?_
  refine PyProof.Rows.args_nil ?_
  have I2 : Inv X pins σ H1 { s1 with heap := h', toks := tk } := I1.kept fun b o e => hk b o (Heap.lt_size e) e
  have hm64 : m < 64 := by
    obtain ⟨o, es, ep, t, _, _, _, _, nd, hmem, _, _, hn, _⟩ := id hS
    have := hf.2 (es.toList.map keyOf) nd fun k hk => of_decide_eq_true ((hmem k).mpr hk)
    rw [List.length_map, Array.length_toList, hn] at this
    exact this
  exact sorted_run I2 hc hS hm64 fun ms hs' hm' p hn => q1 ms hs' (fun k => by rw [hm' k, decide_eq_true_iff]) p hn
theorem de_sortSetF {a : Expr} {ta : TED} {p p2 q pos : Pos} (hc : X.calm = true) (hg : Gl X "sorted") (hm : X.mg "sorted" = none) (hg2 : Gl X "set") (hm2 : X.mg "set" = none) (hv : bootBuiltins "sorted" = some (.builtin "sorted")) (ha : PEd X M0 H0 a ta)
    (na : starEach [a] X.env = (false, eval a X.env) :: starEach [] X.env := by rfl) : PEd X M0 H0 (.Call (.Name "sorted" p) [.Call (.Name "set" p2) [a] [] q] [] pos) (dSortSetF ta) :=
  PE.imp (pe_sortSetF hc hg hm hg2 hm2 ha hv na) fun σ H Q ⟨sd, M, Qd, w, q, c⟩ => ⟨sd, M, _, w, q, fun d M1 v H1 s1 r1 q1 => by
    unfold kSortSetF at q1
    split at q1
    · rename_i ns e
      obtain ⟨es, h1, h2⟩ := Option.bind_eq_some_iff.mp e
      obtain ⟨a, vs, rfl, sq, rr⟩ := seqL_ok s1.sr r1 h1
      rw [intsOf_ok rr h2] at sq
      exact ⟨a, ns, rfl, sq, q1.1, fun ms h1 h2 p hp => c _ _ _ _ (s1.trans (Stp.new s1.sr hp (own_lst hp (rds_ints ms)))) .ref (q1.2 ms h1 h2 p (s1.sr.free hp))⟩
    · exact q1.elim⟩
end
instance s_sortSetF {t : TED} {sd : StD} {M : Mo} {Q : QD} : Step (dSortSetF t sd M Q) (t sd M fun d M1 => kSortSetF d M1 Q) := ⟨id⟩
theorem i_sortSetF {M : Mo} {d : Dv} {Q : QD} {ns : List Int} (h0 : seqL M d = some (ns.map .int)) (hl : FewI ns) (h : ∀ ms : List Int, ms.Pairwise (· < ·) → (∀ k, k ∈ ms ↔ k ∈ ns) → ∀ p, M p = none → Q (.ref p) (mup M p (.lst (ms.map .int)))) : kSortSetF d M Q := by
  unfold kSortSetF
  simp only [h0, Option.bind_some, intsOf_map]
  exact ⟨hl, h⟩
end DL
namespace DL
open PySem PySem.Spec PyProof.Rows L2
theorem signsD_len (x : Str) : (signsD x).length = x.length := by
  unfold signsD
  rw [List.length_map, str_len]
end DL

/-! dicts: keys that are ints or texts -/
namespace DL
open PySem PySem.Spec PyProof.Rows L2
abbrev KvD := List (Key × Dv)
/-- the entries of a dict, owned or not -/
def dctM (M : Mo) : Dv → Option KvD
  | .dct kvs => some kvs
  | .ref a => match M a with
    | some (.dK kvs) => some kvs
    | _ => none
  | _ => none
def keyD : Dv → Option Key
  | .int i => some (.inl i)
  | .str x => some (.inr x)
  | _ => none
def valD (kvs : KvD) (k : Key) : Option Dv := (kvs.find? fun kv => decide (kv.1 = k)).map (·.2)
def putDk (kvs : KvD) (k : Key) (v : Dv) : KvD := if (kvs.any fun kv => decide (kv.1 = k)) = true then kvs.map fun kv => if kv.1 = k then (kv.1, v) else kv else kvs ++ [(k, v)]
section
variable {K : PySem.W.Frag} {M : Mo} {H : Hp}
theorem keyD_ok {d : Dv} {v : V} {k : Key} (r : RD K H d v) (h : keyD d = some k) : v = kV k := by
  cases d <;> simp only [keyD] at h <;> try (cases h)
  · rw [r.int_of]; rfl
  · rw [r.str_of]; rfl
theorem rdk_find {kvs : KvD} {vs : List (Key × V)} (r : RDk K H kvs vs) (k : Key) : (valD kvs k = none ∧ valV vs k = none) ∨ ∃ d v, valD kvs k = some d ∧ valV vs k = some v ∧ RD K H d v := by
  induction kvs generalizing vs with
  | nil =>
    unfold RDk at r
    subst r
    exact .inl ⟨rfl, rfl⟩
  | cons p kvs ih =>
    obtain ⟨f, d⟩ := p
    unfold RDk at r
    obtain ⟨v, rest, rfl, h1, h2⟩ := r
    by_cases e : f = k
    · refine .inr ⟨d, v, ?_, ?_, h1⟩
      · unfold valD
        rw [List.find?_cons_of_pos (by simp [e])]
        rfl
      · exact valV_pos e
    · have e1 : valD ((f, d) :: kvs) k = valD kvs k := by
        unfold valD
        rw [List.find?_cons_of_neg (by simp [e])]
      rw [e1, valV_neg (p := (f, v)) e]
      exact ih h2
theorem rdk_any {kvs : KvD} {vs : List (Key × V)} (r : RDk K H kvs vs) (k : Key) : (kvs.any fun kv => decide (kv.1 = k)) = (vs.any fun kv => decide (kv.1 = k)) := by
  induction kvs generalizing vs with
  | nil => unfold RDk at r; subst r; rfl
  | cons p kvs ih =>
    obtain ⟨f, d⟩ := p
    unfold RDk at r
    obtain ⟨v, rest, rfl, h1, h2⟩ := r
    rw [List.any_cons, List.any_cons, ih h2]
theorem rdk_map {kvs : KvD} {vs : List (Key × V)} (r : RDk K H kvs vs) (k : Key) {d : Dv} {v : V} (rv : RD K H d v) : RDk K H (kvs.map fun kv => if kv.1 = k then (kv.1, d) else kv) (vs.map fun kv => if kv.1 = k then (kv.1, v) else kv) := by
  induction kvs generalizing vs with
  | nil => unfold RDk at r; subst r; unfold RDk; rfl
  | cons p kvs ih =>
    obtain ⟨f, d0⟩ := p
    unfold RDk at r
    obtain ⟨v0, rest, rfl, h1, h2⟩ := r
    rw [List.map_cons, List.map_cons]
    by_cases e : f = k
    · rw [if_pos e, if_pos e]
      unfold RDk
      exact ⟨v, _, rfl, rv, ih h2⟩
    · rw [if_neg e, if_neg e]
      unfold RDk
      exact ⟨v0, _, rfl, h1, ih h2⟩
theorem rdk_snoc {kvs : KvD} {vs : List (Key × V)} (r : RDk K H kvs vs) {k : Key} {d : Dv} {v : V} (rv : RD K H d v) : RDk K H (kvs ++ [(k, d)]) (vs ++ [(k, v)]) := by
  induction kvs generalizing vs with
  | nil => unfold RDk at r; subst r; unfold RDk; exact ⟨v, [], rfl, rv, by unfold RDk; rfl⟩
  | cons p kvs ih =>
    obtain ⟨f, d0⟩ := p
    unfold RDk at r
    obtain ⟨v0, rest, rfl, h1, h2⟩ := r
    rw [List.cons_append, List.cons_append]
    unfold RDk
    exact ⟨v0, _, rfl, h1, ih h2⟩
theorem rdk_put {kvs : KvD} {vs : List (Key × V)} (r : RDk K H kvs vs) (k : Key) {d : Dv} {v : V} (rv : RD K H d v) : RDk K H (putDk kvs k d) (putK vs k v) := by
  unfold putDk putK
  rw [rdk_any r k]
  split
  · exact rdk_map r k rv
  · exact rdk_snoc r rv
theorem rdk_len {kvs : KvD} {vs : List (Key × V)} (r : RDk K H kvs vs) : kvs.length = vs.length := by
  induction kvs generalizing vs with
  | nil => unfold RDk at r; subst r; rfl
  | cons p kvs ih =>
    obtain ⟨f, d0⟩ := p
    unfold RDk at r
    obtain ⟨v0, rest, rfl, h1, h2⟩ := r
    rw [List.length_cons, List.length_cons, ih h2]
theorem rdk_get {kvs : KvD} {vs : List (Key × V)} (r : RDk K H kvs vs) {i : Nat} {k : Key} {d : Dv} (h : kvs[i]? = some (k, d)) : ∃ v, vs[i]? = some (k, v) ∧ RD K H d v := by
  induction kvs generalizing vs i with
  | nil => simp at h
  | cons p kvs ih =>
    obtain ⟨f, d0⟩ := p
    unfold RDk at r
    obtain ⟨v0, rest, rfl, h1, h2⟩ := r
    cases i with
    | zero => simp at h; obtain ⟨rfl, rfl⟩ := h; exact ⟨v0, rfl, h1⟩
    | succ i => exact ih h2 (by simpa using h)
/-- a dict in the heap below -/
theorem dctM_ok {d : Dv} {v : V} {kvs : KvD} (s : SR K M H) (r : RD K H d v) (h : dctM M d = some kvs) : ∃ a vs, v = .ref a ∧ Rd H a (.dK vs) ∧ RDk K H kvs vs := by
  unfold dctM at h
  split at h
  · cases h
    unfold RD at r
    obtain ⟨a, o, vks, rfl, e, rr⟩ := r
    exact ⟨a, vks, rfl, .inr ⟨o, e⟩, rdk1.mp rr⟩
  · rename_i a
    split at h
    · rename_i kvs' e
      cases h
      have ow := s a _ e
      simp only [Own] at ow
      obtain ⟨vks, e2, rr⟩ := ow
      exact ⟨a, vks, r.ref_of, .inl e2, rr⟩
    · cases h
  · cases h
end
/-! ### look up -/
def kDict (M : Mo) (d : Dv) (F : KvD → Prop) : Prop := match dctM M d with
  | some kvs => F kvs
  | none => False
def kKey (d : Dv) (F : Key → Prop) : Prop := match keyD d with
  | some k => F k
  | none => False
def kSome (o : Option Dv) (F : Dv → Prop) : Prop := match o with
  | some d => F d
  | none => False
def dGetI (td ty : TED) : TED := fun sd M Q => td sd M fun d M1 => ty sd M1 fun y M2 => kDict M2 d fun kvs => kKey y fun k => kSome (valD kvs k) fun v => Q v M2
def dInD (ty td : TED) : TED := fun sd M Q => ty sd M fun y M1 => td sd M1 fun d M2 => kDict M2 d fun kvs => kKey y fun k => Q (.bl (valD kvs k).isSome) M2
def dNotInD (ty td : TED) : TED := fun sd M Q => ty sd M fun y M1 => td sd M1 fun d M2 => kDict M2 d fun kvs => kKey y fun k => Q (.bl (!(valD kvs k).isSome)) M2
def dGet1 (td ty : TED) : TED := fun sd M Q => td sd M fun d M1 => (∃ kvs, dctM M1 d = some kvs) ∧ ty sd M1 fun y M2 => kDict M2 d fun kvs => kKey y fun k => Q ((valD kvs k).getD .non) M2
def dGet2 (td ty tx : TED) : TED := fun sd M Q => td sd M fun d M1 => (∃ kvs, dctM M1 d = some kvs) ∧ ty sd M1 fun y M2 => tx sd M2 fun z M3 => kDict M3 d fun kvs => kKey y fun k => Q ((valD kvs k).getD z) M3
theorem kDict_of {M : Mo} {d : Dv} {F : KvD → Prop} (h : kDict M d F) : ∃ kvs, dctM M d = some kvs ∧ F kvs := by
  unfold kDict at h
  split at h
  · rename_i kvs e; exact ⟨kvs, e, h⟩
  · exact h.elim
theorem kKey_of {d : Dv} {F : Key → Prop} (h : kKey d F) : ∃ k, keyD d = some k ∧ F k := by
  unfold kKey at h
  split at h
  · rename_i k e; exact ⟨k, e, h⟩
  · exact h.elim
theorem isD_of {H : Hp} {a : Addr} {vs : List (Key × V)} (h : Rd H a (.dK vs)) : IsD H a := .inl ⟨vs, h⟩
theorem dget_of {H : Hp} {a : Addr} {vs : List (Key × V)} {k : Key} (h : Rd H a (.dK vs)) : DGet H a (kV k) (valV vs k) := .inl ⟨vs, k, h, rfl, rfl⟩
section
variable {X : Cx} {M0 : Mo} {H0 : Hp} {o i value : Expr} {td ty tv : TED} {pos : Pos}
theorem de_dget (hu : X.A.units + 1 < cLine) (ho : PEd X M0 H0 o td) (hi : PEd X M0 H0 i ty) (hs : NoSl i := by exact (fun _ _ => rfl)) : PEd X M0 H0 (.Subscript o i pos) (dGetI td ty) :=
  PE.imp (pe_dget hu ho hi hs) fun σ H Q ⟨sd, M, Qd, w, q, c⟩ => ⟨sd, M, _, w, q, fun d M1 x H1 s1 r1 q1 => ⟨sd, M1, _, w.on s1, q1, fun y M2 v H2 s2 r2 q2 => by
    obtain ⟨kvs, e1, q2⟩ := kDict_of q2
    obtain ⟨k, e2, q2⟩ := kKey_of q2
    obtain ⟨a, vs, rfl, hr, rr⟩ := dctM_ok s2.sr (r1.keep s2.keep) e1
    unfold kSome at q2
    rcases rdk_find rr k with ⟨z, _⟩ | ⟨dv, u, z1, z2, z3⟩
    · rw [z] at q2; exact q2.elim
    · rw [z1] at q2
      exact ⟨a, u, rfl, by rw [keyD_ok r2 e2, ← z2]; exact dget_of hr, c _ _ _ _ (s1.trans s2) z3 q2⟩⟩⟩
theorem de_din (hu : X.A.units + 1 < cLine) (hi : PEd X M0 H0 i ty) (ho : PEd X M0 H0 o td) (h1 : behindInMarks .In o = false := by rfl) : PEd X M0 H0 (.Compare i [.In] [o] pos) (dInD ty td) :=
  PE.imp (pe_cmp (pc_din hu hi ho) h1) fun σ H Q ⟨sd, M, Qd, w, q, c⟩ => ⟨sd, M, _, w, q, fun y M1 v H1 s1 r1 q1 => ⟨sd, M1, _, w.on s1, q1, fun d M2 x H2 s2 r2 q2 => by
    obtain ⟨kvs, e1, q2⟩ := kDict_of q2
    obtain ⟨k, e2, q2⟩ := kKey_of q2
    obtain ⟨a, vs, rfl, hr, rr⟩ := dctM_ok s2.sr r2 e1
    refine ⟨a, valV vs k, rfl, by rw [keyD_ok r1 e2]; exact dget_of hr, ?_⟩
    have e : (valD kvs k).isSome = (valV vs k).isSome := by
      rcases rdk_find rr k with ⟨z1, z2⟩ | ⟨dv, u, z1, z2, z3⟩ <;> rw [z1, z2] <;> rfl
    rw [← e]
    exact c _ _ _ _ (s1.trans s2) .bl q2⟩⟩
theorem de_dnotin (hu : X.A.units + 1 < cLine) (hi : PEd X M0 H0 i ty) (ho : PEd X M0 H0 o td) (h1 : behindInMarks .NotIn o = false := by rfl) : PEd X M0 H0 (.Compare i [.NotIn] [o] pos) (dNotInD ty td) :=
  PE.imp (pe_cmp (pc_dnotin hu hi ho) h1) fun σ H Q ⟨sd, M, Qd, w, q, c⟩ => ⟨sd, M, _, w, q, fun y M1 v H1 s1 r1 q1 => ⟨sd, M1, _, w.on s1, q1, fun d M2 x H2 s2 r2 q2 => by
    obtain ⟨kvs, e1, q2⟩ := kDict_of q2
    obtain ⟨k, e2, q2⟩ := kKey_of q2
    obtain ⟨a, vs, rfl, hr, rr⟩ := dctM_ok s2.sr r2 e1
    refine ⟨a, valV vs k, rfl, by rw [keyD_ok r1 e2]; exact dget_of hr, ?_⟩
    have e : (valD kvs k).isSome = (valV vs k).isSome := by
      rcases rdk_find rr k with ⟨z1, z2⟩ | ⟨dv, u, z1, z2, z3⟩ <;> rw [z1, z2] <;> rfl
    rw [← e]
    exact c _ _ _ _ (s1.trans s2) .bl q2⟩⟩
theorem dt_din (hu : X.A.units + 1 < cLine) (hi : PEd X M0 H0 i ty) (ho : PEd X M0 H0 o td) (h1 : behindInMarks .In o = false := by rfl) : PTd X M0 H0 (.Compare i [.In] [o] pos) (dTest (dInD ty td)) :=
  PT.imp (pt_cmp (pc_din hu hi ho) h1) fun σ H Q ⟨sd, M, Qd, w, q, c⟩ => ⟨sd, M, _, w, q, fun y M1 v H1 s1 r1 q1 => ⟨sd, M1, _, w.on s1, q1, fun d M2 x H2 s2 r2 q2 => by
    obtain ⟨kvs, e1, q2⟩ := kDict_of q2
    obtain ⟨k, e2, q2⟩ := kKey_of q2
    obtain ⟨a, vs, rfl, hr, rr⟩ := dctM_ok s2.sr r2 e1
    refine ⟨a, valV vs k, rfl, by rw [keyD_ok r1 e2]; exact dget_of hr, ?_⟩
    have e : (valD kvs k).isSome = (valV vs k).isSome := by
      rcases rdk_find rr k with ⟨z1, z2⟩ | ⟨dv, u, z1, z2, z3⟩ <;> rw [z1, z2] <;> rfl
    rw [← e]
    exact ⟨_, rfl, c _ _ _ (s1.trans s2) q2⟩⟩⟩
theorem dt_dnotin (hu : X.A.units + 1 < cLine) (hi : PEd X M0 H0 i ty) (ho : PEd X M0 H0 o td) (h1 : behindInMarks .NotIn o = false := by rfl) : PTd X M0 H0 (.Compare i [.NotIn] [o] pos) (dTest (dNotInD ty td)) :=
  PT.imp (pt_cmp (pc_dnotin hu hi ho) h1) fun σ H Q ⟨sd, M, Qd, w, q, c⟩ => ⟨sd, M, _, w, q, fun y M1 v H1 s1 r1 q1 => ⟨sd, M1, _, w.on s1, q1, fun d M2 x H2 s2 r2 q2 => by
    obtain ⟨kvs, e1, q2⟩ := kDict_of q2
    obtain ⟨k, e2, q2⟩ := kKey_of q2
    obtain ⟨a, vs, rfl, hr, rr⟩ := dctM_ok s2.sr r2 e1
    refine ⟨a, valV vs k, rfl, by rw [keyD_ok r1 e2]; exact dget_of hr, ?_⟩
    have e : (valD kvs k).isSome = (valV vs k).isSome := by
      rcases rdk_find rr k with ⟨z1, z2⟩ | ⟨dv, u, z1, z2, z3⟩ <;> rw [z1, z2] <;> rfl
    rw [← e]
    exact ⟨_, rfl, c _ _ _ (s1.trans s2) q2⟩⟩⟩
theorem de_dget1 {apos cpos : Pos} (hu : X.A.units + 1 < cLine) (ho : PEd X M0 H0 o td) (he : PEd X M0 H0 i ty) (m : M1 X o "get" apos i cpos) : PEd X M0 H0 (.Call (.Attribute o "get" apos) [i] [] cpos) (dGet1 td ty) :=
  PE.imp (pe_dget1 hu ho he m) fun σ H Q ⟨sd, M, Qd, w, q, c⟩ => ⟨sd, M, _, w, q, fun d M1 x H1 s1 r1 q1 => by
    obtain ⟨⟨kvs0, e0⟩, q1⟩ := q1
    obtain ⟨a, vs0, rfl, hr0, _⟩ := dctM_ok s1.sr r1 e0
    refine ⟨a, rfl, isD_of hr0, sd, M1, _, w.on s1, q1, fun y M2 v H2 s2 r2 q2 => ?_⟩
    obtain ⟨kvs, e1, q2⟩ := kDict_of q2
    obtain ⟨k, e2, q2⟩ := kKey_of q2
    obtain ⟨a2, vs, e3, hr, rr⟩ := dctM_ok s2.sr (r1.keep s2.keep) e1
    cases e3
    refine ⟨valV vs k, by rw [keyD_ok r2 e2]; exact dget_of hr, ?_⟩
    rcases rdk_find rr k with ⟨z1, z2⟩ | ⟨dv, u, z1, z2, z3⟩
    · rw [z1] at q2
      rw [z2]
      exact c _ _ _ _ (s1.trans s2) .non q2
    · rw [z1] at q2
      rw [z2]
      exact c _ _ _ _ (s1.trans s2) z3 q2⟩
theorem de_dget2 {f : Expr} {tx : TED} {apos cpos : Pos} (hu : X.A.units + 1 < cLine) (ho : PEd X M0 H0 o td) (he : PEd X M0 H0 i ty) (hf : PEd X M0 H0 f tx) (m : M2 X o "get" apos i f cpos) : PEd X M0 H0 (.Call (.Attribute o "get" apos) [i, f] [] cpos) (dGet2 td ty tx) :=
  PE.imp (pe_dget2 hu ho he hf m) fun σ H Q ⟨sd, M, Qd, w, q, c⟩ => ⟨sd, M, _, w, q, fun d M1 x H1 s1 r1 q1 => by
    obtain ⟨⟨kvs0, e0⟩, q1⟩ := q1
    obtain ⟨a, vs0, rfl, hr0, _⟩ := dctM_ok s1.sr r1 e0
    refine ⟨a, rfl, isD_of hr0, sd, M1, _, w.on s1, q1, fun y M2 v H2 s2 r2 q2 => ⟨sd, M2, _, (w.on s1).on s2, q2, fun z M3 zv H3 s3 r3 q3 => ?_⟩⟩
    obtain ⟨kvs, e1, q3⟩ := kDict_of q3
    obtain ⟨k, e2, q3⟩ := kKey_of q3
    obtain ⟨a2, vs, e3, hr, rr⟩ := dctM_ok s3.sr (r1.keep (s2.trans s3).keep) e1
    cases e3
    refine ⟨valV vs k, by rw [keyD_ok r2 e2]; exact dget_of hr, ?_⟩
    rcases rdk_find rr k with ⟨z1, z2⟩ | ⟨dv, u, z1, z2, z3⟩
    · rw [z1] at q3
      rw [z2]
      exact c _ _ _ _ ((s1.trans s2).trans s3) r3 q3
    · rw [z1] at q3
      rw [z2]
      exact c _ _ _ _ ((s1.trans s2).trans s3) z3 q3⟩
/-! ### d[k] = v -/
def kPutD (M : Mo) (d y : Dv) (v : Dv) (nx : Mo → Prop) : Prop := match d with
  | .ref a => match M a with
    | some (.dK kvs) => kKey y fun k => kvs.length < 16777216 ∧ nx (mup M a (.dK (putDk kvs k v)))
    | _ => False
  | _ => False
def dSetD (td ty tv : TED) : TSD := fun D sd M => tv sd M fun v M1 => td sd M1 fun d M2 => ty sd M2 fun y M3 => kPutD M3 d y v fun M4 => D.nx sd M4
theorem ds_dput {pos' : Pos} (hu : X.A.units + 1 < cLine) (ho : PEd X M0 H0 o td) (hi : PEd X M0 H0 i ty) (hv : PEd X M0 H0 value tv) (hs : swapsWith value (some (.Subscript o i pos')) pos.line X.env = pure false := by rfl) : PSd X M0 H0 (.Assign [.Subscript o i pos'] value pos) (dSetD td ty tv) :=
  PS.imp (ps_dput hu ho hi hv hs) fun D σ H ⟨sd, M, Dd, w, q, c⟩ => ⟨sd, M, _, w, q, fun v M1 xv H1 s1 r1 q1 => ⟨sd, M1, _, w.on s1, q1, fun d M2 x H2 s2 r2 q2 => ⟨sd, M2, _, (w.on s1).on s2, q2, fun y M3 yv H3 s3 r3 q3 => by
    unfold kPutD at q3
    split at q3
    · rename_i a
      split at q3
      · rename_i kvs e
        obtain ⟨k, e2, hl, q3⟩ := kKey_of q3
        have ow := s3.sr a _ e
        simp only [Own] at ow
        obtain ⟨vks, e3, rr⟩ := ow
        have rv := r1.keep (s2.trans s3).keep
        have st : Stp X.K M3 H3 (mup M3 a (.dK (putDk kvs k v))) (upd H3 a (.dK (putK vks k xv))) := by
          have k2 : Keep H3 (upd H3 a (.dK (putK vks k xv))) := Keep.mut (by rw [e3]; exact trivial)
          refine Stp.set s3.sr e (by rw [e3]; exact trivial) ?_
          simp only [Own]
          exact ⟨_, upd_same, (rdk_put rr k rv).keep k2⟩
        refine ⟨a, _, r2.ref_of, ?_, c.nx _ _ _ _ (((s1.trans s2).trans s3).trans st) (w.rs.keep (((s1.trans s2).trans s3).trans st).keep) q3⟩
        rw [keyD_ok r3 e2]
        exact DPut.k e3 (by rw [← rdk_len rr, sizeLine_eq]; exact hl)
      · exact q3.elim
    · exact q3.elim⟩⟩⟩
/-! ### {} and dict(d) -/
def dNewD : TED := fun sd M Q => ∀ p, M p = none → Q (.ref p) (mup M p (.dK []))
theorem de_dnew : PEd X M0 H0 (.Dict [] [] pos) dNewD :=
  PE.imp pe_dnewK fun σ H Q ⟨sd, M, Qd, w, q, c⟩ p hp => by
    have st : Stp X.K M H (mup M p (.dK [])) (upd H p (.dK [])) := Stp.new w.st.sr hp (by
      simp only [Own]
      exact ⟨[], upd_same, by unfold RDk; rfl⟩)
    exact c _ _ _ _ st .ref (q p (w.st.sr.free hp))
def dCopyD : RNd := fun ds M Q => match ds with
  | [d] => kDict M d fun kvs => ∀ p, M p = none → Q (.ref p) (mup M p (.dK kvs))
  | _ => False
theorem cr_dictCopy : CallR X (.type "dict") (fun xs H Q => ∃ (a : Addr) (vs : List (Key × V)), xs = [.ref a] ∧ Rd H a (.dK vs) ∧ ∀ p, H p = none → Q (.ref p) (upd H p (.dK vs))) := by
  intro pins s σ H xs us Q I r h
  obtain ⟨a, vs, rfl, hr, q⟩ := h
  obtain ⟨u, rfl, ru⟩ := vals1 r
  obtain rfl : u = Value.ref a := ru
  exact d_copyOf I hr fun p s' hp I' => ⟨.ref p, _, I', rfl, q p hp⟩
theorem cd_dict : CallR X (.type "dict") (LNop X.K dCopyD) := cd_I cr_dictCopy fun ds M Qd xs H Q rs sr q c => by
  unfold dCopyD at q
  split at q
  · rename_i d
    obtain ⟨v, rfl, rv⟩ := rs.one
    obtain ⟨kvs, e, q⟩ := kDict_of q
    obtain ⟨a, vs, rfl, hr, rr⟩ := dctM_ok sr rv e
    refine ⟨a, vs, rfl, hr, fun p hp => ?_⟩
    have st : Stp X.K M H (mup M p (.dK kvs)) (upd H p (.dK vs)) := Stp.new sr hp (by
      simp only [Own]
      exact ⟨vs, upd_same, rr.keep (Keep.new hp)⟩)
    exact c _ _ _ _ st .ref (q p (sr.free hp))
  · exact q.elim
/-! ### walks of a dict that stands still -/
def kFzD (d : Dv) (F : KvD → Prop) : Prop := match d with
  | .dct kvs => F kvs
  | _ => False
def kD : Key → Dv
  | .inl i => .int i
  | .inr x => .str x
theorem rd_kD {K : PySem.W.Frag} {H : Hp} (k : Key) : RD K H (kD k) (kV k) := by
  cases k with
  | inl i => exact .int
  | inr x => exact .str
def iItemsD (td : TED) : TID := fun sd M R => td sd M fun d M1 => kFzD d fun kvs => R ⟨kvs.map fun p => .tup [kD p.1, p.2], fun _ => True⟩ M1
def iValsD (td : TED) : TID := fun sd M R => td sd M fun d M1 => kFzD d fun kvs => R ⟨kvs.map (·.2), fun _ => True⟩ M1
def iKeysD (td : TED) : TID := fun sd M R => td sd M fun d M1 => kFzD d fun kvs => R ⟨kvs.map fun p => kD p.1, fun _ => True⟩ M1
theorem kFzD_of {d : Dv} {F : KvD → Prop} (h : kFzD d F) : ∃ kvs, d = .dct kvs ∧ F kvs := by
  unfold kFzD at h
  split at h
  · exact ⟨_, rfl, h⟩
  · exact h.elim
theorem di_items {elts : List Expr} {kk : Nat} {tpos apos cpos : Pos} (he : PEd X M0 H0 o td) (hbase : attributeBase o "items" X.env (eval o X.env) = eval o X.env := by rfl) (hline : (apos.endLine == cpos.line) = true := by rfl) :
    PId X M0 H0 (.Tuple elts kk tpos) (.Call (.Attribute o "items" apos) [] [] cpos) (iItemsD td) :=
  PI.imp (pi_items he hbase hline) fun σ H R ⟨sd, M, Rd, w, q, c⟩ => ⟨sd, M, _, w, q, fun d M1 v H1 s1 r1 q1 => by
    obtain ⟨kvs, rfl, q1⟩ := kFzD_of q1
    unfold RD at r1
    obtain ⟨a, ob, vks, rfl, e, rr⟩ := r1
    have rr := rdk1.mp rr
    refine ⟨a, ob, vks, rfl, e, c _ _ _ _ s1 ⟨fun i d M2 H2 s2 _ h => ?_, fun M2 H2 s2 _ => ?_⟩ q1⟩
    · rw [List.getElem?_map] at h
      cases e1 : kvs[i]? with
      | none => rw [e1] at h; cases h
      | some p =>
        rw [e1] at h
        cases h
        obtain ⟨u, hu, ru⟩ := rdk_get rr (k := p.1) (d := p.2) e1
        refine ⟨⟨s2.keep.frzs _ _ _ e, (List.getElem?_eq_some_iff.mp hu).1⟩, fun x H3 z => ?_⟩
        obtain ⟨T, k, v, hk, rfl, hT, rfl⟩ := z
        rw [hu] at hk
        cases hk
        exact ⟨Stp.new0 s2.sr hT, RD.pair (rd_kD _) (ru.keep s2.keep) hT⟩
    · refine ⟨s2.keep.frzs _ _ _ e, ?_⟩
      show vks.length ≤ (kvs.map _).length
      rw [List.length_map, rdk_len rr]
      exact Nat.le_refl _⟩
theorem di_values {apos cpos : Pos} {tg : Expr} (he : PEd X M0 H0 o td) (hbase : attributeBase o "values" X.env (eval o X.env) = eval o X.env := by rfl) (hline : (apos.endLine == cpos.line) = true := by rfl) :
    PId X M0 H0 tg (.Call (.Attribute o "values" apos) [] [] cpos) (iValsD td) :=
  PI.imp (pi_values he hbase hline) fun σ H R ⟨sd, M, Rd, w, q, c⟩ => ⟨sd, M, _, w, q, fun d M1 v H1 s1 r1 q1 => by
    obtain ⟨kvs, rfl, q1⟩ := kFzD_of q1
    unfold RD at r1
    obtain ⟨a, ob, vks, rfl, e, rr⟩ := r1
    have rr := rdk1.mp rr
    refine ⟨a, ob, vks, rfl, e, c _ _ _ _ s1 ⟨fun i d M2 H2 s2 _ h => ?_, fun M2 H2 s2 _ => ?_⟩ q1⟩
    · rw [List.getElem?_map] at h
      cases e1 : kvs[i]? with
      | none => rw [e1] at h; cases h
      | some p =>
        rw [e1] at h
        cases h
        obtain ⟨u, hu, ru⟩ := rdk_get rr (k := p.1) (d := p.2) e1
        refine ⟨⟨s2.keep.frzs _ _ _ e, (List.getElem?_eq_some_iff.mp hu).1⟩, fun x H3 z => ?_⟩
        obtain ⟨rfl, k, hk⟩ := z
        rw [hu] at hk
        cases hk
        exact ⟨Stp.refl s2.sr, ru.keep s2.keep⟩
    · refine ⟨s2.keep.frzs _ _ _ e, ?_⟩
      show vks.length ≤ (kvs.map _).length
      rw [List.length_map, rdk_len rr]
      exact Nat.le_refl _⟩
theorem di_keys {tg : Expr} (he : PEd X M0 H0 o td) : PId X M0 H0 tg o (iKeysD td) :=
  PI.imp (pi_keys he) fun σ H R ⟨sd, M, Rd, w, q, c⟩ => ⟨sd, M, _, w, q, fun d M1 v H1 s1 r1 q1 => by
    obtain ⟨kvs, rfl, q1⟩ := kFzD_of q1
    unfold RD at r1
    obtain ⟨a, ob, vks, rfl, e, rr⟩ := r1
    have rr := rdk1.mp rr
    refine ⟨a, ob, rfl, .inl ⟨vks, e, c _ _ _ _ s1 ⟨fun i d M2 H2 s2 _ h => ?_, fun M2 H2 s2 _ => ?_⟩ q1⟩⟩
    · rw [List.getElem?_map] at h
      cases e1 : kvs[i]? with
      | none => rw [e1] at h; cases h
      | some p =>
        rw [e1] at h
        cases h
        obtain ⟨u, hu, ru⟩ := rdk_get rr (k := p.1) (d := p.2) e1
        refine ⟨⟨s2.keep.frzs _ _ _ e, (List.getElem?_eq_some_iff.mp hu).1⟩, fun x H3 z => ?_⟩
        obtain ⟨rfl, k, v, hk, rfl⟩ := z
        rw [hu] at hk
        cases hk
        exact ⟨Stp.refl s2.sr, rd_kD _⟩
    · refine ⟨s2.keep.frzs _ _ _ e, ?_⟩
      show vks.length ≤ (kvs.map _).length
      rw [List.length_map, rdk_len rr]
      exact Nat.le_refl _⟩
end
/-! ### steps -/
section
variable {M : Mo} {Q : QD} {sd : StD} {td ty tx tv : TED} {k : Key} {kvs : KvD} {nx : Mo → Prop}
instance s_getI : Step (dGetI td ty sd M Q) (td sd M fun d M1 => ty sd M1 fun y M2 => kDict M2 d fun kvs => kKey y fun k => kSome (valD kvs k) fun v => Q v M2) := ⟨id⟩
instance s_inD : Step (dInD ty td sd M Q) (ty sd M fun y M1 => td sd M1 fun d M2 => kDict M2 d fun kvs => kKey y fun k => Q (.bl (valD kvs k).isSome) M2) := ⟨id⟩
instance s_ninD : Step (dNotInD ty td sd M Q) (ty sd M fun y M1 => td sd M1 fun d M2 => kDict M2 d fun kvs => kKey y fun k => Q (.bl (!(valD kvs k).isSome)) M2) := ⟨id⟩
instance s_get1 : Step (dGet1 td ty sd M Q) (td sd M fun d M1 => (∃ kvs, dctM M1 d = some kvs) ∧ ty sd M1 fun y M2 => kDict M2 d fun kvs => kKey y fun k => Q ((valD kvs k).getD .non) M2) := ⟨id⟩
instance s_get2 : Step (dGet2 td ty tx sd M Q) (td sd M fun d M1 => (∃ kvs, dctM M1 d = some kvs) ∧ ty sd M1 fun y M2 => tx sd M2 fun z M3 => kDict M3 d fun kvs => kKey y fun k => Q ((valD kvs k).getD z) M3) := ⟨id⟩
instance s_setD {a b c : StD → Mo → Prop} {r : QD} : Step (dSetD td ty tv ⟨a, r, b, c⟩ sd M) (tv sd M fun v M1 => td sd M1 fun d M2 => ty sd M2 fun y M3 => kPutD M3 d y v fun M4 => a sd M4) := ⟨id⟩
instance s_newD : Step (dNewD sd M Q) (∀ p, M p = none → Q (.ref p) (mup M p (.dK []))) := ⟨id⟩
instance s_kDct {F : KvD → Prop} : Step (kDict M (.dct kvs) F) (F kvs) := ⟨id⟩
instance s_kKi {i : Int} {F : Key → Prop} : Step (kKey (.int i) F) (F (.inl i)) := ⟨id⟩
instance s_kKs {x : Str} {F : Key → Prop} : Step (kKey (.str x) F) (F (.inr x)) := ⟨id⟩
instance s_kSome {d : Dv} {F : Dv → Prop} : Step (kSome (some d) F) (F d) := ⟨id⟩
instance s_iItems {R : ItD → Mo → Prop} : Step (iItemsD td sd M R) (td sd M fun d M1 => kFzD d fun kvs => R ⟨kvs.map fun p => .tup [kD p.1, p.2], fun _ => True⟩ M1) := ⟨id⟩
instance s_iVals {R : ItD → Mo → Prop} : Step (iValsD td sd M R) (td sd M fun d M1 => kFzD d fun kvs => R ⟨kvs.map (·.2), fun _ => True⟩ M1) := ⟨id⟩
instance s_iKeys {R : ItD → Mo → Prop} : Step (iKeysD td sd M R) (td sd M fun d M1 => kFzD d fun kvs => R ⟨kvs.map fun p => kD p.1, fun _ => True⟩ M1) := ⟨id⟩
instance s_kFzD {F : KvD → Prop} : Step (kFzD (.dct kvs) F) (F kvs) := ⟨id⟩
instance s_exD {P : Prop} : Step ((∃ kvs', dctM M (.dct kvs) = some kvs') ∧ P) P := ⟨fun h => ⟨⟨kvs, rfl⟩, h⟩⟩
theorem i_kDr {a : Addr} {F : KvD → Prop} (h : M a = some (.dK kvs)) (q : F kvs) : kDict M (.ref a) F := by
  unfold kDict dctM
  simp only [h]
  exact q
theorem i_exD {a : Addr} {P : Prop} (h : M a = some (.dK kvs)) (q : P) : (∃ kvs', dctM M (.ref a) = some kvs') ∧ P := ⟨⟨kvs, by unfold dctM; simp only [h]⟩, q⟩
theorem i_kPut {a : Addr} {y v : Dv} (h : M a = some (.dK kvs)) (q : kKey y fun k => kvs.length < 16777216 ∧ nx (mup M a (.dK (putDk kvs k v)))) : kPutD M (.ref a) y v nx := by
  unfold kPutD
  simp only [h]
  exact q
theorem i_dictC {d : Dv} (q : kDict M d fun kvs => ∀ p, M p = none → Q (.ref p) (mup M p (.dK kvs))) : dCopyD [d] M Q := q
end
theorem valD_nil {k : Key} : valD [] k = none := rfl
theorem find_rep {kvs : KvD} {k j : Key} {v : Dv} (h : j ≠ k) : (kvs.map fun kv => if kv.1 = k then (kv.1, v) else kv).find? (fun kv => decide (kv.1 = j)) = kvs.find? fun kv => decide (kv.1 = j) := by
  induction kvs with
  | nil => rfl
  | cons p kvs ih =>
    rw [List.map_cons]
    by_cases e : p.1 = k
    · rw [if_pos e, List.find?_cons_of_neg (by simp; rw [e]; exact fun z => h z.symm), List.find?_cons_of_neg (by simp; rw [e]; exact fun z => h z.symm), ih]
    · rw [if_neg e]
      by_cases e3 : p.1 = j
      · rw [List.find?_cons_of_pos (by simp [e3]), List.find?_cons_of_pos (by simp [e3])]
      · rw [List.find?_cons_of_neg (by simp [e3]), List.find?_cons_of_neg (by simp [e3]), ih]
theorem find_here {kvs : KvD} {k : Key} {v : Dv} (h : (kvs.any fun kv => decide (kv.1 = k)) = true) : ((kvs.map fun kv => if kv.1 = k then (kv.1, v) else kv).find? fun kv => decide (kv.1 = k)) = some (k, v) := by
  induction kvs with
  | nil => simp at h
  | cons p kvs ih =>
    rw [List.map_cons]
    by_cases e : p.1 = k
    · rw [if_pos e, List.find?_cons_of_pos (by simp [e]), e]
    · rw [if_neg e, List.find?_cons_of_neg (by simp [e])]
      rw [List.any_cons, decide_eq_false e, Bool.false_or] at h
      exact ih h
theorem valD_put {kvs : KvD} {k j : Key} {v : Dv} : valD (putDk kvs k v) j = if j = k then some v else valD kvs j := by
  unfold putDk valD
  by_cases e2 : j = k
  · subst e2
    rw [if_pos rfl]
    split
    · rename_i h
      rw [find_here h]
      rfl
    · rename_i h
      rw [List.find?_append]
      have : kvs.find? (fun kv => decide (kv.1 = j)) = none := by
        rw [List.find?_eq_none]
        intro x hx q
        exact h (List.any_eq_true.mpr ⟨x, hx, q⟩)
      rw [this]
      simp
  · rw [if_neg e2]
    split
    · rw [find_rep e2]
    · rw [List.find?_append]
      have : ([(k, v)] : KvD).find? (fun kv => decide (kv.1 = j)) = none := by
        simp
        exact fun z => e2 z.symm
      rw [this]
      simp
theorem valD_mem {kvs : KvD} {k : Key} {d : Dv} (h : valD kvs k = some d) : (k, d) ∈ kvs := by
  unfold valD at h
  rw [Option.map_eq_some_iff] at h
  obtain ⟨p, hp, rfl⟩ := h
  have h1 := List.find?_some hp
  have h2 := List.mem_of_find?_eq_some hp
  rw [← of_decide_eq_true h1]
  exact h2
theorem putDk_len (kvs : KvD) (k : Key) (v : Dv) : (putDk kvs k v).length ≤ kvs.length + 1 := by
  unfold putDk
  split
  · rw [List.length_map]; omega
  · rw [List.length_append]; exact Nat.le_refl _
theorem valD_none {kvs : KvD} {k : Key} : valD kvs k = none ↔ ∀ p, p ∈ kvs → p.1 ≠ k := by
  unfold valD
  rw [Option.map_eq_none_iff, List.find?_eq_none]
  simp
end DL

/-! a lambda of one parameter, called by a built-in; sorted(range(..), key=lambda ..) -/
namespace DL
open PySem PySem.Spec PyProof.Rows L2 LamX
structure LamS1 (sc scope : Scope) (a : Str) : Prop where
  kind : scope.kind = .function
  co : scope.isCoroutine = false
  gen : scope.isGenerator = false
  loc : scope.names.lookup a = some .local
  own : ∀ y ∈ scope.names, y.2 ≠ .cell ∧ (y.2 = .local → y.1 = a)
  free : ∀ y ∈ scope.names, y.2 = .free → sc.names.lookup y.1 = some .cell ∨ sc.names.lookup y.1 = some .free
def lamS1B (sc scope : Scope) (a : Str) : Bool :=
  decide (scope.kind = .function) && !scope.isCoroutine && !scope.isGenerator && decide (scope.names.lookup a = some .local) && scope.names.all fun y => !decide (y.2 = .cell) && (!decide (y.2 = .local) || decide (y.1 = a)) && (!decide (y.2 = .free) || decide (sc.names.lookup y.1 = some .cell) || decide (sc.names.lookup y.1 = some .free))
theorem lamS1_by {sc scope : Scope} {a : Str} (h : lamS1B sc scope a = true) : LamS1 sc scope a := by
  unfold lamS1B at h
  simp only [Bool.and_eq_true, Bool.or_eq_true, Bool.not_eq_true', decide_eq_true_eq, decide_eq_false_iff_not, List.all_eq_true] at h
  obtain ⟨⟨⟨⟨h1, h2⟩, h3⟩, h5⟩, h4⟩ := h
  refine ⟨h1, h2, h3, h5, fun y hy => ⟨(h4 y hy).1.1, fun e => ?_⟩, fun y hy e => ?_⟩
  · rcases (h4 y hy).1.2 with z | z
    · exact absurd e z
    · exact z
  · rcases (h4 y hy).2 with (z | z) | z
    · exact absurd e z
    · exact .inl z
    · exact .inr z
theorem LamS1.has {X : Cx} {scope : Scope} {a : Str} (L : LamS1 X.env.scope scope a) (ok : X.Ok) : ∀ y ∈ scope.names, y.2 = .free → ∃ c, X.env.cells.lookup y.1 = some c := fun y hy e => by
  rcases L.free y hy e with k | k
  · exact ok.has _ (.inl k)
  · exact ok.has _ (.inr k)
section
variable {X : Cx} {pins : List (Addr × Obj)} {σ : L2.St} {H HZ : Hp} {s s1 : Shared}
theorem lam_start1 {A : Around} {outer : List Env} {E : XK} {scope : Scope} {f c' : Addr} {h₁ : Heap} {tk : Nat} {a : Str} {j : Nat} {v : V} {u : Value} (I : Inv X pins σ H s) (L : LamS1 X.env.scope scope a) (hN : X.N.Nodup) (hj : X.N[j]? = some a) (rv : RelV v u)
    (e0 : Env0 X.prog X.w X.K X.mg X.base A outer s1 HZ) (hd : A.handled = none)
    (un : Un (frs X.stack) [] H HZ s.heap s1.heap) (hns : h₁.Ns s1.heap.objs.size fun y => ([(a, u)] : List (Str × Value)).reverse.lookup y) (kp : ∀ b o, s1.heap.get? b = some o → h₁.get? b = some o) :
    Inv (lamCx X A outer s1 HZ E scope f c') [] (σ.set j (some v)) HZ { s1 with heap := h₁, toks := tk } := by
  have hfree := L.has I.ok
  have cm : ∀ {y c}, (cloFrom X.env.cells scope.names []).lookup y = some c → X.env.cells.lookup y = some c := fun {y c} e => by
    rcases cloFrom_mem (PySem.mem_of_lookup e) with hm | ⟨h1, h2⟩
    · cases hm
    · obtain ⟨c1, hc⟩ := hfree _ h1 rfl
      have hc : X.env.cells.lookup y = some c1 := hc
      have e2 : c = c1 := by
        rw [h2, hc] <;> rfl
      rw [e2]
      exact hc
  have look : ∀ {y}, scope.names.lookup y = some .free → ∃ c, (cloFrom X.env.cells scope.names []).lookup y = some c := fun {y} hl => by
    have hy : (y, NameKind.free) ∈ scope.names := PySem.mem_of_lookup hl
    exact mem_lookup (cloFrom_has (cells := X.env.cells) (acc := []) hy)
  have cellK : ∀ {c : Addr} {v : Option Value}, H c = none → s.heap.IsCell c v → h₁.IsCell c v := fun {c v} n ⟨o, ho, hd⟩ => by
    obtain ⟨sl, q⟩ := un.any ho n (by simp)
    exact ⟨_, kp _ _ q, hd⟩
  have noA : ∀ b : Addr, b ∉ (lamCx X A outer s1 HZ E scope f c').ex := fun b z => absurd (show b ∈ ([] : List Addr) from z) (by simp)
  refine ⟨⟨e0.mod, L.kind, rfl, rfl, Nat.le_refl _, fun y z c e1 e2 => I.ok.inj y z c (cm e1) (cm e2), fun y hy => ?_, fun y c z _ => ?_, fun _ => hd, Around.frames_deeper e0.frames, .inr ⟨rfl, rfl⟩, fun b z => absurd z (noA b), e0.bs, e0.bsz, fun b _ _ => noA b,
      fun b z => absurd z (noA b), e0.funs, e0.frf⟩,
    rfl, e0.bare, Un.kept kp, ⟨_, hns, fun i y w e1 e2 e3 => ?_⟩, fun y c e => ?_, e0.hok.fresh (Nat.le_refl _), fun y c e => ?_, fun q hq => absurd (show q ∈ ([] : List (Addr × Obj)) ++ [] from hq) (by simp), e0.hok.kept kp, by rw [List.length_set]; exact I.len⟩
  · have hy : scope.names.lookup y = some .cell ∨ scope.names.lookup y = some .free := hy
    rcases hy with hy | hy
    · exact absurd rfl (L.own _ (PySem.mem_of_lookup hy)).1
    · exact look hy
  · have z : false = true := z
    cases z
  · have e1 : X.N[i]? = some y := e1
    have e3 : Vis scope y := e3
    by_cases hij : j = i
    · subst hij
      rw [hj] at e1
      cases e1
      have hlt : j < σ.length := by
        rw [I.len]
        exact (List.getElem?_eq_some_iff.mp hj).1
      rw [List.getElem?_set_self hlt] at e2
      cases e2
      exact ⟨u, rv, .inl ⟨L.loc, by simp⟩⟩
    · rw [List.getElem?_set_ne hij] at e2
      have hya : y ≠ a := fun z => by
        subst z
        exact hij ((List.getElem?_inj (List.getElem?_eq_some_iff.mp hj).1 hN).mp (hj.trans e1.symm))
      rcases e3 with k | k | k
      · exact absurd ((L.own _ (PySem.mem_of_lookup k)).2 rfl) hya
      · exact absurd rfl (L.own _ (PySem.mem_of_lookup k)).1
      · obtain ⟨m, hn, hl⟩ := I.loc
        have hvis : Vis X.env.scope y := (L.free _ (PySem.mem_of_lookup k) rfl).elim (fun k => .inr (.inl k)) (fun k => .inr (.inr k))
        obtain ⟨w', r, q⟩ := hl i y w e1 e2 hvis
        obtain ⟨c2, h2⟩ := look k
        refine ⟨w', r, .inr ⟨.inr k, c2, h2, ?_⟩⟩
        have c1 := cm h2
        rcases q with ⟨k', _⟩ | ⟨_, c3, e', z⟩
        · have k' : X.env.scope.names.lookup y = some .local := k'
          rcases L.free _ (PySem.mem_of_lookup k) rfl with k2 | k2 <;> rw [show X.env.scope.names.lookup y = _ from k2] at k' <;> cases k'
        · rw [c1] at e'
          cases e'
          exact cellK (I.freeC y _ c1) z
  · obtain ⟨w', z⟩ := I.cell y c (cm e)
    exact ⟨w', cellK (I.freeC y c (cm e)) z⟩
  · obtain ⟨v, o, ho, hd⟩ := I.cell y c (cm e)
    exact un.free c o ho (I.freeC y c (cm e)) (by simp)
/-- the lambda's object -/
abbrev IsLam (X : Cx) (h : Heap) (f c' : Addr) (params : Arguments) (body : Expr) (scope : Scope) (pm ctv : Value) : Prop := h.get? f = some (PySem.W.kla_obj "<lambda>" (X.env.qual ++ "<lambda>") params body scope (cloFrom X.env.cells scope.names []) pm c' ctv)
theorem lam_call1 {A : Around} {params : Arguments} {body : Expr} {scope : Scope} {f c' : Addr} {pm ctv : Value} {k j : Nat} {a : Str} {v : V} {u : Value} {tb : TE} {Q : VK} (hr : Room (k + 1) A) (I : Inv X pins σ H s) (e0 : Env0 X.prog X.w X.K X.mg X.base A X.stack s H)
    (L : LamS1 X.env.scope scope a) (hN : X.N.Nodup) (hj : X.N[j]? = some a) (rv : RelV v u) (hf : IsLam X s.heap f c' params body scope pm ctv) (hco : H c' = some (CodeO c' (X.env.qual ++ "<lambda>")))
    (hbind : ∀ u, bindArgs (PySem.W.kla_fn "<lambda>" (X.env.qual ++ "<lambda>") params body scope (cloFrom X.env.cells scope.names []) pm (.ref c') ctv) ⟨[u], []⟩ = pure [(a, u)])
    (hbody : Room k (A.deeper (lamEnv X scope s.heap.objs.size f c')) → PE (lamCx X A X.stack s H (fun _ _ _ => False) scope f c') body tb) (ht : tb (σ.set j (some v)) H Q) :
    wpAny (model X.prog X.w) A (call (.ref f) [u]) (fun u' s' => ∃ v' H', Inv X pins σ H' s' ∧ RelV v' u' ∧ Q v' H' ∧ Un (frs X.stack) [] H H' s.heap s'.heap) (fun _ _ => False) s := by
  obtain ⟨⟨oc, vs, t, hoc, hdc, hvc⟩, _, _⟩ := I.hok c' _ hco
  have rc : codeAny (model X.prog X.w) A (.call (.ref f) ⟨[u], []⟩) (CR (L2.CX X.prog X.w) X.stack X.prog X.w H s Q (fun _ _ _ => False)) s := by
    refine PySem.W.kla_callFunE hr.depth hf rfl L.co L.gen rfl ⟨c', oc, vs, t, rfl, hoc, hdc, hvc⟩ ?_
    rw [hbind]
    refine wpAny_pure (wpAny_newFunctionEnv (fun y hy => (L.own y hy).1) (fun y hy => ?_) (fun h₁ hns hsb => ⟨I.nolimit.fresh _ hsb, ?_⟩) L.kind)
    · obtain rfl := List.mem_singleton.mp hy
      exact L.loc
    show codeAny _ _ (.expr body (lamEnv X scope s.heap.objs.size f c')) _ _
    have kp : ∀ b o, s.heap.get? b = some o → h₁.get? b = some o := fun b o e => hsb.extBut b o (Nat.ne_of_lt (Heap.lt_size e)) (Heap.get?_push_of_some _ e)
    have J : Inv (lamCx X A X.stack s H (fun _ _ _ => False) scope f c') [] (σ.set j (some v)) H { s with heap := h₁, toks := s.toks + ([(a, u)] : List (Str × Value)).length } :=
      lam_start1 I L hN hj rv e0 hr.hd Un.refl hns kp
    refine PySem.W.kla_codeExpr (wpAny_mono ((hbody (hr.deeper _)).run [] _ _ H Q J ht) (fun v s' hq => ?_) fun e s' hq => hq)
    obtain ⟨w', H', J', rv', q⟩ := hq
    exact ⟨w', H', J'.os, J'.bare, J'.base, J'.hok, rv', q⟩
  refine wpAny_call (codeAny_mono rc fun r s' hq => ?_)
  cases r with
  | error e =>
    obtain ⟨_, _, _, _, _, _, _, _, _, _, _, _, _, _, _, _, z⟩ := hq
  | ok fl =>
    cases fl with
    | ret u' =>
      obtain ⟨v', H', os, bare, un, hok, r, q⟩ := hq
      obtain ⟨hh, g, d, t, os'⟩ := s'
      obtain rfl : os' = s.os := os
      exact ⟨v', H', I.call (h' := hh) (g' := g) (d' := d) (t' := t) (ch := []) un hok bare (fun b z => absurd z (by simp)), r, q, un⟩
    | next => exact False.elim hq
    | brk => exact False.elim hq
    | cont => exact False.elim hq
end
end DL
namespace DL
open PySem PySem.Spec PyProof.Rows L2 LamX
/-! ### list.sort(key=f), f's calls under a standing of one's own -/
section
open PySem.W
variable {prog : Program} {w : World} {A : Around} {E : Value → Shared → Prop} {s : Shared} {a kS : Addr} {vs : List Value} {e1 : Nat} {P : PySem.Fin → Shared → Prop} {kz : List PyData}
theorem keyJ_rest {f : Value} {J : Nat → Array Value → Shared → Prop} (hka : kS ≠ a) (hZ : vs.length ≤ sizeLine) (hal : AllAlike kz) (hsk : Sortable kz) (hu : ∀ d, d ∈ kz → A.units + d.depth < cLine)
    (nk : s.heap.get? kS = some (seqObj "list" #[] 0)) (na : s.heap.get? a = some (seqObj "list" #[] e1)) (j0 : J 0 #[] s)
    (turn : ∀ (i : Nat) (v : Value) (kA : Array Value) (e : Nat) (s' : Shared), vs[i]? = some v → J i kA s' → s'.heap.get? kS = some (seqObj "list" kA e) → s'.heap.get? a = some (seqObj "list" #[] e1) →
      wpAny (model prog w) A (call f [v]) (fun u s'' => s''.heap.get? kS = some (seqObj "list" kA e) ∧ s''.heap.get? a = some (seqObj "list" #[] e1) ∧ J (i + 1) (kA.push u) { s'' with heap := s''.heap.update kS (Obj.mapSeq (·.push u)) }) (fun _ _ => False) s')
    (rd : ∀ kA s', J vs.length kA s' → EachIs (fun v k => ∃ as, Reads s'.heap v k as) kA.toList kz)
    (h : ∀ kA s' h' tk out c, J vs.length kA s' → (∀ b o, b ≠ a → b ≠ kS → s'.heap.get? b = some o → h'.get? b = some o) → h'.get? a = some (seqObj "list" (List.toArray out) c) → KeyedOut false kz vs out → P (.done (.ret .none)) { s' with heap := h', toks := tk }) :
    wpAny (model prog w) A (ksk_rest a f false vs.toArray e1 (.ref kS)) P E s := by
  unfold ksk_rest
  refine wpAny_bind (wpAny_rule ?_)
  first
    | rw [List.forIn_toArray]
    | (rw [← Array.forIn_toList]; simp only [List.toList_toArray])
    | rw [← Array.forIn_toList]
  refine wpAny_bind (ksk_fold (fun i s' => ∃ kA e, s'.heap.get? kS = some (seqObj "list" kA e) ∧ s'.heap.get? a = some (seqObj "list" #[] e1) ∧ J i kA s' ∧ kA.size = i) vs 0 s ⟨#[], 0, nk, na, j0, rfl⟩ ?step ?done)
  case step =>
    rintro j x s' hx ⟨kA, e, nk', na', hJ, hsz⟩
    simp only [Nat.zero_add] at hJ hsz ⊢
    have hj : j < vs.length := (List.getElem?_eq_some_iff.mp hx).1
    refine wpAny_bind (wpAny_attempt (wpAny_mono (turn j x kA e s' hx hJ nk' na') (fun v s'' he => ?_) fun _ _ hF => hF.elim))
    obtain ⟨nk2, na2, hJ2⟩ := he
    try dsimp only
    have s1 := Heap.SameBut.update s''.heap kS (Obj.mapSeq (·.push v))
    obtain ⟨c2, hc2⟩ : ∃ c2, (s''.heap.update kS (Obj.mapSeq (·.push v))).get? kS = some (seqObj "list" (kA.push v) c2) := ⟨_, get?_update_seq nk2 (·.push v)⟩
    have hz : kA.size ≤ sizeLine := by omega
    refine wpAny_bind (listUpdate_at nk2 rfl ?_ hz (Nat.le_trans (Nat.le_of_eq (Array.size_push ..)) (Nat.succ_le_succ hz)))
    exact wpAny_pure ⟨rfl, kA.push v, c2, hc2, (s1.2 a hka.symm).trans na2, hJ2, by rw [Array.size_push, hsz]⟩
  case done =>
    rintro s' ⟨kA, e, nk', na', hJ, hsz⟩
    simp only [Nat.zero_add] at hJ hsz
    have hk' := rd kA s' hJ
    try dsimp only
    refine wpAny_bind (listItems_at nk' rfl ?_)
    exact keyH_end (κ := dataKind s'.heap kz) (h₁ := hideAll s'.heap [kS]) (fun b o _ e => of_hideAll [kS] e) (hideAll_none [kS] (.head _)) nk' na' hka (SortsAt.data hk' hal hsk hu) hsz hZ
      fun h3 tk3 c k3 n3 => h kA s' h3 tk3 _ c hJ (fun b o hb hbk e => k3 b o hb (hideAll_get [kS] e (by simpa using hbk))) n3 ⟨s'.heap, kA.toList, hal, rfl, hk'⟩
theorem keyJ_tree {f : Value} {n : Nat} {J : Nat → Array Value → Shared → Prop} (ho : s.heap.get? a = some (seqObj "list" vs.toArray n)) (hZ : vs.length ≤ sizeLine) (hal : AllAlike kz) (hsk : Sortable kz) (hu : ∀ d, d ∈ kz → A.units + d.depth < cLine)
    (j0 : J 0 #[] { s with heap := sortingHeap s.heap a vs })
    (turn : ∀ (e1 : Nat) (i : Nat) (v : Value) (kA : Array Value) (e : Nat) (s' : Shared), vs[i]? = some v → J i kA s' → s'.heap.get? (s.heap.objs.size + 1) = some (seqObj "list" kA e) → s'.heap.get? a = some (seqObj "list" #[] e1) →
      wpAny (model prog w) A (call f [v]) (fun u s'' => s''.heap.get? (s.heap.objs.size + 1) = some (seqObj "list" kA e) ∧ s''.heap.get? a = some (seqObj "list" #[] e1) ∧ J (i + 1) (kA.push u) { s'' with heap := s''.heap.update (s.heap.objs.size + 1) (Obj.mapSeq (·.push u)) }) (fun _ _ => False) s')
    (rd : ∀ kA s', J vs.length kA s' → EachIs (fun v k => ∃ as, Reads s'.heap v k as) kA.toList kz)
    (h : ∀ kA s' h' tk out c, J vs.length kA s' → (∀ b o, b ≠ a → b ≠ s.heap.objs.size + 1 → s'.heap.get? b = some o → h'.get? b = some o) → h'.get? a = some (seqObj "list" (List.toArray out) c) → KeyedOut false kz vs out → P (.done (.ret .none)) { s' with heap := h', toks := tk }) :
    wpAny (model prog w) A (ksk_tree a f false) P E s := by
  have ha : a < s.heap.objs.size := Heap.lt_size ho
  obtain ⟨e1, ho1⟩ : ∃ e1, (s.heap.update a (Obj.mapSeq fun _ => (#[] : Array Value))).get? a = some (seqObj "list" #[] e1) := ⟨_, get?_update_seq ho fun _ => #[]⟩
  have hkS : ((s.heap.update a (Obj.mapSeq fun _ => (#[] : Array Value))).push (seqObj "tuple" vs.toArray 0)).objs.size = s.heap.objs.size + 1 := by rw [size_push', Heap.size_update]
  unfold ksk_tree
  refine wpAny_bind (listItems_at ho rfl ?_)
  refine wpAny_bind (listUpdate_at ho rfl ?_ (by rw [List.size_toArray]; exact hZ) (Nat.zero_le _))
  refine wpAny_bind (seqEpoch_at ho1 rfl ?_)
  refine wpAny_bind (wpAny_newTuple ?_ (by show vs.length ≤ _; exact hZ))
  refine wpAny_bind (wpAny_newList ?_ (Nat.zero_le _))
  refine wpAny_holding ?_
  show wpAny _ _ (ksk_rest a f false vs.toArray e1 (.ref ((s.heap.update a (Obj.mapSeq fun _ => (#[] : Array Value))).push (seqObj "tuple" vs.toArray 0)).objs.size)) _ _ _
  rw [hkS]
  refine keyJ_rest (kz := kz) (J := J) (kS := s.heap.objs.size + 1) (s := { s with heap := sortingHeap s.heap a vs }) (Nat.ne_of_gt (Nat.lt_succ_of_lt ha)) hZ hal hsk hu ?_ (Heap.get?_push_of_some _ (Heap.get?_push_of_some _ ho1)) j0 (turn e1) rd h
  have := Heap.get?_push_size ((s.heap.update a (Obj.mapSeq fun _ => (#[] : Array Value))).push (seqObj "tuple" vs.toArray 0)) (o := seqObj "list" #[] 0) rfl
  rw [hkS] at this
  exact this
end
end DL
namespace DL
open PySem PySem.Spec PyProof.Rows L2 LamX
theorem each_get {α β : Type} {R : α → β → Prop} : ∀ {as : List α} {bs : List β}, as.length = bs.length → (∀ (i : Nat) a b, as[i]? = some a → bs[i]? = some b → R a b) → PySem.W.EachIs R as bs
  | [], [], _, _ => .nil
  | [], _ :: _, h, _ => by simp at h
  | _ :: _, [], h, _ => by simp at h
  | a :: as, b :: bs, h, q => .cons (q 0 a b rfl rfl) (each_get (by simpa using h) fun i x y h1 h2 => q (i + 1) x y h1 h2)
theorem vals_of_each : ∀ {us : List Value} {is : List Int}, PySem.W.EachIs (fun (v : Value) (i : Int) => ∃ t, v = .int i t) us is → Vals (is.map V.int) us
  | _, _, .nil => .nil
  | _, _, .cons h r => .cons h (vals_of_each r)
theorem sqT_un {K : PySem.W.Frag} {fs ex : List Addr} {H H' : Hp} {h h' : Heap} {a : Addr} {xs : List V} (u : Un fs ex H H' h h') (q : SqT K H a xs) : SqT K H' a xs := by
  rcases q with (q | ⟨o, q⟩) | q
  · exact .inl (.inl (u.tups _ _ q))
  · exact .inl (.inr ⟨o, u.frzs _ _ _ q⟩)
  · exact .inr q
def rgI (lo hi : Int) : List Int := (List.range (hi - lo).toNat).map fun i => lo + (i : Nat)
/-- lo .. hi - 1 by their keys, those of one key as they are -/
def sortK (key : Int → Int) (lo hi : Int) : List Int := (rgI lo hi).mergeSort fun p q => decide (key p < key q ∨ (key p = key q ∧ p ≤ q))
theorem inv_many2 {X : Cx} {pins : List (Addr × Obj)} {s : Shared} {σ : L2.St} {H H' : Hp} {h' : Heap} {ch : List Addr} {tk : Nat} (I : Inv X pins σ H s) (hf : ∀ b ∈ ch, FpOk X pins H b)
    (k : ∀ b o, b ∉ ch → s.heap.get? b = some o → h'.get? b = some o) (hH : ∀ b o, H b = some o → H' b = some o) (hN : ∀ b, b ∉ ch → H b = none → b < s.heap.objs.size → H' b = none)
    (hok : ∀ b u, H b = none → H' b = some u → ObjOk X.prog X.w H' h' b u) : Inv X pins σ H' { s with heap := h', toks := tk } := by
  have nit : ∀ b u, H b = some u → b ∉ ch := fun b u e z => by
    have q := (hf b z).1
    rw [q] at e; cases e
  refine I.call (g' := s.gens) (d' := s.drawn) (ch := ch) ⟨fun b o e _ _ hc => k b o hc e, fun b o e _ _ hc => ⟨o.slots, k b o hc e⟩, fun b o e n hc => hN b hc n (Heap.lt_size e), fun b o e hc => ⟨o, k b o hc e⟩, fun b xs e => hH _ _ e, fun b o u e => hH _ _ e, fun b ps e => ⟨#[], by rw [hH _ _ e]; simp⟩⟩ (fun b u e => ?_) I.bare
    (fun b hb => ⟨(hf b hb).2.2.2.1, (hf b hb).2.1, (hf b hb).2.2.2.2.1, (hf b hb).2.2.2.2.2⟩)
  cases q : H b with
  | none => exact hok b u q e
  | some u' =>
    have e2 := hH b u' q
    rw [e] at e2
    cases e2
    refine (I.hok b u q).stay (fun c v hc e3 => k c v ?_ e3) (fun c e3 => hH _ _ e3) fun c xs e3 => hH _ _ e3
    rcases hc with rfl | hc
    · exact nit _ _ q
    · exact nit _ _ hc
section
variable {X : Cx} {pins : List (Addr × Obj)} {σ : L2.St} {H : Hp} {s : Shared}
theorem key_reads {X : Cx} {pins : List (Addr × Obj)} {σ : L2.St} {H : Hp} {s : Shared} {T : Addr} {i j : Int} (I : Inv X pins σ H s) (q : SqT X.K H T [.int i, .int j]) : ∃ as, Reads s.heap (.ref T) (.tuple [.int i, .int j]) as := by
  obtain ⟨its, rv, ⟨o, ho, hc, n, hd⟩, _⟩ := I.tuple q
  cases rv with
  | cons r1 r =>
    cases r with
    | cons r2 r =>
      cases r
      obtain ⟨t1, rfl⟩ := r1
      obtain ⟨t2, rfl⟩ := r2
      exact ⟨_, .tuple ho hc hd (.cons (.int i t1) (.cons (.int j t2) .nil))⟩
/-- a range's numbers, collected: the heap has grown -/
theorem collect_range2 {prog : Program} {w : World} {A : Around} {E : Value → Shared → Prop} {s : Shared} {r : Addr} {a b c : Int} {t u v : Tok} {n : Nat} {Q : List Value → Shared → Prop} (hh : A.handled = none) (hr : IsRange s.heap r a b c t u v) (hsmall : Builtin.Range.small a b c = true)
    (hn : Builtin.Range.rangeSize a b c = n) (hlen : n ≤ 2 ^ 24)
    (hQ : ∀ (h' : Heap) (tk : Nat) (acc : Array Value), s.heap.objs.size ≤ h'.objs.size → (∀ b o, s.heap.get? b = some o → h'.get? b = some o) → ItemsOf (fun i v => ∃ t, v = .int (a + i * c) t) acc n → Q acc.toList { s with heap := h', toks := tk }) :
    wpAny (model prog w) A (collect (.ref r)) Q E s := by
  let Z : Result → Shared → Prop := fun rr s' => rr = .ok (.ret (.ref s.heap.objs.size)) ∧ ∃ (h' : Heap) (tk : Nat) (acc : Array Value) (c' : Nat), s' = { s with heap := h', toks := tk } ∧
    (∀ b o, s.heap.get? b = some o → h'.get? b = some o) ∧ h'.get? s.heap.objs.size = some { cls := .type "list", dict := none, data := .seq acc c', slots := #[] } ∧ ItemsOf (fun i v => ∃ t, v = .int (a + i * c) t) acc n
  unfold collect
  refine wpAny_bind (wpAny_runValue (codeAny_builtin F.entry_proto_collect ?_))
  rw [Around.under_plainId F.plain_proto_collect _]
  refine wpAny_bind (wpAny_newObj_type ?_)
  refine wpAny_pure ⟨plainId_quiet F.plain_list_iadd _, codeAny_builtin F.entry_list_iadd ?_⟩
  rw [Around.under_plainId F.plain_list_iadd _]
  have hS : (s.heap.push { cls := .type "list", data := .seq ([] : List Value).toArray }).get? s.heap.objs.size = some { cls := .type "list", data := .seq #[] 0 } := Heap.get?_push_size _ rfl
  refine wpAny_mono (wpAny_extend_range (A := A) (R := Z) (s := { s with heap := s.heap.push { cls := .type "list", data := .seq ([] : List Value).toArray } }) hh (Heap.get?_push_of_some _ hr) hsmall hn hlen _ (.ref s.heap.objs.size) 0 hS
    (fun h' tk acc c' hk e hi => ⟨rfl, h', tk, acc, c', rfl, fun b o q => hk b o (Nat.ne_of_lt (Heap.lt_size q)) (Heap.get?_push_of_some _ q), e, hi⟩)) (fun fl s' h => ?_) (fun e s' h => absurd h.1 (by simp))
  cases fl with
  | done f =>
    obtain ⟨e, h', tk, acc, c', rfl, hk, hS', hi⟩ := h
    cases e
    exact wpAny_bind (wpAny_load hS' (wpAny_pure (hQ h' tk acc (Nat.le_of_lt (Heap.lt_size hS')) hk hi)))
  | again c' =>
    refine ⟨h.1, codeAny_mono h.2 fun rr s'' hr' => ?_⟩
    obtain ⟨rfl, h', tk, acc, c', rfl, hk, hS', hi⟩ := hr'
    exact wpAny_bind (wpAny_load hS' (wpAny_pure (hQ h' tk acc (Nat.le_of_lt (Heap.lt_size hS')) hk hi)))
theorem sortK_run {r f c' : Addr} {lo hi : Int} {t u v : Tok} {a : Str} {k j : Nat} {params : Arguments} {body : Expr} {scope : Scope} {pm ctv : Value} {tb : TE} {Q : VK} {G : Hp → Prop} {key : Int → Int}
    (I : Inv X pins σ H s) (hc : X.calm = true) (hr : IsRange s.heap r lo hi 1 t u v) (ok : RgOk lo hi) (room : Room (k + 3) X.A) (L : LamS1 X.env.scope scope a) (hN : X.N.Nodup) (hj : X.N[j]? = some a)
    (hf : IsLam X s.heap f c' params body scope pm ctv) (hfn : H f = none) (hfr : f ∉ frs X.stack)
    (hbind : ∀ u, bindArgs (PySem.W.kla_fn "<lambda>" (X.env.qual ++ "<lambda>") params body scope (cloFrom X.env.cells scope.names []) pm (.ref c') ctv) ⟨[u], []⟩ = pure [(a, u)])
    (hbody : ∀ (A : Around) (s : Shared) (H : Hp), Room k (A.deeper (lamEnv X scope s.heap.objs.size f c')) → PE (lamCx X A X.stack s H (fun _ _ _ => False) scope f c') body tb)
    (g0 : G H) (gco : ∀ H', G H' → H' c' = some (CodeO c' (X.env.qual ++ "<lambda>")))
    (ht : ∀ i, lo ≤ i → i < hi → ∀ H', G H' → tb (σ.set j (some (.int i))) H' (fun v H2 => G H2 ∧ ∃ T, v = .ref T ∧ SqT X.K H2 T [.int (key i), .int i]))
    (q : ∀ H' p, G H' → H' p = none → Q (.ref p) (upd H' p (.lst ((sortK key lo hi).map V.int)))) :
    wpAny (model X.prog X.w) X.A (call (.builtin "sorted") [.ref r] [(Str.ofString "key", .ref f)]) (EP X pins σ Q) X.xe s := by
  obtain ⟨b1, b2, b3, b4, b5⟩ := ok
  have off : ∀ b, s.heap.objs.size ≤ b → b ∉ frs X.stack := fun b hb z => by
    rcases List.mem_cons.mp (I.stkSub _ z) with e | e
    · have h1 := I.lt
      rw [← e] at h1
      exact absurd h1 (Nat.not_lt.mpr hb)
    · exact I.nofs hb e
  refine PyProof.Rows.call_function_entry_kw PyProof.Rows.kind_sorted PyProof.Rows.plain_sorted PyProof.Rows.entry_sorted (PyProof.Rows.ksk_s1 _ _) ?_
  unfold Builtin.«sorted»
  refine wpAny_bind (m := checkCount "sorted" 1 1 _) (wpAny_pure ?_)
  refine wpAny_bind (collect_range2 (A := X.A.in1) (n := (hi - lo).toNat) (I.ok.hd hc) hr (small_one b1 b2 b3 b4) (rangeSize_nat lo hi) b5 fun h0 tk0 acc hsz0 hk0 hacc => ?_)
  have hlen : acc.toList.length = (hi - lo).toNat := by rw [Array.length_toList]; exact hacc.1
  have hZ : acc.toList.length ≤ sizeLine := by rw [hlen, sizeLine_eq]; omega
  refine wpAny_bind (wpAny_newList ?_ hZ)
  generalize ehs : h0.push { cls := .type "list", data := .seq acc.toList.toArray } = hs
  have ha : hs.get? h0.objs.size = some (seqObj "list" acc.toList.toArray 0) := by rw [← ehs]; exact Heap.get?_push_size _ rfl
  have hk1 : ∀ b o, s.heap.get? b = some o → hs.get? b = some o := fun b o e => by rw [← ehs]; exact Heap.get?_push_of_some _ (hk0 b o e)
  have hss : hs.objs.size = h0.objs.size + 1 := by rw [← ehs]; exact Heap.size_push ..
  refine wpAny_bind (wpAny_holding (PyProof.Rows.wpAny_call_entry_kw PyProof.Rows.slot_list_sort ⟨_, ha, rfl⟩ PyProof.Rows.entry_list_sort ?body (PyProof.Rows.ksk_l1 _ _)))
  case body =>
    show wpAny _ X.A.in1.in1 (Builtin.«list.sort» ⟨[.ref h0.objs.size], [(Str.ofString "key", .ref f)]⟩) _ _ _
    rw [PyProof.Rows.ksk_t1]
    have fpk : FpOk X pins H (hs.objs.size + 1) := I.fpOk (by omega) (I.hok.fresh (by omega))
    have fpa : FpOk X pins H h0.objs.size := I.fpOk hsz0 (I.hok.fresh hsz0)
    have hfl : f < s.heap.objs.size := Heap.lt_size hf
    have fne : f ≠ hs.objs.size + 1 := Nat.ne_of_lt (Nat.lt_of_lt_of_le hfl (by omega))
    have kpS : ∀ b o, s.heap.get? b = some o → (PySem.W.sortingHeap hs h0.objs.size acc.toList).get? b = some o := fun b o e =>
      PySem.W.sortingHeap_old (Nat.ne_of_lt (Nat.lt_of_lt_of_le (Heap.lt_size e) hsz0)) (hk1 b o e)
    refine keyJ_tree (a := h0.objs.size) (vs := acc.toList) (n := 0) (kz := (rgI lo hi).map fun i => .tuple [.int (key i), .int i])
      (J := fun i kA s' => ∃ H', Inv X pins σ H' s' ∧ G H' ∧ H' (hs.objs.size + 1) = none ∧ H' h0.objs.size = none ∧ H' f = none ∧ IsLam X s'.heap f c' params body scope pm ctv ∧ kA.size = i ∧
        ∀ (j' : Nat) u, kA[j']? = some u → ∃ T, u = .ref T ∧ SqT X.K H' T [.int (key (lo + (j' : Nat))), .int (lo + (j' : Nat))])
      (s := { s with heap := hs, toks := tk0 }) ha hZ (PySem.W.AllAlike.of fun _ _ => by simp [PySem.W.alike, PySem.W.alikeAll]) (PySem.W.Sortable.tuples fun _ => ⟨_, _, rfl⟩) (fun d hd => ?_)
      ⟨H, I.kept kpS, g0, fpk.1, fpa.1, hfn, kpS _ _ hf, rfl, fun j' u e => by simp at e⟩ (fun e1 i v kA e s' hv hJ nk na => ?_) (fun kA s' hJ => ?_) (fun kA s' h' tk out c hJ kp ho ko => ?_)
    · obtain ⟨i, _, rfl⟩ := List.mem_map.mp hd
      have hd : (PyData.tuple [.int (key i), .int i]).depth = 1 := by simp [PyData.depth, PyData.depthAll]
      have := room.un
      rw [hd]
      show X.A.units + 1 + 1 + 1 < cLine
      omega
    · obtain ⟨H', I', g', nS, nA, nF, lam, sz, keys⟩ := hJ
      obtain ⟨t, rfl⟩ := hacc.2 i v (by rw [← hv, Array.getElem?_toList])
      rw [Int.mul_one]
      have hi' : i < (hi - lo).toNat := by rw [← hlen]; exact (List.getElem?_eq_some_iff.mp hv).1
      have e0 := I'.env0.in1.in1
      have ro : Room (k + 1) X.A.in1.in1 := (Room.in1 (k := k + 1) (Room.in1 (k := k + 2) room))
      refine wpAny_mono (lam_call1 (A := X.A.in1.in1) (k := k) (v := .int (lo + (i : Nat))) ro I' e0 L hN hj ⟨t, rfl⟩ lam (gco _ g') hbind (hbody _ _ _) (ht _ (by omega) (by omega) H' g')) (fun u s'' hq => ?_) fun _ _ z => z
      obtain ⟨v', H2, I2, rv, ⟨g2, T, rfl, sq⟩, un⟩ := hq
      cases rv
      have nk2 := un.keep _ _ nk nS (off (hs.objs.size + 1) (by omega)) (by simp)
      have na2 := un.keep _ _ na nA (off _ hsz0) (by simp)
      have s1 := Heap.SameBut.update s''.heap (hs.objs.size + 1) (Obj.mapSeq (·.push (.ref T)))
      have nS2 := un.free _ _ nk nS (by simp)
      obtain ⟨_, f1, _, f2, f3, f4⟩ := fpk
      refine ⟨nk2, na2, H2, I2.turned (t' := s''.toks) (fun b o hb e => (s1.2 b hb).trans e) nS2 f1 f2 f3 f4, g2, nS2, un.free _ _ na nA (by simp), un.free _ _ lam nF (by simp),
        (s1.2 f fne).trans (un.keep _ _ lam nF hfr (by simp)), by rw [Array.size_push, sz], fun j' u e => ?_⟩
      rw [Array.getElem?_push] at e
      split at e
      · rename_i z
        cases e
        exact ⟨T, rfl, by rw [z, sz]; exact sq⟩
      · obtain ⟨T', e1, e2⟩ := keys j' u e
        exact ⟨T', e1, sqT_un un e2⟩
    · obtain ⟨H', I', g', nS, nA, nF, lam, sz, keys⟩ := hJ
      refine each_get (by rw [Array.length_toList, sz, List.length_map, hlen]; simp [rgI]) fun i v d h1 h2 => ?_
      rw [Array.getElem?_toList] at h1
      obtain ⟨T, rfl, sq⟩ := keys i v h1
      unfold rgI at h2
      rw [List.getElem?_map, List.getElem?_map] at h2
      cases q2 : (List.range (hi - lo).toNat)[i]? with
      | none => rw [q2] at h2; cases h2
      | some n =>
        rw [q2] at h2
        cases h2
        obtain ⟨_, e⟩ := List.getElem?_eq_some_iff.mp q2
        rw [List.getElem_range] at e
        subst e
        exact key_reads I' sq
    · obtain ⟨H', I', g', nS, nA, nF, lam, sz, keys⟩ := hJ
      refine ⟨_, rfl, wpAny_pure ⟨_, rfl, ?_⟩⟩
      have eb : PySem.W.EachIs (fun (v : Value) (i : Int) => ∃ t, v = .int i t) acc.toList (rgI lo hi) := each_get (by rw [hlen]; simp [rgI]) fun i v d h1 h2 => by
        rw [Array.getElem?_toList] at h1
        obtain ⟨t, rfl⟩ := hacc.2 i v h1
        unfold rgI at h2
        rw [List.getElem?_map] at h2
        cases q2 : (List.range (hi - lo).toNat)[i]? with
        | none => rw [q2] at h2; cases h2
        | some n =>
          rw [q2] at h2
          cases h2
          obtain ⟨_, e⟩ := List.getElem?_eq_some_iff.mp q2
          rw [List.getElem_range] at e
          subst e
          exact ⟨t, by rw [Int.mul_one]⟩
      have eo := PySem.W.keyedOut_each (fun i : Int => PyData.tuple [.int (key i), .int i]) ko eb
      rw [PySem.W.dataLe_ii (β := Int) key fun i => i] at eo
      have ev : Vals ((sortK key lo hi).map V.int) out := vals_of_each eo
      refine ⟨.ref h0.objs.size, upd H' h0.objs.size (.lst ((sortK key lo hi).map V.int)), ?_, rfl, q H' _ g' nA⟩
      refine inv_many2 (ch := [h0.objs.size, hs.objs.size + 1]) I' (fun b hb => ?_) (fun b o hb e => kp b o (fun z => hb (by simp [z])) (fun z => hb (by simp [z])) e) (fun b o e => by rw [upd_ne (ne_of_none e nA)]; exact e)
        (fun b hb n _ => by rw [upd_ne (fun z => hb (by simp [z]))]; exact n) fun b u n e => ?_
      · rcases List.mem_cons.mp hb with rfl | hb
        · exact ⟨nA, fpa.2⟩
        · obtain rfl := List.mem_singleton.mp hb
          exact ⟨nS, fpk.2⟩
      · by_cases z : b = h0.objs.size
        · subst z
          rw [upd_same] at e
          cases e
          refine ⟨?_, out, c, ev, ho⟩
          rw [List.length_map]
          unfold sortK
          rw [List.length_mergeSort, ← eb.length]
          exact hZ
        · rw [upd_ne z, n] at e
          cases e
end
end DL
namespace DL
open PySem PySem.Spec PyProof.Rows L2 LamX
/-! ### sorted(range(a, b), key=lambda x: ..) over data -/
def kSortK (P : Addr) (q : Str) (tl : TED) (j : Nat) (sd : StD) (ds : List Dv) (M : Mo) (Q : QD) : Prop := match ds with
  | [.int lo, .int hi] => 0 ≤ lo ∧ lo ≤ 16777216 ∧ 0 ≤ hi ∧ hi ≤ 16777216 ∧ M P = some (.tab q) ∧ ∃ key : Int → Int, (∀ i, lo ≤ i → i < hi → tl (sd.set j (some (.int i))) M fun d M' => d = .tup [.int (key i), .int i] ∧ M' = M) ∧
      ∀ p, M p = none → Q (.ref p) (mup M p (.lst ((sortK key lo hi).map .int)))
  | _ => False
def dSortK (P : Addr) (q : Str) (ta : TAD) (tl : TED) (j : Nat) : TED := fun sd M Q => ta sd M fun ds M1 => kSortK P q tl j sd ds M1 Q
instance s_sortK {P : Addr} {q : Str} {ta : TAD} {tl : TED} {j : Nat} {sd : StD} {M : Mo} {Q : QD} : Step (dSortK P q ta tl j sd M Q) (ta sd M fun ds M1 => kSortK P q tl j sd ds M1 Q) := ⟨id⟩
theorem i_sortK {P : Addr} {q : Str} {tl : TED} {j : Nat} {sd : StD} {M : Mo} {Q : QD} {lo hi : Nat} (key : Int → Int) (h1 : lo ≤ 16777216) (h2 : hi ≤ 16777216) (h3 : M P = some (.tab q))
    (h4 : ∀ i : Nat, lo ≤ i → i < hi → tl (sd.set j (some (.int (i : Nat)))) M fun d M' => d = .tup [.int (key (i : Nat)), .int (i : Nat)] ∧ M' = M) (h5 : ∀ p, M p = none → Q (.ref p) (mup M p (.lst ((sortK key (lo : Nat) (hi : Nat)).map .int)))) :
    kSortK P q tl j sd [.int (lo : Nat), .int (hi : Nat)] M Q := by
  refine ⟨by omega, by omega, by omega, by omega, h3, key, fun i a b => ?_, h5⟩
  obtain ⟨n, rfl⟩ : ∃ n : Nat, i = (n : Nat) := ⟨i.toNat, by omega⟩
  exact h4 n (by omega) (by omega)
section
variable {X : Cx} {M0 : Mo} {H0 : Hp}
theorem de_sortK {a b : Expr} {ta : TAD} {tl : TED} {x q : Str} {c P : Addr} {k j : Nat} {params : Arguments} {body : Expr} {scope : Scope} {p p2 pos2 pos lpos kpos : Pos} (hc : X.calm = true) (hg : Gl X "sorted") (hm : X.mg "sorted" = none) (hv : bootBuiltins "sorted" = some (.builtin "sorted"))
    (hg2 : Gl X "range") (hm2 : X.mg "range" = none) (ha : PAd X M0 H0 [a, b] ta) (TB : LamX.TabB X.base X.mg c P) (hcode : X.env.code = .ref c) (hq : X.env.qual ++ "<lambda>" = q) (room : Room (k + 3) X.A) (L : LamS1 X.env.scope scope x) (hN : X.N.Nodup) (hj : X.N[j]? = some x) (hdef : defaultsOf params X.env = ([], []))
    (hbind : ∀ (q : Str) (cl : List (Str × Addr)) (pm cv ctv u : Value), bindArgs (PySem.W.kla_fn "<lambda>" q params body scope cl pm cv ctv) ⟨[u], []⟩ = pure [(x, u)])
    (hbody : ∀ (A : Around) (outer : List Env) (s : Shared) (H : Hp) (E : XK) (f c' : Addr) (M1 : Mo) (H1 : Hp), Room k (A.deeper (lamEnv X scope s.heap.objs.size f c')) → PEd (lamCx X A outer s H E scope f c') M1 H1 body tl)
    (he : backTo pos (starEach [.Call (.Name "range" p2) [a, b] [] pos2] X.env) = (false, eval (.Call (.Name "range" p2) [a, b] [] pos2) X.env) :: backTo pos (starEach [] X.env) := by rfl)
    (hpl : (backTo pos (starEach [.Call (.Name "range" p2) [a, b] [] pos2] X.env)).any (·.1) = false := by rfl)
    (hall : (backToKw pos (keywordEach [⟨some (Str.ofString "key"), .Lambda params body scope lpos, kpos⟩] X.env)).all (·.1.isSome) = true := by rfl) (hnone : (backToKw pos (keywordEach [⟨some (Str.ofString "key"), .Lambda params body scope lpos, kpos⟩] X.env)).any (·.1.isNone) = false := by rfl)
    (hks : (backToKw pos (keywordEach [⟨some (Str.ofString "key"), .Lambda params body scope lpos, kpos⟩] X.env)).filterMap (·.1) = [Str.ofString "key"] := by rfl)
    (h2 : starEach [a, b] X.env = (false, eval a X.env) :: starEach [b] X.env := by rfl) (h2p : (backTo pos2 (starEach [b] X.env)).any (·.1) = false := by rfl) :
    PEd X M0 H0 (.Call (.Name "sorted" p) [.Call (.Name "range" p2) [a, b] [] pos2] [⟨some (Str.ofString "key"), .Lambda params body scope lpos, kpos⟩] pos) (dSortK P q ta tl j) := by
  subst hq
  refine ⟨fun pins s σ H Q I ⟨sd, M, Qd, w, q0, ct⟩ => ?_⟩
  refine wpAny_Call_Name_kw (ld_blt I hg hm hv ?_ (by decide) (by decide))
  refine PyProof.Rows.callWith_kw ?_ he hpl hall hnone
  rw [he]
  have rg := pe_callTy (p := p2) (pos := pos2) cr_range2 hg2 hm2 boot_range ha (by decide) (by decide) h2 h2p
  refine Calls.spliced_cons (thn (rg.run pins s σ H (fun v H2 => ∃ r lo hi H1 M1, v = .ref r ∧ H1 r = none ∧ H2 = upd H1 r (.rng lo hi) ∧ Stp X.K M H M1 H1 ∧ kSortK P (X.env.qual ++ "<lambda>") tl j sd [.int lo, .int hi] M1 Qd) I ⟨sd, M, _, w, q0, fun ds M1 vs H1 s1 r1 q1 => ?_⟩) fun u s1 ⟨v, H2, I1, r1, q1⟩ => Calls.spliced_nil ?_)
  · unfold kSortK at q1
    split at q1
    · rename_i lo hi
      obtain ⟨v1, v2, rfl, ra, rb⟩ := r1.two
      exact ⟨lo, hi, by rw [ra.int_of, rb.int_of], fun r hr => ⟨r, lo, hi, H1, M1, rfl, hr, rfl, s1, q1⟩⟩
    · exact q1.elim
  obtain ⟨r, lo, hi, H1, M1, rfl, hr, rfl, s1', q1⟩ := q1
  cases r1
  obtain ⟨l1, l2, l3, l4, hP, key, hk, hq⟩ := q1
  have s2 : Stp X.K M1 H1 M1 (upd H1 r (.rng lo hi)) := Stp.new0 s1'.sr hr
  have hT : TabS (upd H1 r (.rng lo hi)) P (X.env.qual ++ "<lambda>") := by
    have o := s2.sr P _ hP
    simp only [Own] at o
    exact o
  refine PyProof.Rows.kws_cons (lam_makeT I1 TB hcode hT hdef (L.has I.ok) fun f c' pm' ctv H3 s3 I3 bt T3 hf hfn hfr hco => PyProof.Rows.kws_nil ?_)
  rw [hks]
  have s3' : Stp X.K M1 (upd H1 r (.rng lo hi)) M1 H3 := stp_tab s2.sr hP bt T3
  have nrP : r ≠ P := fun z => by
    obtain ⟨ps, e, _⟩ := hT
    rw [← z, upd_same] at e
    cases e
  have hr3 : H3 r = some (.rng lo hi) := bt r _ nrP upd_same
  obtain ⟨t, u, v, hir⟩ := I3.hok r _ hr3
  have st := s1'.trans (s2.trans s3')
  refine sortK_run (lo := lo) (hi := hi) (key := key) (tb := LE X.K M1 H3 tl) (G := fun H' => Stp X.K M1 H3 M1 H' ∧ H' c' = some (CodeO c' (X.env.qual ++ "<lambda>"))) I3 hc hir (RgOk.of_le l1 l4 l2 l3) room L hN hj hf hfn hfr (hbind _ _ _ _ _) (fun A s H hr => hbody A X.stack s H (fun _ _ _ => False) f c' M1 H3 hr)
    ⟨Stp.refl s3'.sr, hco⟩ (fun H' g => g.2) (fun i a b H' g => ?_) (fun H' p g n => ?_)
  · refine ⟨sd.set j (some (.int i)), M1, _, ⟨g.1, ((w.rs.keep st.keep).keep g.1.keep).set RD.int j⟩, hk i a b, fun d M2 v H2 s4 r4 q4 => ?_⟩
    obtain ⟨rfl, rfl⟩ := q4
    obtain ⟨T, vs, rfl, sq, rr⟩ : ∃ a vs, v = .ref a ∧ SqT X.K H2 a vs ∧ RDs X.K H2 _ vs := by unfold RD at r4; exact r4
    obtain ⟨v1, v2, rfl, ra, rb⟩ := rr.two
    rw [ra.int_of, rb.int_of] at sq
    exact ⟨⟨g.1.trans s4, s4.keep.cods _ _ g.2⟩, T, rfl, sq⟩
  · exact ct _ _ _ _ ((st.trans g.1).trans (Stp.new g.1.sr n (own_lst n (rds_ints _)))) .ref (hq p (g.1.sr.free n))

/-- f's value stands in a slot: one of two defs -/
def dCallV (f1 f2 : Addr) (i : Nat) (sp1 sp2 : SpD) (Ed : EXD) (t : TAD) : TED := fun sd M Q => ∃ f, sd[i]? = some (some (.ref f)) ∧ ((f = f1 ∧ t sd M fun ds M1 => sp1 ds M1 Q Ed) ∨ (f = f2 ∧ t sd M fun ds M1 => sp2 ds M1 Q Ed))
theorem i_callV1 {f1 f2 : Addr} {i : Nat} {sp1 sp2 : SpD} {Ed : EXD} {t : TAD} {sd : StD} {M : Mo} {Q : QD} (h : sd[i]? = some (some (.ref f1))) (q : t sd M fun ds M1 => sp1 ds M1 Q Ed) : dCallV f1 f2 i sp1 sp2 Ed t sd M Q := ⟨_, h, .inl ⟨rfl, q⟩⟩
theorem i_callV2 {f1 f2 : Addr} {i : Nat} {sp1 sp2 : SpD} {Ed : EXD} {t : TAD} {sd : StD} {M : Mo} {Q : QD} (h : sd[i]? = some (some (.ref f2))) (q : t sd M fun ds M1 => sp2 ds M1 Q Ed) : dCallV f1 f2 i sp1 sp2 Ed t sd M Q := ⟨_, h, .inr ⟨rfl, q⟩⟩
theorem de_callV {x x1 x2 : Str} {f1 f2 : Addr} {k1 k2 i : Nat} {ps1 ps2 : List Str} {B1 B2 : FuncData → Prop} {sp1 sp2 : SpD} {Ed : EXD} {E : XK} {e : Expr} {es : List Expr} {t : TAD} {p pos : Pos} (F1 : FnD X.prog X.w X.K X.mg X.base x1 k1 ps1 B1 sp1) (F2 : FnD X.prog X.w X.K X.mg X.base x2 k2 ps2 B2 sp2)
    (m1 : X.mg x1 = some (.ref f1)) (m2 : X.mg x2 = some (.ref f2)) (hr1 : Room k1 X.A) (hr2 : Room k2 X.A) (hb1 : ∀ fd, B1 fd → Binds X.K fd ps1 []) (hb2 : ∀ fd, B2 fd → Binds X.K fd ps2 []) (hx : Passes (L2.CX X.prog X.w) X E) (hE : CtX X.K M0 H0 Ed E)
    (hN : X.N[i]? = some x) (hv : Vis X.env.scope x) (ha : PAd X M0 H0 (e :: es) t) (hd : (x == ("__debug__" : Str)) = false := by decide) (hcd : (x == ("__classdict__" : Str)) = false := by decide)
    (he : starEach (e :: es) X.env = (false, eval e X.env) :: starEach es X.env := by rfl) (hpl : (backTo pos (starEach es X.env)).any (·.1) = false := by rfl) : PEd X M0 H0 (.Call (.Name x p) (e :: es) [] pos) (dCallV f1 f2 i sp1 sp2 Ed t) := by
  refine ⟨fun pins s σ H Q I ⟨sd, M, Qd, w, ⟨f, hf, q0⟩, ct⟩ => ?_⟩
  obtain ⟨v, hs, rv⟩ := w.rs.2 i _ hf
  rw [rv.ref_of] at hs
  refine wpAny_Call_Name_kw (thn ((pe_var (pos := p) (i := i) hN hv hd hcd).run pins s σ H (fun v H1 => v = .ref f ∧ H1 = H) I ⟨.ref f, hs, rfl, rfl⟩) fun u s1 ⟨v, H1, I1, r1, ev, eH⟩ => ?_)
  subst ev
  rw [eH] at I1
  obtain rfl : u = Value.ref f := r1
  rcases q0 with ⟨rfl, q⟩ | ⟨rfl, q⟩
  · obtain ⟨f', fd, hm, hk, b, F⟩ := F1.ex
    rw [m1] at hm
    cases hm
    refine PySem.W.callWith_K (h₀ := X.base) I1.ok.mod.kin hk (thn (ha.run pos pins s1 σ H _ I1 (call_imp (sp := sp1) (ddvs := []) (dvs := []) rdn hE σ H Q ⟨sd, M, Qd, w, (by unfold dCall; simpa using q), ct⟩)) fun us s1 ⟨vs, H1, I1, r, q⟩ => ⟨I1.kIn, ?_⟩) he hpl
    exact run_fn F hr1 (hb1 fd b) .nil hx I1 r q
  · obtain ⟨f', fd, hm, hk, b, F⟩ := F2.ex
    rw [m2] at hm
    cases hm
    refine PySem.W.callWith_K (h₀ := X.base) I1.ok.mod.kin hk (thn (ha.run pos pins s1 σ H _ I1 (call_imp (sp := sp2) (ddvs := []) (dvs := []) rdn hE σ H Q ⟨sd, M, Qd, w, (by unfold dCall; simpa using q), ct⟩)) fun us s1 ⟨vs, H1, I1, r, q⟩ => ⟨I1.kIn, ?_⟩) he hpl
    exact run_fn F hr2 (hb2 fd b) .nil hx I1 r q
theorem de_fnv {x : Str} {f : Addr} {pos : Pos} (hg : Gl X x) (hm : X.mg x = some (.ref f)) (hdb : (x == ("__debug__" : Str)) = false := by decide) : PEd X M0 H0 (.Name x pos) (dC (.ref f)) := PE.const (pe_glob (v := .ref f) hg hm rfl (hd := hdb)) fun _ => RD.ref
end
end DL
namespace DL
theorem room1 {n m : Nat} (h : n + 64 < m) : n + 1 < m := by omega
end DL
namespace DL
open PySem PySem.Spec PyProof.Rows L2
/-! isinstance of a dict that stands still -/
def dIsiD : RNd := fun ds M Q => match ds with
  | [.dct _, .ty b] => knownT b = true ∧ Q (.bl (isiB "dict" b)) M
  | _ => dIsi ds M Q
section
variable {X : Cx}
theorem cd_isiD : CallR X (.builtin "isinstance") (LNop X.K dIsiD) := cd_I call_isi fun ds M Qd xs H Q rs sr q c => by
  unfold dIsiD at q
  split at q
  · rename_i kvs b
    obtain ⟨v, u, rfl, r1, r2⟩ := rs.two
    have eu : u = .ty b := by unfold RD at r2; exact r2
    subst eu
    obtain ⟨a, o, vks, rfl, hf, _⟩ : ∃ a o vks, v = .ref a ∧ H a = some (.frz o (.dK vks)) ∧ RDk1 X.K H kvs vks := by unfold RD at r1; exact r1
    exact ⟨.ref a, .ty b, .type "dict", .type b, _, rfl, .ty b, .fDict hf, kit_ty (kit_known (by simp) q.1), c _ _ _ _ (.refl sr) .bl q.2⟩
  · unfold dIsi at q
    split at q
    · rename_i d b _
      obtain ⟨v, u, rfl, r1, r2⟩ := rs.two
      have eu : u = .ty b := by unfold RD at r2; exact r2
      subst eu
      split at q
      · rename_i a e
        exact ⟨v, .ty b, .type a, .type b, _, rfl, .ty b, tyN_ok sr r1 e, kit_ty (kit_known (tyN_cases e) q.1), c _ _ _ _ (.refl sr) .bl q.2⟩
      · exact q.elim
    · exact q.elim
end
instance s_isiD {kvs : KvD} {b : String} {M : Mo} {Q : QD} : Step (dIsiD [.dct kvs, .ty b] M Q) (knownT b = true ∧ Q (.bl (isiB "dict" b)) M) := ⟨id⟩
theorem i_isiDo {d : Dv} {b n : String} {M : Mo} {Q : QD} (h : tyN M d = some n) (hk : knownT b = true) (q : Q (.bl (isiB n b)) M) : dIsiD [d, .ty b] M Q := by
  cases d with
  | dct kvs => cases h
  | _ => exact i_isi h hk q
end DL

namespace Lw
open PySem PySem.Spec PyProof.Rows L2 DL
def topS (i : Nat) : Stmt := PySem.Challenge.pw_markseam_k14_marks_in_order.main.body.getD i (.Pass ⟨0, 0, 0, 0⟩)
def clsS (i j : Nat) : Stmt := match topS i with | .ClassDef _ _ _ b _ _ _ _ _ _ _ => b.getD j (.Pass ⟨0, 0, 0, 0⟩) | s => s
def fldT : List (Str × Str) := [("Case", "ranked"), ("Case", "widths"), ("Case", "footing"), ("Case", "seating")]
def ownT : List Str := ["Case"]
structure Clz (K : PySem.W.Frag) (mg : Str → Option Value) (oA : Str → Addr) : Prop where
  fld : FldOk K fldT
instance fo_Case_ranked {M : Mo} {Q : QD} {v0 v1 v2 v3 : Dv} : Step (dFldV fldT "ranked" (.obj "Case" [("ranked", v0), ("widths", v1), ("footing", v2), ("seating", v3)]) M Q) (Q v0 M) := ⟨fun h => i_fldO (by decide +kernel) rfl h⟩
instance pa_Case_ranked {d : Dv} : PutAt "ranked" d [] [("ranked", d)] := ⟨rfl⟩
instance pu_Case_ranked {v0 v1 v2 v3 d : Dv} : PutAt "ranked" d [("ranked", v0), ("widths", v1), ("footing", v2), ("seating", v3)] [("ranked", d), ("widths", v1), ("footing", v2), ("seating", v3)] := ⟨rfl⟩
instance fo_Case_widths {M : Mo} {Q : QD} {v0 v1 v2 v3 : Dv} : Step (dFldV fldT "widths" (.obj "Case" [("ranked", v0), ("widths", v1), ("footing", v2), ("seating", v3)]) M Q) (Q v1 M) := ⟨fun h => i_fldO (by decide +kernel) rfl h⟩
instance pa_Case_widths {v0 d : Dv} : PutAt "widths" d [("ranked", v0)] [("ranked", v0), ("widths", d)] := ⟨rfl⟩
instance pu_Case_widths {v0 v1 v2 v3 d : Dv} : PutAt "widths" d [("ranked", v0), ("widths", v1), ("footing", v2), ("seating", v3)] [("ranked", v0), ("widths", d), ("footing", v2), ("seating", v3)] := ⟨rfl⟩
instance fo_Case_footing {M : Mo} {Q : QD} {v0 v1 v2 v3 : Dv} : Step (dFldV fldT "footing" (.obj "Case" [("ranked", v0), ("widths", v1), ("footing", v2), ("seating", v3)]) M Q) (Q v2 M) := ⟨fun h => i_fldO (by decide +kernel) rfl h⟩
instance pa_Case_footing {v0 v1 d : Dv} : PutAt "footing" d [("ranked", v0), ("widths", v1)] [("ranked", v0), ("widths", v1), ("footing", d)] := ⟨rfl⟩
instance pu_Case_footing {v0 v1 v2 v3 d : Dv} : PutAt "footing" d [("ranked", v0), ("widths", v1), ("footing", v2), ("seating", v3)] [("ranked", v0), ("widths", v1), ("footing", d), ("seating", v3)] := ⟨rfl⟩
instance fo_Case_seating {M : Mo} {Q : QD} {v0 v1 v2 v3 : Dv} : Step (dFldV fldT "seating" (.obj "Case" [("ranked", v0), ("widths", v1), ("footing", v2), ("seating", v3)]) M Q) (Q v3 M) := ⟨fun h => i_fldO (by decide +kernel) rfl h⟩
instance pa_Case_seating {v0 v1 v2 d : Dv} : PutAt "seating" d [("ranked", v0), ("widths", v1), ("footing", v2)] [("ranked", v0), ("widths", v1), ("footing", v2), ("seating", d)] := ⟨rfl⟩
instance pu_Case_seating {v0 v1 v2 v3 d : Dv} : PutAt "seating" d [("ranked", v0), ("widths", v1), ("footing", v2), ("seating", v3)] [("ranked", v0), ("widths", v1), ("footing", v2), ("seating", d)] := ⟨rfl⟩
abbrev s_is_whole : Stmt := topS 9
theorem sc_is_whole : FnScope ["thing"] ["thing"] (defScope s_is_whole) := ⟨rfl, rfl, rfl, by decide +kernel, rfl, by decide +kernel, by decide +kernel⟩
abbrev s_is_sign : Stmt := topS 10
theorem sc_is_sign : FnScope ["thing"] ["thing"] (defScope s_is_sign) := ⟨rfl, rfl, rfl, by decide +kernel, rfl, by decide +kernel, by decide +kernel⟩
abbrev s_is_text : Stmt := topS 11
theorem sc_is_text : FnScope ["thing", "sign"] ["thing"] (defScope s_is_text) := ⟨rfl, rfl, rfl, by decide +kernel, rfl, by decide +kernel, by decide +kernel⟩
abbrev s_want_letters : Stmt := topS 12
theorem sc_want_letters : FnScope ["letters"] ["letters"] (defScope s_want_letters) := ⟨rfl, rfl, rfl, by decide +kernel, rfl, by decide +kernel, by decide +kernel⟩
abbrev s_want_word : Stmt := topS 13
theorem sc_want_word : FnScope ["word", "letters", "known", "at", "sign"] ["word", "letters"] (defScope s_want_word) := ⟨rfl, rfl, rfl, by decide +kernel, rfl, by decide +kernel, by decide +kernel⟩
abbrev s_is_from : Stmt := topS 18
theorem sc_is_from : FnScope ["thing", "low", "high"] ["thing", "low", "high"] (defScope s_is_from) := ⟨rfl, rfl, rfl, by decide +kernel, rfl, by decide +kernel, by decide +kernel⟩
abbrev s_is_spot : Stmt := topS 19
theorem sc_is_spot : FnScope ["thing"] ["thing"] (defScope s_is_spot) := ⟨rfl, rfl, rfl, by decide +kernel, rfl, by decide +kernel, by decide +kernel⟩
abbrev s_is_seat_of : Stmt := topS 20
theorem sc_is_seat_of : FnScope ["thing"] ["thing"] (defScope s_is_seat_of) := ⟨rfl, rfl, rfl, by decide +kernel, rfl, by decide +kernel, by decide +kernel⟩
abbrev s_kept : Stmt := topS 21
theorem sc_kept : FnScope ["thing", "word"] ["thing", "word"] (defScope s_kept) := ⟨rfl, rfl, rfl, by decide +kernel, rfl, by decide +kernel, by decide +kernel⟩
abbrev s_Case_is_hung : Stmt := clsS 22 3
theorem sc_Case_is_hung : FnScope ["self", "sign"] ["self", "sign"] (defScope s_Case_is_hung) := ⟨rfl, rfl, rfl, by decide +kernel, rfl, by decide +kernel, by decide +kernel⟩
abbrev s_Case___init__ : Stmt := clsS 22 0
theorem sc_Case___init__ : FnScope ["self", "ranks", "wide", "feet", "seats", "sign", "much", "spot", "rank", "key"] ["self", "ranks", "wide", "feet", "seats"] (defScope s_Case___init__) := ⟨rfl, rfl, rfl, by decide +kernel, rfl, by decide +kernel, by decide +kernel⟩
abbrev s_Case_rank_of : Stmt := clsS 22 1
theorem sc_Case_rank_of : FnScope ["self", "sign"] ["self", "sign"] (defScope s_Case_rank_of) := ⟨rfl, rfl, rfl, by decide +kernel, rfl, by decide +kernel, by decide +kernel⟩
abbrev s_Case_is_base : Stmt := clsS 22 2
theorem sc_Case_is_base : FnScope ["self", "sign"] ["self", "sign"] (defScope s_Case_is_base) := ⟨rfl, rfl, rfl, by decide +kernel, rfl, by decide +kernel, by decide +kernel⟩
abbrev s_clusters : Stmt := topS 23
theorem sc_clusters : FnScope ["case", "word", "begins", "at", "sign"] ["case", "word"] (defScope s_clusters) := ⟨rfl, rfl, rfl, by decide +kernel, rfl, by decide +kernel, by decide +kernel⟩
abbrev s_shown_turn : Stmt := topS 25
theorem sc_shown_turn : FnScope ["case", "sign", "rank"] ["case", "sign"] (defScope s_shown_turn) := ⟨rfl, rfl, rfl, by decide +kernel, rfl, by decide +kernel, by decide +kernel⟩
abbrev s_sorted_places : Stmt := topS 26
theorem sc_sorted_places : FnScope ["case", "word", "turn_of", "found", "begin", "end", "at"] ["case", "word", "turn_of"] (defScope s_sorted_places) := ⟨rfl, rfl, rfl, by decide +kernel, rfl, by decide +kernel, by decide +kernel⟩
abbrev s_text_at : Stmt := topS 27
theorem sc_text_at : FnScope ["word", "places", "at"] ["word", "places"] (defScope s_text_at) := ⟨rfl, rfl, rfl, by decide +kernel, rfl, by decide +kernel, by decide +kernel⟩
abbrev s_ordered : Stmt := topS 28
theorem sc_ordered : FnScope ["case", "word", "places"] ["case", "word"] (defScope s_ordered) := ⟨rfl, rfl, rfl, by decide +kernel, rfl, by decide +kernel, by decide +kernel⟩
abbrev s__law_mixed : Stmt := topS 30
theorem sc__law_mixed : FnScope ["_law_cell", "_law_k", "_law_number"] ["_law_cell", "_law_k"] (defScope s__law_mixed) := ⟨rfl, rfl, rfl, by decide +kernel, rfl, by decide +kernel, by decide +kernel⟩
abbrev s__law_well : Stmt := topS 31
theorem sc__law_well : FnScope ["_law_cell"] ["_law_cell"] (defScope s__law_well) := ⟨rfl, rfl, rfl, by decide +kernel, rfl, by decide +kernel, by decide +kernel⟩
abbrev s__law_draw : Stmt := topS 32
theorem sc__law_draw : FnScope ["_law_well_here", "_law_many", "_law_found"] ["_law_well_here", "_law_many"] (defScope s__law_draw) := ⟨rfl, rfl, rfl, by decide +kernel, rfl, by decide +kernel, by decide +kernel⟩
abbrev s__law_unlike : Stmt := topS 33
theorem sc__law_unlike : FnScope ["_law_well_here", "_law_many", "_law_rest", "_law_found", "_law_k", "_law_at"] ["_law_well_here", "_law_many"] (defScope s__law_unlike) := ⟨rfl, rfl, rfl, by decide +kernel, rfl, by decide +kernel, by decide +kernel⟩
abbrev s__law_ranks : Stmt := topS 34
theorem sc__law_ranks : FnScope ["_law_well_here", "_law_signs", "_law_found", "_law_sign"] ["_law_well_here", "_law_signs"] (defScope s__law_ranks) := ⟨rfl, rfl, rfl, by decide +kernel, rfl, by decide +kernel, by decide +kernel⟩
abbrev s__law_word : Stmt := topS 35
theorem sc__law_word : FnScope ["_law_well_here", "_law_signs", "_law_most", "_law_k"] ["_law_well_here", "_law_signs", "_law_most"] (defScope s__law_word) := ⟨rfl, rfl, rfl, by decide +kernel, rfl, by decide +kernel, by decide +kernel⟩
abbrev s__law_clusters : Stmt := topS 36
theorem sc__law_clusters : FnScope ["_law_marks", "_law_typed", "_law_found", "_law_at", "_law_sign"] ["_law_marks", "_law_typed"] (defScope s__law_clusters) := ⟨rfl, rfl, rfl, by decide +kernel, rfl, by decide +kernel, by decide +kernel⟩
abbrev s__law_shown_places : Stmt := topS 37
theorem sc__law_shown_places : FnScope ["_law_marks", "_law_typed", "_law_found", "_law_begin", "_law_end", "_law_rank", "_law_at"] ["_law_marks", "_law_typed"] (defScope s__law_shown_places) := ⟨rfl, rfl, rfl, by decide +kernel, rfl, by decide +kernel, by decide +kernel⟩
abbrev s__law_whole : Stmt := topS 38
theorem sc__law_whole : FnScope ["_law_found"] ["_law_found"] (defScope s__law_whole) := ⟨rfl, rfl, rfl, by decide +kernel, rfl, by decide +kernel, by decide +kernel⟩
abbrev s__law_long : Stmt := topS 39
theorem sc__law_long : FnScope ["_law_well_here", "_law_signs", "_law_turn", "_law_k"] ["_law_well_here", "_law_signs"] (defScope s__law_long) := ⟨rfl, rfl, rfl, by decide +kernel, rfl, by decide +kernel, by decide +kernel⟩
abbrev s__law_right : Stmt := topS 40
theorem sc__law_right : FnScope ["_law_found", "_law_typed", "_law_due", "_law_at"] ["_law_found", "_law_typed", "_law_due"] (defScope s__law_right) := ⟨rfl, rfl, rfl, by decide +kernel, rfl, by decide +kernel, by decide +kernel⟩
abbrev s_law : Stmt := topS 41
theorem sc_law : FnScope ["_law_script", "_law_number", "_law_cell", "_law_well_here", "_law_signs", "_law_marks", "_law_one", "_law_words", "_law_typed", "_law_due", "_law_found", "_law_k"] ["_law_script"] (defScope s_law) := ⟨rfl, rfl, rfl, by decide +kernel, rfl, by decide +kernel, by decide +kernel⟩
structure Tn (mg : Str → Option Value) : Prop where
  n_all : mg "all" = none
  n_bool : mg "bool" = none
  n_dict : mg "dict" = none
  n_enumerate : mg "enumerate" = none
  n_int : mg "int" = none
  n_isinstance : mg "isinstance" = none
  n_len : mg "len" = none
  n_list : mg "list" = none
  n_range : mg "range" = none
  n_set : mg "set" = none
  n_sorted : mg "sorted" = none
  n_str : mg "str" = none
  n_tuple : mg "tuple" = none
  n_zip : mg "zip" = none
  c_MOST_LETTERS : ∃ t, mg "MOST_LETTERS" = some (.int 16 t)
  c_MOST_RANK : ∃ t, mg "MOST_RANK" = some (.int 9 t)
  c_MOST_WIDE : ∃ t, mg "MOST_WIDE" = some (.int 1000 t)
  c_SIGNS : ∃ t, mg "SIGNS" = some (.str "ABCDEFGHIJKLMNOPQRSTUVWXYZabcdefghijklmnopqrstuvwxyz" t)
def exT : ExT := ⟨fun x c =>  none, [("NoWord", "at"), ("NoRule", "what"), ("NoCase", "what")]⟩
structure Exs (P : Program) (w : World) (K : PySem.W.Frag) (mg : Str → Option Value) (base : Heap) (cA : Str → Addr) : Prop where
  x_NoWord : ExcD P w K mg base "NoWord" "at" (cA "NoWord")
  x_NoRule : ExcD P w K mg base "NoRule" "what" (cA "NoRule")
  x_NoCase : ExcD P w K mg base "NoCase" "what" (cA "NoCase")
  tb : ExOk K exT
theorem fld_NoWord : (("NoWord", "at") : Str × Str) ∈ exT.fld := by decide +kernel
theorem fld_NoRule : (("NoRule", "what") : Str × Str) ∈ exT.fld := by decide +kernel
theorem fld_NoCase : (("NoCase", "what") : Str × Str) ∈ exT.fld := by decide +kernel
abbrev i_NoWord : Stmt := clsS 3 0
theorem sci_NoWord : FnScope ["self", "at"] ["self", "at"] (defScope i_NoWord) := ⟨rfl, rfl, rfl, by decide +kernel, rfl, by decide +kernel, by decide +kernel⟩
theorem oki_NoWord {P : Program} {w : World} {K : PySem.W.Frag} {mg : Str → Option Value} {base : Heap} {C CB fI : Addr} {mc : Value} {fd : FuncData} (F : Fun K "__init__" "NoWord.__init__" i_NoWord fI fd) (gB : mg "SeamError" = some (.ref CB)) (cr : ClX.CRead K CB mc) (vV : PySem.W.findCls K (.ref CB) mc "__init__" = some (.val (.builtin "ValueError.__init__"))) (T : OexC K C) (hno : PySem.W.findIn K (.ref C) "at" = some none) : FnOk P w K mg base (L2.CX P w) 1 fI fd ["self", "at"] (spInit C "at") :=
  ok_init F sci_NoWord rfl T hno fun cdv A outer s H E => ⟨_, pss_cons (ps_expr (pe_ownI (by rfl) gB cr vV (pa_cons (pe_var (i := 0) rfl (Or.inl rfl)) (pa_cons pe_str pa_nil)))) (pss_one (ps_ost (pe_var (i := 0) rfl (Or.inl rfl)) (pe_var (i := 1) rfl (Or.inl rfl)))), fun a v D ha h => ⟨_, rfl, a, C, _, rfl, (by show 1 ≤ 1000; decide), T, ha, _, rfl, _, rfl, a, C, rfl, T, hno, .inl ⟨ha, h⟩⟩⟩
abbrev i_NoRule : Stmt := clsS 4 0
theorem sci_NoRule : FnScope ["self", "what"] ["self", "what"] (defScope i_NoRule) := ⟨rfl, rfl, rfl, by decide +kernel, rfl, by decide +kernel, by decide +kernel⟩
theorem oki_NoRule {P : Program} {w : World} {K : PySem.W.Frag} {mg : Str → Option Value} {base : Heap} {C CB fI : Addr} {mc : Value} {fd : FuncData} (F : Fun K "__init__" "NoRule.__init__" i_NoRule fI fd) (gB : mg "SeamError" = some (.ref CB)) (cr : ClX.CRead K CB mc) (vV : PySem.W.findCls K (.ref CB) mc "__init__" = some (.val (.builtin "ValueError.__init__"))) (T : OexC K C) (hno : PySem.W.findIn K (.ref C) "what" = some none) : FnOk P w K mg base (L2.CX P w) 1 fI fd ["self", "what"] (spInit C "what") :=
  ok_init F sci_NoRule rfl T hno fun cdv A outer s H E => ⟨_, pss_cons (ps_expr (pe_ownI (by rfl) gB cr vV (pa_cons (pe_var (i := 0) rfl (Or.inl rfl)) (pa_cons pe_str pa_nil)))) (pss_one (ps_ost (pe_var (i := 0) rfl (Or.inl rfl)) (pe_var (i := 1) rfl (Or.inl rfl)))), fun a v D ha h => ⟨_, rfl, a, C, _, rfl, (by show 1 ≤ 1000; decide), T, ha, _, rfl, _, rfl, a, C, rfl, T, hno, .inl ⟨ha, h⟩⟩⟩
abbrev i_NoCase : Stmt := clsS 5 0
theorem sci_NoCase : FnScope ["self", "what"] ["self", "what"] (defScope i_NoCase) := ⟨rfl, rfl, rfl, by decide +kernel, rfl, by decide +kernel, by decide +kernel⟩
theorem oki_NoCase {P : Program} {w : World} {K : PySem.W.Frag} {mg : Str → Option Value} {base : Heap} {C CB fI : Addr} {mc : Value} {fd : FuncData} (F : Fun K "__init__" "NoCase.__init__" i_NoCase fI fd) (gB : mg "SeamError" = some (.ref CB)) (cr : ClX.CRead K CB mc) (vV : PySem.W.findCls K (.ref CB) mc "__init__" = some (.val (.builtin "ValueError.__init__"))) (T : OexC K C) (hno : PySem.W.findIn K (.ref C) "what" = some none) : FnOk P w K mg base (L2.CX P w) 1 fI fd ["self", "what"] (spInit C "what") :=
  ok_init F sci_NoCase rfl T hno fun cdv A outer s H E => ⟨_, pss_cons (ps_expr (pe_ownI (by rfl) gB cr vV (pa_cons (pe_var (i := 0) rfl (Or.inl rfl)) (pa_cons pe_str pa_nil)))) (pss_one (ps_ost (pe_var (i := 0) rfl (Or.inl rfl)) (pe_var (i := 1) rfl (Or.inl rfl)))), fun a v D ha h => ⟨_, rfl, a, C, _, rfl, (by show 1 ≤ 1000; decide), T, ha, _, rfl, _, rfl, a, C, rfl, T, hno, .inl ⟨ha, h⟩⟩⟩
local macro_rules | `(tactic| walk_at "ne") => `(tactic| first | with_reducible assumption | (apply Ne.symm; with_reducible assumption) | ((with_reducible apply mne2); (case h' => with_reducible assumption); (case h => walk_at "lk")) | ((apply Ne.symm); (with_reducible apply mne2); (case h' => with_reducible assumption); (case h => walk_at "lk")))
local macro_rules | `(tactic| walk_at "lk") => `(tactic| first | with_reducible assumption | with_reducible exact mup_same | ((with_reducible refine e_mup ?_ ?_); (walk_at "ne"); (walk_at "lk")))
local macro_rules | `(tactic| walk_at "sq") => `(tactic| first | exact e_seqL | exact e_seqR (by walk_at "lk"))
local macro_rules | `(tactic| walk_at "sd") => `(tactic| first | with_reducible assumption | omega | ((with_reducible refine cmul_l ?_ ?_) <;> omega) | ((with_reducible refine cmul_r ?_ ?_) <;> omega) | ((with_reducible refine cdivw ?_ ?_) <;> omega) | (simp only [List.length_cons, List.length_nil, List.length_append, List.length_map, List.length_range, PySem.Str.length_append] <;> omega) | (show (0 : Int) < _; omega) | exact ⟨by decide, by decide, by decide⟩ | decide | exact Nat.le_of_ble_eq_true rfl)
local macro_rules | `(tactic| walk_at "at") => `(tactic| first | exact L2.atI_nat (j := 0) rfl | exact L2.atI_nat (j := 1) rfl | exact L2.atI_nat (j := 2) rfl | exact L2.atI_nat (j := 3) rfl)
local macro_rules | `(tactic| walk_at "xn") => `(tactic| first | exact e_ix (k := 0) (Nat.le_of_ble_eq_true rfl) | exact e_ix (k := 1) (Nat.le_of_ble_eq_true rfl) | exact e_ix (k := 2) (Nat.le_of_ble_eq_true rfl) | exact e_ix (k := 3) (Nat.le_of_ble_eq_true rfl))
local macro_rules | `(tactic| walk_at "fg") => `(tactic| repeat (first | exact Sub.refl _ | exact Sub.new ‹_› | (refine Sub.trans ?_ (Sub.new ‹_›)) | refine Sub.mup ?_))
local macro_rules | `(tactic| walk_at "sa") => `(tactic| repeat (first | with_reducible exact SubA.refl _ _ | (with_reducible refine SubA.at ?_) | (with_reducible refine SubA.new (by with_reducible assumption) ?_)))
local macro_rules | `(tactic| walk_at "zs") => `(tactic| first | with_reducible exact zSeq_lst | with_reducible exact zSeq_tup | with_reducible exact zSeq_str | exact zSeq_ref (by walk_at "lk"))
local macro_rules | `(tactic| walk_at "zl") => `(tactic| first | with_reducible assumption | omega | (simp only [List.length_cons, List.length_nil, List.length_append, List.length_map, List.length_range, PySem.Str.length_append, signsD_len] <;> omega))

def sp_law (P_sorted_places : Addr) : SpD := spLawT [(P_sorted_places, "sorted_places.<locals>.<lambda>")] 63
/-- the list of draws at a -/
def Src (M : Mo) (a : Addr) : Prop := ∃ x y z : Int, M a = some (.lst [.int x, .int y, .int z])
theorem src_mk {M : Mo} {a : Addr} {x y z : Int} (h : M a = some (.lst [.int x, .int y, .int z])) : Src M a := ⟨x, y, z, h⟩
local macro_rules | `(tactic| walk_at "src") => `(tactic| ((apply src_mk); (walk_at "lk")))
def sp__law_mixed : SpD := fun ds M Q E => match ds with
  | [.int c, .int k] => ∀ r : Int, 0 ≤ r → r < 2147483563 → Q (.int r) M
  | _ => False
def sp__law_source : SpD := fun ds M Q E => match ds with
  | [.int c] => ∀ p, M p = none → Q (.ref p) (mup M p (.lst [.int c, .int c, .int 0]))
  | _ => False
def sp__law_take : SpD := fun ds M Q E => match ds with
  | [.ref a, .int m] => Src M a ∧ 0 < m ∧ m < 1073741824 ∧ ∀ r x y z : Int, 0 ≤ r → r < m → Q (.int r) (mup M a (.lst [.int x, .int y, .int z]))
  | _ => False
theorem u_mixed {M : Mo} {c k : Int} {Q : QD} {E : EXD} (h : ∀ r : Int, 0 ≤ r → r < 2147483563 → Q (.int r) M) : sp__law_mixed [.int c, .int k] M Q E := h
theorem u_source {M : Mo} {c : Int} {Q : QD} {E : EXD} (h : ∀ p, M p = none → Q (.ref p) (mup M p (.lst [.int c, .int c, .int 0]))) : sp__law_source [.int c] M Q E := h
theorem u_take {M : Mo} {a : Addr} {m : Int} {Q : QD} {E : EXD} (h1 : Src M a) (h2 : 0 < m) (h3 : m < 1073741824) (h : ∀ r x y z : Int, 0 ≤ r → r < m → Q (.int r) (mup M a (.lst [.int x, .int y, .int z]))) : sp__law_take [.ref a, .int m] M Q E := ⟨h1, h2, h3, h⟩
/-- the signs -/
def SG : Str := "ABCDEFGHIJKLMNOPQRSTUVWXYZabcdefghijklmnopqrstuvwxyz"
theorem SG_len : SG.length = 52 := by decide +kernel
theorem SG_nd : SG.cps.toList.Nodup := by decide +kernel
/-- unlike signs -/
structure Lt (x : Str) (n : Nat) : Prop where
  nd : x.cps.toList.Nodup
  sub : ∀ c, c ∈ x.cps.toList → c ∈ SG.cps.toList
  len : x.length = n
def sp__law_unlike : SpD := fun ds M Q E => match ds with
  | [.ref a, .int m] => Src M a ∧ 0 ≤ m ∧ m ≤ 52 ∧ ∀ (t : Str) (x y z : Int), Lt t m.toNat → Q (.str t) (mup M a (.lst [.int x, .int y, .int z]))
  | _ => False
theorem u_unlike {M : Mo} {a : Addr} {m : Int} {Q : QD} {E : EXD} (h1 : Src M a) (h2 : 0 ≤ m) (h3 : m ≤ 52) (h : ∀ (t : Str) (x y z : Int), Lt t m.toNat → Q (.str t) (mup M a (.lst [.int x, .int y, .int z]))) : sp__law_unlike [.ref a, .int m] M Q E := ⟨h1, h2, h3, h⟩
theorem cps_app (x y : Str) : (x ++ y).cps.toList = x.cps.toList ++ y.cps.toList := by
  show (x.cps ++ y.cps).toList = _
  rw [Array.toList_append]
theorem pick_perm (F R : List Nat) (k : Nat) (hk : k < R.length) : (F ++ [R[k]] ++ (R.take k ++ R.drop (k + 1))).Perm (F ++ R) := by
  rw [List.append_assoc]
  refine List.Perm.append_left F ?_
  have e : R = R.take k ++ R[k] :: R.drop (k + 1) := by
    rw [← List.drop_eq_getElem_cons hk, List.take_append_drop]
  calc ([R[k]] ++ (R.take k ++ R.drop (k + 1))).Perm (R.take k ++ ([R[k]] ++ R.drop (k + 1))) := by
        rw [← List.append_assoc, ← List.append_assoc]
        exact List.Perm.append_right _ List.perm_append_comm
    _ = R := e.symm
theorem fo_fzK {ds : List Dv} {g : TGD} {tb : TSD} {a : StD → Mo → Prop} {r : QD} {sd : StD} {M : Mo} (W : Nat → StD → Prop) (h0 : W 0 sd)
    (hs : ∀ i d sd, ds[i]? = some d → W i sd → g d sd M fun sd2 M2 => tb ⟨fun sd M' => W (i + 1) sd ∧ M' = M, r, a, fun sd M' => W (i + 1) sd ∧ M' = M⟩ sd2 M2) (hd : ∀ sd, W ds.length sd → a sd M) :
    kFor ⟨ds, fun _ => True⟩ g tb a r sd M :=
  fo_fz (fun i sd M' => W i sd ∧ M' = M) ⟨h0, rfl⟩ (fun i d sd M' he hw => by obtain ⟨hw, rfl⟩ := hw; exact hs i d sd he hw) (fun sd M' hw => by obtain ⟨hw, rfl⟩ := hw; exact hd sd hw)
/-- the number of a sign -/
def ix (c : Nat) : Nat := SG.cps.toList.idxOf c
def InS (x : Str) : Prop := ∀ c, c ∈ x.cps.toList → c ∈ SG.cps.toList
theorem ix_inj {c d : Nat} (hc : c ∈ SG.cps.toList) (hd : d ∈ SG.cps.toList) (h : ix c = ix d) : c = d := by
  have e1 := List.getElem_idxOf (List.idxOf_lt_length_of_mem hc)
  have e2 := List.getElem_idxOf (List.idxOf_lt_length_of_mem hd)
  have h' : SG.cps.toList.idxOf c = SG.cps.toList.idxOf d := h
  simp only [h'] at e1
  exact e1.symm.trans e2
theorem ix_lt {c : Nat} (hc : c ∈ SG.cps.toList) : ix c < 52 := by
  have := List.idxOf_lt_length_of_mem hc
  have h2 : SG.cps.toList.length = 52 := by decide +kernel
  unfold ix
  omega
theorem ix_get {c : Nat} (hc : c ∈ SG.cps.toList) : SG.cps.toList[ix c]? = some c := by
  have h := List.idxOf_lt_length_of_mem hc
  show SG.cps.toList[SG.cps.toList.idxOf c]? = some c
  rw [List.getElem?_eq_getElem h, List.getElem_idxOf]
theorem ix_first {c j : Nat} (hj : j < ix c) : SG.cps.toList[j]? ≠ some c := fun e => by
  have hj' : j < SG.cps.toList.idxOf c := hj
  have := List.not_of_lt_findIdx hj'
  obtain ⟨hj2, e2⟩ := List.getElem?_eq_some_iff.mp e
  simp [e2] at this
/-- what may stand at a place -/
def txt : Dv → Bool
  | .str x => x.cps.toList.all fun c => decide (c ∈ SG.cps.toList)
  | _ => false
theorem txt_in {x : Str} (h : txt (.str x) = true) : InS x := fun c hc => of_decide_eq_true (List.all_eq_true.mp h c hc)
theorem txt_of {x : Str} (h : InS x) : txt (.str x) = true := List.all_eq_true.mpr fun c hc => decide_eq_true (h c hc)
theorem GoodS.sg {x : Str} (h : InS x) : GoodS x := fun c hc => by
  have : ∀ d, d ∈ SG.cps.toList → d < 1114112 := by decide +kernel
  exact this c (h c hc)
/-- things that may be looked at -/
def TgT : Dv → Prop
  | .non => True | .bl _ => True | .int _ => True | .str x => x.length ≤ 1000000 | .lst _ => True | .tup _ => True
  | _ => False
def sp_is_text : SpD := fun ds M Q E => match ds with
  | [d] => TgT d ∧ Q (.bl (txt d)) M
  | _ => False
theorem u_istext {M : Mo} {d : Dv} {Q : QD} {E : EXD} (h1 : TgT d) (h : Q (.bl (txt d)) M) : sp_is_text [d] M Q E := ⟨h1, h⟩
def whl : Dv → Bool
  | .int _ => true
  | _ => false
def sp_is_whole : SpD := fun ds M Q E => match ds with
  | [d] => TgT d ∧ Q (.bl (whl d)) M
  | _ => False
theorem u_whole {M : Mo} {d : Dv} {Q : QD} {E : EXD} (h1 : TgT d) (h : Q (.bl (whl d)) M) : sp_is_whole [d] M Q E := ⟨h1, h⟩
/-- a sign -/
def sgnB : Dv → Bool
  | .str x => decide (x.length = 1) && txt (.str x)
  | _ => false
def sp_is_sign : SpD := fun ds M Q E => match ds with
  | [d] => TgT d ∧ Q (.bl (sgnB d)) M
  | _ => False
theorem u_sign {M : Mo} {d : Dv} {Q : QD} {E : EXD} (h1 : TgT d) (h : Q (.bl (sgnB d)) M) : sp_is_sign [d] M Q E := ⟨h1, h⟩
theorem one_sgn {x : Str} (h : x.length = 1) : ∃ c, x = ⟨#[c]⟩ := by
  rw [str_len] at h
  obtain ⟨c, hc⟩ := List.length_eq_one_iff.mp h
  exact ⟨c, congrArg Str.mk (Array.ext' hc : x.cps = #[c])⟩
/-- letters -/
def LtrD : Dv → Prop
  | .str x => InS x ∧ 1 ≤ x.length ∧ x.length ≤ 16 ∧ x.cps.toList.Nodup
  | _ => False
def sp_want_letters : SpD := fun ds M Q E => match ds with
  | [d] => TgT d ∧ (LtrD d → Q .non M) ∧ (¬ LtrD d → E "NoRule" "what" (.str "letters") M)
  | _ => False
theorem u_wl {M : Mo} {d : Dv} {Q : QD} {E : EXD} (h1 : TgT d) (h2 : LtrD d → Q .non M) (h3 : ¬ LtrD d → E "NoRule" "what" (.str "letters") M) : sp_want_letters [d] M Q E := ⟨h1, h2, h3⟩
/-- the first place that is wrong -/
def badW (l w : List Nat) : Option Nat := w.findIdx? (fun c => !decide (c ∈ l))
def knw : Dv → Str
  | .str x => x
  | _ => SG
def LtrN (d : Dv) : Prop := d = .non ∨ LtrD d
def sp_want_word : SpD := fun ds M Q E => match ds with
  | [w, l] => TgT l ∧ TgT w ∧ (¬ LtrN l → E "NoRule" "what" (.str "letters") M) ∧ (LtrN l → match w with
    | .str x => (badW (knw l).cps.toList x.cps.toList = none → Q .non M) ∧ ∀ k : Nat, badW (knw l).cps.toList x.cps.toList = some k → E "NoWord" "at" (.int k) M
    | _ => E "NoWord" "at" (.int (-1)) M)
  | _ => False
theorem u_ww {M : Mo} {x l : Str} {Q : QD} {E : EXD} (hl : LtrD (.str l)) (hx : x.length ≤ 1000000) (hi : ∀ c, c ∈ x.cps.toList → c ∈ l.cps.toList) (h : Q .non M) : sp_want_word [.str x, .str l] M Q E :=
  ⟨by have := hl.2.2.1; show l.length ≤ 1000000; omega, hx, fun n => absurd (.inr hl) n, fun _ => ⟨fun _ => h, fun k e => by
    obtain ⟨a, b⟩ := List.findIdx?_eq_some_iff_getElem.mp e
    have h2 := hi _ (List.getElem_mem a)
    simp only [knw, Bool.not_eq_true', decide_eq_false_iff_not] at b
    exact absurd h2 (by simpa using b.1)⟩⟩
theorem u_wwS {M : Mo} {x : Str} {Q : QD} {E : EXD} (hx : x.length ≤ 1000000) (hi : InS x) (h : Q .non M) : sp_want_word [.str x, .non] M Q E :=
  ⟨trivial, hx, fun n => absurd (.inl rfl) n, fun _ => ⟨fun _ => h, fun k e => by
    obtain ⟨a, b⟩ := List.findIdx?_eq_some_iff_getElem.mp e
    have h2 := hi _ (List.getElem_mem a)
    simp only [knw, Bool.not_eq_true', decide_eq_false_iff_not] at b
    exact absurd h2 (by simpa using b.1)⟩⟩
theorem join0_cps (zs : List Str) : (Txt.join (Str.ofString "") zs).cps.toList = (zs.map (·.cps.toList)).flatten := by
  rw [TL.join_eq]
  induction zs with
  | nil => rfl
  | cons x zs ih =>
    cases zs with
    | nil =>
      show x.cps.toList = x.cps.toList ++ []
      rw [List.append_nil]
    | cons y r =>
      show (x ++ Str.ofString "" ++ Str.join (Str.ofString "") (y :: r)).cps.toList = _
      rw [cps_app, cps_app, ih]
      show x.cps.toList ++ [] ++ _ = _
      rw [List.append_nil]
      rfl
theorem map_get {α : Type} {f : α → Dv} {as : List α} {i : Nat} {d : Dv} (h : (as.map f)[i]? = some d) : ∃ a, as[i]? = some a ∧ d = f a := by
  rw [List.getElem?_map] at h
  cases e : as[i]? with
  | none => rw [e] at h; cases h
  | some x => rw [e] at h; cases h; exact ⟨x, rfl, rfl⟩
abbrev sgn (c : Nat) : Str := ⟨#[c]⟩
theorem str_xt {x y : Str} (h : x.cps.toList = y.cps.toList) : x = y := by
  cases x; cases y; exact congrArg Str.mk (Array.ext' h)
theorem str_as (a b c : Str) : a ++ b ++ c = a ++ (b ++ c) := str_xt (by simp only [cps_app, List.append_assoc])
theorem str_an (a : Str) : a ++ Str.ofString "" = a := str_xt (by rw [cps_app]; exact List.append_nil _)
theorem str_na (a : Str) : Str.ofString "" ++ a = a := str_xt (by rw [cps_app]; rfl)
theorem str_nil {w : Str} (e : w.cps.toList = []) : w = "" := str_xt e
theorem join_sgn (cs : List Nat) : (Txt.join (Str.ofString "") (cs.map sgn)).cps.toList = cs := by
  rw [join0_cps, List.map_map]
  induction cs with
  | nil => rfl
  | cons c cs ih => rw [List.map_cons, List.flatten_cons, ih]; rfl
theorem sum_sgn (cs : List Nat) : ((cs.map sgn).map (·.length)).sum = cs.length := by
  induction cs with
  | nil => rfl
  | cons c cs ih =>
    rw [List.map_cons, List.map_cons, List.sum_cons, ih, List.length_cons]
    show 1 + _ = _
    omega
theorem InS.app {x y : Str} (h1 : InS x) (h2 : InS y) : InS (x ++ y) := fun c hc => by
  rw [cps_app] at hc
  exact (List.mem_append.mp hc).elim (h1 c) (h2 c)
theorem InS.take {x : Str} (h : InS x) (k : Nat) : InS (cutS x none (some (k : Int))) := fun c hc => by
  rw [cutS_take] at hc
  exact h c (List.mem_of_mem_take hc)
theorem InS.drop {x : Str} (h : InS x) (k : Nat) : InS (cutS x (some (k : Int)) none) := fun c hc => by
  rw [cutS_drop] at hc
  exact h c (List.mem_of_mem_drop hc)
theorem InS.sgn {c : Nat} (h : c ∈ SG.cps.toList) : InS (sgn c) := fun d hd => by
  have : d = c := by simpa using hd
  rw [this]
  exact h
theorem InS.nil : InS "" := fun c hc => by cases hc
theorem take_len (x : Str) (k : Nat) : (cutS x none (some (k : Int))).length = min k x.length := by
  rw [str_len, cutS_take, str_len]
  simp
theorem drop_len (x : Str) (k : Nat) : (cutS x (some (k : Int)) none).length = x.length - k := by
  rw [str_len, cutS_drop, str_len]
  simp
theorem Lt.le {x : Str} {n : Nat} (L : Lt x n) : n ≤ 52 := by
  have := List.Nodup.length_le_of_subset L.nd L.sub
  have h2 : SG.cps.toList.length = 52 := by decide +kernel
  have h3 := L.len
  rw [str_len] at h3
  omega
theorem strs_get {zs : List Str} {i : Nat} {d : Dv} (h : (zs.map Dv.str)[i]? = some d) : ∃ x, zs[i]? = some x ∧ d = .str x := by
  rw [List.getElem?_map] at h
  cases e : zs[i]? with
  | none => rw [e] at h; cases h
  | some x => rw [e] at h; cases h; exact ⟨x, rfl, rfl⟩
theorem sgn_list {P : Nat → Prop} : ∀ {zs : List Str}, (∀ z ∈ zs, ∃ c, z = sgn c ∧ P c) → ∃ cs : List Nat, zs = cs.map sgn ∧ ∀ c ∈ cs, P c
  | [], _ => ⟨[], rfl, fun c hc => by cases hc⟩
  | z :: zs, h => by
    obtain ⟨c, rfl, hc⟩ := h z List.mem_cons_self
    obtain ⟨cs, e, hcs⟩ := sgn_list (zs := zs) fun x hx => h x (List.mem_cons_of_mem _ hx)
    refine ⟨c :: cs, by rw [e]; rfl, fun d hd => ?_⟩
    rcases List.mem_cons.mp hd with rfl | hd
    · exact hc
    · exact hcs d hd
theorem cell_of {ns : List Int} {lo hi : Option Int} {i : Nat} {d : Dv} (h : (cutD (ns.map .int ++ [.int 0]) lo hi)[i]? = some d) : ∃ c : Int, d = .int c := by
  have := cut_mem (List.mem_of_getElem? h)
  rcases List.mem_append.mp this with q | q
  · obtain ⟨c, _, e⟩ := List.mem_map.mp q
    exact ⟨c, e.symm⟩
  · exact ⟨0, List.mem_singleton.mp q⟩
theorem str_nilA (x : Str) : Str.empty ++ x = x := by
  cases x with
  | mk a =>
    show (⟨#[] ++ a⟩ : Str) = ⟨a⟩
    rw [Array.empty_append]
theorem cutS_neg (x : Str) (k : Nat) (hk : 0 < k) : (cutS x (some (-(k : Int))) none).cps.toList = x.cps.toList.drop (x.length - k) := by
  have e : HT.sIx x.length 0 (some (-(k : Int))) = x.length - k := by
    show (if -(k : Int) < 0 then (-(k : Int) + (x.length : Int)).toNat else _) = _
    rw [if_pos (by omega)]
    omega
  unfold cutS
  rw [HT.sIx_none, e, List.take_of_length_le (by rw [List.length_drop, ← str_len]; exact Nat.le_refl _)]

/-! texts of drawn signs -/
abbrev strN (cs : List Nat) : Str := ⟨cs.toArray⟩
theorem strN_cps (cs : List Nat) : (strN cs).cps.toList = cs := rfl
theorem strN_len (cs : List Nat) : (strN cs).length = cs.length := by rw [str_len]
def sgD (cs : List Nat) : List Dv := cs.map fun c => Dv.str (sgn c)
def TxA (s : Str) (n : Nat) (acc : List Dv) : Prop := ∃ cs : List Nat, acc = sgD cs ∧ cs.length = n ∧ ∀ c, c ∈ cs → c ∈ s.cps.toList
theorem TxA.nil {s : Str} : TxA s 0 [] := ⟨[], rfl, rfl, fun c h => by cases h⟩
theorem TxA.snoc {s : Str} {n : Nat} {acc : List Dv} {c : Nat} (h : TxA s n acc) (hc : c ∈ s.cps.toList) : TxA s (n + 1) (acc ++ [.str (sgn c)]) := by
  obtain ⟨cs, rfl, rfl, h⟩ := h
  refine ⟨cs ++ [c], by unfold sgD; rw [List.map_append]; rfl, by rw [List.length_append]; rfl, fun d hd => ?_⟩
  rcases List.mem_append.mp hd with q | q
  · exact h d q
  · rw [List.mem_singleton.mp q]; exact hc
theorem i_ixSd {s : Str} {r : Int} {M : Mo} {Q : QD} (h0 : 0 ≤ r) (h1 : r < (s.length : Nat)) (hl : s.length ≤ 16777216) (q : ∀ c, c ∈ s.cps.toList → Q (.str (sgn c)) M) : dIx (.str s) (.int r) M Q := by
  have hr2 : r.toNat < s.cps.toList.length := by rw [← str_len]; omega
  exact i_ixS (e_atI h0 (List.getElem?_eq_getElem hr2)) hl (q _ (List.getElem_mem hr2))
theorem lk_txt {B M : Mo} {a : Addr} {lo : Int} {n : Nat} {g : Tgt} {tt : TTD} {te : TED} {sw : StD} {F : List Dv → Mo → Prop} (s : Str) (hn : n ≤ 16777216) (h0 : Drw B a M)
    (hs : ∀ i acc x y z, i < n → TxA s i acc → dG g (.int (lo + (i : Nat))) sw (mup B a (.lst [.int x, .int y, .int z])) fun sd2 M2 => tt sd2 M2 fun b M3 => if b = true then te sd2 M3 fun y M4 => TxA s (i + 1) (acc ++ [y]) ∧ Drw B a M4 else TxA s (i + 1) acc ∧ Drw B a M3)
    (hd : ∀ cs x y z, cs.length = n → (∀ c, c ∈ cs → c ∈ s.cps.toList) → F (sgD cs) (mup B a (.lst [.int x, .int y, .int z]))) : kLc ⟨rngD lo n, fun _ => True⟩ g tt te sw F M :=
  lk_rng (fun i acc M => TxA s i acc ∧ Drw B a M) hn ⟨.nil, h0⟩ (fun i acc M hi _ ⟨h1, x, y, z, e⟩ => by subst e; exact hs i acc x y z hi h1) fun acc M _ ⟨h1, x, y, z, e⟩ => by
    subst e
    obtain ⟨cs, rfl, h2, h3⟩ := h1
    exact hd cs x y z h2 h3
theorem i_joinSg {M : Mo} {Q : QD} {cs : List Nat} (hl : cs.length ≤ 16777216) (q : Q (.str (strN cs)) M) : dJoin (.str "") [.lst (sgD cs)] M Q := by
  refine i_join (zs := cs.map sgn) rfl (by unfold sgD; rw [← strsOf_map, List.map_map]; rfl) (by rw [sum_sgn]; show cs.length + _ * 0 ≤ _; omega) ?_
  rw [show Txt.join (Str.ofString "") (cs.map sgn) = strN cs from str_xt (join_sgn cs)]
  exact q
theorem els_map {α : Type} {f : α → Dv} {P : α → Prop} : ∀ {n : Nat} {acc : List Dv}, Els (fun d => ∃ a, d = f a ∧ P a) n acc → ∃ as : List α, acc = as.map f ∧ as.length = n ∧ ∀ a, a ∈ as → P a
  | n, [], h => ⟨[], rfl, h.1, fun z hz => by cases hz⟩
  | 0, d :: acc, h => by have := h.1; cases this
  | n + 1, d :: acc, h => by
    obtain ⟨x, rfl, px⟩ := h.2 d List.mem_cons_self
    obtain ⟨zs, e, l, p⟩ := els_map (n := n) (acc := acc) ⟨by simpa using h.1, fun e he => h.2 e (List.mem_cons_of_mem _ he)⟩
    refine ⟨x :: zs, by rw [e]; rfl, by rw [List.length_cons, l], fun z hz => ?_⟩
    rcases List.mem_cons.mp hz with rfl | hz
    · exact px
    · exact p z hz
theorem InS.strN {cs : List Nat} (h : ∀ c, c ∈ cs → c ∈ SG.cps.toList) : InS (strN cs) := h
local macro_rules | `(tactic| walk_at "txs") => `(tactic| (intro i acc x y z hi ha; walk_at "dd"; refine i_ixSd (by omega) (by omega) (by omega) (fun c hc => ?_); walk_at "dd"; exact ⟨TxA.snoc ha hc, Drw.mk⟩))
/-! sorted by keys, as buckets -/
theorem rgI_mem {lo hi i : Int} : i ∈ rgI lo hi ↔ lo ≤ i ∧ i < hi := by
  unfold rgI
  rw [List.mem_map]
  constructor
  · rintro ⟨n, hn, rfl⟩
    have := List.mem_range.mp hn
    omega
  · rintro ⟨a, b⟩
    exact ⟨(i - lo).toNat, List.mem_range.mpr (by omega), by omega⟩
theorem rgI_lt (lo hi : Int) : (rgI lo hi).Pairwise (· < ·) := by
  unfold rgI
  rw [List.pairwise_map]
  exact List.pairwise_lt_range.imp fun h => by omega
theorem sortK_perm (key : Int → Int) (lo hi : Int) : (sortK key lo hi).Perm (rgI lo hi) := List.mergeSort_perm _ _
theorem sortK_mem {key : Int → Int} {lo hi i : Int} : i ∈ sortK key lo hi ↔ lo ≤ i ∧ i < hi := (sortK_perm key lo hi).mem_iff.trans rgI_mem
abbrev KLe (key : Int → Int) (p q : Int) : Prop := key p < key q ∨ (key p = key q ∧ p ≤ q)
theorem sortK_pw (key : Int → Int) (lo hi : Int) : (sortK key lo hi).Pairwise (KLe key) := by
  have := List.pairwise_mergeSort (le := fun p q => decide (KLe key p q)) (fun a b c h1 h2 => by
    have h1 := of_decide_eq_true h1
    have h2 := of_decide_eq_true h2
    refine decide_eq_true ?_
    unfold KLe at *
    omega) (fun a b => by
    rw [Bool.or_eq_true, decide_eq_true_iff, decide_eq_true_iff]
    unfold KLe
    omega) (rgI lo hi)
  exact this.imp fun h => of_decide_eq_true h
theorem kle_uniq {key : Int → Int} {xs ys : List Int} (h1 : xs.Pairwise (KLe key)) (h2 : ys.Pairwise (KLe key)) (h : xs.Perm ys) : xs = ys :=
  List.Perm.eq_of_pairwise (le := KLe key) (fun a b _ _ p q => by unfold KLe at *; omega) h1 h2 h
def bkt (key : Int → Int) (L : List Int) (m : Nat) : List Int := (List.range m).flatMap fun k => L.filter fun i => decide (key i = (k : Nat))
theorem bkt_succ (key : Int → Int) (L : List Int) (m : Nat) : bkt key L (m + 1) = bkt key L m ++ L.filter fun i => decide (key i = (m : Nat)) := by
  unfold bkt
  rw [List.range_succ, List.flatMap_append]
  simp
theorem bkt_mem {key : Int → Int} {L : List Int} {m : Nat} {i : Int} : i ∈ bkt key L m ↔ i ∈ L ∧ 0 ≤ key i ∧ key i < (m : Nat) := by
  unfold bkt
  rw [List.mem_flatMap]
  constructor
  · rintro ⟨k, hk, h⟩
    rw [List.mem_filter, decide_eq_true_iff] at h
    have := List.mem_range.mp hk
    exact ⟨h.1, by omega, by omega⟩
  · rintro ⟨a, b, c⟩
    exact ⟨(key i).toNat, List.mem_range.mpr (by omega), List.mem_filter.mpr ⟨a, decide_eq_true (by omega)⟩⟩
theorem bkt_pw {key : Int → Int} {L : List Int} (hL : L.Pairwise (· < ·)) (m : Nat) : (bkt key L m).Pairwise (KLe key) := by
  induction m with
  | zero => simp [bkt]
  | succ m ih =>
    rw [bkt_succ, List.pairwise_append]
    refine ⟨ih, ?_, fun a ha b hb => ?_⟩
    · refine List.Pairwise.imp_of_mem (fun {a b} ha hb h => ?_) (hL.filter _)
      have h1 := of_decide_eq_true (List.mem_filter.mp ha).2
      have h2 := of_decide_eq_true (List.mem_filter.mp hb).2
      unfold KLe
      omega
    · have h1 := bkt_mem.mp ha
      have h2 := of_decide_eq_true (List.mem_filter.mp hb).2
      unfold KLe
      omega
theorem filter_split {α : Type} (p q : α → Bool) (h : ∀ x, p x = true → q x = true → False) : ∀ L : List α, (L.filter p ++ L.filter q).Perm (L.filter fun x => p x || q x)
  | [] => .refl _
  | x :: L => by
    have ih := filter_split p q h L
    cases hp : p x with
    | true =>
      have hq : q x = false := by
        cases hq : q x with
        | true => exact (h x hp hq).elim
        | false => rfl
      rw [List.filter_cons_of_pos hp, List.filter_cons_of_neg (by rw [hq]; exact Bool.false_ne_true), List.filter_cons_of_pos (by rw [hp]; rfl), List.cons_append]
      exact ih.cons x
    | false =>
      cases hq : q x with
      | true =>
        rw [List.filter_cons_of_neg (by rw [hp]; exact Bool.false_ne_true), List.filter_cons_of_pos hq, List.filter_cons_of_pos (by rw [hq, hp]; rfl)]
        exact (List.perm_middle).trans (ih.cons x)
      | false =>
        rw [List.filter_cons_of_neg (by rw [hp]; exact Bool.false_ne_true), List.filter_cons_of_neg (by rw [hq]; exact Bool.false_ne_true), List.filter_cons_of_neg (by rw [hq, hp]; exact Bool.false_ne_true)]
        exact ih
theorem bkt_perm {key : Int → Int} {L : List Int} (m : Nat) : (bkt key L m).Perm (L.filter fun i => decide (0 ≤ key i) && decide (key i < (m : Nat))) := by
  induction m with
  | zero =>
    rw [List.filter_eq_nil_iff.mpr fun i _ => by simp]
    simp [bkt]
  | succ m ih =>
    rw [bkt_succ]
    refine (ih.append_right _).trans ((filter_split _ _ (fun x h1 h2 => ?_) L).trans (.of_eq ?_))
    · simp at h1 h2
      omega
    · refine List.filter_congr fun i _ => ?_
      rw [Bool.eq_iff_iff]
      simp
      omega
theorem sortK_bkt {key : Int → Int} {lo hi : Int} {m : Nat} (h : ∀ i, lo ≤ i → i < hi → 0 ≤ key i ∧ key i < (m : Nat)) : sortK key lo hi = bkt key (rgI lo hi) m := by
  refine kle_uniq (sortK_pw ..) (bkt_pw (rgI_lt ..) m) ((sortK_perm ..).trans ?_)
  refine (List.Perm.of_eq ?_).trans (bkt_perm m).symm
  refine (List.filter_eq_self.mpr fun i hi => ?_).symm
  have := h i (rgI_mem.mp hi).1 (rgI_mem.mp hi).2
  simp
  omega
/-! clusters -/
def begN (b : Nat → Bool) (cs : List Nat) (n : Nat) : List Nat := (List.range n).filter fun i => decide (i = 0) || b (cs.getD i 0)
def clN (bs : List Nat) (n : Nat) : List (Nat × Nat) := bs.zip (bs.tail ++ [n])
theorem begN_succ (b : Nat → Bool) (cs : List Nat) (n : Nat) : begN b cs (n + 1) = begN b cs n ++ if (decide (n = 0) || b (cs.getD n 0)) = true then [n] else [] := by
  unfold begN
  rw [List.range_succ, List.filter_append]
  congr 1
  by_cases h : (decide (n = 0) || b (cs.getD n 0)) = true
  · rw [if_pos h, List.filter_cons, if_pos h]; rfl
  · rw [if_neg h, List.filter_cons, if_neg h]; rfl
theorem begN_ne {b : Nat → Bool} {cs : List Nat} {n : Nat} (h : 0 < n) : begN b cs n ≠ [] := by
  intro e
  have : 0 ∈ begN b cs n := List.mem_filter.mpr ⟨List.mem_range.mpr h, rfl⟩
  rw [e] at this
  cases this
theorem clN_snoc (bs : List Nat) (n k : Nat) : clN (bs ++ [n]) k = clN bs n ++ [(n, k)] := by
  cases bs with
  | nil => rfl
  | cons x r =>
    show (x :: (r ++ [n])).zip (r ++ [n] ++ [k]) = ((x :: r).zip (r ++ [n])) ++ [(n, k)]
    have : (x :: (r ++ [n])) = (x :: r) ++ [n] := rfl
    rw [this, List.zip_append (by simp)]
    rfl
theorem clN_last {bs : List Nat} (h : bs ≠ []) (n : Nat) : ∃ L x, clN bs n = L ++ [(x, n)] ∧ ∀ k, clN bs k = L ++ [(x, k)] := by
  have e : bs = bs.dropLast ++ [bs.getLast h] := (List.dropLast_concat_getLast h).symm
  refine ⟨clN bs.dropLast (bs.getLast h), bs.getLast h, ?_, fun k => ?_⟩
  · conv => lhs; rw [e]
    exact clN_snoc ..
  · conv => lhs; rw [e]
    exact clN_snoc ..
/-- the clusters tile 0 .. n - 1 -/
theorem clN_tile {b : Nat → Bool} {cs : List Nat} (F : Nat → Nat → List Int) (hF : ∀ i k, i ≤ k → (F i k).Perm (rgI (i : Nat) (k : Nat))) : ∀ n, ((clN (begN b cs n) n).flatMap fun p => F p.1 p.2).Perm (rgI 0 (n : Nat)) ∧ ∀ p, p ∈ clN (begN b cs n) n → p.1 < p.2 ∧ p.2 ≤ n := by
  have key : ∀ n, ∀ F : Nat → Nat → List Int, (∀ i k, i ≤ k → (F i k).Perm (rgI (i : Nat) (k : Nat))) → ((clN (begN b cs n) n).flatMap fun p => F p.1 p.2).Perm (rgI 0 (n : Nat)) ∧ ∀ p, p ∈ clN (begN b cs n) n → p.1 < p.2 ∧ p.2 ≤ n := by
    intro n F hF
    induction n with
    | zero => exact ⟨by simp [begN, clN, rgI], fun p hp => by simp [begN, clN] at hp⟩
    | succ n ih =>
      rw [begN_succ]
      have e1 : ∀ i : Nat, i ≤ n → rgI (i : Nat) ((n + 1 : Nat) : Int) = rgI (i : Nat) (n : Nat) ++ [(n : Int)] := fun i hi => by
        unfold rgI
        rw [show (((n + 1 : Nat) : Int) - (i : Nat)).toNat = ((n : Int) - (i : Nat)).toNat + 1 by omega, List.range_succ, List.map_append]
        congr 1
        simp
        omega
      by_cases h : (decide (n = 0) || b (cs.getD n 0)) = true
      · rw [if_pos h, clN_snoc]
        refine ⟨?_, fun p hp => ?_⟩
        · rw [List.flatMap_append]
          have e := e1 0 (Nat.zero_le _)
          rw [show ((0 : Nat) : Int) = 0 from rfl] at e
          rw [e]
          refine ih.1.append ?_
          simp only [List.flatMap_cons, List.flatMap_nil, List.append_nil]
          refine (hF n (n + 1) (Nat.le_succ _)).trans (.of_eq ?_)
          rw [e1 n (Nat.le_refl _)]
          simp [rgI]
        · rcases List.mem_append.mp hp with q | q
          · have := ih.2 p q; omega
          · rw [List.mem_singleton.mp q]; simp
      · rw [if_neg h, List.append_nil]
        have hn : 0 < n := Nat.pos_of_ne_zero fun z => h (by simp [z])
        obtain ⟨L, x, e2, e3⟩ := clN_last (begN_ne (b := b) (cs := cs) hn) n
        have ih1 := ih.1
        have ih2 := ih.2
        rw [e2] at ih1 ih2
        have hx := ih2 (x, n) (by simp)
        rw [e3]
        refine ⟨?_, fun p hp => ?_⟩
        · rw [List.flatMap_append] at ih1 ⊢
          simp only [List.flatMap_cons, List.flatMap_nil, List.append_nil] at ih1 ⊢
          have e := e1 0 (Nat.zero_le _)
          rw [show ((0 : Nat) : Int) = 0 from rfl] at e
          rw [e]
          have p1 : (F x (n + 1)).Perm (F x n ++ [(n : Int)]) := (hF x (n + 1) (by omega)).trans ((List.Perm.of_eq (e1 x (by omega))).trans ((hF x n (by omega)).symm.append_right _))
          refine (p1.append_left _).trans ?_
          rw [← List.append_assoc]
          exact ih1.append_right _
        · rcases List.mem_append.mp hp with q | q
          · have := ih2 p (List.mem_append_left _ q); omega
          · rw [List.mem_singleton.mp q]; simp; omega
  exact fun n => key n F hF
theorem sort_rg {ns is : List Int} {n : Int} (h1 : ns.Perm is) (h2 : ns.Pairwise (· ≤ ·)) (h3 : is.Perm (rgI 0 n)) : ns = rgI 0 n :=
  List.Perm.eq_of_pairwise (le := (· ≤ ·)) (fun a b _ _ p q => by omega) h2 ((rgI_lt 0 n).imp fun h => by omega) (h1.trans h3)
theorem begN_all (cs : List Nat) (n : Nat) : begN (fun _ => true) cs n = List.range n := by
  unfold begN
  exact List.filter_eq_self.mpr fun i _ => by simp
theorem bare_places (key : Int → Int) (n : Nat) : (clN (List.range n) n).flatMap (fun p => sortK key (p.1 : Nat) (p.2 : Nat)) = rgI 0 (n : Nat) := by
  induction n with
  | zero => rfl
  | succ n ih =>
    rw [List.range_succ, clN_snoc, List.flatMap_append, ih]
    have e1 : sortK key (n : Nat) ((n + 1 : Nat) : Int) = [(n : Int)] := by
      have h := sortK_perm key (n : Nat) ((n + 1 : Nat) : Int)
      have e : rgI (n : Nat) ((n + 1 : Nat) : Int) = [(n : Int)] := by
        unfold rgI
        rw [show (((n + 1 : Nat) : Int) - (n : Nat)).toNat = 1 by omega]
        simp
      rw [e] at h
      exact List.perm_singleton.mp h
    simp only [List.flatMap_cons, List.flatMap_nil, List.append_nil]
    rw [e1]
    unfold rgI
    rw [show (((n + 1 : Nat) : Int) - 0).toNat = n + 1 by omega, show ((n : Int) - 0).toNat = n by omega, List.range_succ, List.map_append]
    congr 1
    simp
/-! ranks -/
structure RkOk (kvs : KvD) : Prop where
  len : kvs.length ≤ 1000
  el : ∀ p, p ∈ kvs → ∃ c r : Nat, p = (.inr (sgn c), .int (r : Nat)) ∧ c ∈ SG.cps.toList ∧ r ≤ 9
theorem RkOk.nil : RkOk [] := ⟨by decide, fun p hp => by cases hp⟩
def rkO (kvs : KvD) (c : Nat) : Option Nat := match valD kvs (.inr (sgn c)) with
  | some (.int i) => some i.toNat
  | _ => none
theorem RkOk.val {kvs : KvD} (h : RkOk kvs) (c : Nat) : (valD kvs (.inr (sgn c)) = none ∧ rkO kvs c = none) ∨ ∃ r : Nat, r ≤ 9 ∧ valD kvs (.inr (sgn c)) = some (.int (r : Nat)) ∧ rkO kvs c = some r := by
  unfold rkO
  cases e : valD kvs (.inr (sgn c)) with
  | none => exact .inl ⟨rfl, rfl⟩
  | some d =>
    obtain ⟨c', r, e2, _, hr⟩ := h.el _ (valD_mem e)
    cases e2
    exact .inr ⟨r, hr, rfl, rfl⟩
theorem sgn_inj {c d : Nat} (h : sgn c = sgn d) : c = d := by
  have := congrArg (fun s : Str => s.cps.toList) h
  simpa using this
theorem RkOk.put {kvs : KvD} (h : RkOk kvs) {c r : Nat} (hl : kvs.length < 1000) (hc : c ∈ SG.cps.toList) (hr : r ≤ 9) : RkOk (putDk kvs (.inr (sgn c)) (.int (r : Nat))) := by
  refine ⟨by have := putDk_len kvs (.inr (sgn c)) (.int (r : Nat)); omega, fun p hp => ?_⟩
  unfold putDk at hp
  split at hp
  · obtain ⟨q, hq, rfl⟩ := List.mem_map.mp hp
    obtain ⟨c', r', e, h1, h2⟩ := h.el q hq
    split
    · rename_i e2
      rw [e2]
      exact ⟨c, r, rfl, hc, hr⟩
    · exact ⟨c', r', e, h1, h2⟩
  · rcases List.mem_append.mp hp with q | q
    · exact h.el p q
    · rw [List.mem_singleton.mp q]
      exact ⟨c, r, rfl, hc, hr⟩
abbrev caseD (kvs : KvD) : Dv := .obj "Case" [("ranked", .dct kvs), ("widths", .dct []), ("footing", .dct []), ("seating", .dct [])]
def turnS : Option Nat → Nat
  | none => 1
  | some 0 => 0
  | some (r + 1) => r + 2
def turnT : Option Nat → Nat
  | none => 0
  | some r => r + 1
def isB (kvs : KvD) (c : Nat) : Bool := (rkO kvs c).isNone
theorem isB_val {kvs : KvD} (h : RkOk kvs) (c : Nat) : (!(valD kvs (.inr (sgn c))).isSome) = isB kvs c := by
  unfold isB
  rcases h.val c with ⟨e1, e2⟩ | ⟨r, _, e1, e2⟩ <;> rw [e1, e2] <;> rfl
def clOf (kvs : KvD) (cs : List Nat) : List (Nat × Nat) := clN (begN (isB kvs) cs cs.length) cs.length
def keyO (t : Option Nat → Nat) (kvs : KvD) (cs : List Nat) (i : Int) : Int := ((t (rkO kvs (cs.getD i.toNat 0)) : Nat) : Int)
def plOf (t : Option Nat → Nat) (kvs : KvD) (cs : List Nat) : List Int := (clOf kvs cs).flatMap fun p => sortK (keyO t kvs cs) (p.1 : Nat) (p.2 : Nat)
theorem plOf_perm (t : Option Nat → Nat) (kvs : KvD) (cs : List Nat) : (plOf t kvs cs).Perm (rgI 0 (cs.length : Nat)) := (clN_tile (fun i k => sortK (keyO t kvs cs) (i : Nat) (k : Nat)) (fun i k _ => sortK_perm ..) cs.length).1
theorem clOf_le {kvs : KvD} {cs : List Nat} : ∀ p, p ∈ clOf kvs cs → p.1 < p.2 ∧ p.2 ≤ cs.length := (clN_tile (fun i k => rgI (i : Nat) (k : Nat)) (fun i k _ => .refl _) cs.length).2
theorem plOf_mem {t : Option Nat → Nat} {kvs : KvD} {cs : List Nat} {i : Int} : i ∈ plOf t kvs cs ↔ 0 ≤ i ∧ i < (cs.length : Nat) := (plOf_perm t kvs cs).mem_iff.trans rgI_mem
theorem rgI_len (lo hi : Int) : (rgI lo hi).length = (hi - lo).toNat := by unfold rgI; rw [List.length_map, List.length_range]
theorem plOf_len (t : Option Nat → Nat) (kvs : KvD) (cs : List Nat) : (plOf t kvs cs).length = cs.length := by rw [(plOf_perm t kvs cs).length_eq, rgI_len]; omega
theorem plOf_take {t : Option Nat → Nat} {kvs : KvD} {cs : List Nat} {i : Nat} {q : Nat × Nat} (h : (clOf kvs cs)[i]? = some q) :
    ((clOf kvs cs).take i).flatMap (fun p => sortK (keyO t kvs cs) (p.1 : Nat) (p.2 : Nat)) ++ sortK (keyO t kvs cs) (q.1 : Nat) (q.2 : Nat) = ((clOf kvs cs).take (i + 1)).flatMap (fun p => sortK (keyO t kvs cs) (p.1 : Nat) (p.2 : Nat)) ∧
    (((clOf kvs cs).take i).flatMap (fun p => sortK (keyO t kvs cs) (p.1 : Nat) (p.2 : Nat))).length + (sortK (keyO t kvs cs) (q.1 : Nat) (q.2 : Nat)).length ≤ cs.length := by
  have e : ((clOf kvs cs).take i).flatMap (fun p => sortK (keyO t kvs cs) (p.1 : Nat) (p.2 : Nat)) ++ sortK (keyO t kvs cs) (q.1 : Nat) (q.2 : Nat) = ((clOf kvs cs).take (i + 1)).flatMap (fun p => sortK (keyO t kvs cs) (p.1 : Nat) (p.2 : Nat)) := by
    rw [List.take_add_one, h, List.flatMap_append]
    simp
  refine ⟨e, ?_⟩
  have e2 := plOf_len t kvs cs
  unfold plOf at e2
  rw [← List.take_append_drop (i + 1) (clOf kvs cs), List.flatMap_append, ← e, List.length_append, List.length_append] at e2
  omega
theorem keyO_at {t : Option Nat → Nat} {kvs : KvD} {cs : List Nat} {j : Nat} (h : j < cs.length) : keyO t kvs cs (j : Nat) = ((t (rkO kvs cs[j]) : Nat) : Int) := by
  unfold keyO
  rw [Int.toNat_natCast, List.getD_eq_getElem?_getD, List.getElem?_eq_getElem h, Option.getD_some]
abbrev pairND (p : Nat × Nat) : Dv := .tup [.int (p.1 : Nat), .int (p.2 : Nat)]
theorem pairD_clN (bs : List Nat) (n : Nat) : DL.pairD (bs.map fun k : Nat => Dv.int (k : Nat)) ((bs.tail.map fun k : Nat => Dv.int (k : Nat)) ++ [.int (n : Nat)]) = (clN bs n).map pairND := by
  unfold DL.pairD clN
  rw [show (bs.tail.map fun k : Nat => Dv.int (k : Nat)) ++ [Dv.int (n : Nat)] = (bs.tail ++ [n]).map fun k : Nat => Dv.int (k : Nat) by rw [List.map_append]; rfl, List.zipWith_map, List.zip, List.map_zipWith]
/-- what stands at places -/
def txAt (cs : List Nat) (is : List Int) : List Nat := is.map fun i => cs.getD i.toNat 0
theorem rng_rgI (n : Nat) : (List.range n).map (fun i : Nat => Dv.int (i : Nat)) = (rgI 0 (n : Nat)).map .int := by
  unfold rgI
  rw [List.map_map, show ((n : Nat) - 0 : Int).toNat = n by omega]
  refine List.map_congr_left fun i _ => ?_
  show Dv.int (i : Nat) = Dv.int (0 + (i : Nat))
  rw [Int.zero_add]
theorem plOf_bare (t : Option Nat → Nat) (cs : List Nat) : plOf t [] cs = rgI 0 (cs.length : Nat) := by
  unfold plOf clOf
  rw [show isB [] = fun _ => true from funext fun _ => rfl, begN_all]
  exact bare_places _ _
theorem txAt_rg (cs : List Nat) : txAt cs (rgI 0 (cs.length : Nat)) = cs := by
  unfold txAt rgI
  refine List.ext_getElem? fun i => ?_
  rw [List.getElem?_map, List.getElem?_map, show ((cs.length : Nat) - 0 : Int).toNat = cs.length by omega]
  by_cases h : i < cs.length
  · rw [List.getElem?_range h, Option.map_some, Option.map_some, show (0 + (i : Int)).toNat = i by omega, List.getD_eq_getElem?_getD, List.getElem?_eq_getElem h, Option.getD_some]
  · rw [List.getElem?_eq_none (by rw [List.length_range]; omega), List.getElem?_eq_none (by omega)]
    rfl
theorem vw_pl {M : Mo} {t : Str} {p : Addr} {is : List Int} (h : M p = some (.lst (is.map .int))) : Vw M (.tup [.str t, .ref p]) (.tup [.str t, .lst (is.map .int)]) :=
  VwL.tup (.cons (.str t) (.cons (.own h rfl fun i d e h1 h2 => by
    rw [h1] at h2
    cases h2
    obtain ⟨k, _, rfl⟩ := map_get h1
    exact .int k) .nil))
theorem pln_pl {t : Str} {is : List Int} (g : GoodS t) : Pln 60 (.tup [.str t, .lst (is.map .int)]) := fun d hd => by
  rcases List.mem_cons.mp hd with rfl | hd
  · exact g
  · rw [List.mem_singleton.mp hd]
    intro e he
    obtain ⟨k, _, rfl⟩ := List.mem_map.mp he
    exact True.intro
theorem i_neVpl {M : Mo} {p : Addr} {t u : Str} {is js : List Int} {Q : QD} (h : M p = some (.lst (is.map .int))) (g1 : GoodS t) (g2 : GoodS u) (q : Q (.bl (!dq (.tup [.str t, .lst (is.map .int)]) (.tup [.str u, .lst (js.map .int)]))) M) :
    dEqV (fun x => !x) (.tup [.str t, .ref p]) (.tup [.str u, .lst (js.map .int)]) M Q := i_eqV (vw_pl h) (Pln.vw (pln_pl g2)) (pln_pl g1) (pln_pl g2) q
/-! promises -/
instance s_isN_dct {M : Mo} {Q : QD} {kvs : KvD} : Step (dIsN (.dct kvs) .non M Q) (Q (.bl false) M) := ⟨fun h => h⟩
def sp__law_draw : SpD := fun ds M Q E => match ds with
  | [.ref a, .int m] => Src M a ∧ 0 < m ∧ m < 1073741824 ∧ ∀ r x y z : Int, 0 ≤ r → r < m → Q (.int r) (mup M a (.lst [.int x, .int y, .int z]))
  | _ => False
theorem u_draw {M : Mo} {a : Addr} {m : Int} {Q : QD} {E : EXD} (h1 : Src M a) (h2 : 0 < m) (h3 : m < 1073741824) (h : ∀ r x y z : Int, 0 ≤ r → r < m → Q (.int r) (mup M a (.lst [.int x, .int y, .int z]))) : sp__law_draw [.ref a, .int m] M Q E := ⟨h1, h2, h3, h⟩
def sp__law_well : SpD := fun ds M Q E => match ds with
  | [.int c] => ∀ (x : Int) p, M p = none → Q (.ref p) (mup M p (.lst [.int x, .int c, .int 0]))
  | _ => False
theorem u_well {M : Mo} {c : Int} {Q : QD} {E : EXD} (h : ∀ (x : Int) p, M p = none → Q (.ref p) (mup M p (.lst [.int x, .int c, .int 0]))) : sp__law_well [.int c] M Q E := h
def sp__law_ranks : SpD := fun ds M Q E => match ds with
  | [.ref a, .str s] => Src M a ∧ InS s ∧ s.length ≤ 52 ∧ ∀ (kvs : KvD) (x y z : Int), RkOk kvs → ∀ p, (mup M a (.lst [.int x, .int y, .int z])) p = none → Q (.ref p) (mup (mup M a (.lst [.int x, .int y, .int z])) p (.dK kvs))
  | _ => False
theorem u_ranks {M : Mo} {a : Addr} {s : Str} {Q : QD} {E : EXD} (h1 : Src M a) (h2 : InS s) (h3 : s.length ≤ 52) (h : ∀ (kvs : KvD) (x y z : Int), RkOk kvs → ∀ p, (mup M a (.lst [.int x, .int y, .int z])) p = none → Q (.ref p) (mup (mup M a (.lst [.int x, .int y, .int z])) p (.dK kvs))) : sp__law_ranks [.ref a, .str s] M Q E := ⟨h1, h2, h3, h⟩
def sp__law_word : SpD := fun ds M Q E => match ds with
  | [.ref a, .str s, .int m] => Src M a ∧ 1 ≤ s.length ∧ s.length ≤ 52 ∧ 0 ≤ m ∧ m ≤ 1000 ∧ ∀ (cs : List Nat) (x y z : Int), (∀ c, c ∈ cs → c ∈ s.cps.toList) → (cs.length : Nat) ≤ m → Q (.str (strN cs)) (mup M a (.lst [.int x, .int y, .int z]))
  | _ => False
theorem u_word {M : Mo} {a : Addr} {s : Str} {m : Int} {Q : QD} {E : EXD} (h1 : Src M a) (h2 : 1 ≤ s.length) (h3 : s.length ≤ 52) (h4 : 0 ≤ m) (h5 : m ≤ 1000) (h : ∀ (cs : List Nat) (x y z : Int), (∀ c, c ∈ cs → c ∈ s.cps.toList) → (cs.length : Nat) ≤ m → Q (.str (strN cs)) (mup M a (.lst [.int x, .int y, .int z]))) : sp__law_word [.ref a, .str s, .int m] M Q E := ⟨h1, h2, h3, h4, h5, h⟩
def sp_is_from : SpD := fun ds M Q E => match ds with
  | [.int i, .int lo, .int hi] => Q (.bl (decide (lo ≤ i ∧ i ≤ hi))) M
  | _ => False
theorem u_isfrom {M : Mo} {i lo hi : Int} {Q : QD} {E : EXD} (h : Q (.bl (decide (lo ≤ i ∧ i ≤ hi))) M) : sp_is_from [.int i, .int lo, .int hi] M Q E := h
def sp_is_spot : SpD := fun ds M Q E => match ds with
  | [d] => False ∧ Q d M
  | _ => False
def sp_is_seat_of : SpD := fun ds M Q E => match ds with
  | [d] => False ∧ Q d M
  | _ => False
def sp_Case_is_hung : SpD := fun ds M Q E => match ds with
  | [d, e] => False ∧ Q d M
  | _ => False
/-- ranks as handed in -/
def rkD : Dv → Option KvD
  | .non => some []
  | .dct kvs => some kvs
  | _ => none
theorem sgnB_c {c : Nat} (h : c ∈ SG.cps.toList) : sgnB (.str (sgn c)) = true := by
  show (true && txt (.str ⟨#[c]⟩)) = true
  rw [Bool.true_and]
  show ([c].all fun c => decide (c ∈ SG.cps.toList)) = _
  rw [List.all_cons, List.all_nil, Bool.and_true, decide_eq_true h]
def sp_kept : SpD := fun ds M Q E => match ds with
  | [.non, .str w] => ∀ p, M p = none → Q (.ref p) (mup M p (.dK []))
  | [.dct kvs, .str w] => ∀ p, M p = none → Q (.ref p) (mup M p (.dK kvs))
  | _ => False
theorem u_kept0 {M : Mo} {w : Str} {Q : QD} {E : EXD} (h : ∀ p, M p = none → Q (.ref p) (mup M p (.dK []))) : sp_kept [.non, .str w] M Q E := h
theorem u_keptD {M : Mo} {w : Str} {kvs : KvD} {Q : QD} {E : EXD} (h : ∀ p, M p = none → Q (.ref p) (mup M p (.dK kvs))) : sp_kept [.dct kvs, .str w] M Q E := h
theorem u_keptR {M : Mo} {w : Str} {d : Dv} {kvs : KvD} {Q : QD} {E : EXD} (hd : rkD d = some kvs) (h : ∀ p, M p = none → Q (.ref p) (mup M p (.dK kvs))) : sp_kept [d, .str w] M Q E := by
  cases d with
  | non => cases hd; exact h
  | dct kvs' => cases hd; exact h
  | _ => cases hd
def sp_Case___init__ : SpD := fun ds M Q E => match ds with
  | [.ref p, d, .non, .non, .non] => M p = some (.ins "Case" []) ∧ ∃ kvs, rkD d = some kvs ∧ RkOk kvs ∧ Q .non (mup M p (.ins "Case" [("ranked", .dct kvs), ("widths", .dct []), ("footing", .dct []), ("seating", .dct [])]))
  | _ => False
theorem u_case {M : Mo} {p : Addr} {d : Dv} {kvs : KvD} {Q : QD} {E : EXD} (h1 : M p = some (.ins "Case" [])) (h2 : rkD d = some kvs) (h3 : RkOk kvs) (h : Q .non (mup M p (.ins "Case" [("ranked", .dct kvs), ("widths", .dct []), ("footing", .dct []), ("seating", .dct [])]))) : sp_Case___init__ [.ref p, d, .non, .non, .non] M Q E := ⟨h1, kvs, h2, h3, h⟩
theorem u_mkCase {M : Mo} {d : Dv} {kvs : KvD} {as ds : List Dv} {Q : QD} {E : EXD} (ha : as ++ ds = [d, .non, .non, .non]) (hd : rkD d = some kvs) (hk : RkOk kvs) (h : Q (caseD kvs) M) : dMkV "Case" sp_Case___init__ ds E (fun d M1 => kFz d M1 Q) as M := by
  refine i_mkV fun p hp => ?_
  rw [ha]
  refine u_case mup_same hd hk ⟨rfl, ?_⟩
  rw [mup_mup]
  exact i_fzNew hp rfl h
def sp_Case_rank_of : SpD := fun ds M Q E => match ds with
  | [d, .str x] => ∃ kvs c, d = caseD kvs ∧ x = sgn c ∧ RkOk kvs ∧ Q (match rkO kvs c with | some r => .int (r : Nat) | none => .non) M
  | _ => False
theorem u_rank {M : Mo} {kvs : KvD} {c : Nat} {Q : QD} {E : EXD} (h1 : RkOk kvs) (h : Q (match rkO kvs c with | some r => .int (r : Nat) | none => .non) M) : sp_Case_rank_of [caseD kvs, .str (sgn c)] M Q E := ⟨_, _, rfl, rfl, h1, h⟩
def sp_Case_is_base : SpD := fun ds M Q E => match ds with
  | [d, .str x] => ∃ kvs c, d = caseD kvs ∧ x = sgn c ∧ RkOk kvs ∧ Q (.bl (isB kvs c)) M
  | _ => False
theorem u_isbase {M : Mo} {kvs : KvD} {c : Nat} {Q : QD} {E : EXD} (h1 : RkOk kvs) (h : Q (.bl (isB kvs c)) M) : sp_Case_is_base [caseD kvs, .str (sgn c)] M Q E := ⟨_, _, rfl, rfl, h1, h⟩
def sp_clusters : SpD := fun ds M Q E => match ds with
  | [d, .str w] => ∃ kvs, d = caseD kvs ∧ RkOk kvs ∧ InS w ∧ w.length ≤ 2000 ∧ ∀ p, M p = none → Q (.ref p) (mup M p (.lst ((clOf kvs w.cps.toList).map pairND)))
  | _ => False
theorem u_clus {M : Mo} {kvs : KvD} {w : Str} {Q : QD} {E : EXD} (h1 : RkOk kvs) (h2 : InS w) (h3 : w.length ≤ 2000) (h : ∀ p, M p = none → Q (.ref p) (mup M p (.lst ((clOf kvs w.cps.toList).map pairND)))) : sp_clusters [caseD kvs, .str w] M Q E := ⟨_, rfl, h1, h2, h3, h⟩
def sp_text_at : SpD := fun ds M Q E => match ds with
  | [.str w, d] => ∃ is : List Int, seqL M d = some (is.map .int) ∧ (∀ i, i ∈ is → 0 ≤ i ∧ i < (w.length : Nat)) ∧ is.length ≤ 2000 ∧ w.length ≤ 2000 ∧ Q (.str (strN (txAt w.cps.toList is))) M
  | _ => False
theorem u_textat {M : Mo} {w : Str} {d : Dv} {is : List Int} {Q : QD} {E : EXD} (h1 : seqL M d = some (is.map .int)) (h2 : ∀ i, i ∈ is → 0 ≤ i ∧ i < (w.length : Nat)) (h3 : is.length ≤ 2000) (h4 : w.length ≤ 2000) (h : Q (.str (strN (txAt w.cps.toList is))) M) : sp_text_at [.str w, d] M Q E := ⟨is, h1, h2, h3, h4, h⟩
def sp_shown_turn : SpD := fun ds M Q E => match ds with
  | [d, .str x] => ∃ kvs c, d = caseD kvs ∧ x = sgn c ∧ RkOk kvs ∧ Q (.int (turnS (rkO kvs c) : Nat)) M
  | _ => False
theorem u_shown {M : Mo} {kvs : KvD} {c : Nat} {Q : QD} {E : EXD} (h1 : RkOk kvs) (h : Q (.int (turnS (rkO kvs c) : Nat)) M) : sp_shown_turn [caseD kvs, .str (sgn c)] M Q E := ⟨_, _, rfl, rfl, h1, h⟩
def sp_settled_turn : SpD := fun ds M Q E => match ds with
  | [d, .str x] => ∃ kvs c, d = caseD kvs ∧ x = sgn c ∧ RkOk kvs ∧ Q (.int (turnT (rkO kvs c) : Nat)) M
  | _ => False
theorem u_settledt {M : Mo} {kvs : KvD} {c : Nat} {Q : QD} {E : EXD} (h1 : RkOk kvs) (h : Q (.int (turnT (rkO kvs c) : Nat)) M) : sp_settled_turn [caseD kvs, .str (sgn c)] M Q E := ⟨_, _, rfl, rfl, h1, h⟩
def sp_sorted_places (P A : Addr) : SpD := fun ds M Q E => match ds with
  | [d, .str w, .ref f] => ∃ kvs, d = caseD kvs ∧ RkOk kvs ∧ InS w ∧ w.length ≤ 2000 ∧ M P = some (.tab "sorted_places.<locals>.<lambda>") ∧ f = A ∧ ∀ p, M p = none → Q (.ref p) (mup M p (.lst ((plOf turnS kvs w.cps.toList).map .int)))
  | _ => False
theorem u_sortp {P A : Addr} {M : Mo} {kvs : KvD} {w : Str} {Q : QD} {E : EXD} (h1 : RkOk kvs) (h2 : InS w) (h3 : w.length ≤ 2000) (h4 : M P = some (.tab "sorted_places.<locals>.<lambda>")) (h : ∀ p, M p = none → Q (.ref p) (mup M p (.lst ((plOf turnS kvs w.cps.toList).map .int)))) : sp_sorted_places P A [caseD kvs, .str w, .ref A] M Q E := ⟨_, rfl, h1, h2, h3, h4, rfl, h⟩
def sp_ordered (A P : Addr) : SpD := fun ds M Q E => match ds with
  | [d, .str w] => ∃ kvs, d = caseD kvs ∧ RkOk kvs ∧ InS w ∧ w.length ≤ 2000 ∧ M P = some (.tab "sorted_places.<locals>.<lambda>") ∧ ∀ p, M p = none → Q (.tup [.str (strN (txAt w.cps.toList (plOf turnS kvs w.cps.toList))), .ref p]) (mup M p (.lst ((plOf turnS kvs w.cps.toList).map .int)))
  | _ => False
theorem u_ordered {P A : Addr} {M : Mo} {kvs : KvD} {w : Str} {Q : QD} {E : EXD} (h1 : RkOk kvs) (h2 : InS w) (h3 : w.length ≤ 2000) (h4 : M P = some (.tab "sorted_places.<locals>.<lambda>")) (h : ∀ p, M p = none → Q (.tup [.str (strN (txAt w.cps.toList (plOf turnS kvs w.cps.toList))), .ref p]) (mup M p (.lst ((plOf turnS kvs w.cps.toList).map .int)))) : sp_ordered A P [caseD kvs, .str w] M Q E := ⟨_, rfl, h1, h2, h3, h4, h⟩
theorem atI_last {α : Type} (l : List α) (a : α) : L2.atI (l ++ [a]) (-1) = some a := by
  have e : L2.ixN (l ++ [a]).length (-1) = some l.length := by
    unfold L2.ixN
    rw [List.length_append, List.length_singleton, if_neg (by omega), if_pos (by omega)]
    congr 1
    omega
  unfold L2.atI
  rw [e, Option.bind_some, List.getElem?_append_right (Nat.le_refl _)]
  simp
theorem ixN_last (n : Nat) : L2.ixN (n + 1) (-1) = some n := by
  unfold L2.ixN
  rw [if_neg (by omega), if_pos (by omega)]
  congr 1
  omega
theorem set_last {α : Type} (l : List α) (a b : α) : (l ++ [a]).set l.length b = l ++ [b] := by
  rw [List.set_append_right _ _ (Nat.le_refl _)]
  simp
def rgA (p : Int → Bool) (lo : Int) (n : Nat) : List Dv := (((List.range n).map fun i => lo + ((i : Nat) : Int)).filter p).map .int
theorem rgA_rgI (p : Int → Bool) (lo hi : Int) : rgA p lo (hi - lo).toNat = ((rgI lo hi).filter p).map .int := rfl
theorem rgA_succ (p : Int → Bool) (lo : Int) (i : Nat) : rgA p lo (i + 1) = rgA p lo i ++ if p (lo + (i : Nat)) = true then [.int (lo + (i : Nat))] else [] := by
  unfold rgA
  rw [List.range_succ, List.map_append, List.filter_append, List.map_append]
  congr 1
  show ([lo + (i : Nat)].filter p).map Dv.int = _
  cases h : p (lo + (i : Nat)) with
  | true => rw [List.filter_cons_of_pos h, if_pos rfl]; rfl
  | false => rw [List.filter_cons_of_neg (by rw [h]; exact Bool.false_ne_true), if_neg Bool.false_ne_true]; rfl
theorem lk_rgF {M : Mo} {lo : Int} {n : Nat} {g : Tgt} {tt : TTD} {te : TED} {sw : StD} {F : List Dv → Mo → Prop} (p : Int → Bool) (hn : n ≤ 16777216)
    (hs : ∀ i : Nat, i < n → dG g (.int (lo + (i : Nat))) sw M fun sd2 M2 => tt sd2 M2 fun b M3 => if b = true then te sd2 M3 fun y M4 => M4 = M ∧ rgA p lo i ++ [y] = rgA p lo (i + 1) else M3 = M ∧ rgA p lo i = rgA p lo (i + 1))
    (hd : F (rgA p lo n) M) : kLc ⟨rngD lo n, fun _ => True⟩ g tt te sw F M :=
  lk_rng (fun i acc M' => M' = M ∧ acc = rgA p lo i) hn ⟨rfl, rfl⟩ (fun i acc M' hi _ h => by
    obtain ⟨rfl, rfl⟩ := h
    exact hs i hi) fun acc M' _ h => by
    obtain ⟨rfl, rfl⟩ := h
    exact hd
theorem i_eqRk {kvs : KvD} {c k : Nat} {M : Mo} {Q : QD} (hk : RkOk kvs) (h : Q (.bl (decide (rkO kvs c = some k))) M) : dEq ((valD kvs (.inr (sgn c))).getD .non) (.int (k : Nat)) M Q := by
  rcases hk.val c with ⟨e1, e2⟩ | ⟨r, _, e1, e2⟩
  · rw [e1]
    rw [e2] at h
    refine i_eqP (by first | trivial | exact rfl | simp [Pln]) (by first | trivial | exact rfl | simp [Pln]) ?_
    have : dq .non (.int (k : Nat)) = false := by
      exact dq_ne fun h => by cases h
    show Q (.bl (dq .non (.int (k : Nat)))) M
    rw [this]
    rw [decide_eq_false (fun z => by cases z)] at h
    exact h
  · rw [e1]
    rw [e2] at h
    refine i_eqI ?_
    rw [show decide ((r : Int) = (k : Nat)) = decide (some r = some k) by
      rw [decide_eq_decide]
      exact ⟨fun z => by rw [Int.ofNat.inj z], fun z => by rw [Option.some.inj z]⟩]
    exact h
theorem turnS_0 {o : Option Nat} : turnS o = 0 ↔ o = some 0 := by
  rcases o with _ | _ | r <;> simp [turnS]
theorem turnS_1 {o : Option Nat} : turnS o = 1 ↔ o = none := by
  rcases o with _ | _ | r <;> simp [turnS]
theorem turnS_s {o : Option Nat} {r : Nat} : turnS o = r + 2 ↔ o = some (r + 1) := by
  rcases o with _ | _ | k <;> simp [turnS]
theorem turnS_lt {kvs : KvD} (hk : RkOk kvs) (c : Nat) : turnS (rkO kvs c) < 11 := by
  rcases hk.val c with ⟨_, e⟩ | ⟨r, hr, _, e⟩
  · rw [e]; decide
  · rw [e]
    rcases r with _ | r
    · decide
    · show r + 2 < 11
      omega
theorem dec_turn {o : Option Nat} {k : Nat} {P : Prop} [Decidable P] (h : turnS o = k ↔ P) : decide (((turnS o : Nat) : Int) = ((k : Nat) : Int)) = decide P := by
  rw [decide_eq_decide]
  exact ⟨fun z => h.mp (by omega), fun z => by rw [h.mpr z]⟩
theorem dec_turn1 {kvs : KvD} {c : Nat} : decide (((turnS (rkO kvs c) : Nat) : Int) = ((1 : Nat) : Int)) = isB kvs c := by
  unfold isB
  cases rkO kvs c with
  | none => rfl
  | some r =>
    refine decide_eq_false fun z => ?_
    have := turnS_1.mp (show turnS (some r) = 1 by omega)
    cases this
theorem strN_app (a b : List Nat) : strN (a ++ b) = strN a ++ strN b := str_xt (by rw [cps_app])
def sp__law_clusters : SpD := fun ds M Q E => match ds with
  | [.dct kvs, .str w] => RkOk kvs ∧ w.length ≤ 2000 ∧ ∀ p, M p = none → Q (.ref p) (mup M p (.lst ((clOf kvs w.cps.toList).map pairND)))
  | _ => False
theorem u_lclus {M : Mo} {kvs : KvD} {w : Str} {Q : QD} {E : EXD} (h1 : RkOk kvs) (h2 : w.length ≤ 2000) (h : ∀ p, M p = none → Q (.ref p) (mup M p (.lst ((clOf kvs w.cps.toList).map pairND)))) : sp__law_clusters [.dct kvs, .str w] M Q E := ⟨h1, h2, h⟩
def sp__law_shown_places : SpD := fun ds M Q E => match ds with
  | [.dct kvs, .str w] => RkOk kvs ∧ w.length ≤ 2000 ∧ ∀ p, M p = none → Q (.ref p) (mup M p (.lst ((plOf turnS kvs w.cps.toList).map .int)))
  | _ => False
theorem u_lshown {M : Mo} {kvs : KvD} {w : Str} {Q : QD} {E : EXD} (h1 : RkOk kvs) (h2 : w.length ≤ 2000) (h : ∀ p, M p = none → Q (.ref p) (mup M p (.lst ((plOf turnS kvs w.cps.toList).map .int)))) : sp__law_shown_places [.dct kvs, .str w] M Q E := ⟨h1, h2, h⟩
def sp__law_whole : SpD := fun ds M Q E => match ds with
  | [.int i] => Q (.bl true) M
  | _ => False
theorem u_lwhole {M : Mo} {i : Int} {Q : QD} {E : EXD} (h : Q (.bl true) M) : sp__law_whole [.int i] M Q E := h
def sp__law_long : SpD := fun ds M Q E => match ds with
  | [.ref a, .str s] => Src M a ∧ s.length = 8 ∧ ∀ (cs : List Nat) (x y z : Int), (∀ c, c ∈ cs → c ∈ s.cps.toList) → cs.length = 1000 → Q (.str (strN cs)) (mup M a (.lst [.int x, .int y, .int z]))
  | _ => False
theorem u_long {M : Mo} {a : Addr} {s : Str} {Q : QD} {E : EXD} (h1 : Src M a) (h2 : s.length = 8) (h : ∀ (cs : List Nat) (x y z : Int), (∀ c, c ∈ cs → c ∈ s.cps.toList) → cs.length = 1000 → Q (.str (strN cs)) (mup M a (.lst [.int x, .int y, .int z]))) : sp__law_long [.ref a, .str s] M Q E := ⟨h1, h2, h⟩
/-- found: the text and the places, due: the places -/
def sp__law_right : SpD := fun ds M Q E => match ds with
  | [.tup [.str t, .ref p], .str w, .lst ds] => w.length ≤ 2000 ∧ ∃ is : List Int, ds = is.map .int ∧ M p = some (.lst (is.map .int)) ∧ is.Perm (rgI 0 (w.length : Nat)) ∧ t = strN (txAt w.cps.toList is) ∧ Q (.bl true) M
  | _ => False
theorem u_lright {M : Mo} {p : Addr} {t w : Str} {is : List Int} {Q : QD} {E : EXD} (h1 : w.length ≤ 2000) (h2 : M p = some (.lst (is.map .int))) (h3 : is.Perm (rgI 0 (w.length : Nat))) (h4 : t = strN (txAt w.cps.toList is)) (h : Q (.bl true) M) : sp__law_right [.tup [.str t, .ref p], .str w, .lst (is.map .int)] M Q E := ⟨h1, is, rfl, h2, h3, h4, h⟩
local macro_rules | `(tactic| walk_at "st") => `(tactic| first
  | with_reducible refine Step.go ?_
  | ((with_reducible refine u_mixed ?_); (intro r hr0 hr1)) | ((with_reducible refine u_source ?_); (intro p hp))
  | ((with_reducible refine u_take ?_ ?_ ?_ ?_); (walk_at "src"); (walk_at "sd"); (walk_at "sd"); (intro r x y z hr0 hr1); (try (with_reducible rw [mup_mup])))
  | ((with_reducible refine u_unlike ?_ ?_ ?_ ?_); (walk_at "src"); (walk_at "sd"); (walk_at "sd"); (intro t x y z ht); (try (with_reducible rw [mup_mup])))
  | ((with_reducible refine i_joinSg ?_ ?_); (walk_at "sd"))

  | ((with_reducible refine u_well ?_); (intro x p hp))
  | ((with_reducible refine u_draw ?_ ?_ ?_ ?_); (walk_at "src"); (walk_at "sd"); (walk_at "sd"); (intro r x y z hr0 hr1); (try (with_reducible rw [mup_mup])))
  | ((with_reducible refine u_word ?_ ?_ ?_ ?_ ?_ ?_); (walk_at "src"); (walk_at "sd"); (walk_at "sd"); (walk_at "sd"); (walk_at "sd"); (intro cs x y z hcs hcl); (try (with_reducible rw [mup_mup])))
  | ((with_reducible refine u_ranks ?_ ?_ ?_ ?_); (walk_at "src"); (with_reducible assumption); (walk_at "sd"); (intro kvs x y z hk p hp); (try (with_reducible rw [mup_mup] at hp)); (try (with_reducible rw [mup_mup])))
  | ((with_reducible refine u_isfrom ?_))
  | ((with_reducible refine u_kept0 ?_); (intro p hp))
  | ((with_reducible refine u_keptD ?_); (intro p hp))
  | ((with_reducible refine u_mkCase ?_ ?_ ?_ ?_); (exact rfl); (exact rfl); (with_reducible assumption))
  | ((with_reducible refine u_case ?_ ?_ ?_ ?_); (walk_at "lk"); (exact rfl); (with_reducible assumption); (try (with_reducible rw [mup_mup])))
  | ((with_reducible refine u_rank ?_ ?_); (with_reducible assumption))
  | ((with_reducible refine u_isbase ?_ ?_); (with_reducible assumption))
  | ((with_reducible refine u_shown ?_ ?_); (with_reducible assumption))
  | ((with_reducible refine u_settledt ?_ ?_); (with_reducible assumption))
  | ((with_reducible refine u_clus ?_ ?_ ?_ ?_); (with_reducible assumption); (with_reducible assumption); (walk_at "sd"); (intro p hp))
  | ((with_reducible apply i_kDr); (case h => walk_at "lk"))
  | ((with_reducible apply i_exD); (case h => walk_at "lk"))
  | ((with_reducible apply i_kPut); (case h => walk_at "lk"))
  | ((with_reducible refine i_dictC ?_))
  | ((with_reducible refine u_ordered ?_ ?_ ?_ ?_ ?_); (with_reducible assumption); (with_reducible assumption); (walk_at "sd"); (walk_at "lk"); (intro p hp))
  | ((with_reducible refine u_lclus ?_ ?_ ?_); (with_reducible assumption); (walk_at "sd"); (intro p hp))
  | ((with_reducible refine u_lshown ?_ ?_ ?_); (with_reducible assumption); (walk_at "sd"); (intro p hp))
  | ((with_reducible refine u_lwhole ?_))
  | ((with_reducible refine u_long ?_ ?_ ?_); (walk_at "src"); (walk_at "sd"); (intro cs x y z hcs hcl); (try (with_reducible rw [mup_mup])))
  | ((with_reducible refine i_ifT ?_ ?_); (first | with_reducible rfl | decide))
  | ((with_reducible refine i_ifF ?_ ?_); (first | with_reducible rfl | decide))
  | ((with_reducible refine i_I ?_ ?_); (walk_at "sd"))
  | ((with_reducible refine i_mulI ?_ ?_); (walk_at "sd"))
  | ((with_reducible refine i_addS1 ?_ ?_); (walk_at "sd"))
  | ((with_reducible refine i_addS2 ?_ ?_); (walk_at "sd"))
  | ((with_reducible refine i_iaddS1 ?_ ?_); (walk_at "sd"))
  | ((with_reducible refine i_addS ?_ ?_); (walk_at "sd"))
  | ((with_reducible apply i_addL); (case h1 => walk_at "sq"); (case h2 => walk_at "sq"); (case h3 => walk_at "sd"))
  | ((with_reducible refine i_gTp ?_ ?_); rfl)
  | ((with_reducible apply i_setL); (case h1 => walk_at "lk"); (case h2 => walk_at "xn"))
  | ((with_reducible refine i_iaddS ?_ ?_); (walk_at "sd"))
  | ((with_reducible refine i_truS ?_ ?_); (walk_at "sd"))
  | ((with_reducible apply i_truR); (case h1 => walk_at "lk"))
  | ((with_reducible apply i_ixL); (case h1 => walk_at "sq"); (case h2 => walk_at "at"))
  | ((with_reducible apply i_ixT); (case h2 => walk_at "at"))
  | ((with_reducible refine i_lenS ?_ ?_); (walk_at "sd"))
  | (with_reducible refine i_lenT ?_)
  | ((with_reducible apply i_lenL); (case h1 => walk_at "sq"))
  | with_reducible refine i_min ?_
  | with_reducible refine i_max ?_
  | ((with_reducible apply i_listOf); (case h1 => walk_at "sq"))
  | with_reducible refine i_listOfT ?_
  | ((with_reducible refine i_slS ?_ ?_); (walk_at "sd"))
  | ((with_reducible apply i_slL); (case h1 => walk_at "sq"))
  | ((with_reducible apply i_append); (case h1 => walk_at "lk"); (case h2 => walk_at "sd"))
  | (with_reducible refine i_isi rfl rfl ?_)
  | ((with_reducible refine ⟨?_, ?_⟩); (show List.length _ ≤ 1000; exact Nat.le_of_ble_eq_true rfl))
  | ((with_reducible refine ⟨?_, ?_⟩); (show tyD _ _ _; first | exact Eq.refl _ | exact e_tyR (by walk_at "lk") rfl))
  | ((with_reducible apply i_kSqR); (case h1 => walk_at "lk"))
  | ((with_reducible apply i_kEnR); (case h1 => walk_at "lk"))
  | (with_reducible refine i_fzL ?_)
  | ((with_reducible apply i_fzNew); (case hp => with_reducible assumption); (case e => rfl))
  | ((with_reducible apply i_fldV); (case h1 => walk_at "lk"); (case h2 => decide +kernel); (case h3 => rfl))
  | ((with_reducible apply i_sfldW); (case h1 => walk_at "lk"); (case hp => infer_instance); (case h2 => decide +kernel); (case h3 => exact Nat.le_of_ble_eq_true rfl))
  | ((with_reducible refine i_methK ?_ ?_); rfl)
  | ((with_reducible apply i_methR); (case h1 => walk_at "lk"); (case h2 => rfl))
  | ((with_reducible refine i_meSK ?_ ?_); rfl)
  | ((with_reducible apply i_meSR); (case h1 => walk_at "lk"); (case h2 => rfl))
  | ((with_reducible apply i_kMeS); (case h2 => rfl); (try (case p => infer_instance)))
  | ((with_reducible apply i_kMkS); (case h1 => rfl); (case h2 => rfl); (try (case p => infer_instance)); (try (case a => infer_instance)))
  | ((with_reducible apply i_kCaS); (case h1 => rfl); (case h2 => rfl))
  | ((with_reducible refine i_new ?_); intro p hp)
  | ((with_reducible refine And.intro ?_ ?_); (walk_at "sd"))
  | ((with_reducible refine i_kLS ?_ ?_); (walk_at "sd"))
  | ((with_reducible refine i_divmod ?_ ?_ ?_); (walk_at "sd"); (walk_at "sd"))
  | ((with_reducible apply i_extL); (case h1 => walk_at "lk"); (case h2 => walk_at "sq"); (case h3 => walk_at "sd"))
  | ((with_reducible refine i_kN11 ?_ ?_ ?_); rfl; rfl)
  | ((with_reducible refine i_kN12 ?_ ?_ ?_); rfl; rfl)
  | ((with_reducible refine i_kN21 ?_ ?_ ?_); rfl; rfl)
  | ((with_reducible refine i_kN13 ?_ ?_ ?_); rfl; rfl)
  | ((with_reducible refine i_kN22 ?_ ?_ ?_); rfl; rfl)
  | ((with_reducible refine i_kN31 ?_ ?_ ?_); rfl; rfl)
  | ((with_reducible refine i_mulXI ?_ ?_); (walk_at "sd"))
  | ((with_reducible apply i_lam); (case h1 => walk_at "lk"))
  | ((with_reducible refine i_kXf ?_ ?_); (decide +kernel))
  | ((with_reducible refine i_revS ?_ ?_); (walk_at "sd"))
  | ((with_reducible apply i_revL); (case h1 => walk_at "sq"))
  | ((with_reducible apply i_gLu); (case h1 => walk_at "sq"); (case hn => rfl))
  | ((with_reducible refine i_mulY ?_ ?_); (walk_at "sd"))
  | ((with_reducible apply i_tupOf); (case h1 => walk_at "sq"))
  | ((with_reducible apply i_eqOR); (case h1 => walk_at "lk"))
  | ((with_reducible apply i_tyO); (case h1 => decide +kernel))
  | ((with_reducible apply i_tyRL); (case h1 => walk_at "lk"))
  | ((with_reducible apply i_tyRO); (case h1 => walk_at "lk"); (case h2 => decide +kernel))
  | ((with_reducible apply i_lenOR); (case h1 => walk_at "lk"))
  | ((with_reducible apply i_strOR); (case h1 => walk_at "lk"))
  | ((with_reducible refine i_strOfI ?_ ?_); (walk_at "sd"))
  | ((with_reducible refine i_fmtS ?_ ?_); (walk_at "sd"))
  | ((with_reducible refine i_fmtI ?_ ?_); (walk_at "sd"))
  | ((with_reducible refine i_kJs ?_ ?_); (walk_at "sd"))
  | ((with_reducible refine i_sortX ?_ ?_); (walk_at "sd"); (intro cs hcs1 hcs2))
  | ((with_reducible apply i_clear); (case h1 => walk_at "lk"))
  | ((with_reducible apply i_reverse); (case h1 => walk_at "lk"))
  | ((with_reducible refine i_isoY ?_ ?_); (decide +kernel))
  | ((with_reducible refine i_isoNo ?_ ?_ ?_); (decide +kernel); (decide +kernel))
  | ((with_reducible apply i_isoRL); (case h1 => walk_at "lk"))
  | ((with_reducible apply i_isoRY); (case h1 => walk_at "lk"); (case h2 => decide +kernel))
  | ((with_reducible apply i_augF); (case h1 => walk_at "lk"); (case h2 => decide +kernel); (case h3 => rfl))
  | ((with_reducible apply i_augS); (case h1 => walk_at "lk"); (case hp => infer_instance); (case h3 => exact Nat.le_of_ble_eq_true rfl))
  | ((with_reducible apply i_kZip); (case h1 => walk_at "zs"); (case h2 => walk_at "zs"))
  | ((with_reducible apply i_listZip); (case h1 => walk_at "zs"); (case h2 => walk_at "zs"); (case hl => walk_at "zl"); (case h => intro p hp)))
local macro_rules | `(tactic| walk_at "dd") => `(tactic| repeat (first
  | with_reducible refine Step.go ?_
  | ((with_reducible refine u_mixed ?_); (intro r hr0 hr1)) | ((with_reducible refine u_source ?_); (intro p hp))
  | ((with_reducible refine u_take ?_ ?_ ?_ ?_); (walk_at "src"); (walk_at "sd"); (walk_at "sd"); (intro r x y z hr0 hr1); (try (with_reducible rw [mup_mup])))
  | ((with_reducible refine u_unlike ?_ ?_ ?_ ?_); (walk_at "src"); (walk_at "sd"); (walk_at "sd"); (intro t x y z ht); (try (with_reducible rw [mup_mup])))
  | ((with_reducible refine i_joinSg ?_ ?_); (walk_at "sd"))

  | ((with_reducible refine u_well ?_); (intro x p hp))
  | ((with_reducible refine u_draw ?_ ?_ ?_ ?_); (walk_at "src"); (walk_at "sd"); (walk_at "sd"); (intro r x y z hr0 hr1); (try (with_reducible rw [mup_mup])))
  | ((with_reducible refine u_word ?_ ?_ ?_ ?_ ?_ ?_); (walk_at "src"); (walk_at "sd"); (walk_at "sd"); (walk_at "sd"); (walk_at "sd"); (intro cs x y z hcs hcl); (try (with_reducible rw [mup_mup])))
  | ((with_reducible refine u_ranks ?_ ?_ ?_ ?_); (walk_at "src"); (with_reducible assumption); (walk_at "sd"); (intro kvs x y z hk p hp); (try (with_reducible rw [mup_mup] at hp)); (try (with_reducible rw [mup_mup])))
  | ((with_reducible refine u_isfrom ?_))
  | ((with_reducible refine u_kept0 ?_); (intro p hp))
  | ((with_reducible refine u_keptD ?_); (intro p hp))
  | ((with_reducible refine u_mkCase ?_ ?_ ?_ ?_); (exact rfl); (exact rfl); (with_reducible assumption))
  | ((with_reducible refine u_case ?_ ?_ ?_ ?_); (walk_at "lk"); (exact rfl); (with_reducible assumption); (try (with_reducible rw [mup_mup])))
  | ((with_reducible refine u_rank ?_ ?_); (with_reducible assumption))
  | ((with_reducible refine u_isbase ?_ ?_); (with_reducible assumption))
  | ((with_reducible refine u_shown ?_ ?_); (with_reducible assumption))
  | ((with_reducible refine u_settledt ?_ ?_); (with_reducible assumption))
  | ((with_reducible refine u_clus ?_ ?_ ?_ ?_); (with_reducible assumption); (with_reducible assumption); (walk_at "sd"); (intro p hp))
  | ((with_reducible apply i_kDr); (case h => walk_at "lk"))
  | ((with_reducible apply i_exD); (case h => walk_at "lk"))
  | ((with_reducible apply i_kPut); (case h => walk_at "lk"))
  | ((with_reducible refine i_dictC ?_))
  | ((with_reducible refine u_ordered ?_ ?_ ?_ ?_ ?_); (with_reducible assumption); (with_reducible assumption); (walk_at "sd"); (walk_at "lk"); (intro p hp))
  | ((with_reducible refine u_lclus ?_ ?_ ?_); (with_reducible assumption); (walk_at "sd"); (intro p hp))
  | ((with_reducible refine u_lshown ?_ ?_ ?_); (with_reducible assumption); (walk_at "sd"); (intro p hp))
  | ((with_reducible refine u_lwhole ?_))
  | ((with_reducible refine u_long ?_ ?_ ?_); (walk_at "src"); (walk_at "sd"); (intro cs x y z hcs hcl); (try (with_reducible rw [mup_mup])))
  | ((with_reducible refine i_ifT ?_ ?_); (first | with_reducible rfl | decide))
  | ((with_reducible refine i_ifF ?_ ?_); (first | with_reducible rfl | decide))
  | ((with_reducible refine i_I ?_ ?_); (walk_at "sd"))
  | ((with_reducible refine i_mulI ?_ ?_); (walk_at "sd"))
  | ((with_reducible refine i_addS1 ?_ ?_); (walk_at "sd"))
  | ((with_reducible refine i_addS2 ?_ ?_); (walk_at "sd"))
  | ((with_reducible refine i_iaddS1 ?_ ?_); (walk_at "sd"))
  | ((with_reducible refine i_addS ?_ ?_); (walk_at "sd"))
  | ((with_reducible apply i_addL); (case h1 => walk_at "sq"); (case h2 => walk_at "sq"); (case h3 => walk_at "sd"))
  | ((with_reducible refine i_gTp ?_ ?_); rfl)
  | ((with_reducible apply i_setL); (case h1 => walk_at "lk"); (case h2 => walk_at "xn"))
  | ((with_reducible refine i_iaddS ?_ ?_); (walk_at "sd"))
  | ((with_reducible refine i_truS ?_ ?_); (walk_at "sd"))
  | ((with_reducible apply i_truR); (case h1 => walk_at "lk"))
  | ((with_reducible apply i_ixL); (case h1 => walk_at "sq"); (case h2 => walk_at "at"))
  | ((with_reducible apply i_ixT); (case h2 => walk_at "at"))
  | ((with_reducible refine i_lenS ?_ ?_); (walk_at "sd"))
  | (with_reducible refine i_lenT ?_)
  | ((with_reducible apply i_lenL); (case h1 => walk_at "sq"))
  | with_reducible refine i_min ?_
  | with_reducible refine i_max ?_
  | ((with_reducible apply i_listOf); (case h1 => walk_at "sq"))
  | with_reducible refine i_listOfT ?_
  | ((with_reducible refine i_slS ?_ ?_); (walk_at "sd"))
  | ((with_reducible apply i_slL); (case h1 => walk_at "sq"))
  | ((with_reducible apply i_append); (case h1 => walk_at "lk"); (case h2 => walk_at "sd"))
  | (with_reducible refine i_isi rfl rfl ?_)
  | ((with_reducible refine ⟨?_, ?_⟩); (show List.length _ ≤ 1000; exact Nat.le_of_ble_eq_true rfl))
  | ((with_reducible refine ⟨?_, ?_⟩); (show tyD _ _ _; first | exact Eq.refl _ | exact e_tyR (by walk_at "lk") rfl))
  | ((with_reducible apply i_kSqR); (case h1 => walk_at "lk"))
  | ((with_reducible apply i_kEnR); (case h1 => walk_at "lk"))
  | (with_reducible refine i_fzL ?_)
  | ((with_reducible apply i_fzNew); (case hp => with_reducible assumption); (case e => rfl))
  | ((with_reducible apply i_fldV); (case h1 => walk_at "lk"); (case h2 => decide +kernel); (case h3 => rfl))
  | ((with_reducible apply i_sfldW); (case h1 => walk_at "lk"); (case hp => infer_instance); (case h2 => decide +kernel); (case h3 => exact Nat.le_of_ble_eq_true rfl))
  | ((with_reducible refine i_methK ?_ ?_); rfl)
  | ((with_reducible apply i_methR); (case h1 => walk_at "lk"); (case h2 => rfl))
  | ((with_reducible refine i_meSK ?_ ?_); rfl)
  | ((with_reducible apply i_meSR); (case h1 => walk_at "lk"); (case h2 => rfl))
  | ((with_reducible apply i_kMeS); (case h2 => rfl); (try (case p => infer_instance)))
  | ((with_reducible apply i_kMkS); (case h1 => rfl); (case h2 => rfl); (try (case p => infer_instance)); (try (case a => infer_instance)))
  | ((with_reducible apply i_kCaS); (case h1 => rfl); (case h2 => rfl))
  | ((with_reducible refine i_new ?_); intro p hp)
  | ((with_reducible refine And.intro ?_ ?_); (walk_at "sd"))
  | ((with_reducible refine i_kLS ?_ ?_); (walk_at "sd"))
  | ((with_reducible refine i_divmod ?_ ?_ ?_); (walk_at "sd"); (walk_at "sd"))
  | ((with_reducible apply i_extL); (case h1 => walk_at "lk"); (case h2 => walk_at "sq"); (case h3 => walk_at "sd"))
  | ((with_reducible refine i_kN11 ?_ ?_ ?_); rfl; rfl)
  | ((with_reducible refine i_kN12 ?_ ?_ ?_); rfl; rfl)
  | ((with_reducible refine i_kN21 ?_ ?_ ?_); rfl; rfl)
  | ((with_reducible refine i_kN13 ?_ ?_ ?_); rfl; rfl)
  | ((with_reducible refine i_kN22 ?_ ?_ ?_); rfl; rfl)
  | ((with_reducible refine i_kN31 ?_ ?_ ?_); rfl; rfl)
  | ((with_reducible refine i_mulXI ?_ ?_); (walk_at "sd"))
  | ((with_reducible apply i_lam); (case h1 => walk_at "lk"))
  | ((with_reducible refine i_kXf ?_ ?_); (decide +kernel))
  | ((with_reducible refine i_revS ?_ ?_); (walk_at "sd"))
  | ((with_reducible apply i_revL); (case h1 => walk_at "sq"))
  | ((with_reducible apply i_gLu); (case h1 => walk_at "sq"); (case hn => rfl))
  | ((with_reducible refine i_mulY ?_ ?_); (walk_at "sd"))
  | ((with_reducible apply i_tupOf); (case h1 => walk_at "sq"))
  | ((with_reducible apply i_eqOR); (case h1 => walk_at "lk"))
  | ((with_reducible apply i_tyO); (case h1 => decide +kernel))
  | ((with_reducible apply i_tyRL); (case h1 => walk_at "lk"))
  | ((with_reducible apply i_tyRO); (case h1 => walk_at "lk"); (case h2 => decide +kernel))
  | ((with_reducible apply i_lenOR); (case h1 => walk_at "lk"))
  | ((with_reducible apply i_strOR); (case h1 => walk_at "lk"))
  | ((with_reducible refine i_strOfI ?_ ?_); (walk_at "sd"))
  | ((with_reducible refine i_fmtS ?_ ?_); (walk_at "sd"))
  | ((with_reducible refine i_fmtI ?_ ?_); (walk_at "sd"))
  | ((with_reducible refine i_kJs ?_ ?_); (walk_at "sd"))
  | ((with_reducible refine i_sortX ?_ ?_); (walk_at "sd"); (intro cs hcs1 hcs2))
  | ((with_reducible apply i_clear); (case h1 => walk_at "lk"))
  | ((with_reducible apply i_reverse); (case h1 => walk_at "lk"))
  | ((with_reducible refine i_isoY ?_ ?_); (decide +kernel))
  | ((with_reducible refine i_isoNo ?_ ?_ ?_); (decide +kernel); (decide +kernel))
  | ((with_reducible apply i_isoRL); (case h1 => walk_at "lk"))
  | ((with_reducible apply i_isoRY); (case h1 => walk_at "lk"); (case h2 => decide +kernel))
  | ((with_reducible apply i_augF); (case h1 => walk_at "lk"); (case h2 => decide +kernel); (case h3 => rfl))
  | ((with_reducible apply i_augS); (case h1 => walk_at "lk"); (case hp => infer_instance); (case h3 => exact Nat.le_of_ble_eq_true rfl))
  | ((with_reducible apply i_kZip); (case h1 => walk_at "zs"); (case h2 => walk_at "zs"))
  | ((with_reducible apply i_listZip); (case h1 => walk_at "zs"); (case h2 => walk_at "zs"); (case hl => walk_at "zl"); (case h => intro p hp))))
section
variable {P : Program} {w : World} {K : PySem.W.Frag} {mg : Str → Option Value} {base : Heap}
/- is_whole: slots 0 thing -/
theorem ok_is_whole (T : Tn mg) {f : Addr} {fd : FuncData} (F : Fun K "is_whole" "is_whole" s_is_whole f fd) {oA : Str → Addr} (ZC : Clz K mg oA) {cA : Str → Addr} (Z : Exs P w K mg base cA)  (gm : mg "is_whole" = some (.ref f)) : FnD P w K mg base "is_whole" 1 ["thing"] (fun fd => Binds K fd ["thing"] []) sp_is_whole := by
  refine ⟨⟨f, fd, gm, F.kp, F.binds (ps := ["thing"]) (fun _ _ _ _ _ _ us hl => match us, hl with | [_], _ => rfl), okD F sc_is_whole (fun ds M Q E h => ?_) (fun cdv A outer s H M ds Qd Ed E hr cx h => ?_)⟩⟩
  · unfold sp_is_whole at h
    split at h <;> first | rfl | exact h.elim
  · refine ⟨_, (dss_one (ds_ret (de_and (de_callB cd_isi (by rfl) T.n_isinstance (by decide +kernel) (da_cons (dv 0) (da_cons (de_bltn (n := "int") (by rfl) T.n_int (by decide +kernel)) da_nil))) (de_one (de_not (de_callB cd_isi (by rfl) T.n_isinstance (by decide +kernel) (da_cons (dv 0) (da_cons (de_bltn (n := "bool") (by rfl) T.n_bool (by decide +kernel)) da_nil)))))))), ?_⟩
    unfold sp_is_whole at h; split at h
    · rename_i d
      obtain ⟨ht, h⟩ := h
      cases d <;> first | exact ht.elim | (walk_at "dd"; exact .here h)
    · exact h.elim
/- is_sign: slots 0 thing -/
theorem ok_is_sign (T : Tn mg) {f : Addr} {fd : FuncData} (F : Fun K "is_sign" "is_sign" s_is_sign f fd) {oA : Str → Addr} (ZC : Clz K mg oA) {cA : Str → Addr} (Z : Exs P w K mg base cA)  (gm : mg "is_sign" = some (.ref f)) : FnD P w K mg base "is_sign" 1 ["thing"] (fun fd => Binds K fd ["thing"] []) sp_is_sign := by
  refine ⟨⟨f, fd, gm, F.kp, F.binds (ps := ["thing"]) (fun _ _ _ _ _ _ us hl => match us, hl with | [_], _ => rfl), okD F sc_is_sign (fun ds M Q E h => ?_) (fun cdv A outer s H M ds Qd Ed E hr cx h => ?_)⟩⟩
  · unfold sp_is_sign at h
    split at h <;> first | rfl | exact h.elim
  · refine ⟨_, (dss_one (ds_ret (de_and (de_callB cd_isi (by rfl) T.n_isinstance (by decide +kernel) (da_cons (dv 0) (da_cons (de_bltn (n := "str") (by rfl) T.n_str (by decide +kernel)) da_nil))) (de_and (de_cmp (od_eq hr.units) (de_callB cd_len (by rfl) T.n_len (by decide +kernel) (da_cons (dv 0) da_nil)) de_int (nomark _)) (de_one (de_cmp od_in (dv 0) (de_globSx (by rfl) T.c_SIGNS) (by rfl))))))), ?_⟩
    unfold sp_is_sign at h; split at h
    · rename_i d
      obtain ⟨ht, h⟩ := h
      cases d with
      | str x =>
        have hl : x.length ≤ 1000000 := ht
        walk_at "dd"
        refine i_ifd (fun q => ?_) (fun q => ?_)
        · obtain ⟨c, rfl⟩ := one_sgn (show x.length = 1 by omega)
          walk_at "dd"
          have e : sgnB (.str ⟨#[c]⟩) = decide (c ∈ SG.cps.toList) := by
            show (true && txt (.str ⟨#[c]⟩)) = _
            rw [Bool.true_and]
            show ([c].all fun c => decide (c ∈ SG.cps.toList)) = _
            rw [List.all_cons, List.all_nil, Bool.and_true]
          rw [e] at h
          exact .here h
        · walk_at "dd"
          have e : sgnB (.str x) = false := by
            show (decide (x.length = 1) && _) = _
            rw [decide_eq_false (by omega), Bool.false_and]
          rw [e] at h
          exact .here h
      | non => walk_at "dd"; exact .here h
      | bl b => walk_at "dd"; exact .here h
      | int b => walk_at "dd"; exact .here h
      | lst b => walk_at "dd"; exact .here h
      | tup b => walk_at "dd"; exact .here h
      | _ => exact ht.elim
    · exact h.elim
/- is_text: slots 0 thing, 1 sign -/
theorem ok_is_text (T : Tn mg) {f : Addr} {fd : FuncData} (F : Fun K "is_text" "is_text" s_is_text f fd) {oA : Str → Addr} (ZC : Clz K mg oA) {cA : Str → Addr} (Z : Exs P w K mg base cA)  (gm : mg "is_text" = some (.ref f)) : FnD P w K mg base "is_text" 1 ["thing"] (fun fd => Binds K fd ["thing"] []) sp_is_text := by
  refine ⟨⟨f, fd, gm, F.kp, F.binds (ps := ["thing"]) (fun _ _ _ _ _ _ us hl => match us, hl with | [_], _ => rfl), okD F sc_is_text (fun ds M Q E h => ?_) (fun cdv A outer s H M ds Qd Ed E hr cx h => ?_)⟩⟩
  · unfold sp_is_text at h
    split at h <;> first | rfl | exact h.elim
  · refine ⟨_, (dss_one (ds_ret (de_and (de_callB cd_isi (by rfl) T.n_isinstance (by decide +kernel) (da_cons (dv 0) (da_cons (de_bltn (n := "str") (by rfl) T.n_str (by decide +kernel)) da_nil))) (de_one (de_callB (cd_all rfl) (by rfl) T.n_all (by decide +kernel) (da_cons (de_frz (de_lc (g := (.nm 1)) rfl sc_is_text.nd (di_str (dv 0)) (blkOk_by (N := ["thing", "sign"]) (own := [("sign", 1)]) (sc := defScope s_is_text) (by decide +kernel)) (fun _ _ _ _ _ => (pg_name (i := 1) sc_is_text.nd rfl (Or.inl rfl))) (fun _ _ _ _ _ => dts_nil) (fun _ _ _ _ _ => (de_cmp od_in (dv 1) (de_globSx (by rfl) T.c_SIGNS) (by rfl))))) da_nil)))))), ?_⟩
    unfold sp_is_text at h; split at h
    · rename_i d
      obtain ⟨ht, h⟩ := h
      cases d with
      | str x =>
        have hl : x.length ≤ 1000000 := ht
        have hx := str_len x
        walk_at "dd"
        refine lk_map (fun d => match d with | .str ⟨#[c]⟩ => .bl (decide (c ∈ SG.cps.toList)) | d => d) (by unfold signsD; rw [List.length_map]; omega) ?_ ?_
        · intro i d hd
          obtain ⟨c, hc, rfl⟩ := signsD_get hd
          walk_at "dd"
          exact lm_ hd rfl
        · walk_at "dd"
          refine i_all (ds := (x.cps.toList.map fun c => decide (c ∈ SG.cps.toList)).map .bl) ?_ (blsOf_map _) ?_
          · unfold signsD
            rw [List.map_map, List.map_map]
            rfl
          · rw [List.all_map]
            exact .here h
      | non => walk_at "dd"; exact .here h
      | bl b => walk_at "dd"; exact .here h
      | int b => walk_at "dd"; exact .here h
      | lst b => walk_at "dd"; exact .here h
      | tup b => walk_at "dd"; exact .here h
      | _ => exact ht.elim
    · exact h.elim
/- want_letters: slots 0 letters -/
theorem ok_want_letters (T : Tn mg) {f : Addr} {fd : FuncData} (F : Fun K "want_letters" "want_letters" s_want_letters f fd) {oA : Str → Addr} (ZC : Clz K mg oA) {cA : Str → Addr} (Z : Exs P w K mg base cA) (G_is_text : FnD P w K mg base "is_text" 1 ["thing"] (fun fd => Binds K fd ["thing"] []) sp_is_text) (gm : mg "want_letters" = some (.ref f)) : FnD P w K mg base "want_letters" 3 ["letters"] (fun fd => Binds K fd ["letters"] []) sp_want_letters := by
  refine ⟨⟨f, fd, gm, F.kp, F.binds (ps := ["letters"]) (fun _ _ _ _ _ _ us hl => match us, hl with | [_], _ => rfl), okD F sc_want_letters (fun ds M Q E h => ?_) (fun cdv A outer s H M ds Qd Ed E hr cx h => ?_)⟩⟩
  · unfold sp_want_letters at h
    split at h <;> first | rfl | exact h.elim
  · refine ⟨_, (dss_one (ds_if (dt_w (dw_or (dt_not (dt_val (de_callF G_is_text (hr.mono (by decide)) (by rfl) (fun _ h => h) .nil rdn passL ctx0 (da_cons (dv 0) da_nil)))) (dw_or (dt_not (dt_chain od_le od_le de_int (de_callB cd_len (by rfl) T.n_len (by decide +kernel) (da_cons (dv 0) da_nil)) (de_globIx (by rfl) T.c_MOST_LETTERS))) (dw_or1 (dt_cmp (od_ne hr.units) (de_lenSet rfl (by rfl) T.n_len (by rfl) T.n_set (dv 0)) (de_callB cd_len (by rfl) T.n_len (by decide +kernel) (da_cons (dv 0) da_nil)) (nomark _)))))) (dss_one (ds_raise Z.x_NoRule rfl (takes_of rfl rfl rfl rfl) (hr.mono (by decide)) passL (by rfl) cx de_str)) dss_nil)), ?_⟩
    unfold sp_want_letters at h; split at h
    · rename_i d
      obtain ⟨ht, h1, h2⟩ := h
      walk_at "dd"
      refine u_istext ht ?_
      walk_at "dd"
      cases d with
      | str x =>
        have hl : x.length ≤ 1000000 := ht
        cases q : txt (.str x) with
        | false =>
          walk_at "dd"
          exact .here (h2 fun g => by rw [txt_of g.1] at q; cases q)
        | true =>
          walk_at "dd"
          refine i_ifd (fun c1 => ?_) (fun c1 => ?_)
          · walk_at "dd"
            refine i_ifn (fun c2 => ?_) (fun c2 => ?_)
            · walk_at "dd"
              exact .here (h2 fun g => by have := g.2; omega)
            · walk_at "dd"
              refine i_ifn (fun c3 => ?_) (fun c3 => ?_)
              · walk_at "dd"
                exact .here (h2 fun g => c3 (by rw [set_nodup g.2.2.2]))
              · walk_at "dd"
                exact .here (h1 ⟨txt_in q, by omega, by omega, Classical.byContradiction fun n => by have := set_dup n; omega⟩)
          · walk_at "dd"
            exact .here (h2 fun g => by have := g.2; omega)
      | _ => walk_at "dd"; exact .here (h2 fun g => g)
    · exact h.elim
/- want_word: slots 0 word, 1 letters, 2 known, 3 at, 4 sign -/
theorem ok_want_word (T : Tn mg) {f : Addr} {fd : FuncData} (F : FunD K "want_word" "want_word" (defArgs s_want_word) (defBody s_want_word) (defScope s_want_word) [V.non] [] f fd) {oA : Str → Addr} (ZC : Clz K mg oA) {cA : Str → Addr} (Z : Exs P w K mg base cA) (G_want_letters : FnD P w K mg base "want_letters" 3 ["letters"] (fun fd => Binds K fd ["letters"] []) sp_want_letters) (gm : mg "want_word" = some (.ref f)) : FnD P w K mg base "want_word" 4 ["word", "letters"] (fun fd => (∃ us, Vals [V.non] us ∧ Binds K fd ["word", "letters"] us) ∧ True) sp_want_word := by
  refine ⟨⟨f, fd, gm, F.kp, ⟨F.binds1 1 0 (by simp) rfl (fun T kV doc pm an cdv ct us its h1 h2 => by match us, h1, its, h2 with | [_], _, [_], _ => exact ⟨_, rfl, rfl⟩), True.intro⟩, okDD F sc_want_word (fun ds M Q E h => ?_) (fun cdv A outer s H M ds Qd Ed E hr cx h => ?_)⟩⟩
  · unfold sp_want_word at h
    split at h <;> first | rfl | exact h.elim
  · refine ⟨_, (dss_cons (ds_set (i := 2) sc_want_word.nd rfl (Or.inl rfl) (de_globSx (by rfl) T.c_SIGNS))
      (dss_cons (ds_if (dt_cmp od_notN (dv 1) de_non (nomark _)) (dss_cons (ds_expr (de_callF G_want_letters (hr.mono (by decide)) (by rfl) (fun _ h => h) .nil rdn (passB (takes_of rfl rfl rfl rfl)) cx (da_cons (dv 1) da_nil)))
      (dss_one (ds_set (i := 2) sc_want_word.nd rfl (Or.inl rfl) (dv 1)))) dss_nil)
      (dss_cons (ds_if (dt_not (dt_val (de_callB cd_isi (by rfl) T.n_isinstance (by decide +kernel) (da_cons (dv 0) (da_cons (de_bltn (n := "str") (by rfl) T.n_str (by decide +kernel)) da_nil))))) (dss_one (ds_raise Z.x_NoWord rfl (takes_of rfl rfl rfl rfl) (hr.mono (by decide)) passL (by rfl) cx (de_neg de_int))) dss_nil)
      (dss_one (ds_for (passes_of rfl) rfl (di_enumS (by rfl) T.n_enumerate (da_cons (dv 0) da_nil)) (dg_tup rfl (dgs_cons (dg_name (i := 3) sc_want_word.nd rfl (Or.inl rfl)) (dgs_cons (dg_name (i := 4) sc_want_word.nd rfl (Or.inl rfl)) dgs_nil))) (dss_one (ds_if (dt_cmp od_notin (dv 4) (dv 2) (by rfl)) (dss_one (ds_raise Z.x_NoWord rfl (takes_of rfl rfl rfl rfl) (hr.mono (by decide)) passL (by rfl) cx (dv 3))) dss_nil))))))), ?_⟩
    unfold sp_want_word at h; split at h
    · rename_i w l
      obtain ⟨tl, tw, h1, h2⟩ := h
      cases l with
      | non =>
        have hh := h2 (.inl rfl)
        walk_at "dd"
        cases w with
        | str z =>
          obtain ⟨hg, hb⟩ := hh
          have hzl : z.length ≤ 1000000 := tw
          walk_at "dd"
          refine fo_fzK (fun i sd => ∃ (y1_ y3_ y4_ : Option Dv), sd = [some (.str z), y1_, some (.str SG), y3_, y4_] ∧ (∀ j c', j < i → z.cps.toList[j]? = some c' → c' ∈ (SG : Str).cps.toList)) ⟨_, _, _, rfl, fun j c' hj => by omega⟩ ?_ ?_
          · rintro i d sd hd ⟨y1_, y3_, y4_, rfl, hj⟩
            obtain ⟨y, hy, rfl⟩ := enumD_get hd
            obtain ⟨c, hc, rfl⟩ := signsD_get hy
            have hc2 : z.cps.toList[i]? = some c := by rw [Array.getElem?_toList]; exact hc
            walk_at "dd"
            refine i_ifn (fun hm => ?_) (fun hm => ?_)
            · walk_at "dd"
              rw [Nat.zero_add]
              refine .here (hb i ?_)
              refine List.findIdx?_eq_some_iff_getElem.mpr ⟨(List.getElem?_eq_some_iff.mp hc2).1, ?_, fun j hji => ?_⟩
              · obtain ⟨hi, e⟩ := List.getElem?_eq_some_iff.mp hc2
                rw [e]
                simpa [knw] using hm
              · have hjl : j < z.cps.toList.length := by have := (List.getElem?_eq_some_iff.mp hc2).1; omega
                have := hj j _ hji (List.getElem?_eq_getElem hjl)
                simpa [knw] using this
            · walk_at "dd"
              refine ⟨⟨_, _, _, rfl, fun j c' q e => ?_⟩, rfl⟩
              by_cases q2 : j = i
              · subst q2
                rw [hc2] at e
                cases e
                exact hm
              · exact hj j c' (by omega) e
          · rintro sd ⟨y1_, y3_, y4_, rfl, hj⟩
            have e : (enumD 0 (signsD z)).length = z.cps.toList.length := by rw [enumD_length]; simp [signsD]
            rw [e] at hj
            refine .here (hg (List.findIdx?_eq_none_iff.mpr fun c hc => ?_))
            obtain ⟨j, hj2, rfl⟩ := List.mem_iff_getElem.mp hc
            have := hj j _ hj2 (List.getElem?_eq_getElem hj2)
            simpa [knw] using this
        | non => walk_at "dd"; exact .here hh
        | bl b => walk_at "dd"; exact .here hh
        | int b => walk_at "dd"; exact .here hh
        | lst b => walk_at "dd"; exact .here hh
        | tup b => walk_at "dd"; exact .here hh
        | _ => exact tw.elim
      | str x =>
        walk_at "dd"
        refine u_wl tl (fun hL => ?_) (fun n => .here (h1 (fun q => q.elim (fun e => by cases e) n)))
        have hh := h2 (.inr hL)
        have hxl : x.length ≤ 1000000 := tl
        walk_at "dd"
        cases w with
        | str z =>
          obtain ⟨hg, hb⟩ := hh
          have hzl : z.length ≤ 1000000 := tw
          walk_at "dd"
          refine fo_fzK (fun i sd => ∃ (y1_ y3_ y4_ : Option Dv), sd = [some (.str z), y1_, some (.str x), y3_, y4_] ∧ (∀ j c', j < i → z.cps.toList[j]? = some c' → c' ∈ (x : Str).cps.toList)) ⟨_, _, _, rfl, fun j c' hj => by omega⟩ ?_ ?_
          · rintro i d sd hd ⟨y1_, y3_, y4_, rfl, hj⟩
            obtain ⟨y, hy, rfl⟩ := enumD_get hd
            obtain ⟨c, hc, rfl⟩ := signsD_get hy
            have hc2 : z.cps.toList[i]? = some c := by rw [Array.getElem?_toList]; exact hc
            walk_at "dd"
            refine i_ifn (fun hm => ?_) (fun hm => ?_)
            · walk_at "dd"
              rw [Nat.zero_add]
              refine .here (hb i ?_)
              refine List.findIdx?_eq_some_iff_getElem.mpr ⟨(List.getElem?_eq_some_iff.mp hc2).1, ?_, fun j hji => ?_⟩
              · obtain ⟨hi, e⟩ := List.getElem?_eq_some_iff.mp hc2
                rw [e]
                simpa [knw] using hm
              · have hjl : j < z.cps.toList.length := by have := (List.getElem?_eq_some_iff.mp hc2).1; omega
                have := hj j _ hji (List.getElem?_eq_getElem hjl)
                simpa [knw] using this
            · walk_at "dd"
              refine ⟨⟨_, _, _, rfl, fun j c' q e => ?_⟩, rfl⟩
              by_cases q2 : j = i
              · subst q2
                rw [hc2] at e
                cases e
                exact hm
              · exact hj j c' (by omega) e
          · rintro sd ⟨y1_, y3_, y4_, rfl, hj⟩
            have e : (enumD 0 (signsD z)).length = z.cps.toList.length := by rw [enumD_length]; simp [signsD]
            rw [e] at hj
            refine .here (hg (List.findIdx?_eq_none_iff.mpr fun c hc => ?_))
            obtain ⟨j, hj2, rfl⟩ := List.mem_iff_getElem.mp hc
            have := hj j _ hj2 (List.getElem?_eq_getElem hj2)
            simpa [knw] using this
        | non => walk_at "dd"; exact .here hh
        | bl b => walk_at "dd"; exact .here hh
        | int b => walk_at "dd"; exact .here hh
        | lst b => walk_at "dd"; exact .here hh
        | tup b => walk_at "dd"; exact .here hh
        | _ => exact tw.elim
      | bl b =>
        walk_at "dd"
        exact u_wl tl (fun hL => hL.elim) (fun n => .here (h1 (fun q => q.elim (fun e => by cases e) n)))
      | int b =>
        walk_at "dd"
        exact u_wl tl (fun hL => hL.elim) (fun n => .here (h1 (fun q => q.elim (fun e => by cases e) n)))
      | lst b =>
        walk_at "dd"
        exact u_wl tl (fun hL => hL.elim) (fun n => .here (h1 (fun q => q.elim (fun e => by cases e) n)))
      | tup b =>
        walk_at "dd"
        exact u_wl tl (fun hL => hL.elim) (fun n => .here (h1 (fun q => q.elim (fun e => by cases e) n)))
      | _ => exact tl.elim
    · exact h.elim

/- is_from: slots 0 thing, 1 low, 2 high -/
theorem ok_is_from (T : Tn mg) {f : Addr} {fd : FuncData} (F : Fun K "is_from" "is_from" s_is_from f fd) {oA : Str → Addr} (ZC : Clz K mg oA) {cA : Str → Addr} (Z : Exs P w K mg base cA) (G_is_whole : FnD P w K mg base "is_whole" 1 ["thing"] (fun fd => Binds K fd ["thing"] []) sp_is_whole) (gm : mg "is_from" = some (.ref f)) : FnD P w K mg base "is_from" 2 ["thing", "low", "high"] (fun fd => Binds K fd ["thing", "low", "high"] []) sp_is_from := by
  refine ⟨⟨f, fd, gm, F.kp, F.binds (ps := ["thing", "low", "high"]) (fun _ _ _ _ _ _ us hl => match us, hl with | [_, _, _], _ => rfl), okD F sc_is_from (fun ds M Q E h => ?_) (fun cdv A outer s H M ds Qd Ed E hr cx h => ?_)⟩⟩
  · unfold sp_is_from at h
    split at h <;> first | rfl | exact h.elim
  · refine ⟨_, (dss_one (ds_ret (de_and (de_callF G_is_whole (hr.mono (by decide)) (by rfl) (fun _ h => h) .nil rdn passL ctx0 (da_cons (dv 0) da_nil)) (de_one (de_chain od_le od_le (dv 1) (dv 0) (dv 2)))))), ?_⟩
    unfold sp_is_from at h; split at h
    · rename_i i lo hi
      walk_at "dd"
      refine u_whole trivial ?_
      walk_at "dd"
      rw [if_pos (show whl (Dv.int i) = true from rfl)]
      walk_at "dd"
      rw [show decide (lo ≤ i ∧ i ≤ hi) = (decide (lo ≤ i) && decide (i ≤ hi)) by simp] at h
      cases q : decide (lo ≤ i) with
      | true =>
        rw [q] at h
        walk_at "dd"
        exact .here (by simpa using h)
      | false =>
        rw [q] at h
        walk_at "dd"
        exact .here (by simpa using h)
    · exact h.elim
/- is_spot: slots 0 thing -/
theorem ok_is_spot (T : Tn mg) {f : Addr} {fd : FuncData} (F : Fun K "is_spot" "is_spot" s_is_spot f fd) {oA : Str → Addr} (ZC : Clz K mg oA) {cA : Str → Addr} (Z : Exs P w K mg base cA) (G_is_from : FnD P w K mg base "is_from" 2 ["thing", "low", "high"] (fun fd => Binds K fd ["thing", "low", "high"] []) sp_is_from) (gm : mg "is_spot" = some (.ref f)) : FnD P w K mg base "is_spot" 3 ["thing"] (fun fd => Binds K fd ["thing"] []) sp_is_spot := by
  refine ⟨⟨f, fd, gm, F.kp, F.binds (ps := ["thing"]) (fun _ _ _ _ _ _ us hl => match us, hl with | [_], _ => rfl), okD F sc_is_spot (fun ds M Q E h => ?_) (fun cdv A outer s H M ds Qd Ed E hr cx h => ?_)⟩⟩
  · unfold sp_is_spot at h
    split at h <;> first | rfl | exact h.elim
  · refine ⟨_, (dss_cons (ds_if (dt_w (dw_or (dt_not (dt_val (de_callB cd_isi (by rfl) T.n_isinstance (by decide +kernel) (da_cons (dv 0) (da_cons (de_bltn (n := "tuple") (by rfl) T.n_tuple (by decide +kernel)) da_nil))))) (dw_or1 (dt_cmp (od_ne hr.units) (de_callB cd_len (by rfl) T.n_len (by decide +kernel) (da_cons (dv 0) da_nil)) de_int (nomark _))))) (dss_one (ds_ret de_bl)) dss_nil)
      (dss_one (ds_ret (de_and (de_callF G_is_from (hr.mono (by decide)) (by rfl) (fun _ h => h) .nil rdn passL ctx0 (da_cons (de_ix (dv 0) de_int) (da_cons (de_op od_sub de_int (de_globIx (by rfl) T.c_MOST_WIDE)) (da_cons (de_globIx (by rfl) T.c_MOST_WIDE) da_nil)))) (de_one (de_callF G_is_from (hr.mono (by decide)) (by rfl) (fun _ h => h) .nil rdn passL ctx0 (da_cons (de_ix (dv 0) de_int) (da_cons (de_op od_sub de_int (de_globIx (by rfl) T.c_MOST_WIDE)) (da_cons (de_globIx (by rfl) T.c_MOST_WIDE) da_nil))))))))), ?_⟩
    unfold sp_is_spot at h; split at h
    · exact h.1.elim
    · exact h.elim
/- is_seat_of: slots 0 thing -/
theorem ok_is_seat_of (T : Tn mg) {f : Addr} {fd : FuncData} (F : Fun K "is_seat_of" "is_seat_of" s_is_seat_of f fd) {oA : Str → Addr} (ZC : Clz K mg oA) {cA : Str → Addr} (Z : Exs P w K mg base cA) (G_is_from : FnD P w K mg base "is_from" 2 ["thing", "low", "high"] (fun fd => Binds K fd ["thing", "low", "high"] []) sp_is_from) (G_is_sign : FnD P w K mg base "is_sign" 1 ["thing"] (fun fd => Binds K fd ["thing"] []) sp_is_sign) (gm : mg "is_seat_of" = some (.ref f)) : FnD P w K mg base "is_seat_of" 3 ["thing"] (fun fd => Binds K fd ["thing"] []) sp_is_seat_of := by
  refine ⟨⟨f, fd, gm, F.kp, F.binds (ps := ["thing"]) (fun _ _ _ _ _ _ us hl => match us, hl with | [_], _ => rfl), okD F sc_is_seat_of (fun ds M Q E h => ?_) (fun cdv A outer s H M ds Qd Ed E hr cx h => ?_)⟩⟩
  · unfold sp_is_seat_of at h
    split at h <;> first | rfl | exact h.elim
  · refine ⟨_, (dss_cons (ds_if (dt_w (dw_or (dt_not (dt_val (de_callB cd_isi (by rfl) T.n_isinstance (by decide +kernel) (da_cons (dv 0) (da_cons (de_bltn (n := "tuple") (by rfl) T.n_tuple (by decide +kernel)) da_nil))))) (dw_or1 (dt_cmp (od_ne hr.units) (de_callB cd_len (by rfl) T.n_len (by decide +kernel) (da_cons (dv 0) da_nil)) de_int (nomark _))))) (dss_one (ds_ret de_bl)) dss_nil)
      (dss_one (ds_ret (de_and (de_callF G_is_sign (hr.mono (by decide)) (by rfl) (fun _ h => h) .nil rdn passL ctx0 (da_cons (de_ix (dv 0) de_int) da_nil)) (de_one (de_callF G_is_from (hr.mono (by decide)) (by rfl) (fun _ h => h) .nil rdn passL ctx0 (da_cons (de_ix (dv 0) de_int) (da_cons de_int (da_cons (de_globIx (by rfl) T.c_MOST_RANK) da_nil))))))))), ?_⟩
    unfold sp_is_seat_of at h; split at h
    · exact h.1.elim
    · exact h.elim
/- kept: slots 0 thing, 1 word -/
theorem ok_kept (T : Tn mg) {f : Addr} {fd : FuncData} (F : Fun K "kept" "kept" s_kept f fd) {oA : Str → Addr} (ZC : Clz K mg oA) {cA : Str → Addr} (Z : Exs P w K mg base cA)  (gm : mg "kept" = some (.ref f)) : FnD P w K mg base "kept" 3 ["thing", "word"] (fun fd => Binds K fd ["thing", "word"] []) sp_kept := by
  refine ⟨⟨f, fd, gm, F.kp, F.binds (ps := ["thing", "word"]) (fun _ _ _ _ _ _ us hl => match us, hl with | [_, _], _ => rfl), okD F sc_kept (fun ds M Q E h => ?_) (fun cdv A outer s H M ds Qd Ed E hr cx h => ?_)⟩⟩
  · unfold sp_kept at h
    split at h <;> first | rfl | exact h.elim
  · refine ⟨_, (dss_cons (ds_if (dt_cmp od_isN (dv 0) de_non (nomark _)) (dss_one (ds_ret de_dnew)) dss_nil)
      (dss_cons (ds_if (dt_not (dt_val (de_callB cd_isiD (by rfl) T.n_isinstance (by decide +kernel) (da_cons (dv 0) (da_cons (de_bltn (n := "dict") (by rfl) T.n_dict (by decide +kernel)) da_nil))))) (dss_one (ds_raise Z.x_NoCase rfl (takes_of rfl rfl rfl rfl) (hr.mono (by decide)) passL (by rfl) cx (dv 1))) dss_nil)
      (dss_one (ds_ret (de_callTy cd_dict (by rfl) T.n_dict (by decide +kernel) (da_cons (dv 0) da_nil)))))), ?_⟩
    unfold sp_kept at h; split at h
    · walk_at "dd"
      exact .here (h _ (by assumption))
    · walk_at "dd"
      exact .here (h _ (by assumption))
    · exact h.elim
/- Case.is_hung: slots 0 self, 1 sign -/
theorem ok_Case_is_hung (T : Tn mg) {C f : Addr} {fd : FuncData} (F : Fun K "is_hung" "Case.is_hung" s_Case_is_hung f fd) {oA : Str → Addr} (ZC : Clz K mg oA) {cA : Str → Addr} (Z : Exs P w K mg base cA)  (nC : PySem.W.nsIn K mainGlobals "Case" = some (some (.ref C))) (cl : Cls K C) (hM : Meth K C "is_hung" f) : MethD P w K mg base "Case" "is_hung" 1 ["self", "sign"] (fun fd => Binds K fd ["self", "sign"] []) sp_Case_is_hung := by
  refine ⟨⟨C, f, fd, nC, cl, hM, F.binds (ps := ["self", "sign"]) (fun _ _ _ _ _ _ us hl => match us, hl with | [_, _], _ => rfl), okD F sc_Case_is_hung (fun ds M Q E h => ?_) (fun cdv A outer s H M ds Qd Ed E hr cx h => ?_)⟩⟩
  · unfold sp_Case_is_hung at h
    split at h <;> first | rfl | exact h.elim
  · refine ⟨_, (dss_one (ds_ret (de_cmp od_gt (de_dget2 (room1 hr.units) (de_fld ZC.fld (dv 0)) (dv 1) de_int ⟨rfl, rfl, rfl, rfl⟩) de_int (nomark _)))), ?_⟩
    unfold sp_Case_is_hung at h; split at h
    · exact h.1.elim
    · exact h.elim
/- Case.__init__: slots 0 self, 1 ranks, 2 wide, 3 feet, 4 seats, 5 sign, 6 much, 7 spot, 8 rank, 9 key -/
theorem ok_Case___init__ (T : Tn mg) {C f : Addr} {fd : FuncData} (F : FunD K "__init__" "Case.__init__" (defArgs s_Case___init__) (defBody s_Case___init__) (defScope s_Case___init__) [V.non, V.non, V.non, V.non] [] f fd) {oA : Str → Addr} (ZC : Clz K mg oA) {cA : Str → Addr} (Z : Exs P w K mg base cA) (G_is_spot : FnD P w K mg base "is_spot" 3 ["thing"] (fun fd => Binds K fd ["thing"] []) sp_is_spot) (G_is_seat_of : FnD P w K mg base "is_seat_of" 3 ["thing"] (fun fd => Binds K fd ["thing"] []) sp_is_seat_of) (G_kept : FnD P w K mg base "kept" 3 ["thing", "word"] (fun fd => Binds K fd ["thing", "word"] []) sp_kept) (G_Case_is_hung : MethD P w K mg base "Case" "is_hung" 1 ["self", "sign"] (fun fd => Binds K fd ["self", "sign"] []) sp_Case_is_hung) (G_is_sign : FnD P w K mg base "is_sign" 1 ["thing"] (fun fd => Binds K fd ["thing"] []) sp_is_sign) (G_is_from : FnD P w K mg base "is_from" 2 ["thing", "low", "high"] (fun fd => Binds K fd ["thing", "low", "high"] []) sp_is_from) (nC : PySem.W.nsIn K mainGlobals "Case" = some (some (.ref C))) (gC : mg "Case" = some (.ref C)) (mk : Mk K C f) : MakeD P w K mg base "Case" 4 ["self", "ranks", "wide", "feet", "seats"] (fun fd => KBs K fd ["self", "ranks", "wide", "feet", "seats"] 1 ["ranks"] [.inl 0, .inr 1, .inr 2, .inr 3] [V.non, V.non, V.non, V.non] ∧ (∃ us, Vals [V.non, V.non, V.non, V.non] us ∧ Binds K fd ["self", "ranks", "wide", "feet", "seats"] us) ∧ True) sp_Case___init__ := by
  refine ⟨⟨C, f, fd, nC, gC, mk, ⟨kbs_of F 1 [.inl 0, .inr 1, .inr 2, .inr 3] (by simp) (fun T kV doc pm an cdv ct us its ws h1 h2 h3 => by match us, h1, its, h2, ws, h3 with | [_], _, [_, _, _, _], _, [_], _ => exact ⟨_, rfl, rfl⟩), F.binds1 1 0 (by simp) rfl (fun T kV doc pm an cdv ct us its h1 h2 => by match us, h1, its, h2 with | [_], _, [_, _, _, _], _ => exact ⟨_, rfl, rfl⟩), True.intro⟩, okDD F sc_Case___init__ (fun ds M Q E h => ?_) (fun cdv A outer s H M ds Qd Ed E hr cx h => ?_)⟩⟩
  · unfold sp_Case___init__ at h
    split at h <;> first | rfl | exact h.elim
  · refine ⟨_, (dss_cons (ds_fld ZC.fld (dv 0) (de_frz (de_callF G_kept (hr.mono (by decide)) (by rfl) (fun _ h => h) .nil rdn (passB (takes_of rfl rfl rfl rfl)) cx (da_cons (dv 1) (da_cons de_str da_nil)))))
      (dss_cons (ds_if (dt_not (dt_val (de_callB (cd_all rfl) (by rfl) T.n_all (by decide +kernel) (da_cons (de_frz (de_lc (g := (.tp [(.nm 5), (.nm 8)])) rfl sc_Case___init__.nd (di_items (de_fld ZC.fld (dv 0))) (blkOk_by (N := ["self", "ranks", "wide", "feet", "seats", "sign", "much", "spot", "rank", "key"]) (own := [("sign", 5), ("rank", 8)]) (sc := defScope s_Case___init__) (by decide +kernel)) (fun _ _ _ _ _ => (pg_tup rfl (pgs_cons (pg_name (i := 5) sc_Case___init__.nd rfl (Or.inl rfl)) (pgs_cons (pg_name (i := 8) sc_Case___init__.nd rfl (Or.inl rfl)) pgs_nil)))) (fun _ _ _ _ _ => dts_nil) (fun _ _ _ _ _ => (de_and (de_callF G_is_sign (hr.mono (by decide)) (by rfl) (fun _ h => h) .nil rdn passL ctx0 (da_cons (dv 5) da_nil)) (de_one (de_callF G_is_from (hr.mono (by decide)) (by rfl) (fun _ h => h) .nil rdn passL ctx0 (da_cons (dv 8) (da_cons de_int (da_cons (de_globIx (by rfl) T.c_MOST_RANK) da_nil))))))))) da_nil)))) (dss_one (ds_raise Z.x_NoCase rfl (takes_of rfl rfl rfl rfl) (hr.mono (by decide)) passL (by rfl) cx de_str)) dss_nil)
      (dss_cons (ds_fld ZC.fld (dv 0) (de_frz (de_callF G_kept (hr.mono (by decide)) (by rfl) (fun _ h => h) .nil rdn (passB (takes_of rfl rfl rfl rfl)) cx (da_cons (dv 2) (da_cons de_str da_nil)))))
      (dss_cons (ds_for (passes_of rfl) rfl (di_items (de_fld ZC.fld (dv 0))) (dg_tup rfl (dgs_cons (dg_name (i := 5) sc_Case___init__.nd rfl (Or.inl rfl)) (dgs_cons (dg_name (i := 6) sc_Case___init__.nd rfl (Or.inl rfl)) dgs_nil))) (dss_one (ds_if (dt_w (dw_or (dt_not (dt_val (de_callF G_is_sign (hr.mono (by decide)) (by rfl) (fun _ h => h) .nil rdn passL ctx0 (da_cons (dv 5) da_nil)))) (dw_or (dt_val (de_meth G_Case_is_hung (hr.mono (by decide)) (fun _ h => ⟨[], .nil, h⟩) rdn passL ctx0 (dv 0) (da_cons (dv 5) da_nil))) (dw_or1 (dt_not (dt_val (de_callF G_is_from (hr.mono (by decide)) (by rfl) (fun _ h => h) .nil rdn passL ctx0 (da_cons (dv 6) (da_cons de_int (da_cons (de_globIx (by rfl) T.c_MOST_WIDE) da_nil)))))))))) (dss_one (ds_raise Z.x_NoCase rfl (takes_of rfl rfl rfl rfl) (hr.mono (by decide)) passL (by rfl) cx de_str)) dss_nil)))
      (dss_cons (ds_fld ZC.fld (dv 0) (de_frz (de_callF G_kept (hr.mono (by decide)) (by rfl) (fun _ h => h) .nil rdn (passB (takes_of rfl rfl rfl rfl)) cx (da_cons (dv 3) (da_cons de_str da_nil)))))
      (dss_cons (ds_for (passes_of rfl) rfl (di_items (de_fld ZC.fld (dv 0))) (dg_tup rfl (dgs_cons (dg_name (i := 5) sc_Case___init__.nd rfl (Or.inl rfl)) (dgs_cons (dg_name (i := 7) sc_Case___init__.nd rfl (Or.inl rfl)) dgs_nil))) (dss_one (ds_if (dt_w (dw_or (dt_not (dt_val (de_callF G_is_sign (hr.mono (by decide)) (by rfl) (fun _ h => h) .nil rdn passL ctx0 (da_cons (dv 5) da_nil)))) (dw_or (dt_not (dt_val (de_meth G_Case_is_hung (hr.mono (by decide)) (fun _ h => ⟨[], .nil, h⟩) rdn passL ctx0 (dv 0) (da_cons (dv 5) da_nil)))) (dw_or1 (dt_not (dt_val (de_callF G_is_spot (hr.mono (by decide)) (by rfl) (fun _ h => h) .nil rdn passL ctx0 (da_cons (dv 7) da_nil)))))))) (dss_one (ds_raise Z.x_NoCase rfl (takes_of rfl rfl rfl rfl) (hr.mono (by decide)) passL (by rfl) cx de_str)) dss_nil)))
      (dss_cons (ds_fld ZC.fld (dv 0) (de_frz (de_callF G_kept (hr.mono (by decide)) (by rfl) (fun _ h => h) .nil rdn (passB (takes_of rfl rfl rfl rfl)) cx (da_cons (dv 4) (da_cons de_str da_nil)))))
      (dss_one (ds_if (dt_not (dt_val (de_callB (cd_all rfl) (by rfl) T.n_all (by decide +kernel) (da_cons (de_frz (de_lc (g := (.tp [(.nm 9), (.nm 7)])) rfl sc_Case___init__.nd (di_items (de_fld ZC.fld (dv 0))) (blkOk_by (N := ["self", "ranks", "wide", "feet", "seats", "sign", "much", "spot", "rank", "key"]) (own := [("key", 9), ("spot", 7)]) (sc := defScope s_Case___init__) (by decide +kernel)) (fun _ _ _ _ _ => (pg_tup rfl (pgs_cons (pg_name (i := 9) sc_Case___init__.nd rfl (Or.inl rfl)) (pgs_cons (pg_name (i := 7) sc_Case___init__.nd rfl (Or.inl rfl)) pgs_nil)))) (fun _ _ _ _ _ => dts_nil) (fun _ _ _ _ _ => (de_and (de_callF G_is_seat_of (hr.mono (by decide)) (by rfl) (fun _ h => h) .nil rdn passL ctx0 (da_cons (dv 9) da_nil)) (de_one (de_callF G_is_spot (hr.mono (by decide)) (by rfl) (fun _ h => h) .nil rdn passL ctx0 (da_cons (dv 7) da_nil))))))) da_nil)))) (dss_one (ds_raise Z.x_NoCase rfl (takes_of rfl rfl rfl rfl) (hr.mono (by decide)) passL (by rfl) cx de_str)) dss_nil))))))))), ?_⟩
    unfold sp_Case___init__ at h; split at h
    · rename_i p d
      obtain ⟨hp, kvs, hd, hk, h⟩ := h
      have hkl := hk.len
      walk_at "dd"
      refine u_keptR hd (fun p2 hp2 => ?_)
      walk_at "dd"
      refine lk_map (fun _ => .bl true) (by rw [List.length_map]; omega) (fun i d hd => ?_) ?_
      · obtain ⟨q, hq, rfl⟩ := map_get hd
        obtain ⟨c, r, rfl, hc, hr⟩ := hk.el q (List.mem_of_getElem? hq)
        show dG _ (.tup [.str (sgn c), .int (r : Nat)]) _ _ _
        walk_at "dd"
        refine u_sign (by show 1 ≤ 1000000; decide) ?_
        rw [sgnB_c hc]
        walk_at "dd"
        rw [decide_eq_true (by omega)]
        rw [List.take_add_one, hd, List.map_append]
        rfl
      · walk_at "dd"
        refine i_all (bs := kvs.map fun _ => true) rfl (by rw [List.map_map, ← blsOf_map, List.map_map]; rfl) ?_
        rw [show (kvs.map fun _ => true).all id = true by simp]
        walk_at "dd"
        refine fo_fz (fun i sd M' => sd = _ ∧ M' = _) ⟨rfl, rfl⟩ (fun i d sd M' hd => by simp at hd) ?_
        rintro sd M' ⟨rfl, rfl⟩
        walk_at "dd"
        refine fo_fz (fun i sd M' => sd = _ ∧ M' = _) ⟨rfl, rfl⟩ (fun i d sd M' hd => by simp at hd) ?_
        rintro sd M' ⟨rfl, rfl⟩
        walk_at "dd"
        refine lk_map (fun _ => .bl true) (by simp) (fun i d hd => by simp at hd) ?_
        walk_at "dd"
        refine i_all (bs := []) rfl rfl ?_
        walk_at "dd"
        simp only [mup_mup]
        exact .here h
    · exact h.elim
/- Case.rank_of: slots 0 self, 1 sign -/
theorem ok_Case_rank_of (T : Tn mg) {C f : Addr} {fd : FuncData} (F : Fun K "rank_of" "Case.rank_of" s_Case_rank_of f fd) {oA : Str → Addr} (ZC : Clz K mg oA) {cA : Str → Addr} (Z : Exs P w K mg base cA)  (nC : PySem.W.nsIn K mainGlobals "Case" = some (some (.ref C))) (cl : Cls K C) (hM : Meth K C "rank_of" f) : MethD P w K mg base "Case" "rank_of" 1 ["self", "sign"] (fun fd => Binds K fd ["self", "sign"] []) sp_Case_rank_of := by
  refine ⟨⟨C, f, fd, nC, cl, hM, F.binds (ps := ["self", "sign"]) (fun _ _ _ _ _ _ us hl => match us, hl with | [_, _], _ => rfl), okD F sc_Case_rank_of (fun ds M Q E h => ?_) (fun cdv A outer s H M ds Qd Ed E hr cx h => ?_)⟩⟩
  · unfold sp_Case_rank_of at h
    split at h <;> first | rfl | exact h.elim
  · refine ⟨_, (dss_one (ds_ret (de_dget1 (room1 hr.units) (de_fld ZC.fld (dv 0)) (dv 1) ⟨rfl, rfl, rfl, rfl⟩))), ?_⟩
    unfold sp_Case_rank_of at h; split at h
    · obtain ⟨kvs, c, rfl, rfl, hk, h⟩ := h
      walk_at "dd"
      rcases hk.val c with ⟨e1, e2⟩ | ⟨r, _, e1, e2⟩ <;> rw [e2] at h <;> rw [e1] <;> exact .here h
    · exact h.elim
/- Case.is_base: slots 0 self, 1 sign -/
theorem ok_Case_is_base (T : Tn mg) {C f : Addr} {fd : FuncData} (F : Fun K "is_base" "Case.is_base" s_Case_is_base f fd) {oA : Str → Addr} (ZC : Clz K mg oA) {cA : Str → Addr} (Z : Exs P w K mg base cA)  (nC : PySem.W.nsIn K mainGlobals "Case" = some (some (.ref C))) (cl : Cls K C) (hM : Meth K C "is_base" f) : MethD P w K mg base "Case" "is_base" 1 ["self", "sign"] (fun fd => Binds K fd ["self", "sign"] []) sp_Case_is_base := by
  refine ⟨⟨C, f, fd, nC, cl, hM, F.binds (ps := ["self", "sign"]) (fun _ _ _ _ _ _ us hl => match us, hl with | [_, _], _ => rfl), okD F sc_Case_is_base (fun ds M Q E h => ?_) (fun cdv A outer s H M ds Qd Ed E hr cx h => ?_)⟩⟩
  · unfold sp_Case_is_base at h
    split at h <;> first | rfl | exact h.elim
  · refine ⟨_, (dss_one (ds_ret (de_dnotin (room1 hr.units) (dv 1) (de_fld ZC.fld (dv 0))))), ?_⟩
    unfold sp_Case_is_base at h; split at h
    · obtain ⟨kvs, c, rfl, rfl, hk, h⟩ := h
      walk_at "dd"
      rw [isB_val hk]
      exact .here h
    · exact h.elim
/- clusters: slots 0 case, 1 word, 2 begins, 3 at, 4 sign -/
theorem ok_clusters (T : Tn mg) {f : Addr} {fd : FuncData} (F : Fun K "clusters" "clusters" s_clusters f fd) {oA : Str → Addr} (ZC : Clz K mg oA) {cA : Str → Addr} (Z : Exs P w K mg base cA) (G_Case_is_base : MethD P w K mg base "Case" "is_base" 1 ["self", "sign"] (fun fd => Binds K fd ["self", "sign"] []) sp_Case_is_base) (G_want_word : FnD P w K mg base "want_word" 4 ["word", "letters"] (fun fd => (∃ us, Vals [V.non] us ∧ Binds K fd ["word", "letters"] us) ∧ True) sp_want_word) (gm : mg "clusters" = some (.ref f)) : FnD P w K mg base "clusters" 5 ["case", "word"] (fun fd => Binds K fd ["case", "word"] []) sp_clusters := by
  refine ⟨⟨f, fd, gm, F.kp, F.binds (ps := ["case", "word"]) (fun _ _ _ _ _ _ us hl => match us, hl with | [_, _], _ => rfl), okD F sc_clusters (fun ds M Q E h => ?_) (fun cdv A outer s H M ds Qd Ed E hr cx h => ?_)⟩⟩
  · unfold sp_clusters at h
    split at h <;> first | rfl | exact h.elim
  · refine ⟨_, (dss_cons (ds_expr (de_callG (ddvs := [Dv.non]) G_want_word (hr.mono (by decide)) (by rfl) (fun _ h => h.1) (fun _ => (.cons (by unfold RD; rfl) .nil)) (passB (takes_of rfl rfl rfl rfl)) cx (da_cons (dv 1) da_nil)))
      (dss_cons (ds_fzS 2 (ds_setLc (g := (.tp [(.nm 3), (.nm 4)])) (i := 2) rfl sc_clusters.nd rfl rfl (sw_true rfl rfl rfl (by decide +kernel)) (di_enumS (by rfl) T.n_enumerate (da_cons (dv 1) da_nil)) (blkOk_by (N := ["case", "word", "begins", "at", "sign"]) (own := [("at", 3), ("sign", 4)]) (sc := defScope s_clusters) (by decide +kernel)) (fun _ _ _ _ _ => (pg_tup rfl (pgs_cons (pg_name (i := 3) sc_clusters.nd rfl (Or.inl rfl)) (pgs_cons (pg_name (i := 4) sc_clusters.nd rfl (Or.inl rfl)) pgs_nil)))) (fun _ _ _ _ _ => (dts_one (dt_w (dw_or (dt_cmp (od_eq hr.units) (dv 3) de_int (nomark _)) (dw_or1 (dt_val (de_meth G_Case_is_base (hr.mono (by decide)) (fun _ h => ⟨[], .nil, h⟩) rdn passL ctx0 (dv 0) (da_cons (dv 4) da_nil)))))))) (fun _ _ _ _ _ => (dv 3))))
      (dss_one (ds_ret (de_listZip rfl (by rfl) T.n_list (by rfl) T.n_zip (by decide +kernel) (da_cons (dv 2) (da_cons (de_frz (de_op od_add (de_frz (de_slice (dv 2) (do_some de_int) do_none)) (de_frz (de_lst (da_cons (de_callB cd_len (by rfl) T.n_len (by decide +kernel) (da_cons (dv 1) da_nil)) da_nil))))) da_nil))))))), ?_⟩
    unfold sp_clusters at h; split at h
    · rename_i d w
      obtain ⟨kvs, rfl, hk, hi, hl, h⟩ := h
      have hwl := str_len w
      walk_at "dd"
      refine u_wwS (by omega) hi ?_
      walk_at "dd"
      have hel : (enumD 0 (signsD w)).length = w.cps.toList.length := by rw [enumD_length, signsD_len, hwl]
      refine lk_fz (fun i acc M' => M' = M ∧ acc = (begN (isB kvs) w.cps.toList i).map fun n : Nat => Dv.int (n : Nat)) (by omega) ⟨rfl, rfl⟩ ?_ ?_
      · rintro i d acc M' hd ha ⟨rfl, rfl⟩
        obtain ⟨y, hy, rfl⟩ := enumD_get hd
        obtain ⟨c, hc, rfl⟩ := signsD_get hy
        have hc2 : w.cps.toList[i]? = some c := by rw [Array.getElem?_toList]; exact hc
        have hg : w.cps.toList.getD i 0 = c := by rw [List.getD_eq_getElem?_getD, hc2]; rfl
        rw [begN_succ, hg]
        walk_at "dd"
        rw [Nat.zero_add]
        refine i_ifd (fun q => ?_) (fun q => ?_)
        · obtain rfl : i = 0 := by omega
          rw [if_pos rfl]
          walk_at "dd"
          rw [if_pos (by simp), List.map_append]
          rfl
        · walk_at "dd"
          rw [decide_eq_false (by omega), Bool.false_or]
          cases isB kvs c with
          | true =>
            rw [if_pos rfl]
            walk_at "dd"
            rw [if_pos rfl, List.map_append]
            rfl
          | false =>
            rw [if_neg Bool.false_ne_true, if_neg Bool.false_ne_true, List.append_nil]
            exact ⟨rfl, rfl⟩
      · rintro acc M' hacc ⟨rfl, rfl⟩
        rw [hel]
        walk_at "dd"
        have hbl : (begN (isB kvs) w.cps.toList w.cps.toList.length).length ≤ w.cps.toList.length := Nat.le_trans (List.length_filter_le _ _) (by rw [List.length_range]; exact Nat.le_refl _)
        rw [show (1 : Int) = ((1 : Nat) : Int) from rfl, cutD_drop]
        have hsz : (List.drop 1 (List.map (fun n : Nat => Dv.int (n : Nat)) (begN (isB kvs) w.cps.toList w.cps.toList.length))).length + [Dv.int (w.length : Nat)].length ≤ 16777216 := by
          rw [List.length_drop, List.length_map]
          show _ - 1 + 1 ≤ _
          omega
        refine i_addL rfl rfl hsz (fun p hp => ?_)
        walk_at "dd"
        refine i_listZip rfl rfl (by rw [List.length_map]; omega) (fun p2 hp2 => ?_)
        rw [← List.map_drop, List.drop_one, hwl, pairD_clN]
        exact .here (h p2 hp2)
    · exact h.elim
/- shown_turn: slots 0 case, 1 sign, 2 rank -/
theorem ok_shown_turn (T : Tn mg) {f : Addr} {fd : FuncData} (F : Fun K "shown_turn" "shown_turn" s_shown_turn f fd) {oA : Str → Addr} (ZC : Clz K mg oA) {cA : Str → Addr} (Z : Exs P w K mg base cA) (G_Case_rank_of : MethD P w K mg base "Case" "rank_of" 1 ["self", "sign"] (fun fd => Binds K fd ["self", "sign"] []) sp_Case_rank_of) (gm : mg "shown_turn" = some (.ref f)) : FnD P w K mg base "shown_turn" 2 ["case", "sign"] (fun fd => Binds K fd ["case", "sign"] []) sp_shown_turn := by
  refine ⟨⟨f, fd, gm, F.kp, F.binds (ps := ["case", "sign"]) (fun _ _ _ _ _ _ us hl => match us, hl with | [_, _], _ => rfl), okD F sc_shown_turn (fun ds M Q E h => ?_) (fun cdv A outer s H M ds Qd Ed E hr cx h => ?_)⟩⟩
  · unfold sp_shown_turn at h
    split at h <;> first | rfl | exact h.elim
  · refine ⟨_, (dss_cons (ds_set (i := 2) sc_shown_turn.nd rfl (Or.inl rfl) (de_frz (de_meth G_Case_rank_of (hr.mono (by decide)) (fun _ h => ⟨[], .nil, h⟩) rdn passL ctx0 (dv 0) (da_cons (dv 1) da_nil))))
      (dss_cons (ds_if (dt_cmp od_isN (dv 2) de_non (nomark _)) (dss_one (ds_ret de_int)) dss_nil)
      (dss_one (ds_ret (de_if (dt_cmp (od_eq hr.units) (dv 2) de_int (nomark _)) de_int (de_op od_add (dv 2) de_int)))))), ?_⟩
    unfold sp_shown_turn at h; split at h
    · obtain ⟨kvs, c, rfl, rfl, hk, h⟩ := h
      walk_at "dd"
      rcases e : rkO kvs c with _ | r <;> rw [e] at h
      · walk_at "dd"
        exact .here h
      · walk_at "dd"
        refine i_ifd (fun q => ?_) (fun q => ?_)
        · obtain rfl : r = 0 := by omega
          walk_at "dd"
          exact .here h
        · obtain ⟨k, rfl⟩ : ∃ k, r = k + 1 := ⟨r - 1, by omega⟩
          walk_at "dd"
          exact .here h
    · exact h.elim
/- sorted_places: slots 0 case, 1 word, 2 turn_of, 3 found, 4 begin, 5 end, 6 at -/
theorem ok_sorted_places (T : Tn mg) {f : Addr} {fd : FuncData} {cc P_sorted_places : Addr} (TB : LamX.TabB base mg cc P_sorted_places) {A_shown_turn : Addr} {oA : Str → Addr} (ZC : Clz K mg oA) {cA : Str → Addr} (Z : Exs P w K mg base cA) (G_clusters : FnD P w K mg base "clusters" 5 ["case", "word"] (fun fd => Binds K fd ["case", "word"] []) sp_clusters) (G_shown_turn : FnD P w K mg base "shown_turn" 2 ["case", "sign"] (fun fd => Binds K fd ["case", "sign"] []) sp_shown_turn) (m_shown_turn : mg "shown_turn" = some (.ref A_shown_turn)) (F : FunC K "sorted_places" "sorted_places" s_sorted_places f fd cc) (gm : mg "sorted_places" = some (.ref f)) : FnD P w K mg base "sorted_places" 6 ["case", "word", "turn_of"] (fun fd => Binds K fd ["case", "word", "turn_of"] []) (sp_sorted_places P_sorted_places A_shown_turn) := by
  refine ⟨⟨f, fd, gm, F.kp, F.fn.binds (ps := ["case", "word", "turn_of"]) (fun _ _ _ _ _ _ us hl => match us, hl with | [_, _, _], _ => rfl), okDC F sc_sorted_places (fun ds M Q E h => ?_) (fun A outer s H M ds Qd Ed E hr cx h => ?_)⟩⟩
  · unfold sp_sorted_places at h
    split at h <;> first | rfl | exact h.elim
  · refine ⟨_, (dss_cons (ds_set (i := 3) sc_sorted_places.nd rfl (Or.inl rfl) (de_lst da_nil))
      (dss_cons (ds_for (passes_of rfl) rfl (di_list (de_frz (de_callF G_clusters (hr.mono (by decide)) (by rfl) (fun _ h => h) .nil rdn (passB (takes_of rfl rfl rfl rfl)) cx (da_cons (dv 0) (da_cons (dv 1) da_nil))))) (dg_tup rfl (dgs_cons (dg_name (i := 4) sc_sorted_places.nd rfl (Or.inl rfl)) (dgs_cons (dg_name (i := 5) sc_sorted_places.nd rfl (Or.inl rfl)) dgs_nil))) (dss_one (ds_expr (de_bm PySem.F.plainAttrs_list PySem.F.slot_list_extend PySem.F.type_list_extend md_extL (dv 3) (da_cons (de_frz (de_sortK (k := 2) (P := P_sorted_places) (q := "sorted_places.<locals>.<lambda>") (x := "at") (j := 6) rfl (by rfl) T.n_sorted (by decide +kernel) (by rfl) T.n_range (da_cons (dv 4) (da_cons (dv 5) da_nil)) TB rfl (by rfl) (hr.mono (by decide)) (lamS1_by (sc := defScope s_sorted_places) (by decide +kernel)) sc_sorted_places.nd rfl rfl (fun _ _ _ _ _ _ => rfl) (fun A outer s H E f c2 M1 H1 hr => (de_tup (da_cons (de_callV (i := 2) G_shown_turn G_shown_turn m_shown_turn m_shown_turn (hr.mono (by decide)) (hr.mono (by decide)) (fun _ h => h) (fun _ h => h) passL ctx0 (by rfl) (by first | exact Or.inl rfl | exact Or.inr (Or.inl rfl) | exact Or.inr (Or.inr rfl)) (da_cons (dv 0) (da_cons (de_ix (dv 1) (dv 6)) da_nil))) (da_cons (dv 6) da_nil)))))) da_nil)))))
      (dss_one (ds_ret (dv 3))))), ?_⟩
    unfold sp_sorted_places at h; split at h
    · rename_i d w f
      obtain ⟨kvs, rfl, hk, hi, hl, hP, rfl, h⟩ := h
      have hwl := str_len w
      walk_at "dd"
      rename_i p hp p2 hp2
      have nP := mne2 hp hP
      refine fo_fz (fun i sd M' => ∃ (y4_ y5_ y6_ : Option Dv), sd = [some (caseD kvs), some (.str w), some (.ref f), some (.ref p), y4_, y5_, y6_] ∧ (M' = mup M p (.lst ((((clOf kvs w.cps.toList).take i).flatMap fun q => sortK (keyO turnS kvs w.cps.toList) (q.1 : Nat) (q.2 : Nat)).map .int)))) ⟨_, _, _, rfl, rfl⟩ ?_ ?_
      · rintro i d sd M' hd ⟨y4_, y5_, y6_, rfl, rfl⟩
        obtain ⟨q, hq, rfl⟩ := map_get hd
        obtain ⟨h1, h2⟩ := clOf_le _ (List.mem_of_getElem? hq)
        have ht := plOf_take (t := turnS) hq
        walk_at "dd"
        refine i_sortK (keyO turnS kvs w.cps.toList) (by omega) (by omega) (by rw [mup_ne nP]; exact hP) (fun j j1 j2 => ?_) (fun p3 hp3 => ?_)
        · have hj : j < w.cps.toList.length := by omega
          walk_at "dd"
          refine i_callV1 rfl ?_
          simp only [List.set_cons_succ, List.set_cons_zero]
          walk_at "dd"
          refine i_ixS (L2.atI_nat (List.getElem?_eq_getElem hj)) (by omega) ?_
          walk_at "dd"
          rw [keyO_at hj]
          exact ⟨rfl, rfl⟩
        · walk_at "dd"
          rw [mup_mup, ← List.map_append, ht.1]
          exact ⟨_, _, _, rfl, rfl⟩
      · rintro sd M' ⟨y4_, y5_, y6_, rfl, rfl⟩
        rw [List.length_map, List.take_length]
        walk_at "dd"
        exact .here (h p hp)
    · exact h.elim
/- text_at: slots 0 word, 1 places, 2 at -/
theorem ok_text_at (T : Tn mg) {f : Addr} {fd : FuncData} (F : Fun K "text_at" "text_at" s_text_at f fd) {oA : Str → Addr} (ZC : Clz K mg oA) {cA : Str → Addr} (Z : Exs P w K mg base cA)  (gm : mg "text_at" = some (.ref f)) : FnD P w K mg base "text_at" 1 ["word", "places"] (fun fd => Binds K fd ["word", "places"] []) sp_text_at := by
  refine ⟨⟨f, fd, gm, F.kp, F.binds (ps := ["word", "places"]) (fun _ _ _ _ _ _ us hl => match us, hl with | [_, _], _ => rfl), okD F sc_text_at (fun ds M Q E h => ?_) (fun cdv A outer s H M ds Qd Ed E hr cx h => ?_)⟩⟩
  · unfold sp_text_at at h
    split at h <;> first | rfl | exact h.elim
  · refine ⟨_, (dss_one (ds_ret (de_bm PySem.F.plainAttrs_str PySem.F.slot_str_join PySem.F.type_str_join md_join de_str (da_cons (de_frz (de_lc (g := (.nm 2)) rfl sc_text_at.nd (di_list (dv 1)) (blkOk_by (N := ["word", "places", "at"]) (own := [("at", 2)]) (sc := defScope s_text_at) (by decide +kernel)) (fun _ _ _ _ _ => (pg_name (i := 2) sc_text_at.nd rfl (Or.inl rfl))) (fun _ _ _ _ _ => dts_nil) (fun _ _ _ _ _ => (de_ix (dv 0) (dv 2))))) da_nil)))), ?_⟩
    unfold sp_text_at at h; split at h
    · rename_i w d
      obtain ⟨is, hs, hb, hl, hw, h⟩ := h
      have hwl := str_len w
      walk_at "dd"
      refine kSqG hs (fun ok hok => ?_)
      refine lk_toO (sgD (txAt w.cps.toList is)) (by unfold sgD txAt; simp) (by rw [List.length_map]; omega) hok (fun i d e hd he => ?_) ?_
      · obtain ⟨n, hn, rfl⟩ := map_get hd
        obtain ⟨b0, b1⟩ := hb n (List.mem_of_getElem? hn)
        have hn2 : n.toNat < w.cps.toList.length := by omega
        walk_at "dd"
        refine i_ixS (e_atI b0 (List.getElem?_eq_getElem hn2)) (by omega) ?_
        walk_at "dd"
        have e2 : (sgD (txAt w.cps.toList is))[i]? = some (.str (sgn (w.cps.toList[n.toNat]))) := by
          unfold sgD txAt
          rw [List.map_map, List.getElem?_map, hn, Option.map_some]
          show some (Dv.str (sgn (w.cps.toList.getD n.toNat 0))) = _
          rw [List.getD_eq_getElem?_getD, List.getElem?_eq_getElem hn2, Option.getD_some]
        rw [List.take_add_one, e2]
        rfl
      · walk_at "dd"
        refine i_joinSg (cs := txAt w.cps.toList is) (by unfold txAt; rw [List.length_map]; omega) ?_
        exact .here h
    · exact h.elim
/- ordered: slots 0 case, 1 word, 2 places -/
theorem ok_ordered (T : Tn mg) {f : Addr} {fd : FuncData} (F : Fun K "ordered" "ordered" s_ordered f fd) {P_sorted_places : Addr} {A_shown_turn : Addr} {oA : Str → Addr} (ZC : Clz K mg oA) {cA : Str → Addr} (Z : Exs P w K mg base cA) (G_text_at : FnD P w K mg base "text_at" 1 ["word", "places"] (fun fd => Binds K fd ["word", "places"] []) sp_text_at) (G_sorted_places : FnD P w K mg base "sorted_places" 6 ["case", "word", "turn_of"] (fun fd => Binds K fd ["case", "word", "turn_of"] []) (sp_sorted_places P_sorted_places A_shown_turn)) (m_shown_turn : mg "shown_turn" = some (.ref A_shown_turn)) (gm : mg "ordered" = some (.ref f)) : FnD P w K mg base "ordered" 7 ["case", "word"] (fun fd => (∃ us, Vals [] us ∧ Binds K fd ["case", "word"] us) ∧ KBs K fd ["case", "word"] 0 ["word", "case"] [.inl 1, .inl 0] [] ∧ True) (sp_ordered A_shown_turn P_sorted_places) := by
  refine ⟨⟨f, fd, gm, F.kp, ⟨⟨[], .nil, F.binds (ps := ["case", "word"]) (fun _ _ _ _ _ _ us hl => match us, hl with | [_, _], _ => rfl)⟩, kbs_fun F 0 [.inl 1, .inl 0] (fun kV doc pm an cdv ct us ws h1 h3 => by match us, h1, ws, h3 with | [], _, [_, _], _ => rfl), True.intro⟩, okD F sc_ordered (fun ds M Q E h => ?_) (fun cdv A outer s H M ds Qd Ed E hr cx h => ?_)⟩⟩
  · unfold sp_ordered at h
    split at h <;> first | rfl | exact h.elim
  · refine ⟨_, (dss_cons (ds_set (i := 2) sc_ordered.nd rfl (Or.inl rfl) (de_callF G_sorted_places (hr.mono (by decide)) (by rfl) (fun _ h => h) .nil rdn (passB (takes_of rfl rfl rfl rfl)) cx (da_cons (dv 0) (da_cons (dv 1) (da_cons (de_fnv (by rfl) m_shown_turn) da_nil)))))
      (dss_one (ds_ret (de_tup (da_cons (de_callF G_text_at (hr.mono (by decide)) (by rfl) (fun _ h => h) .nil rdn passL ctx0 (da_cons (dv 1) (da_cons (dv 2) da_nil))) (da_cons (dv 2) da_nil)))))), ?_⟩
    unfold sp_ordered at h; split at h
    · rename_i d w
      obtain ⟨kvs, rfl, hk, hi, hl, hP, h⟩ := h
      have hwl := str_len w
      walk_at "dd"
      refine u_sortp hk hi hl hP (fun p hp => ?_)
      walk_at "dd"
      refine u_textat (e_seqR mup_same) (fun i hi => ?_) (by rw [plOf_len]; omega) hl ?_
      · have := plOf_mem.mp hi
        omega
      walk_at "dd"
      exact .here (h p hp)
    · exact h.elim

/- _law_mixed: slots 0 _law_cell, 1 _law_k, 2 _law_number -/
theorem ok__law_mixed (T : Tn mg) {f : Addr} {fd : FuncData} (F : Fun K "_law_mixed" "_law_mixed" s__law_mixed f fd) {oA : Str → Addr} (ZC : Clz K mg oA) {cA : Str → Addr} (Z : Exs P w K mg base cA)  (gm : mg "_law_mixed" = some (.ref f)) : FnD P w K mg base "_law_mixed" 1 ["_law_cell", "_law_k"] (fun fd => Binds K fd ["_law_cell", "_law_k"] []) sp__law_mixed := by
  refine ⟨⟨f, fd, gm, F.kp, F.binds (ps := ["_law_cell", "_law_k"]) (fun _ _ _ _ _ _ us hl => match us, hl with | [_, _], _ => rfl), okD F sc__law_mixed (fun ds M Q E h => ?_) (fun cdv A outer s H M ds Qd Ed E hr cx h => ?_)⟩⟩
  · unfold sp__law_mixed at h
    split at h <;> first | rfl | exact h.elim
  · refine ⟨_, (dss_cons (ds_set (i := 2) sc__law_mixed.nd rfl (Or.inl rfl) (de_op od_mod (de_op od_mulY (de_op od_add (de_op od_mod (dv 0) de_int) de_int) (de_op od_add (de_op od_mulY (dv 1) de_int) de_int)) de_int))
      (dss_cons (ds_set (i := 2) sc__law_mixed.nd rfl (Or.inl rfl) (de_op od_mod (de_op od_mulY (de_op od_add (dv 2) (de_op od_mulY (de_op od_mod (de_op od_fdiv (dv 0) de_int) de_int) (de_op od_add (dv 1) de_int))) de_int) de_int))
      (dss_cons (ds_set (i := 2) sc__law_mixed.nd rfl (Or.inl rfl) (de_op od_mod (de_op od_mulY (dv 2) (de_op od_add (de_op od_add (de_op od_fdiv (dv 2) de_int) de_int) (dv 1))) de_int))
      (dss_one (ds_ret (de_op od_mod (de_op od_mulY (dv 2) (de_op od_add (de_op od_fdiv (dv 2) de_int) de_int)) de_int)))))), ?_⟩
    unfold sp__law_mixed at h; split at h
    · walk_at "dd"
      exact .here (h _ (by omega) (by omega))
    · exact h.elim
/- _law_well: slots 0 _law_cell -/
theorem ok__law_well (T : Tn mg) {f : Addr} {fd : FuncData} (F : Fun K "_law_well" "_law_well" s__law_well f fd) {oA : Str → Addr} (ZC : Clz K mg oA) {cA : Str → Addr} (Z : Exs P w K mg base cA)  (gm : mg "_law_well" = some (.ref f)) : FnD P w K mg base "_law_well" 1 ["_law_cell"] (fun fd => Binds K fd ["_law_cell"] []) sp__law_well := by
  refine ⟨⟨f, fd, gm, F.kp, F.binds (ps := ["_law_cell"]) (fun _ _ _ _ _ _ us hl => match us, hl with | [_], _ => rfl), okD F sc__law_well (fun ds M Q E h => ?_) (fun cdv A outer s H M ds Qd Ed E hr cx h => ?_)⟩⟩
  · unfold sp__law_well at h
    split at h <;> first | rfl | exact h.elim
  · refine ⟨_, (dss_one (ds_ret (de_lst (da_cons (de_op od_mulY (dv 0) (de_callTy cd_int (by rfl) T.n_int (by decide +kernel) (da_cons (de_cmp od_ge (dv 0) (de_op od_pow de_int de_int) (nomark _)) da_nil))) (da_cons (dv 0) (da_cons de_int da_nil)))))), ?_⟩
    unfold sp__law_well at h; split at h
    · walk_at "dd"
      exact .here (h _ _ (by assumption))
    · exact h.elim
/- _law_draw: slots 0 _law_well_here, 1 _law_many, 2 _law_found -/
theorem ok__law_draw (T : Tn mg) {f : Addr} {fd : FuncData} (F : Fun K "_law_draw" "_law_draw" s__law_draw f fd) {oA : Str → Addr} (ZC : Clz K mg oA) {cA : Str → Addr} (Z : Exs P w K mg base cA) (G__law_mixed : FnD P w K mg base "_law_mixed" 1 ["_law_cell", "_law_k"] (fun fd => Binds K fd ["_law_cell", "_law_k"] []) sp__law_mixed) (gm : mg "_law_draw" = some (.ref f)) : FnD P w K mg base "_law_draw" 2 ["_law_well_here", "_law_many"] (fun fd => Binds K fd ["_law_well_here", "_law_many"] []) sp__law_draw := by
  refine ⟨⟨f, fd, gm, F.kp, F.binds (ps := ["_law_well_here", "_law_many"]) (fun _ _ _ _ _ _ us hl => match us, hl with | [_, _], _ => rfl), okD F sc__law_draw (fun ds M Q E h => ?_) (fun cdv A outer s H M ds Qd Ed E hr cx h => ?_)⟩⟩
  · unfold sp__law_draw at h
    split at h <;> first | rfl | exact h.elim
  · refine ⟨_, (dss_cons (ds_if (dt_cmp od_gt (de_ix (dv 0) de_int) de_int (nomark _)) (dss_cons (ds_set (i := 2) sc__law_draw.nd rfl (Or.inl rfl) (de_op od_mod (de_ix (dv 0) de_int) (dv 1)))
      (dss_cons (ds_asg (de_op od_fdiv (de_ix (dv 0) de_int) (dv 1)) (dg_sub (dv 0) de_int xs_list))
      (dss_one (ds_ret (dv 2))))) dss_nil)
      (dss_cons (ds_asg (de_op od_add (de_ix (dv 0) de_int) de_int) (dg_sub (dv 0) de_int xs_list))
      (dss_one (ds_ret (de_op od_mod (de_callF G__law_mixed (hr.mono (by decide)) (by rfl) (fun _ h => h) .nil rdn passL ctx0 (da_cons (de_ix (dv 0) de_int) (da_cons (de_ix (dv 0) de_int) da_nil))) (dv 1)))))), ?_⟩
    unfold sp__law_draw at h; split at h
    · rename_i a m
      obtain ⟨⟨x, y, z, hM⟩, h0, h1, h⟩ := h
      walk_at "dd"
      refine i_ifd (fun _ => ?_) (fun _ => ?_)
      · walk_at "dd"
        exact .here (h _ _ _ _ (Int.emod_nonneg _ (by omega)) (Int.emod_lt_of_pos _ h0))
      · walk_at "dd"
        exact .here (h _ _ _ _ (Int.emod_nonneg _ (by omega)) (Int.emod_lt_of_pos _ h0))
    · exact h.elim
/- _law_unlike: slots 0 _law_well_here, 1 _law_many, 2 _law_rest, 3 _law_found, 4 _law_k, 5 _law_at -/
theorem ok__law_unlike (T : Tn mg) {f : Addr} {fd : FuncData} (F : Fun K "_law_unlike" "_law_unlike" s__law_unlike f fd) {oA : Str → Addr} (ZC : Clz K mg oA) {cA : Str → Addr} (Z : Exs P w K mg base cA) (G__law_draw : FnD P w K mg base "_law_draw" 2 ["_law_well_here", "_law_many"] (fun fd => Binds K fd ["_law_well_here", "_law_many"] []) sp__law_draw) (gm : mg "_law_unlike" = some (.ref f)) : FnD P w K mg base "_law_unlike" 3 ["_law_well_here", "_law_many"] (fun fd => Binds K fd ["_law_well_here", "_law_many"] []) sp__law_unlike := by
  refine ⟨⟨f, fd, gm, F.kp, F.binds (ps := ["_law_well_here", "_law_many"]) (fun _ _ _ _ _ _ us hl => match us, hl with | [_, _], _ => rfl), okD F sc__law_unlike (fun ds M Q E h => ?_) (fun cdv A outer s H M ds Qd Ed E hr cx h => ?_)⟩⟩
  · unfold sp__law_unlike at h
    split at h <;> first | rfl | exact h.elim
  · refine ⟨_, (dss_cons (ds_set (i := 2) sc__law_unlike.nd rfl (Or.inl rfl) de_str)
      (dss_cons (ds_set (i := 3) sc__law_unlike.nd rfl (Or.inl rfl) de_str)
      (dss_cons (ds_for (passes_of rfl) rfl (di_range1 (by rfl) T.n_range (da_cons (dv 1) da_nil)) (dg_name (i := 4) sc__law_unlike.nd rfl (Or.inl rfl)) (dss_cons (ds_set (i := 5) sc__law_unlike.nd rfl (Or.inl rfl) (de_callF G__law_draw (hr.mono (by decide)) (by rfl) (fun _ h => h) .nil rdn passL ctx0 (da_cons (dv 0) (da_cons (de_callB cd_len (by rfl) T.n_len (by decide +kernel) (da_cons (dv 2) da_nil)) da_nil))))
      (dss_cons (ds_set (i := 3) sc__law_unlike.nd rfl (Or.inl rfl) (de_op od_add (dv 3) (de_ix (dv 2) (dv 5))))
      (dss_one (ds_set (i := 2) sc__law_unlike.nd rfl (Or.inl rfl) (de_op od_add (de_slice (dv 2) do_none (do_some (dv 5))) (de_slice (dv 2) (do_some (de_op od_add (dv 5) de_int)) do_none)))))))
      (dss_one (ds_ret (dv 3)))))), ?_⟩
    unfold sp__law_unlike at h; split at h
    · rename_i a m
      obtain ⟨⟨x0, y0, z0, hM⟩, h0, h1, h⟩ := h
      obtain ⟨n, rfl⟩ := Int.eq_ofNat_of_zero_le h0
      walk_at "dd"
      refine fo_rng (fun i sd M' => ∃ (R F : Str) (x y z : Int) (s4 s5 : Option Dv), sd = [some (.ref a), some (.int n), some (.str R), some (.str F), s4, s5] ∧ M' = mup M a (.lst [.int x, .int y, .int z]) ∧ (F.cps.toList ++ R.cps.toList).Nodup ∧ (∀ c, c ∈ F.cps.toList ++ R.cps.toList → c ∈ SG.cps.toList) ∧ F.length = i ∧ R.length + i = 52) ?_ ?_ ?_
      · refine ⟨SG, "", x0, y0, z0, none, none, rfl, (mup_eq hM).symm, SG_nd, fun c hc => hc, rfl, SG_len⟩
      · rintro i sd M' hi ⟨R, F, x, y, z, s4, s5, rfl, rfl, hnd, hsub, hF, hR⟩
        walk_at "dd"
        rename_i r x1 y1 z1 hr0 hr1
        obtain ⟨k, rfl⟩ := Int.eq_ofNat_of_zero_le hr0
        have hRl := str_len R
        have hr2 : k < R.cps.toList.length := by omega
        refine i_ixS (L2.atI_nat (List.getElem?_eq_getElem hr2)) (by omega) ?_
        walk_at "dd"
        have hpm := pick_perm F.cps.toList R.cps.toList k hr2
        have c1 : (cutS R none (some (k : Int))).cps.toList = R.cps.toList.take k := by rw [cutS_take]
        have c2 : (cutS R (some ((k : Int) + 1)) none).cps.toList = R.cps.toList.drop (k + 1) := by
          rw [show (k : Int) + 1 = ((k + 1 : Nat) : Int) by omega, cutS_drop]
        have l1 : (cutS R none (some (k : Int))).length = k := by
          rw [str_len, c1, List.length_take]
          omega
        have l2 : (cutS R (some ((k : Int) + 1)) none).length = R.length - (k + 1) := by
          rw [str_len, c2, List.length_drop, hRl]
        walk_at "dd"
        refine ⟨_, _, _, _, _, _, _, rfl, rfl, ?_, ?_, ?_, ?_⟩
        · rw [cps_app, cps_app, c1, c2]
          exact hpm.nodup_iff.mpr hnd
        · rw [cps_app, cps_app, c1, c2]
          exact fun c hc => hsub c (hpm.mem_iff.mp hc)
        · rw [PySem.Str.length_append, hF]
          rfl
        · rw [PySem.Str.length_append, l1, l2]
          omega
      · rintro sd M' ⟨R, F, x, y, z, s4, s5, rfl, rfl, hnd, hsub, hF, hR⟩
        walk_at "dd"
        have hn : (n : Int).toNat = n := Int.toNat_natCast n
        rw [hn] at h
        exact .here (h F x y z ⟨(List.nodup_append.mp hnd).1, fun c hc => hsub c (List.mem_append_left _ hc), by rw [Int.toNat_natCast] at hF; exact hF⟩)
    · exact h.elim

/- _law_ranks: slots 0 _law_well_here, 1 _law_signs, 2 _law_found, 3 _law_sign -/
theorem ok__law_ranks (T : Tn mg) {f : Addr} {fd : FuncData} (F : Fun K "_law_ranks" "_law_ranks" s__law_ranks f fd) {oA : Str → Addr} (ZC : Clz K mg oA) {cA : Str → Addr} (Z : Exs P w K mg base cA) (G__law_draw : FnD P w K mg base "_law_draw" 2 ["_law_well_here", "_law_many"] (fun fd => Binds K fd ["_law_well_here", "_law_many"] []) sp__law_draw) (gm : mg "_law_ranks" = some (.ref f)) : FnD P w K mg base "_law_ranks" 3 ["_law_well_here", "_law_signs"] (fun fd => Binds K fd ["_law_well_here", "_law_signs"] []) sp__law_ranks := by
  refine ⟨⟨f, fd, gm, F.kp, F.binds (ps := ["_law_well_here", "_law_signs"]) (fun _ _ _ _ _ _ us hl => match us, hl with | [_, _], _ => rfl), okD F sc__law_ranks (fun ds M Q E h => ?_) (fun cdv A outer s H M ds Qd Ed E hr cx h => ?_)⟩⟩
  · unfold sp__law_ranks at h
    split at h <;> first | rfl | exact h.elim
  · refine ⟨_, (dss_cons (ds_set (i := 2) sc__law_ranks.nd rfl (Or.inl rfl) de_dnew)
      (dss_cons (ds_for (passes_of rfl) rfl (di_str (de_slice (dv 1) (do_some (de_callF G__law_draw (hr.mono (by decide)) (by rfl) (fun _ h => h) .nil rdn passL ctx0 (da_cons (dv 0) (da_cons de_int da_nil)))) do_none)) (dg_name (i := 3) sc__law_ranks.nd rfl (Or.inl rfl)) (dss_one (ds_dput (room1 hr.units) (dv 2) (dv 3) (de_ix (de_frz (de_lst (da_cons de_int (da_cons de_int (da_cons de_int (da_cons de_int (da_cons (de_op od_add de_int (de_callF G__law_draw (hr.mono (by decide)) (by rfl) (fun _ h => h) .nil rdn passL ctx0 (da_cons (dv 0) (da_cons de_int da_nil)))) da_nil))))))) (de_callF G__law_draw (hr.mono (by decide)) (by rfl) (fun _ h => h) .nil rdn passL ctx0 (da_cons (dv 0) (da_cons de_int da_nil)))))))
      (dss_one (ds_ret (dv 2))))), ?_⟩
    unfold sp__law_ranks at h; split at h
    · rename_i a s
      obtain ⟨⟨x0, y0, z0, hM⟩, hS, hl, h⟩ := h
      have hsl := str_len s
      walk_at "dd"
      rename_i p hp r x1 y1 z1 hr0 hr1
      have nap : a ≠ p := mne2 hp hM
      obtain ⟨k, rfl⟩ := Int.eq_ofNat_of_zero_le hr0
      have hcut : (cutS s (some (k : Int)) none).cps.toList = s.cps.toList.drop k := by rw [cutS_drop]
      have hsl2 : (signsD (cutS s (some (k : Int)) none)).length ≤ 52 := by
        rw [signsD_len, str_len, hcut, List.length_drop]; omega
      refine fo_fz (fun i sd M' => ∃ (kvs : KvD) (x y z : Int) (y3_ : Option Dv), sd = [some (.ref a), some (.str s), some (.ref p), y3_] ∧ (M' = mup (mup M p (.dK kvs)) a (.lst [.int x, .int y, .int z]) ∧ RkOk kvs ∧ kvs.length ≤ i)) ⟨[], _, _, _, _, rfl, rfl, RkOk.nil, Nat.le_refl _⟩ ?_ ?_
      · rintro i d sd M' hd ⟨kvs, x, y, z, y3_, rfl, rfl, hk, hkl⟩
        have hi : i < 52 := Nat.lt_of_lt_of_le (List.getElem?_eq_some_iff.mp hd).1 hsl2
        obtain ⟨c, hc, rfl⟩ := signsD_get hd
        have hc2 : c ∈ SG.cps.toList := by
          have : c ∈ (cutS s (some (k : Int)) none).cps.toList := List.mem_of_getElem? (by rw [Array.getElem?_toList]; exact hc)
          rw [hcut] at this
          exact hS c (List.mem_of_mem_drop this)
        walk_at "dd"
        rename_i r2 x2 y2 z2 hr20 hr21 r3 x3 y3 z3 hr30 hr31
        obtain ⟨m, hm9, hm⟩ : ∃ m : Nat, m ≤ 9 ∧ L2.atI [Dv.int 0, .int 1, .int 2, .int 3, .int (1 + r2)] r3 = some (.int (m : Nat)) := by
          rcases (by omega : r3 = 0 ∨ r3 = 1 ∨ r3 = 2 ∨ r3 = 3 ∨ r3 = 4) with q | q | q | q | q
          · rw [q]; exact ⟨0, by omega, rfl⟩
          · rw [q]; exact ⟨1, by omega, rfl⟩
          · rw [q]; exact ⟨2, by omega, rfl⟩
          · rw [q]; exact ⟨3, by omega, rfl⟩
          · rw [q]; exact ⟨(1 + r2).toNat, by omega, by rw [show (((1 + r2).toNat : Nat) : Int) = 1 + r2 by omega]; rfl⟩
        refine i_ixL rfl hm ?_
        walk_at "dd"
        exact ⟨_, x3, y3, z3, _, rfl, by rw [mup_comm nap, mup_mup], hk.put (by omega) hc2 hm9, by have := putDk_len kvs (.inr (sgn c)) (.int (m : Nat)); omega⟩
      · rintro sd M' ⟨kvs, x, y, z, y3_, rfl, rfl, hk, hkl⟩
        walk_at "dd"
        rw [mup_comm (Ne.symm nap)]
        exact .here (h _ _ _ _ hk p (by rw [mup_ne (Ne.symm nap)]; exact hp))
    · exact h.elim
/- _law_word: slots 0 _law_well_here, 1 _law_signs, 2 _law_most, 3 _law_k -/
theorem ok__law_word (T : Tn mg) {f : Addr} {fd : FuncData} (F : Fun K "_law_word" "_law_word" s__law_word f fd) {oA : Str → Addr} (ZC : Clz K mg oA) {cA : Str → Addr} (Z : Exs P w K mg base cA) (G__law_draw : FnD P w K mg base "_law_draw" 2 ["_law_well_here", "_law_many"] (fun fd => Binds K fd ["_law_well_here", "_law_many"] []) sp__law_draw) (gm : mg "_law_word" = some (.ref f)) : FnD P w K mg base "_law_word" 3 ["_law_well_here", "_law_signs", "_law_most"] (fun fd => Binds K fd ["_law_well_here", "_law_signs", "_law_most"] []) sp__law_word := by
  refine ⟨⟨f, fd, gm, F.kp, F.binds (ps := ["_law_well_here", "_law_signs", "_law_most"]) (fun _ _ _ _ _ _ us hl => match us, hl with | [_, _, _], _ => rfl), okD F sc__law_word (fun ds M Q E h => ?_) (fun cdv A outer s H M ds Qd Ed E hr cx h => ?_)⟩⟩
  · unfold sp__law_word at h
    split at h <;> first | rfl | exact h.elim
  · refine ⟨_, (dss_one (ds_ret (de_bm PySem.F.plainAttrs_str PySem.F.slot_str_join PySem.F.type_str_join md_join de_str (da_cons (de_frz (de_lc (g := (.nm 3)) rfl sc__law_word.nd (di_range1 (by rfl) T.n_range (da_cons (de_callF G__law_draw (hr.mono (by decide)) (by rfl) (fun _ h => h) .nil rdn passL ctx0 (da_cons (dv 0) (da_cons (de_op od_add (dv 2) de_int) da_nil))) da_nil)) (blkOk_by (N := ["_law_well_here", "_law_signs", "_law_most", "_law_k"]) (own := [("_law_k", 3)]) (sc := defScope s__law_word) (by decide +kernel)) (fun _ _ _ _ _ => (pg_name (i := 3) sc__law_word.nd rfl (Or.inl rfl))) (fun _ _ _ _ _ => dts_nil) (fun _ _ _ _ _ => (de_ix (dv 1) (de_callF G__law_draw (hr.mono (by decide)) (by rfl) (fun _ h => h) .nil rdn passL ctx0 (da_cons (dv 0) (da_cons (de_callB cd_len (by rfl) T.n_len (by decide +kernel) (da_cons (dv 1) da_nil)) da_nil))))))) da_nil)))), ?_⟩
    unfold sp__law_word at h; split at h
    · rename_i a s m
      obtain ⟨⟨x0, y0, z0, hM⟩, hs1, hs2, h0, h1, h⟩ := h
      walk_at "dd"
      rename_i r x1 y1 z1 hr0 hr1
      refine lk_txt s (by omega) Drw.mk (fun i acc x y z hi ha => ?_) (fun cs x y z hcl hcs => ?_)
      · walk_at "dd"
        refine i_ixSd (by omega) (by omega) (by omega) (fun c hc => ?_)
        walk_at "dd"
        exact ⟨TxA.snoc ha hc, Drw.mk⟩
      · walk_at "dd"
        exact .here (h _ _ _ _ hcs (by omega))
    · exact h.elim
/- _law_clusters: slots 0 _law_marks, 1 _law_typed, 2 _law_found, 3 _law_at, 4 _law_sign -/
theorem ok__law_clusters (T : Tn mg) {f : Addr} {fd : FuncData} (F : Fun K "_law_clusters" "_law_clusters" s__law_clusters f fd) {oA : Str → Addr} (ZC : Clz K mg oA) {cA : Str → Addr} (Z : Exs P w K mg base cA)  (gm : mg "_law_clusters" = some (.ref f)) : FnD P w K mg base "_law_clusters" 1 ["_law_marks", "_law_typed"] (fun fd => Binds K fd ["_law_marks", "_law_typed"] []) sp__law_clusters := by
  refine ⟨⟨f, fd, gm, F.kp, F.binds (ps := ["_law_marks", "_law_typed"]) (fun _ _ _ _ _ _ us hl => match us, hl with | [_, _], _ => rfl), okD F sc__law_clusters (fun ds M Q E h => ?_) (fun cdv A outer s H M ds Qd Ed E hr cx h => ?_)⟩⟩
  · unfold sp__law_clusters at h
    split at h <;> first | rfl | exact h.elim
  · refine ⟨_, (dss_cons (ds_set (i := 2) sc__law_clusters.nd rfl (Or.inl rfl) (de_lst da_nil))
      (dss_cons (ds_for (passes_of rfl) rfl (di_enumS (by rfl) T.n_enumerate (da_cons (dv 1) da_nil)) (dg_tup rfl (dgs_cons (dg_name (i := 3) sc__law_clusters.nd rfl (Or.inl rfl)) (dgs_cons (dg_name (i := 4) sc__law_clusters.nd rfl (Or.inl rfl)) dgs_nil))) (dss_one (ds_if (dt_w (dw_or (dt_cmp (od_eq hr.units) (dv 3) de_int (nomark _)) (dw_or1 (dt_dnotin (room1 hr.units) (dv 4) (dv 0))))) (dss_one (ds_expr (de_bm PySem.F.plainAttrs_list PySem.F.slot_list_append PySem.F.type_list_append md_append (dv 2) (da_cons (de_tup (da_cons (dv 3) (da_cons (de_op od_add (dv 3) de_int) da_nil))) da_nil)))) (dss_one (ds_asg (de_tup (da_cons (de_ix (de_ix (dv 2) (de_neg de_int)) de_int) (da_cons (de_op od_add (dv 3) de_int) da_nil))) (dg_sub (dv 2) (de_neg de_int) xs_list))))))
      (dss_one (ds_ret (dv 2))))), ?_⟩
    unfold sp__law_clusters at h; split at h
    · rename_i kvs w
      obtain ⟨hk, hl, h⟩ := h
      have hwl := str_len w
      walk_at "dd"
      rename_i p hp
      refine fo_fz (fun i sd M' => ∃ (y3_ y4_ : Option Dv), sd = [some (.dct kvs), some (.str w), some (.ref p), y3_, y4_] ∧ (M' = mup M p (.lst ((clN (begN (isB kvs) w.cps.toList i) i).map pairND)) ∧ i ≤ w.cps.toList.length)) ⟨_, _, rfl, rfl, Nat.zero_le _⟩ ?_ ?_
      · rintro i d sd M' hd ⟨y3_, y4_, rfl, rfl, hi0⟩
        obtain ⟨y, hy, rfl⟩ := enumD_get hd
        obtain ⟨c, hc, rfl⟩ := signsD_get hy
        have hc2 : w.cps.toList[i]? = some c := by rw [Array.getElem?_toList]; exact hc
        have hi : i < w.cps.toList.length := (List.getElem?_eq_some_iff.mp hc2).1
        have hg : w.cps.toList.getD i 0 = c := by rw [List.getD_eq_getElem?_getD, hc2]; rfl
        have hbl : (begN (isB kvs) w.cps.toList i).length ≤ i := Nat.le_trans (List.length_filter_le _ _) (by rw [List.length_range]; exact Nat.le_refl _)
        have hcl : (clN (begN (isB kvs) w.cps.toList i) i).length ≤ i := by unfold clN; rw [List.length_zip]; omega
        rw [begN_succ, hg]
        walk_at "dd"
        rw [Nat.zero_add]
        have app : begN (isB kvs) w.cps.toList i ++ [i] = begN (isB kvs) w.cps.toList i ++ [i] := rfl
        refine i_ifd (fun q => ?_) (fun q => ?_)
        · obtain rfl : i = 0 := by omega
          rw [if_pos rfl]
          walk_at "dd"
          exact ⟨_, _, rfl, by rw [mup_mup, if_pos (by simp), clN_snoc, List.map_append]; rfl, by omega⟩
        · walk_at "dd"
          rw [isB_val hk]
          rw [decide_eq_false (by omega), Bool.false_or]
          cases hb : isB kvs c with
          | true =>
            rw [if_pos rfl]
            walk_at "dd"
            exact ⟨_, _, rfl, by rw [mup_mup, if_pos rfl, clN_snoc, List.map_append]; rfl, by omega⟩
          | false =>
            obtain ⟨L, x, e2, e3⟩ := clN_last (begN_ne (b := isB kvs) (cs := w.cps.toList) (n := i) (by omega)) i
            rw [if_neg Bool.false_ne_true, if_neg Bool.false_ne_true, List.append_nil, e2, e3, List.map_append, List.map_append]
            walk_at "dd"
            refine i_ixL (e_seqR mup_same) (atI_last _ _) ?_
            walk_at "dd"
            refine i_setL (k := (L.map pairND).length) mup_same (by rw [List.length_append]; exact ixN_last _) ?_
            rw [mup_mup]
            show ∃ _ _, _ = _ ∧ mup M p (.lst ((L.map pairND ++ [pairND (x, i)]).set (L.map pairND).length _)) = _ ∧ _
            rw [set_last]
            exact ⟨_, _, rfl, rfl, by omega⟩
      · rintro sd M' ⟨y3_, y4_, rfl, rfl, hi0⟩
        rw [enumD_length, signsD_len, hwl]
        walk_at "dd"
        exact .here (h p hp)
    · exact h.elim
/- _law_shown_places: slots 0 _law_marks, 1 _law_typed, 2 _law_found, 3 _law_begin, 4 _law_end, 5 _law_rank, 6 _law_at -/
theorem ok__law_shown_places (T : Tn mg) {f : Addr} {fd : FuncData} (F : Fun K "_law_shown_places" "_law_shown_places" s__law_shown_places f fd) {oA : Str → Addr} (ZC : Clz K mg oA) {cA : Str → Addr} (Z : Exs P w K mg base cA) (G__law_clusters : FnD P w K mg base "_law_clusters" 1 ["_law_marks", "_law_typed"] (fun fd => Binds K fd ["_law_marks", "_law_typed"] []) sp__law_clusters) (gm : mg "_law_shown_places" = some (.ref f)) : FnD P w K mg base "_law_shown_places" 2 ["_law_marks", "_law_typed"] (fun fd => Binds K fd ["_law_marks", "_law_typed"] []) sp__law_shown_places := by
  refine ⟨⟨f, fd, gm, F.kp, F.binds (ps := ["_law_marks", "_law_typed"]) (fun _ _ _ _ _ _ us hl => match us, hl with | [_, _], _ => rfl), okD F sc__law_shown_places (fun ds M Q E h => ?_) (fun cdv A outer s H M ds Qd Ed E hr cx h => ?_)⟩⟩
  · unfold sp__law_shown_places at h
    split at h <;> first | rfl | exact h.elim
  · refine ⟨_, (dss_cons (ds_set (i := 2) sc__law_shown_places.nd rfl (Or.inl rfl) (de_lst da_nil))
      (dss_cons (ds_for (passes_of rfl) rfl (di_list (de_frz (de_callF G__law_clusters (hr.mono (by decide)) (by rfl) (fun _ h => h) .nil rdn passL ctx0 (da_cons (dv 0) (da_cons (dv 1) da_nil))))) (dg_tup rfl (dgs_cons (dg_name (i := 3) sc__law_shown_places.nd rfl (Or.inl rfl)) (dgs_cons (dg_name (i := 4) sc__law_shown_places.nd rfl (Or.inl rfl)) dgs_nil))) (dss_cons (ds_expr (de_bm PySem.F.plainAttrs_list PySem.F.slot_list_extend PySem.F.type_list_extend md_extL (dv 2) (da_cons (de_frz (de_lc (g := (.nm 6)) rfl sc__law_shown_places.nd (di_range2 (by rfl) T.n_range (da_cons (dv 3) (da_cons (dv 4) da_nil))) (blkOk_by (N := ["_law_marks", "_law_typed", "_law_found", "_law_begin", "_law_end", "_law_rank", "_law_at"]) (own := [("_law_at", 6)]) (sc := defScope s__law_shown_places) (by decide +kernel)) (fun _ _ _ _ _ => (pg_name (i := 6) sc__law_shown_places.nd rfl (Or.inl rfl))) (fun _ _ _ _ _ => (dts_one (dt_cmp (od_eq hr.units) (de_dget1 (room1 hr.units) (dv 0) (de_ix (dv 1) (dv 6)) ⟨rfl, rfl, rfl, rfl⟩) de_int (nomark _)))) (fun _ _ _ _ _ => (dv 6)))) da_nil)))
      (dss_cons (ds_expr (de_bm PySem.F.plainAttrs_list PySem.F.slot_list_extend PySem.F.type_list_extend md_extL (dv 2) (da_cons (de_frz (de_lc (g := (.nm 6)) rfl sc__law_shown_places.nd (di_range2 (by rfl) T.n_range (da_cons (dv 3) (da_cons (dv 4) da_nil))) (blkOk_by (N := ["_law_marks", "_law_typed", "_law_found", "_law_begin", "_law_end", "_law_rank", "_law_at"]) (own := [("_law_at", 6)]) (sc := defScope s__law_shown_places) (by decide +kernel)) (fun _ _ _ _ _ => (pg_name (i := 6) sc__law_shown_places.nd rfl (Or.inl rfl))) (fun _ _ _ _ _ => (dts_one (dt_dnotin (room1 hr.units) (de_ix (dv 1) (dv 6)) (dv 0)))) (fun _ _ _ _ _ => (dv 6)))) da_nil)))
      (dss_one (ds_for (passes_of rfl) rfl (di_range2 (by rfl) T.n_range (da_cons de_int (da_cons de_int da_nil))) (dg_name (i := 5) sc__law_shown_places.nd rfl (Or.inr rfl)) (dss_one (ds_expr (de_bm PySem.F.plainAttrs_list PySem.F.slot_list_extend PySem.F.type_list_extend md_extL (dv 2) (da_cons (de_frz (de_lc (g := (.nm 6)) rfl sc__law_shown_places.nd (di_range2 (by rfl) T.n_range (da_cons (dv 3) (da_cons (dv 4) da_nil))) (blkOk_by (N := ["_law_marks", "_law_typed", "_law_found", "_law_begin", "_law_end", "_law_rank", "_law_at"]) (own := [("_law_at", 6)]) (sc := defScope s__law_shown_places) (by decide +kernel)) (fun _ _ _ _ _ => (pg_name (i := 6) sc__law_shown_places.nd rfl (Or.inl rfl))) (fun _ _ _ _ _ => (dts_one (dt_cmp (od_eq hr.units) (de_dget1 (room1 hr.units) (dv 0) (de_ix (dv 1) (dv 6)) ⟨rfl, rfl, rfl, rfl⟩) (dv 5) (nomark _)))) (fun _ _ _ _ _ => (dv 6)))) da_nil)))))))))
      (dss_one (ds_ret (dv 2))))), ?_⟩
    unfold sp__law_shown_places at h; split at h
    · rename_i kvs w
      obtain ⟨hk, hl, h⟩ := h
      have hwl := str_len w
      walk_at "dd"
      rename_i p hp p2 hp2
      refine fo_fz (fun i sd M' => ∃ (y3_ y4_ y5_ y6_ : Option Dv), sd = [some (.dct kvs), some (.str w), some (.ref p), y3_, y4_, y5_, y6_] ∧ (M' = mup M p (.lst ((((clOf kvs w.cps.toList).take i).flatMap fun q => sortK (keyO turnS kvs w.cps.toList) (q.1 : Nat) (q.2 : Nat)).map .int)))) ⟨_, _, _, _, rfl, rfl⟩ ?_ ?_
      · rintro i d sd M' hd ⟨y3_, y4_, y5_, y6_, rfl, rfl⟩
        obtain ⟨q, hq, rfl⟩ := map_get hd
        obtain ⟨h1, h2⟩ := clOf_le _ (List.mem_of_getElem? hq)
        obtain ⟨ht, htl⟩ := plOf_take (t := turnS) hq
        rw [← ht]
        have hbk : sortK (keyO turnS kvs w.cps.toList) (q.1 : Nat) (q.2 : Nat) = bkt (keyO turnS kvs w.cps.toList) (rgI (q.1 : Nat) (q.2 : Nat)) 11 := sortK_bkt fun i _ _ => ⟨by unfold keyO; omega, by unfold keyO; have := turnS_lt hk (w.cps.toList.getD i.toNat 0); omega⟩
        rw [hbk]
        generalize hpre : ((clOf kvs w.cps.toList).take i).flatMap (fun q => sortK (keyO turnS kvs w.cps.toList) (q.1 : Nat) (q.2 : Nat)) = pre at htl ⊢
        have hn : ((q.2 : Nat) - (q.1 : Nat) : Int).toNat ≤ 2000 := by omega
        have hL : (rgI (q.1 : Nat) (q.2 : Nat)).length ≤ 2000 := by rw [rgI_len]; exact hn
        have hfl : ∀ f : Int → Bool, ((rgI (q.1 : Nat) (q.2 : Nat)).filter f).length ≤ 2000 := fun f => Nat.le_trans (List.length_filter_le _ _) hL
        have hbl : ∀ m, (bkt (keyO turnS kvs w.cps.toList) (rgI (q.1 : Nat) (q.2 : Nat)) m).length ≤ 2000 := fun m => by rw [(bkt_perm m).length_eq]; exact hfl _
        walk_at "dd"
        refine lk_rgF (fun j => decide (keyO turnS kvs w.cps.toList j = ((0 : Nat) : Int))) (by omega) (fun j hj => ?_) ?_
        · rw [rgA_succ]
          have hj2 : q.1 + j < w.cps.toList.length := by omega
          rw [show ((q.1 : Nat) : Int) + (j : Nat) = ((q.1 + j : Nat) : Int) by omega, keyO_at hj2, dec_turn turnS_0]
          walk_at "dd"
          refine i_ixS (L2.atI_nat (List.getElem?_eq_getElem hj2)) (by omega) ?_
          walk_at "dd"
          refine i_eqRk (k := 0) hk ?_
          walk_at "dd"
          cases decide (rkO kvs w.cps.toList[q.1 + j] = some 0) with
          | true => rw [if_pos rfl]; walk_at "dd"; rw [if_pos rfl]
          | false => rw [if_neg Bool.false_ne_true]; exact ⟨rfl, by rw [if_neg Bool.false_ne_true, List.append_nil]⟩
        rw [rgA_rgI, show (rgI (q.1 : Nat) (q.2 : Nat)).filter (fun j => decide (keyO turnS kvs w.cps.toList j = ((0 : Nat) : Int))) = bkt (keyO turnS kvs w.cps.toList) (rgI (q.1 : Nat) (q.2 : Nat)) 1 by rw [bkt_succ]; rfl]
        have hb1 := hbl 1
        have hb2 := hfl fun j => decide (keyO turnS kvs w.cps.toList j = ((1 : Nat) : Int))
        walk_at "dd"
        rw [mup_mup, ← List.map_append]
        refine lk_rgF (fun j => decide (keyO turnS kvs w.cps.toList j = ((1 : Nat) : Int))) (by omega) (fun j hj => ?_) ?_
        · rw [rgA_succ]
          have hj2 : q.1 + j < w.cps.toList.length := by omega
          rw [show ((q.1 : Nat) : Int) + (j : Nat) = ((q.1 + j : Nat) : Int) by omega, keyO_at hj2, dec_turn1]
          walk_at "dd"
          refine i_ixS (L2.atI_nat (List.getElem?_eq_getElem hj2)) (by omega) ?_
          walk_at "dd"
          rw [isB_val hk]
          cases isB kvs w.cps.toList[q.1 + j] with
          | true => rw [if_pos rfl]; walk_at "dd"; rw [if_pos rfl]
          | false => rw [if_neg Bool.false_ne_true]; exact ⟨rfl, by rw [if_neg Bool.false_ne_true, List.append_nil]⟩
        rw [rgA_rgI]
        walk_at "dd"
        rw [mup_mup, ← List.map_append, List.append_assoc, ← bkt_succ]
        refine fo_rng (n := 9) (fun i sd M' => ∃ (y5_ y6_ : Option Dv), sd = [some (.dct kvs), some (.str w), some (.ref p), some (.int (q.1 : Nat)), some (.int (q.2 : Nat)), y5_, y6_] ∧ (M' = mup M p (.lst ((pre ++ bkt (keyO turnS kvs w.cps.toList) (rgI (q.1 : Nat) (q.2 : Nat)) (2 + i)).map .int)))) ⟨_, _, rfl, rfl⟩ ?_ ?_
        · rintro k sd M' hk9 ⟨y5_, y6_, rfl, rfl⟩
          have hb3 := hbl (2 + k)
          have hb4 := hfl fun j => decide (keyO turnS kvs w.cps.toList j = ((2 + k : Nat) : Int))
          rw [show (1 : Int) + (k : Nat) = ((k + 1 : Nat) : Int) by omega]
          walk_at "dd"
          refine lk_rgF (fun j => decide (keyO turnS kvs w.cps.toList j = ((2 + k : Nat) : Int))) (by omega) (fun j hj => ?_) ?_
          · rw [rgA_succ]
            have hj2 : q.1 + j < w.cps.toList.length := by omega
            rw [show ((q.1 : Nat) : Int) + (j : Nat) = ((q.1 + j : Nat) : Int) by omega, keyO_at hj2, Nat.add_comm 2 k, dec_turn turnS_s]
            walk_at "dd"
            refine i_ixS (L2.atI_nat (List.getElem?_eq_getElem hj2)) (by omega) ?_
            walk_at "dd"
            refine i_eqRk (k := k + 1) hk ?_
            walk_at "dd"
            cases decide (rkO kvs w.cps.toList[q.1 + j] = some (k + 1)) with
            | true => rw [if_pos rfl]; walk_at "dd"; rw [if_pos rfl]
            | false => rw [if_neg Bool.false_ne_true]; exact ⟨rfl, by rw [if_neg Bool.false_ne_true, List.append_nil]⟩
          rw [rgA_rgI]
          walk_at "dd"
          rw [mup_mup, ← List.map_append, List.append_assoc, ← bkt_succ]
          exact ⟨_, _, rfl, rfl⟩
        · rintro sd M' ⟨y5_, y6_, rfl, rfl⟩
          exact ⟨_, _, _, _, rfl, rfl⟩
      · rintro sd M' ⟨y3_, y4_, y5_, y6_, rfl, rfl⟩
        rw [List.length_map, List.take_length]
        walk_at "dd"
        exact .here (h p hp)
    · exact h.elim
/- _law_whole: slots 0 _law_found -/
theorem ok__law_whole (T : Tn mg) {f : Addr} {fd : FuncData} (F : Fun K "_law_whole" "_law_whole" s__law_whole f fd) {oA : Str → Addr} (ZC : Clz K mg oA) {cA : Str → Addr} (Z : Exs P w K mg base cA)  (gm : mg "_law_whole" = some (.ref f)) : FnD P w K mg base "_law_whole" 1 ["_law_found"] (fun fd => Binds K fd ["_law_found"] []) sp__law_whole := by
  refine ⟨⟨f, fd, gm, F.kp, F.binds (ps := ["_law_found"]) (fun _ _ _ _ _ _ us hl => match us, hl with | [_], _ => rfl), okD F sc__law_whole (fun ds M Q E h => ?_) (fun cdv A outer s H M ds Qd Ed E hr cx h => ?_)⟩⟩
  · unfold sp__law_whole at h
    split at h <;> first | rfl | exact h.elim
  · refine ⟨_, (dss_one (ds_ret (de_and (de_callB cd_isi (by rfl) T.n_isinstance (by decide +kernel) (da_cons (dv 0) (da_cons (de_bltn (n := "int") (by rfl) T.n_int (by decide +kernel)) da_nil))) (de_one (de_not (de_callB cd_isi (by rfl) T.n_isinstance (by decide +kernel) (da_cons (dv 0) (da_cons (de_bltn (n := "bool") (by rfl) T.n_bool (by decide +kernel)) da_nil)))))))), ?_⟩
    unfold sp__law_whole at h; split at h
    · walk_at "dd"
      exact .here h
    · exact h.elim
/- _law_long: slots 0 _law_well_here, 1 _law_signs, 2 _law_turn, 3 _law_k -/
theorem ok__law_long (T : Tn mg) {f : Addr} {fd : FuncData} (F : Fun K "_law_long" "_law_long" s__law_long f fd) {oA : Str → Addr} (ZC : Clz K mg oA) {cA : Str → Addr} (Z : Exs P w K mg base cA) (G__law_draw : FnD P w K mg base "_law_draw" 2 ["_law_well_here", "_law_many"] (fun fd => Binds K fd ["_law_well_here", "_law_many"] []) sp__law_draw) (gm : mg "_law_long" = some (.ref f)) : FnD P w K mg base "_law_long" 3 ["_law_well_here", "_law_signs"] (fun fd => Binds K fd ["_law_well_here", "_law_signs"] []) sp__law_long := by
  refine ⟨⟨f, fd, gm, F.kp, F.binds (ps := ["_law_well_here", "_law_signs"]) (fun _ _ _ _ _ _ us hl => match us, hl with | [_, _], _ => rfl), okD F sc__law_long (fun ds M Q E h => ?_) (fun cdv A outer s H M ds Qd Ed E hr cx h => ?_)⟩⟩
  · unfold sp__law_long at h
    split at h <;> first | rfl | exact h.elim
  · refine ⟨_, (dss_cons (ds_set (i := 2) sc__law_long.nd rfl (Or.inr rfl) (de_callF G__law_draw (hr.mono (by decide)) (by rfl) (fun _ h => h) .nil rdn passL ctx0 (da_cons (dv 0) (da_cons (de_op od_pow de_int de_int) da_nil))))
      (dss_one (ds_ret (de_bm PySem.F.plainAttrs_str PySem.F.slot_str_join PySem.F.type_str_join md_join de_str (da_cons (de_frz (de_lc (g := (.nm 3)) rfl sc__law_long.nd (di_range1 (by rfl) T.n_range (da_cons de_int da_nil)) (blkOk_by (N := ["_law_well_here", "_law_signs", "_law_turn", "_law_k"]) (own := [("_law_k", 3)]) (sc := defScope s__law_long) (by decide +kernel)) (fun _ _ _ _ _ => (pg_name (i := 3) sc__law_long.nd rfl (Or.inl rfl))) (fun _ _ _ _ _ => dts_nil) (fun _ _ _ _ _ => (de_ix (dv 1) (de_op od_mod (de_op od_add (de_op od_add (dv 2) (de_op od_mulY (de_op od_mulY (dv 3) (dv 3)) (de_op od_add (de_op od_mod (dv 2) de_int) de_int))) (de_op od_fdiv (dv 3) de_int)) de_int))))) da_nil))))), ?_⟩
    unfold sp__law_long at h; split at h
    · rename_i a s
      obtain ⟨⟨x0, y0, z0, hM⟩, hs, h⟩ := h
      walk_at "dd"
      rename_i r x1 y1 z1 hr0 hr1
      refine lk_rng (fun i acc M' => TxA s i acc ∧ M' = mup M a (.lst [.int x1, .int y1, .int z1])) (by decide) ⟨.nil, rfl⟩ (fun i acc M' hi _ ha => ?_) (fun acc M' _ ha => ?_)
      · obtain ⟨ha, rfl⟩ := ha
        walk_at "dd"
        refine i_ixSd (by omega) (by omega) (by omega) (fun c hc => ?_)
        exact ⟨TxA.snoc ha hc, rfl⟩
      · obtain ⟨⟨cs, rfl, hcl, hcs⟩, rfl⟩ := ha
        have hcl : cs.length = 1000 := hcl
        walk_at "dd"
        exact .here (h _ _ _ _ hcs hcl)
    · exact h.elim
/- _law_right: slots 0 _law_found, 1 _law_typed, 2 _law_due, 3 _law_at -/
theorem ok__law_right (T : Tn mg) {f : Addr} {fd : FuncData} (F : Fun K "_law_right" "_law_right" s__law_right f fd) {oA : Str → Addr} (ZC : Clz K mg oA) {cA : Str → Addr} (Z : Exs P w K mg base cA) (G__law_whole : FnD P w K mg base "_law_whole" 1 ["_law_found"] (fun fd => Binds K fd ["_law_found"] []) sp__law_whole) (gm : mg "_law_right" = some (.ref f)) : FnD P w K mg base "_law_right" 2 ["_law_found", "_law_typed", "_law_due"] (fun fd => Binds K fd ["_law_found", "_law_typed", "_law_due"] []) sp__law_right := by
  refine ⟨⟨f, fd, gm, F.kp, F.binds (ps := ["_law_found", "_law_typed", "_law_due"]) (fun _ _ _ _ _ _ us hl => match us, hl with | [_, _, _], _ => rfl), okD F sc__law_right (fun ds M Q E h => ?_) (fun cdv A outer s H M ds Qd Ed E hr cx h => ?_)⟩⟩
  · unfold sp__law_right at h
    split at h <;> first | rfl | exact h.elim
  · refine ⟨_, (dss_cons (ds_if (dt_w (dw_or (dt_not (dt_val (de_callB cd_isi (by rfl) T.n_isinstance (by decide +kernel) (da_cons (dv 0) (da_cons (de_bltn (n := "tuple") (by rfl) T.n_tuple (by decide +kernel)) da_nil))))) (dw_or (dt_cmp (od_ne hr.units) (de_callB cd_len (by rfl) T.n_len (by decide +kernel) (da_cons (dv 0) da_nil)) de_int (nomark _)) (dw_or1 (dt_not (dt_val (de_callB cd_isi (by rfl) T.n_isinstance (by decide +kernel) (da_cons (de_ix (dv 0) de_int) (da_cons (de_bltn (n := "str") (by rfl) T.n_str (by decide +kernel)) da_nil))))))))) (dss_one (ds_ret de_bl)) dss_nil)
      (dss_cons (ds_if (dt_not (dt_val (de_callB cd_isi (by rfl) T.n_isinstance (by decide +kernel) (da_cons (de_ix (dv 0) de_int) (da_cons (de_bltn (n := "list") (by rfl) T.n_list (by decide +kernel)) da_nil))))) (dss_one (ds_ret de_bl)) dss_nil)
      (dss_cons (ds_if (dt_w (dw_or (dt_not (dt_val (de_callB (cd_all rfl) (by rfl) T.n_all (by decide +kernel) (da_cons (de_frz (de_lc (g := (.nm 3)) rfl sc__law_right.nd (di_list (de_ix (dv 0) de_int)) (blkOk_by (N := ["_law_found", "_law_typed", "_law_due", "_law_at"]) (own := [("_law_at", 3)]) (sc := defScope s__law_right) (by decide +kernel)) (fun _ _ _ _ _ => (pg_name (i := 3) sc__law_right.nd rfl (Or.inl rfl))) (fun _ _ _ _ _ => dts_nil) (fun _ _ _ _ _ => (de_callF G__law_whole (hr.mono (by decide)) (by rfl) (fun _ h => h) .nil rdn passL ctx0 (da_cons (dv 3) da_nil))))) da_nil)))) (dw_or1 (dt_cmp (od_ne hr.units) (de_frz (de_callB cd_sortI (by rfl) T.n_sorted (by decide +kernel) (da_cons (de_ix (dv 0) de_int) da_nil))) (de_frz (de_listRg rfl (by rfl) T.n_list (by rfl) T.n_range (de_callB cd_len (by rfl) T.n_len (by decide +kernel) (da_cons (dv 1) da_nil)))) (nomark _))))) (dss_one (ds_ret de_bl)) dss_nil)
      (dss_one (ds_ret (de_and (de_cmp (od_eq hr.units) (de_ix (dv 0) de_int) (dv 2) (nomark _)) (de_one (de_cmp (od_eq hr.units) (de_ix (dv 0) de_int) (de_bm PySem.F.plainAttrs_str PySem.F.slot_str_join PySem.F.type_str_join md_join de_str (da_cons (de_frz (de_lc (g := (.nm 3)) rfl sc__law_right.nd (di_list (dv 2)) (blkOk_by (N := ["_law_found", "_law_typed", "_law_due", "_law_at"]) (own := [("_law_at", 3)]) (sc := defScope s__law_right) (by decide +kernel)) (fun _ _ _ _ _ => (pg_name (i := 3) sc__law_right.nd rfl (Or.inl rfl))) (fun _ _ _ _ _ => dts_nil) (fun _ _ _ _ _ => (de_ix (dv 1) (dv 3))))) da_nil)) (nomark _))))))))), ?_⟩
    unfold sp__law_right at h; split at h
    · rename_i t p w ds
      obtain ⟨hl, is, rfl, hM, hp, rfl, h⟩ := h
      walk_at "dd"
      refine i_ifn (fun q => absurd rfl q) (fun _ => ?_)
      walk_at "dd"
      refine i_isiR hM (by decide) ?_
      walk_at "dd"
      have hil : is.length = w.length := by rw [hp.length_eq, rgI_len]; omega
      refine lk_mapO (fun _ => .bl true) (by rw [List.length_map]; omega) hM (fun i d hd => ?_) ?_
      · obtain ⟨k, hk, rfl⟩ := map_get hd
        walk_at "dd"
        rw [List.take_add_one, hd, List.map_append]
        rfl
      walk_at "dd"
      refine i_all (bs := is.map fun _ => true) rfl (by rw [← blsOf_map, List.map_map, List.map_map]; rfl) ?_
      rw [show (is.map fun _ => true).all id = true by simp]
      walk_at "dd"
      refine i_sortI (e_seqR hM) (fun ns' hn1 hn2 p2 hp2 => ?_)
      have hns : ns' = rgI 0 (w.length : Nat) := sort_rg hn1 hn2 hp
      subst hns
      walk_at "dd"
      refine i_listRg (by omega) (fun p3 hp3 => ?_)
      walk_at "dd"
      rw [rng_rgI]
      refine i_neLI e_seqL e_seqL ?_
      rw [decide_eq_true rfl]
      walk_at "dd"
      refine i_eqLI (e_seqR hM) e_seqL ?_
      rw [decide_eq_true rfl]
      walk_at "dd"
      have hwl := str_len w
      refine lk_toO (sgD (txAt w.cps.toList is)) (by unfold sgD txAt; simp) (by rw [List.length_map]; omega) trivial (fun i d e hd he => ?_) ?_
      · obtain ⟨n, hn, rfl⟩ := map_get hd
        obtain ⟨b0, b1⟩ := rgI_mem.mp (hp.mem_iff.mp (List.mem_of_getElem? hn))
        have hn2 : n.toNat < w.cps.toList.length := by omega
        walk_at "dd"
        refine i_ixS (e_atI b0 (List.getElem?_eq_getElem hn2)) (by omega) ?_
        walk_at "dd"
        have e2 : (sgD (txAt w.cps.toList is))[i]? = some (.str (sgn (w.cps.toList[n.toNat]))) := by
          unfold sgD txAt
          rw [List.map_map, List.getElem?_map, hn, Option.map_some]
          show some (Dv.str (sgn (w.cps.toList.getD n.toNat 0))) = _
          rw [List.getD_eq_getElem?_getD, List.getElem?_eq_getElem hn2, Option.getD_some]
        rw [List.take_add_one, e2]
        rfl
      walk_at "dd"
      refine i_joinSg (cs := txAt w.cps.toList is) (by unfold txAt; rw [List.length_map]; omega) ?_
      walk_at "dd"
      rw [decide_eq_true rfl]
      exact .here h
    · exact h.elim
/- law: slots 0 _law_script, 1 _law_number, 2 _law_cell, 3 _law_well_here, 4 _law_signs, 5 _law_marks, 6 _law_one, 7 _law_words, 8 _law_typed, 9 _law_due, 10 _law_found, 11 _law_k -/
theorem ok_law (T : Tn mg) {f : Addr} {fd : FuncData} (F : Fun K "law" "law" s_law f fd) {P_sorted_places : Addr} {A_shown_turn : Addr} {oA : Str → Addr} (ZC : Clz K mg oA) {cA : Str → Addr} (Z : Exs P w K mg base cA) (G_ordered : FnD P w K mg base "ordered" 7 ["case", "word"] (fun fd => (∃ us, Vals [] us ∧ Binds K fd ["case", "word"] us) ∧ KBs K fd ["case", "word"] 0 ["word", "case"] [.inl 1, .inl 0] [] ∧ True) (sp_ordered A_shown_turn P_sorted_places)) (G_Case___init__ : MakeD P w K mg base "Case" 4 ["self", "ranks", "wide", "feet", "seats"] (fun fd => KBs K fd ["self", "ranks", "wide", "feet", "seats"] 1 ["ranks"] [.inl 0, .inr 1, .inr 2, .inr 3] [V.non, V.non, V.non, V.non] ∧ (∃ us, Vals [V.non, V.non, V.non, V.non] us ∧ Binds K fd ["self", "ranks", "wide", "feet", "seats"] us) ∧ True) sp_Case___init__) (G__law_right : FnD P w K mg base "_law_right" 2 ["_law_found", "_law_typed", "_law_due"] (fun fd => Binds K fd ["_law_found", "_law_typed", "_law_due"] []) sp__law_right) (G__law_shown_places : FnD P w K mg base "_law_shown_places" 2 ["_law_marks", "_law_typed"] (fun fd => Binds K fd ["_law_marks", "_law_typed"] []) sp__law_shown_places) (G__law_long : FnD P w K mg base "_law_long" 3 ["_law_well_here", "_law_signs"] (fun fd => Binds K fd ["_law_well_here", "_law_signs"] []) sp__law_long) (G__law_word : FnD P w K mg base "_law_word" 3 ["_law_well_here", "_law_signs", "_law_most"] (fun fd => Binds K fd ["_law_well_here", "_law_signs", "_law_most"] []) sp__law_word) (G__law_ranks : FnD P w K mg base "_law_ranks" 3 ["_law_well_here", "_law_signs"] (fun fd => Binds K fd ["_law_well_here", "_law_signs"] []) sp__law_ranks) (G__law_unlike : FnD P w K mg base "_law_unlike" 3 ["_law_well_here", "_law_many"] (fun fd => Binds K fd ["_law_well_here", "_law_many"] []) sp__law_unlike) (G__law_well : FnD P w K mg base "_law_well" 1 ["_law_cell"] (fun fd => Binds K fd ["_law_cell"] []) sp__law_well) : FnOk P w K mg base (L2.CX P w) 8 f fd ["_law_script"] (LSp K (sp_law P_sorted_places)) := by
  refine okD F sc_law (fun ds M Q E h => ?_) (fun cdv A outer s H M ds Qd Ed E hr cx h => ?_)
  · unfold sp_law spLawT at h
    split at h <;> first | rfl | exact h.elim
  · refine ⟨_, (dss_cons (ds_for (passes_of rfl) rfl (di_enum (by rfl) T.n_enumerate (da_cons (de_frz (de_slice (de_frz (de_op od_add (dv 0) (de_frz (de_lst (da_cons de_int da_nil))))) do_none (do_some de_int))) da_nil)) (dg_tup rfl (dgs_cons (dg_name (i := 1) sc_law.nd rfl (Or.inl rfl)) (dgs_cons (dg_name (i := 2) sc_law.nd rfl (Or.inl rfl)) dgs_nil))) (dss_cons (ds_set (i := 3) sc_law.nd rfl (Or.inr rfl) (de_callF G__law_well (hr.mono (by decide)) (by rfl) (fun _ h => h) .nil rdn passL ctx0 (da_cons (dv 2) da_nil)))
      (dss_cons (ds_set (i := 4) sc_law.nd rfl (Or.inr rfl) (de_callF G__law_unlike (hr.mono (by decide)) (by rfl) (fun _ h => h) .nil rdn passL ctx0 (da_cons (dv 3) (da_cons de_int da_nil))))
      (dss_cons (ds_set (i := 5) sc_law.nd rfl (Or.inl rfl) (de_frz (de_callF G__law_ranks (hr.mono (by decide)) (by rfl) (fun _ h => h) .nil rdn passL ctx0 (da_cons (dv 3) (da_cons (de_slice (dv 4) do_none (do_some de_int)) da_nil)))))
      (dss_cons (ds_set (i := 6) sc_law.nd rfl (Or.inl rfl) (de_frz (de_makeS0 (sel := [.inl 0, .inr 1, .inr 2, .inr 3]) (ddvs := [Dv.non, Dv.non, Dv.non, Dv.non]) G_Case___init__ (hr.mono (by decide)) (by rfl) (fun _ h => h.1) (fun _ => (.cons (by unfold RD; rfl) (.cons (by unfold RD; rfl) (.cons (by unfold RD; rfl) (.cons (by unfold RD; rfl) .nil))))) (passB (takes_of rfl rfl rfl rfl)) cx (dk_cons (dv 5) dk_nil))))
      (dss_cons (ds_fzS 7 (ds_setLc (g := (.nm 11)) (i := 7) rfl sc_law.nd rfl rfl (sw_true rfl rfl rfl (by decide +kernel)) (di_range1 (by rfl) T.n_range (da_cons de_int da_nil)) (blkOk_by (N := ["_law_script", "_law_number", "_law_cell", "_law_well_here", "_law_signs", "_law_marks", "_law_one", "_law_words", "_law_typed", "_law_due", "_law_found", "_law_k"]) (own := [("_law_k", 11)]) (sc := defScope s_law) (by decide +kernel)) (fun _ _ _ _ _ => (pg_name (i := 11) sc_law.nd rfl (Or.inl rfl))) (fun _ _ _ _ _ => dts_nil) (fun _ _ _ _ _ => (de_callF G__law_word (hr.mono (by decide)) (by rfl) (fun _ h => h) .nil rdn passL ctx0 (da_cons (dv 3) (da_cons (dv 4) (da_cons de_int da_nil)))))))
      (dss_cons (ds_if (dt_cmp (od_eq hr.units) (dv 1) de_int (nomark _)) (dss_one (ds_set (i := 7) sc_law.nd rfl (Or.inl rfl) (de_frz (de_op od_add (de_frz (de_lst (da_cons (de_callF G__law_long (hr.mono (by decide)) (by rfl) (fun _ h => h) .nil rdn passL ctx0 (da_cons (dv 3) (da_cons (dv 4) da_nil))) da_nil))) (de_frz (de_slice (dv 7) do_none (do_some de_int))))))) dss_nil)
      (dss_cons (ds_for (passes_of rfl) rfl (di_list (dv 7)) (dg_name (i := 8) sc_law.nd rfl (Or.inl rfl)) (dss_cons (ds_set (i := 9) sc_law.nd rfl (Or.inl rfl) (de_frz (de_callF G__law_shown_places (hr.mono (by decide)) (by rfl) (fun _ h => h) .nil rdn passL ctx0 (da_cons (dv 5) (da_cons (dv 8) da_nil)))))
      (dss_cons (ds_set (i := 10) sc_law.nd rfl (Or.inl rfl) (de_callG (ddvs := []) G_ordered (hr.mono (by decide)) (by rfl) (fun _ h => h.1) (fun _ => .nil) (passB (takes_of rfl rfl rfl rfl)) cx (da_cons (dv 6) (da_cons (dv 8) da_nil))))
      (dss_cons (ds_if (dt_not (dt_val (de_callF G__law_right (hr.mono (by decide)) (by rfl) (fun _ h => h) .nil rdn passL ctx0 (da_cons (dv 10) (da_cons (dv 8) (da_cons (dv 9) da_nil)))))) (dss_one (ds_ret de_bl)) dss_nil)
      (dss_cons (ds_expr (de_bm PySem.F.plainAttrs_list PySem.F.slot_list_append PySem.F.type_list_append md_append (de_ix (dv 10) de_int) (da_cons de_int da_nil)))
      (dss_cons (ds_if (dt_not (dt_val (de_callF G__law_right (hr.mono (by decide)) (by rfl) (fun _ h => h) .nil rdn passL ctx0 (da_cons (de_calS0 (sel := [.inl 1, .inl 0]) (ddvs := []) G_ordered (hr.mono (by decide)) (by rfl) (fun _ h => h.2.1) (fun _ => .nil) (passB (takes_of rfl rfl rfl rfl)) cx (dk_cons (dv 8) (dk_cons (dv 6) dk_nil))) (da_cons (dv 8) (da_cons (dv 9) da_nil)))))) (dss_one (ds_ret de_bl)) dss_nil)
      (dss_one (ds_if (dt_cmp (od_neV hr.units) (de_callG (ddvs := []) G_ordered (hr.mono (by decide)) (by rfl) (fun _ h => h.1) (fun _ => .nil) (passB (takes_of rfl rfl rfl rfl)) cx (da_cons (de_frz (de_make0 (ddvs := [Dv.non, Dv.non, Dv.non, Dv.non]) G_Case___init__ (hr.mono (by decide)) (by rfl) (fun _ h => h.2.1) (fun _ => (.cons (by unfold RD; rfl) (.cons (by unfold RD; rfl) (.cons (by unfold RD; rfl) (.cons (by unfold RD; rfl) .nil))))) (passB (takes_of rfl rfl rfl rfl)) cx)) (da_cons (dv 8) da_nil))) (de_tup (da_cons (dv 8) (da_cons (de_frz (de_listRg rfl (by rfl) T.n_list (by rfl) T.n_range (de_callB cd_len (by rfl) T.n_len (by decide +kernel) (da_cons (dv 8) da_nil)))) da_nil))) (nomark _)) (dss_one (ds_ret de_bl)) dss_nil))))))))
      (dss_one (ds_if (dt_cmp (od_neV hr.units) (de_callG (ddvs := []) G_ordered (hr.mono (by decide)) (by rfl) (fun _ h => h.1) (fun _ => .nil) (passB (takes_of rfl rfl rfl rfl)) cx (da_cons (dv 6) (da_cons de_str da_nil))) (de_tup (da_cons de_str (da_cons (de_frz (de_lst da_nil)) da_nil))) (nomark _)) (dss_one (ds_ret de_bl)) dss_nil))))))))))
      (dss_one (ds_ret de_bl))), ?_⟩
    unfold sp_law spLawT at h; split at h
    · rename_i d
      obtain ⟨⟨ns, hn, hd⟩, hT, h⟩ := h
      have hP : M P_sorted_places = some (.tab "sorted_places.<locals>.<lambda>") := hT _ List.mem_cons_self
      clear hT
      walk_at "dd"
      refine i_addL (hd _ (Sub.refl _)) e_seqL (by walk_at "sd") ?_
      walk_at "dd"
      have hk0 := RkOk.nil
      refine fo_fz (fun i sd M' => ∃ (y1_ y2_ y3_ y4_ y5_ y6_ y7_ y8_ y9_ y10_ y11_ : Option Dv), sd = [some (d), y1_, y2_, y3_, y4_, y5_, y6_, y7_, y8_, y9_, y10_, y11_] ∧ (M' P_sorted_places = some (.tab "sorted_places.<locals>.<lambda>"))) ⟨_, _, _, _, _, _, _, _, _, _, _, rfl, hP⟩ ?_ ?_
      · rintro i d2 sd M' hd2 ⟨y1_, y2_, y3_, y4_, y5_, y6_, y7_, y8_, y9_, y10_, y11_, rfl, hPM⟩
        obtain ⟨x, hx, rfl⟩ := enumD_get hd2
        obtain ⟨c, rfl⟩ := cell_of hx
        walk_at "dd"
        rename_i x0 pw hpw s x1 y1 z1 hs
        have hsl : s.length = 8 := hs.len
        have hs7 : InS (cutS s none (some (7 : Int))) := InS.take (k := 7) hs.sub
        have hs7l : (cutS s none (some (7 : Int))).length ≤ 52 := by rw [show (7 : Int) = ((7 : Nat) : Int) from rfl, take_len]; omega
        have nPw : P_sorted_places ≠ pw := mne2 hpw hPM
        walk_at "dd"
        rename_i kvs x2 y2 z2 hk p0 hp0
        refine u_mkCase rfl rfl hk ?_
        walk_at "dd"
        refine lk_draw (n := 3) (fun d => ∃ cs : List Nat, d = .str (strN cs) ∧ (∀ c, c ∈ cs → c ∈ s.cps.toList) ∧ cs.length ≤ 1000) (by decide) Drw.mk (fun j acc x y z hj ha => ?_) (fun acc x3 y3 z3 ha => ?_)
        · walk_at "dd"
          rename_i cs x4 y4 z4 hcs hcl
          exact ⟨ha.snoc ⟨cs, rfl, hcs, by omega⟩, Drw.mk⟩
        obtain ⟨hal, ha⟩ := ha
        walk_at "dd"
        rename_i p1 hp1
        refine i_ifd (fun q => ?cA) (fun q => ?cB)
        case' cA =>
          walk_at "dd"
          rename_i cs x4 y4 z4 hcs hcl
          have hws : ∀ e, e ∈ [Dv.str (strN cs)] ++ DL.cutD acc none (some 2) → ∃ cs : List Nat, e = .str (strN cs) ∧ (∀ c, c ∈ cs → c ∈ s.cps.toList) ∧ cs.length ≤ 1000 := fun e he => by
            rcases List.mem_append.mp he with h1 | h1
            · rw [List.mem_singleton.mp h1]; exact ⟨cs, rfl, hcs, by omega⟩
            · exact ha e (cut_mem h1)
          have hcul : (DL.cutD acc none (some 2)).length ≤ 3 := by rw [show (2 : Int) = ((2 : Nat) : Int) from rfl, cutD_take, List.length_take]; omega
          refine i_addL e_seqL e_seqL (by show 1 + _ ≤ _; omega) (fun p4 hp4 => ?_)
          walk_at "dd"
          generalize [Dv.str (strN cs)] ++ DL.cutD acc none (some 2) = ws at hws ⊢
        case' cB =>
          have hws := ha
          walk_at "dd"
          generalize acc = ws at hws ⊢
        all_goals (
          refine fo_fz (fun i sd M' => ∃ (y1_ y2_ y3_ y4_ y7_ y8_ y9_ y10_ y11_ : Option Dv), sd = [some (d), y1_, y2_, y3_, y4_, some (.dct kvs), some (caseD kvs), y7_, y8_, y9_, y10_, y11_] ∧ (M' P_sorted_places = some (.tab "sorted_places.<locals>.<lambda>"))) ⟨_, _, _, _, _, _, _, _, _, rfl, by rw [mup_ne nPw]; exact hPM⟩ ?_ ?_
          · rintro j e sd M2 he ⟨y1_, y2_, y3_, y4_, y7_, y8_, y9_, y10_, y11_, rfl, hPN⟩
            obtain ⟨cs, rfl, hcs, hcl⟩ := hws e (List.mem_of_getElem? he)
            have hi : InS (strN cs) := fun c hc => hs.sub c (hcs c hc)
            have hsl2 : (strN cs).length = cs.length := strN_len cs
            have hpm := plOf_perm turnS kvs cs
            have hpl : (plOf turnS kvs (strN cs).cps.toList).length = cs.length := plOf_len ..
            have hpm2 : (plOf turnS kvs (strN cs).cps.toList).Perm (rgI 0 ((strN cs).length : Nat)) := by rw [hsl2]; exact hpm
            walk_at "dd"
            refine u_lright (by omega) mup_same hpm2 rfl ?_
            walk_at "dd"
            have hlt : (List.map Dv.int (plOf turnS kvs (strN cs).cps.toList)).length < 16777216 := by rw [List.length_map]; omega
            refine i_append mup_same hlt ?_
            rw [mup_mup]
            walk_at "dd"
            refine u_lright (by omega) mup_same hpm2 rfl ?_
            walk_at "dd"
            refine u_mkCase rfl rfl hk0 ?_
            walk_at "dd"
            refine i_listRg (by omega) (fun p3 hp3 => ?_)
            walk_at "dd"
            have e1 : plOf turnS [] (strN cs).cps.toList = rgI 0 (cs.length : Nat) := plOf_bare ..
            have e2 : txAt (strN cs).cps.toList (rgI 0 (cs.length : Nat)) = cs := txAt_rg cs
            rw [rng_rgI, hsl2, e1, e2]
            refine i_neVpl mup_same (GoodS.sg hi) (GoodS.sg hi) ?_
            rw [dq_same]
            walk_at "dd"
            exact ⟨_, _, _, _, _, _, _, _, _, rfl, by walk_at "lk"⟩
          · rintro sd M2 ⟨y1_, y2_, y3_, y4_, y7_, y8_, y9_, y10_, y11_, rfl, hPN⟩
            have hin : InS (Str.ofString "") := InS.nil
            have hil : (Str.ofString "").length = 0 := rfl
            walk_at "dd"
            have e1 : plOf turnS kvs (Str.ofString "").cps.toList = [] := rfl
            have e2 : strN (txAt (Str.ofString "").cps.toList []) = Str.ofString "" := rfl
            rw [e1, e2]
            refine i_neVpl (js := []) mup_same (GoodS.sg hin) (GoodS.sg hin) ?_
            rw [dq_same]
            walk_at "dd"
            exact ⟨_, _, _, _, _, _, _, _, _, _, _, rfl, by walk_at "lk"⟩)
      · rintro sd M' ⟨y1_, y2_, y3_, y4_, y5_, y6_, y7_, y8_, y9_, y10_, y11_, rfl, hPM⟩
        walk_at "dd"
        exact .here (h _)
    · exact h.elim

end
theorem all_mk {l : PySem.W.OpenLaw} {pq : Program} {w : World} {K : PySem.W.Frag} {h : Heap} {mg : Str → Option Value} {fa : Addr} (X : K.In h) (G : h.Ns mainGlobals mg) (hfa : mg "law" = some (.ref fa))
    {C_Case f1 f2 f3 f4 f5 T5 f6 f7 f8 f9 f10 f11 T11 f12 f13 f14 f15 f16 cc16 P16 f17 f18 f19 f20 f21 f22 f23 f24 f25 f26 f27 f28 f29 f30 C_NoWord C_NoRule C_NoCase C_SeamError N_NoWord I_NoWord N_NoRule I_NoRule N_NoCase I_NoCase : Addr}
    {od1 an1 od2 an2 od3 an3 od4 an4 od5 an5 td5 od6 an6 od7 an7 od8 an8 od9 an9 od10 an10 od11 an11 td11 od12 an12 od13 an13 od14 an14 od15 an15 od16 an16 zd16 od17 an17 od18 an18 od19 an19 od20 an20 od21 an21 od22 an22 od23 an23 od24 an24 od25 an25 od26 an26 od27 an27 od28 an28 od29 an29 od30 an30 dd_NoWord io_NoWord ia_NoWord dd_NoRule io_NoRule ia_NoRule dd_NoCase io_NoCase ia_NoCase : Option Addr}
    {oc1 kV1 dc1 pm1 ct1 cd1 oc2 kV2 dc2 pm2 ct2 cd2 oc3 kV3 dc3 pm3 ct3 cd3 oc4 kV4 dc4 pm4 ct4 cd4 oc5 kV5 dc5 pm5 ct5 cd5 tc5 oc6 kV6 dc6 pm6 ct6 cd6 oc7 kV7 dc7 pm7 ct7 cd7 oc8 kV8 dc8 pm8 ct8 cd8 oc9 kV9 dc9 pm9 ct9 cd9 oc10 kV10 dc10 pm10 ct10 cd10 oc11 kV11 dc11 pm11 ct11 cd11 tc11 oc12 kV12 dc12 pm12 ct12 cd12 oc13 kV13 dc13 pm13 ct13 cd13 oc14 kV14 dc14 pm14 ct14 cd14 oc15 kV15 dc15 pm15 ct15 cd15 oc16 kV16 dc16 pm16 ct16 ze16 oc17 kV17 dc17 pm17 ct17 cd17 oc18 kV18 dc18 pm18 ct18 cd18 oc19 kV19 dc19 pm19 ct19 cd19 oc20 kV20 dc20 pm20 ct20 cd20 oc21 kV21 dc21 pm21 ct21 cd21 oc22 kV22 dc22 pm22 ct22 cd22 oc23 kV23 dc23 pm23 ct23 cd23 oc24 kV24 dc24 pm24 ct24 cd24 oc25 kV25 dc25 pm25 ct25 cd25 oc26 kV26 dc26 pm26 ct26 cd26 oc27 kV27 dc27 pm27 ct27 cd27 oc28 kV28 dc28 pm28 ct28 cd28 oc29 kV29 dc29 pm29 ct29 cd29 oc30 kV30 dc30 pm30 ct30 cd30 ic_NoWord ik_NoWord id_NoWord ip_NoWord iz_NoWord ie_NoWord ic_NoRule ik_NoRule id_NoRule ip_NoRule iz_NoRule ie_NoRule ic_NoCase ik_NoCase id_NoCase ip_NoCase iz_NoCase ie_NoCase : Value}
    {tn5 tn11 : Nat}
    {sl1 sl2 sl3 sl4 sl5 ts5 sl6 sl7 sl8 sl9 sl10 sl11 ts11 sl12 sl13 sl14 sl15 sl16 zs16 sl17 sl18 sl19 sl20 sl21 sl22 sl23 sl24 sl25 sl26 sl27 sl28 sl29 sl30 is_NoWord is_NoRule is_NoCase : Array (Option Value)}
    {nm_NoWord qn_NoWord nm_NoRule qn_NoRule nm_NoCase qn_NoCase : Str}
    {bs_NoWord bm_NoWord sub_NoWord bs_NoRule bm_NoRule sub_NoRule bs_NoCase bm_NoCase sub_NoCase : List Value}
    {zv16 : Array Value}
    {tk_MOST_LETTERS tk_MOST_RANK tk_MOST_WIDE tk_SIGNS : Tok}
    {sn_NoWord ab_NoWord col_NoWord k0_NoWord k1_NoWord k2_NoWord k3_NoWord k5_NoWord : _}
    {sn_NoRule ab_NoRule col_NoRule k0_NoRule k1_NoRule k2_NoRule k3_NoRule k5_NoRule : _}
    {sn_NoCase ab_NoCase col_NoCase k0_NoCase k1_NoCase k2_NoCase k3_NoCase k5_NoCase : _}
    {de16 : DefRec}
    (TB0 : ∀ (y : Str) (e : DefRec) (c P : Addr), (recsOf pq).find? (fun e => e.name == y) = some e → PySem.W.tabIn K y = some (c, P) → PySem.W.CodeHd h c P ∧ h.get? P = some (PySem.W.tabObj #[]))
    (ka_Case : PySem.W.nsIn K mainGlobals "Case" = some (some (.ref C_Case)))
    (kg_Case : PySem.W.plainGet K C_Case Str.empty = true)
    (kh_Case : PySem.W.hasDictIn K C_Case = true)
    (kp_Case : PySem.W.plainOver K C_Case = true)
    (ks_Case : PySem.W.findIn K (.ref C_Case) "__setattr__" = some (some (.builtin "object.__setattr__")))
    (kf_Case_ranked : PySem.W.findIn K (.ref C_Case) "ranked" = some none)
    (kf_Case_widths : PySem.W.findIn K (.ref C_Case) "widths" = some none)
    (kf_Case_footing : PySem.W.findIn K (.ref C_Case) "footing" = some none)
    (kf_Case_seating : PySem.W.findIn K (.ref C_Case) "seating" = some none)
    (km_Case : PySem.W.makesIn K C_Case = true)
    (kk_Case : PySem.W.keepIn K (.ref C_Case) = true)
    (a1 : PySem.W.nsIn K mainGlobals "is_whole" = some (some (.ref f1)))
    (l1 : K.lookup f1 = some ⟨oc1, od1, .func (PySem.W.fnOf "is_whole" "is_whole" (defArgs s_is_whole) (defBody s_is_whole) (defScope s_is_whole) .none kV1 dc1 pm1 an1 cd1 ct1), sl1⟩)
    (c1 : PySem.W.codeIn K cd1 "is_whole" = true)
    (k1 : PySem.W.keepIn K (.ref f1) = true)
    (a2 : PySem.W.nsIn K mainGlobals "is_sign" = some (some (.ref f2)))
    (l2 : K.lookup f2 = some ⟨oc2, od2, .func (PySem.W.fnOf "is_sign" "is_sign" (defArgs s_is_sign) (defBody s_is_sign) (defScope s_is_sign) .none kV2 dc2 pm2 an2 cd2 ct2), sl2⟩)
    (c2 : PySem.W.codeIn K cd2 "is_sign" = true)
    (k2 : PySem.W.keepIn K (.ref f2) = true)
    (a3 : PySem.W.nsIn K mainGlobals "is_text" = some (some (.ref f3)))
    (l3 : K.lookup f3 = some ⟨oc3, od3, .func (PySem.W.fnOf "is_text" "is_text" (defArgs s_is_text) (defBody s_is_text) (defScope s_is_text) .none kV3 dc3 pm3 an3 cd3 ct3), sl3⟩)
    (c3 : PySem.W.codeIn K cd3 "is_text" = true)
    (k3 : PySem.W.keepIn K (.ref f3) = true)
    (a4 : PySem.W.nsIn K mainGlobals "want_letters" = some (some (.ref f4)))
    (l4 : K.lookup f4 = some ⟨oc4, od4, .func (PySem.W.fnOf "want_letters" "want_letters" (defArgs s_want_letters) (defBody s_want_letters) (defScope s_want_letters) .none kV4 dc4 pm4 an4 cd4 ct4), sl4⟩)
    (c4 : PySem.W.codeIn K cd4 "want_letters" = true)
    (k4 : PySem.W.keepIn K (.ref f4) = true)
    (a5 : PySem.W.nsIn K mainGlobals "want_word" = some (some (.ref f5)))
    (l5 : K.lookup f5 = some ⟨oc5, od5, .func (PySem.W.fnOf "want_word" "want_word" (defArgs s_want_word) (defBody s_want_word) (defScope s_want_word) (.ref T5) kV5 dc5 pm5 an5 cd5 ct5), sl5⟩)
    (c5 : PySem.W.codeIn K cd5 "want_word" = true)
    (k5 : PySem.W.keepIn K (.ref f5) = true)
    (t5 : K.lookup T5 = some ⟨tc5, td5, .seq [.none].toArray tn5, ts5⟩)
    (a6 : PySem.W.nsIn K mainGlobals "is_from" = some (some (.ref f6)))
    (l6 : K.lookup f6 = some ⟨oc6, od6, .func (PySem.W.fnOf "is_from" "is_from" (defArgs s_is_from) (defBody s_is_from) (defScope s_is_from) .none kV6 dc6 pm6 an6 cd6 ct6), sl6⟩)
    (c6 : PySem.W.codeIn K cd6 "is_from" = true)
    (k6 : PySem.W.keepIn K (.ref f6) = true)
    (a7 : PySem.W.nsIn K mainGlobals "is_spot" = some (some (.ref f7)))
    (l7 : K.lookup f7 = some ⟨oc7, od7, .func (PySem.W.fnOf "is_spot" "is_spot" (defArgs s_is_spot) (defBody s_is_spot) (defScope s_is_spot) .none kV7 dc7 pm7 an7 cd7 ct7), sl7⟩)
    (c7 : PySem.W.codeIn K cd7 "is_spot" = true)
    (k7 : PySem.W.keepIn K (.ref f7) = true)
    (a8 : PySem.W.nsIn K mainGlobals "is_seat_of" = some (some (.ref f8)))
    (l8 : K.lookup f8 = some ⟨oc8, od8, .func (PySem.W.fnOf "is_seat_of" "is_seat_of" (defArgs s_is_seat_of) (defBody s_is_seat_of) (defScope s_is_seat_of) .none kV8 dc8 pm8 an8 cd8 ct8), sl8⟩)
    (c8 : PySem.W.codeIn K cd8 "is_seat_of" = true)
    (k8 : PySem.W.keepIn K (.ref f8) = true)
    (a9 : PySem.W.nsIn K mainGlobals "kept" = some (some (.ref f9)))
    (l9 : K.lookup f9 = some ⟨oc9, od9, .func (PySem.W.fnOf "kept" "kept" (defArgs s_kept) (defBody s_kept) (defScope s_kept) .none kV9 dc9 pm9 an9 cd9 ct9), sl9⟩)
    (c9 : PySem.W.codeIn K cd9 "kept" = true)
    (k9 : PySem.W.keepIn K (.ref f9) = true)
    (a10 : PySem.W.findIn K (.ref C_Case) "is_hung" = some (some (.ref f10)))
    (m10 : PySem.W.isFn K (.ref f10) = true)
    (l10 : K.lookup f10 = some ⟨oc10, od10, .func (PySem.W.fnOf "is_hung" "Case.is_hung" (defArgs s_Case_is_hung) (defBody s_Case_is_hung) (defScope s_Case_is_hung) .none kV10 dc10 pm10 an10 cd10 ct10), sl10⟩)
    (c10 : PySem.W.codeIn K cd10 "Case.is_hung" = true)
    (k10 : PySem.W.keepIn K (.ref f10) = true)
    (a11 : PySem.W.findIn K (.ref C_Case) "__init__" = some (some (.ref f11)))
    (m11 : PySem.W.isFn K (.ref f11) = true)
    (l11 : K.lookup f11 = some ⟨oc11, od11, .func (PySem.W.fnOf "__init__" "Case.__init__" (defArgs s_Case___init__) (defBody s_Case___init__) (defScope s_Case___init__) (.ref T11) kV11 dc11 pm11 an11 cd11 ct11), sl11⟩)
    (c11 : PySem.W.codeIn K cd11 "Case.__init__" = true)
    (k11 : PySem.W.keepIn K (.ref f11) = true)
    (t11 : K.lookup T11 = some ⟨tc11, td11, .seq [.none, .none, .none, .none].toArray tn11, ts11⟩)
    (a12 : PySem.W.findIn K (.ref C_Case) "rank_of" = some (some (.ref f12)))
    (m12 : PySem.W.isFn K (.ref f12) = true)
    (l12 : K.lookup f12 = some ⟨oc12, od12, .func (PySem.W.fnOf "rank_of" "Case.rank_of" (defArgs s_Case_rank_of) (defBody s_Case_rank_of) (defScope s_Case_rank_of) .none kV12 dc12 pm12 an12 cd12 ct12), sl12⟩)
    (c12 : PySem.W.codeIn K cd12 "Case.rank_of" = true)
    (k12 : PySem.W.keepIn K (.ref f12) = true)
    (a13 : PySem.W.findIn K (.ref C_Case) "is_base" = some (some (.ref f13)))
    (m13 : PySem.W.isFn K (.ref f13) = true)
    (l13 : K.lookup f13 = some ⟨oc13, od13, .func (PySem.W.fnOf "is_base" "Case.is_base" (defArgs s_Case_is_base) (defBody s_Case_is_base) (defScope s_Case_is_base) .none kV13 dc13 pm13 an13 cd13 ct13), sl13⟩)
    (c13 : PySem.W.codeIn K cd13 "Case.is_base" = true)
    (k13 : PySem.W.keepIn K (.ref f13) = true)
    (a14 : PySem.W.nsIn K mainGlobals "clusters" = some (some (.ref f14)))
    (l14 : K.lookup f14 = some ⟨oc14, od14, .func (PySem.W.fnOf "clusters" "clusters" (defArgs s_clusters) (defBody s_clusters) (defScope s_clusters) .none kV14 dc14 pm14 an14 cd14 ct14), sl14⟩)
    (c14 : PySem.W.codeIn K cd14 "clusters" = true)
    (k14 : PySem.W.keepIn K (.ref f14) = true)
    (a15 : PySem.W.nsIn K mainGlobals "shown_turn" = some (some (.ref f15)))
    (l15 : K.lookup f15 = some ⟨oc15, od15, .func (PySem.W.fnOf "shown_turn" "shown_turn" (defArgs s_shown_turn) (defBody s_shown_turn) (defScope s_shown_turn) .none kV15 dc15 pm15 an15 cd15 ct15), sl15⟩)
    (c15 : PySem.W.codeIn K cd15 "shown_turn" = true)
    (k15 : PySem.W.keepIn K (.ref f15) = true)
    (a16 : PySem.W.nsIn K mainGlobals "sorted_places" = some (some (.ref f16)))
    (l16 : K.lookup f16 = some ⟨oc16, od16, .func (PySem.W.fnOf "sorted_places" "sorted_places" (defArgs s_sorted_places) (defBody s_sorted_places) (defScope s_sorted_places) .none kV16 dc16 pm16 an16 (.ref cc16) ct16), sl16⟩)
    (c16 : PySem.W.codeIn K (.ref cc16) "sorted_places" = true)
    (k16 : PySem.W.keepIn K (.ref f16) = true)
    (lc16 : K.lookup cc16 = some ⟨ze16, zd16, .fields zv16, zs16⟩)
    (vc16 : zv16[11]? = some (.ref P16))
    (nP16 : K.lookup P16 = none)
    (r16 : (recsOf pq).find? (fun e : DefRec => e.name == ("sorted_places" : Str)) = some de16)
    (a17 : PySem.W.nsIn K mainGlobals "text_at" = some (some (.ref f17)))
    (l17 : K.lookup f17 = some ⟨oc17, od17, .func (PySem.W.fnOf "text_at" "text_at" (defArgs s_text_at) (defBody s_text_at) (defScope s_text_at) .none kV17 dc17 pm17 an17 cd17 ct17), sl17⟩)
    (c17 : PySem.W.codeIn K cd17 "text_at" = true)
    (k17 : PySem.W.keepIn K (.ref f17) = true)
    (a18 : PySem.W.nsIn K mainGlobals "ordered" = some (some (.ref f18)))
    (l18 : K.lookup f18 = some ⟨oc18, od18, .func (PySem.W.fnOf "ordered" "ordered" (defArgs s_ordered) (defBody s_ordered) (defScope s_ordered) .none kV18 dc18 pm18 an18 cd18 ct18), sl18⟩)
    (c18 : PySem.W.codeIn K cd18 "ordered" = true)
    (k18 : PySem.W.keepIn K (.ref f18) = true)
    (a19 : PySem.W.nsIn K mainGlobals "_law_mixed" = some (some (.ref f19)))
    (l19 : K.lookup f19 = some ⟨oc19, od19, .func (PySem.W.fnOf "_law_mixed" "_law_mixed" (defArgs s__law_mixed) (defBody s__law_mixed) (defScope s__law_mixed) .none kV19 dc19 pm19 an19 cd19 ct19), sl19⟩)
    (c19 : PySem.W.codeIn K cd19 "_law_mixed" = true)
    (k19 : PySem.W.keepIn K (.ref f19) = true)
    (a20 : PySem.W.nsIn K mainGlobals "_law_well" = some (some (.ref f20)))
    (l20 : K.lookup f20 = some ⟨oc20, od20, .func (PySem.W.fnOf "_law_well" "_law_well" (defArgs s__law_well) (defBody s__law_well) (defScope s__law_well) .none kV20 dc20 pm20 an20 cd20 ct20), sl20⟩)
    (c20 : PySem.W.codeIn K cd20 "_law_well" = true)
    (k20 : PySem.W.keepIn K (.ref f20) = true)
    (a21 : PySem.W.nsIn K mainGlobals "_law_draw" = some (some (.ref f21)))
    (l21 : K.lookup f21 = some ⟨oc21, od21, .func (PySem.W.fnOf "_law_draw" "_law_draw" (defArgs s__law_draw) (defBody s__law_draw) (defScope s__law_draw) .none kV21 dc21 pm21 an21 cd21 ct21), sl21⟩)
    (c21 : PySem.W.codeIn K cd21 "_law_draw" = true)
    (k21 : PySem.W.keepIn K (.ref f21) = true)
    (a22 : PySem.W.nsIn K mainGlobals "_law_unlike" = some (some (.ref f22)))
    (l22 : K.lookup f22 = some ⟨oc22, od22, .func (PySem.W.fnOf "_law_unlike" "_law_unlike" (defArgs s__law_unlike) (defBody s__law_unlike) (defScope s__law_unlike) .none kV22 dc22 pm22 an22 cd22 ct22), sl22⟩)
    (c22 : PySem.W.codeIn K cd22 "_law_unlike" = true)
    (k22 : PySem.W.keepIn K (.ref f22) = true)
    (a23 : PySem.W.nsIn K mainGlobals "_law_ranks" = some (some (.ref f23)))
    (l23 : K.lookup f23 = some ⟨oc23, od23, .func (PySem.W.fnOf "_law_ranks" "_law_ranks" (defArgs s__law_ranks) (defBody s__law_ranks) (defScope s__law_ranks) .none kV23 dc23 pm23 an23 cd23 ct23), sl23⟩)
    (c23 : PySem.W.codeIn K cd23 "_law_ranks" = true)
    (k23 : PySem.W.keepIn K (.ref f23) = true)
    (a24 : PySem.W.nsIn K mainGlobals "_law_word" = some (some (.ref f24)))
    (l24 : K.lookup f24 = some ⟨oc24, od24, .func (PySem.W.fnOf "_law_word" "_law_word" (defArgs s__law_word) (defBody s__law_word) (defScope s__law_word) .none kV24 dc24 pm24 an24 cd24 ct24), sl24⟩)
    (c24 : PySem.W.codeIn K cd24 "_law_word" = true)
    (k24 : PySem.W.keepIn K (.ref f24) = true)
    (a25 : PySem.W.nsIn K mainGlobals "_law_clusters" = some (some (.ref f25)))
    (l25 : K.lookup f25 = some ⟨oc25, od25, .func (PySem.W.fnOf "_law_clusters" "_law_clusters" (defArgs s__law_clusters) (defBody s__law_clusters) (defScope s__law_clusters) .none kV25 dc25 pm25 an25 cd25 ct25), sl25⟩)
    (c25 : PySem.W.codeIn K cd25 "_law_clusters" = true)
    (k25 : PySem.W.keepIn K (.ref f25) = true)
    (a26 : PySem.W.nsIn K mainGlobals "_law_shown_places" = some (some (.ref f26)))
    (l26 : K.lookup f26 = some ⟨oc26, od26, .func (PySem.W.fnOf "_law_shown_places" "_law_shown_places" (defArgs s__law_shown_places) (defBody s__law_shown_places) (defScope s__law_shown_places) .none kV26 dc26 pm26 an26 cd26 ct26), sl26⟩)
    (c26 : PySem.W.codeIn K cd26 "_law_shown_places" = true)
    (k26 : PySem.W.keepIn K (.ref f26) = true)
    (a27 : PySem.W.nsIn K mainGlobals "_law_whole" = some (some (.ref f27)))
    (l27 : K.lookup f27 = some ⟨oc27, od27, .func (PySem.W.fnOf "_law_whole" "_law_whole" (defArgs s__law_whole) (defBody s__law_whole) (defScope s__law_whole) .none kV27 dc27 pm27 an27 cd27 ct27), sl27⟩)
    (c27 : PySem.W.codeIn K cd27 "_law_whole" = true)
    (k27 : PySem.W.keepIn K (.ref f27) = true)
    (a28 : PySem.W.nsIn K mainGlobals "_law_long" = some (some (.ref f28)))
    (l28 : K.lookup f28 = some ⟨oc28, od28, .func (PySem.W.fnOf "_law_long" "_law_long" (defArgs s__law_long) (defBody s__law_long) (defScope s__law_long) .none kV28 dc28 pm28 an28 cd28 ct28), sl28⟩)
    (c28 : PySem.W.codeIn K cd28 "_law_long" = true)
    (k28 : PySem.W.keepIn K (.ref f28) = true)
    (a29 : PySem.W.nsIn K mainGlobals "_law_right" = some (some (.ref f29)))
    (l29 : K.lookup f29 = some ⟨oc29, od29, .func (PySem.W.fnOf "_law_right" "_law_right" (defArgs s__law_right) (defBody s__law_right) (defScope s__law_right) .none kV29 dc29 pm29 an29 cd29 ct29), sl29⟩)
    (c29 : PySem.W.codeIn K cd29 "_law_right" = true)
    (k29 : PySem.W.keepIn K (.ref f29) = true)
    (a30 : PySem.W.nsIn K mainGlobals "law" = some (some (.ref f30)))
    (l30 : K.lookup f30 = some ⟨oc30, od30, .func (PySem.W.fnOf "law" "law" (defArgs s_law) (defBody s_law) (defScope s_law) .none kV30 dc30 pm30 an30 cd30 ct30), sl30⟩)
    (c30 : PySem.W.codeIn K cd30 "law" = true)
    (k30 : PySem.W.keepIn K (.ref f30) = true)
    (z_all : PySem.W.nsIn K mainGlobals "all" = some none)
    (z_bool : PySem.W.nsIn K mainGlobals "bool" = some none)
    (z_dict : PySem.W.nsIn K mainGlobals "dict" = some none)
    (z_enumerate : PySem.W.nsIn K mainGlobals "enumerate" = some none)
    (z_int : PySem.W.nsIn K mainGlobals "int" = some none)
    (z_isinstance : PySem.W.nsIn K mainGlobals "isinstance" = some none)
    (z_len : PySem.W.nsIn K mainGlobals "len" = some none)
    (z_list : PySem.W.nsIn K mainGlobals "list" = some none)
    (z_range : PySem.W.nsIn K mainGlobals "range" = some none)
    (z_set : PySem.W.nsIn K mainGlobals "set" = some none)
    (z_sorted : PySem.W.nsIn K mainGlobals "sorted" = some none)
    (z_str : PySem.W.nsIn K mainGlobals "str" = some none)
    (z_tuple : PySem.W.nsIn K mainGlobals "tuple" = some none)
    (z_zip : PySem.W.nsIn K mainGlobals "zip" = some none)
    (v_MOST_LETTERS : PySem.W.nsIn K mainGlobals "MOST_LETTERS" = some (some (.int 16 tk_MOST_LETTERS)))
    (v_MOST_RANK : PySem.W.nsIn K mainGlobals "MOST_RANK" = some (some (.int 9 tk_MOST_RANK)))
    (v_MOST_WIDE : PySem.W.nsIn K mainGlobals "MOST_WIDE" = some (some (.int 1000 tk_MOST_WIDE)))
    (v_SIGNS : PySem.W.nsIn K mainGlobals "SIGNS" = some (some (.str "ABCDEFGHIJKLMNOPQRSTUVWXYZabcdefghijklmnopqrstuvwxyz" tk_SIGNS)))
    (ea_NoWord : PySem.W.nsIn K mainGlobals "NoWord" = some (some (.ref C_NoWord)))
    (ea_NoRule : PySem.W.nsIn K mainGlobals "NoRule" = some (some (.ref C_NoRule)))
    (ea_NoCase : PySem.W.nsIn K mainGlobals "NoCase" = some (some (.ref C_NoCase)))
    (ea_SeamError : PySem.W.nsIn K mainGlobals "SeamError" = some (some (.ref C_SeamError)))
    (br_SeamError : PySem.W.readsIn K C_SeamError (.type "type") = true)
    (bg_SeamError : PySem.W.specialIn K (.ref C_SeamError) "__getattribute__" = some (some (.builtin "type.__getattribute__")))
    (bv_SeamError : PySem.W.findCls K (.ref C_SeamError) (.type "type") "__init__" = some (.val (.builtin "ValueError.__init__")))
    (el_NoWord : K.lookup C_NoWord = some (excClassObj nm_NoWord qn_NoWord C_NoWord N_NoWord bs_NoWord bm_NoWord true sn_NoWord sub_NoWord ab_NoWord col_NoWord dd_NoWord k0_NoWord k1_NoWord k2_NoWord k3_NoWord k5_NoWord "ValueError.__new__"))
    (eb_NoWord : PySem.HandSPX.refsVE bm_NoWord = true)
    (es_NoWord : PySem.W.findIn K (.ref C_NoWord) "__setattr__" = some (some (.builtin "object.__setattr__")))
    (ee_NoWord : PySem.W.subIn K (.ref C_NoWord) (.type "BaseException") = some true)
    (et_NoWord : PySem.W.typeIn K (.ref C_NoWord) = some (.type "type"))
    (ek_NoWord : PySem.W.keepIn K (.ref C_NoWord) = true)
    (ei_NoWord : PySem.W.findIn K (.ref C_NoWord) "__init__" = some (some (.ref I_NoWord)))
    (ef_NoWord : PySem.W.typeIn K (.ref I_NoWord) = some (.type "function"))
    (il_NoWord : K.lookup I_NoWord = some ⟨ic_NoWord, io_NoWord, .func (PySem.W.fnOf "__init__" "NoWord.__init__" (defArgs i_NoWord) (defBody i_NoWord) (defScope i_NoWord) .none ik_NoWord id_NoWord ip_NoWord ia_NoWord iz_NoWord ie_NoWord), is_NoWord⟩)
    (ix_NoWord : PySem.W.codeIn K iz_NoWord "NoWord.__init__" = true)
    (iy_NoWord : PySem.W.keepIn K (.ref I_NoWord) = true)
    (en_NoWord : PySem.W.findIn K (.ref C_NoWord) "at" = some none)
    (xg_NoWord : PySem.W.findIn K (.ref C_NoWord) "__getattribute__" = some (some (.builtin "BaseException.__getattribute__")))
    (xk_NoWord : PySem.W.findIn K (.ref C_NoWord) "__getattr__" = some none)
    (xh_NoWord : PySem.W.hasDictIn K C_NoWord = true)
    (el_NoRule : K.lookup C_NoRule = some (excClassObj nm_NoRule qn_NoRule C_NoRule N_NoRule bs_NoRule bm_NoRule true sn_NoRule sub_NoRule ab_NoRule col_NoRule dd_NoRule k0_NoRule k1_NoRule k2_NoRule k3_NoRule k5_NoRule "ValueError.__new__"))
    (eb_NoRule : PySem.HandSPX.refsVE bm_NoRule = true)
    (es_NoRule : PySem.W.findIn K (.ref C_NoRule) "__setattr__" = some (some (.builtin "object.__setattr__")))
    (ee_NoRule : PySem.W.subIn K (.ref C_NoRule) (.type "BaseException") = some true)
    (et_NoRule : PySem.W.typeIn K (.ref C_NoRule) = some (.type "type"))
    (ek_NoRule : PySem.W.keepIn K (.ref C_NoRule) = true)
    (ei_NoRule : PySem.W.findIn K (.ref C_NoRule) "__init__" = some (some (.ref I_NoRule)))
    (ef_NoRule : PySem.W.typeIn K (.ref I_NoRule) = some (.type "function"))
    (il_NoRule : K.lookup I_NoRule = some ⟨ic_NoRule, io_NoRule, .func (PySem.W.fnOf "__init__" "NoRule.__init__" (defArgs i_NoRule) (defBody i_NoRule) (defScope i_NoRule) .none ik_NoRule id_NoRule ip_NoRule ia_NoRule iz_NoRule ie_NoRule), is_NoRule⟩)
    (ix_NoRule : PySem.W.codeIn K iz_NoRule "NoRule.__init__" = true)
    (iy_NoRule : PySem.W.keepIn K (.ref I_NoRule) = true)
    (en_NoRule : PySem.W.findIn K (.ref C_NoRule) "what" = some none)
    (xg_NoRule : PySem.W.findIn K (.ref C_NoRule) "__getattribute__" = some (some (.builtin "BaseException.__getattribute__")))
    (xk_NoRule : PySem.W.findIn K (.ref C_NoRule) "__getattr__" = some none)
    (xh_NoRule : PySem.W.hasDictIn K C_NoRule = true)
    (el_NoCase : K.lookup C_NoCase = some (excClassObj nm_NoCase qn_NoCase C_NoCase N_NoCase bs_NoCase bm_NoCase true sn_NoCase sub_NoCase ab_NoCase col_NoCase dd_NoCase k0_NoCase k1_NoCase k2_NoCase k3_NoCase k5_NoCase "ValueError.__new__"))
    (eb_NoCase : PySem.HandSPX.refsVE bm_NoCase = true)
    (es_NoCase : PySem.W.findIn K (.ref C_NoCase) "__setattr__" = some (some (.builtin "object.__setattr__")))
    (ee_NoCase : PySem.W.subIn K (.ref C_NoCase) (.type "BaseException") = some true)
    (et_NoCase : PySem.W.typeIn K (.ref C_NoCase) = some (.type "type"))
    (ek_NoCase : PySem.W.keepIn K (.ref C_NoCase) = true)
    (ei_NoCase : PySem.W.findIn K (.ref C_NoCase) "__init__" = some (some (.ref I_NoCase)))
    (ef_NoCase : PySem.W.typeIn K (.ref I_NoCase) = some (.type "function"))
    (il_NoCase : K.lookup I_NoCase = some ⟨ic_NoCase, io_NoCase, .func (PySem.W.fnOf "__init__" "NoCase.__init__" (defArgs i_NoCase) (defBody i_NoCase) (defScope i_NoCase) .none ik_NoCase id_NoCase ip_NoCase ia_NoCase iz_NoCase ie_NoCase), is_NoCase⟩)
    (ix_NoCase : PySem.W.codeIn K iz_NoCase "NoCase.__init__" = true)
    (iy_NoCase : PySem.W.keepIn K (.ref I_NoCase) = true)
    (en_NoCase : PySem.W.findIn K (.ref C_NoCase) "what" = some none)
    (xg_NoCase : PySem.W.findIn K (.ref C_NoCase) "__getattribute__" = some (some (.builtin "BaseException.__getattribute__")))
    (xk_NoCase : PySem.W.findIn K (.ref C_NoCase) "__getattr__" = some none)
    (xh_NoCase : PySem.W.hasDictIn K C_NoCase = true)
    : LamX.LawAtS l w K (L2.CX l.prog w) 8 63 "_law_script" mg fa h := by
  have e := hfa.symm.trans (PySem.W.mg_of X G a30)
  cases e
  have F1 := fun_mk (st := s_is_whole) l1 c1 k1
  have F2 := fun_mk (st := s_is_sign) l2 c2 k2
  have F3 := fun_mk (st := s_is_text) l3 c3 k3
  have F4 := fun_mk (st := s_want_letters) l4 c4 k4
  have F5 : FunD K "want_word" "want_word" (defArgs s_want_word) (defBody s_want_word) (defScope s_want_word) [V.non] [] f5 _ := ⟨⟨_, _, _, _, _, _, _, _, _, _, rfl, l5, c5, .inr ⟨by simp, _, _, _, _, rfl, t5, rfl, (.cons rfl .nil)⟩, .inl rfl⟩, k5⟩
  have F6 := fun_mk (st := s_is_from) l6 c6 k6
  have F7 := fun_mk (st := s_is_spot) l7 c7 k7
  have F8 := fun_mk (st := s_is_seat_of) l8 c8 k8
  have F9 := fun_mk (st := s_kept) l9 c9 k9
  have F10 := fun_mk (st := s_Case_is_hung) l10 c10 k10
  have F11 : FunD K "__init__" "Case.__init__" (defArgs s_Case___init__) (defBody s_Case___init__) (defScope s_Case___init__) [V.non, V.non, V.non, V.non] [] f11 _ := ⟨⟨_, _, _, _, _, _, _, _, _, _, rfl, l11, c11, .inr ⟨by simp, _, _, _, _, rfl, t11, rfl, (.cons rfl (.cons rfl (.cons rfl (.cons rfl .nil))))⟩, .inl rfl⟩, k11⟩
  have F12 := fun_mk (st := s_Case_rank_of) l12 c12 k12
  have F13 := fun_mk (st := s_Case_is_base) l13 c13 k13
  have F14 := fun_mk (st := s_clusters) l14 c14 k14
  have F15 := fun_mk (st := s_shown_turn) l15 c15 k15
  have F16 : FunC K "sorted_places" "sorted_places" s_sorted_places _ _ cc16 := ⟨⟨_, _, _, _, _, _, _, _, rfl, l16, c16⟩, k16⟩
  have F17 := fun_mk (st := s_text_at) l17 c17 k17
  have F18 := fun_mk (st := s_ordered) l18 c18 k18
  have F19 := fun_mk (st := s__law_mixed) l19 c19 k19
  have F20 := fun_mk (st := s__law_well) l20 c20 k20
  have F21 := fun_mk (st := s__law_draw) l21 c21 k21
  have F22 := fun_mk (st := s__law_unlike) l22 c22 k22
  have F23 := fun_mk (st := s__law_ranks) l23 c23 k23
  have F24 := fun_mk (st := s__law_word) l24 c24 k24
  have F25 := fun_mk (st := s__law_clusters) l25 c25 k25
  have F26 := fun_mk (st := s__law_shown_places) l26 c26 k26
  have F27 := fun_mk (st := s__law_whole) l27 c27 k27
  have F28 := fun_mk (st := s__law_long) l28 c28 k28
  have F29 := fun_mk (st := s__law_right) l29 c29 k29
  have F30 := fun_mk (st := s_law) l30 c30 k30
  have T : Tn mg := ⟨PySem.W.mg_none_of X G z_all, PySem.W.mg_none_of X G z_bool, PySem.W.mg_none_of X G z_dict, PySem.W.mg_none_of X G z_enumerate, PySem.W.mg_none_of X G z_int, PySem.W.mg_none_of X G z_isinstance, PySem.W.mg_none_of X G z_len, PySem.W.mg_none_of X G z_list, PySem.W.mg_none_of X G z_range, PySem.W.mg_none_of X G z_set, PySem.W.mg_none_of X G z_sorted, PySem.W.mg_none_of X G z_str, PySem.W.mg_none_of X G z_tuple, PySem.W.mg_none_of X G z_zip, ⟨_, PySem.W.mg_of X G v_MOST_LETTERS⟩, ⟨_, PySem.W.mg_of X G v_MOST_RANK⟩, ⟨_, PySem.W.mg_of X G v_MOST_WIDE⟩, ⟨_, PySem.W.mg_of X G v_SIGNS⟩⟩
  have ZZ : ∀ base : Heap, ∃ cA, Exs l.prog w K mg base cA := fun base => by
    have uq : ∀ {x : Str} {A B : Addr}, PySem.W.nsIn K mainGlobals x = some (some (.ref A)) → PySem.W.nsIn K mainGlobals x = some (some (.ref B)) → A = B := fun p q => by
      rw [p] at q; cases q; rfl
    have T_NoWord : OexC K C_NoWord := ⟨⟨_, _, _, _, _, _, _, _, _, _, _, _, _, _, _, el_NoWord, eb_NoWord⟩, es_NoWord, ee_NoWord, et_NoWord, ek_NoWord⟩
    have J_NoWord : Fun K "__init__" "NoWord.__init__" i_NoWord I_NoWord _ := ⟨⟨_, _, _, _, _, _, _, _, _, rfl, il_NoWord, ix_NoWord⟩, iy_NoWord⟩
    have X_NoWord : ExcD l.prog w K mg base "NoWord" "at" C_NoWord := exc_mk (PySem.W.mg_of X G ea_NoWord) ea_NoWord T_NoWord ei_NoWord ef_NoWord (J_NoWord.binds (ps := ["self", "at"]) (fun _ _ _ _ _ _ us hl => match us, hl with | [_, _], _ => rfl)) (oki_NoWord J_NoWord (PySem.W.mg_of X G ea_SeamError) ⟨br_SeamError, bg_SeamError⟩ bv_SeamError T_NoWord en_NoWord)
    have T_NoRule : OexC K C_NoRule := ⟨⟨_, _, _, _, _, _, _, _, _, _, _, _, _, _, _, el_NoRule, eb_NoRule⟩, es_NoRule, ee_NoRule, et_NoRule, ek_NoRule⟩
    have J_NoRule : Fun K "__init__" "NoRule.__init__" i_NoRule I_NoRule _ := ⟨⟨_, _, _, _, _, _, _, _, _, rfl, il_NoRule, ix_NoRule⟩, iy_NoRule⟩
    have X_NoRule : ExcD l.prog w K mg base "NoRule" "what" C_NoRule := exc_mk (PySem.W.mg_of X G ea_NoRule) ea_NoRule T_NoRule ei_NoRule ef_NoRule (J_NoRule.binds (ps := ["self", "what"]) (fun _ _ _ _ _ _ us hl => match us, hl with | [_, _], _ => rfl)) (oki_NoRule J_NoRule (PySem.W.mg_of X G ea_SeamError) ⟨br_SeamError, bg_SeamError⟩ bv_SeamError T_NoRule en_NoRule)
    have T_NoCase : OexC K C_NoCase := ⟨⟨_, _, _, _, _, _, _, _, _, _, _, _, _, _, _, el_NoCase, eb_NoCase⟩, es_NoCase, ee_NoCase, et_NoCase, ek_NoCase⟩
    have J_NoCase : Fun K "__init__" "NoCase.__init__" i_NoCase I_NoCase _ := ⟨⟨_, _, _, _, _, _, _, _, _, rfl, il_NoCase, ix_NoCase⟩, iy_NoCase⟩
    have X_NoCase : ExcD l.prog w K mg base "NoCase" "what" C_NoCase := exc_mk (PySem.W.mg_of X G ea_NoCase) ea_NoCase T_NoCase ei_NoCase ef_NoCase (J_NoCase.binds (ps := ["self", "what"]) (fun _ _ _ _ _ _ us hl => match us, hl with | [_, _], _ => rfl)) (oki_NoCase J_NoCase (PySem.W.mg_of X G ea_SeamError) ⟨br_SeamError, bg_SeamError⟩ bv_SeamError T_NoCase en_NoCase)
    refine ⟨fun x => if x = "NoWord" then C_NoWord else if x = "NoRule" then C_NoRule else if x = "NoCase" then C_NoCase else 0, X_NoWord, X_NoRule, X_NoCase, ⟨fun x c b hb C Cc h1 h2 => ?_, fun x f hm C h1 => ?_⟩⟩
    · unfold exT at hb; dsimp only at hb
      cases hb
    · unfold exT at hm; dsimp only at hm
      repeat (rcases List.mem_cons.mp hm with q | hm; · (cases q; first | (cases uq h1 ea_NoWord; exact ⟨⟨xg_NoWord, xk_NoWord, ee_NoWord, xh_NoWord⟩, en_NoWord⟩) | (cases uq h1 ea_NoRule; exact ⟨⟨xg_NoRule, xk_NoRule, ee_NoRule, xh_NoRule⟩, en_NoRule⟩) | (cases uq h1 ea_NoCase; exact ⟨⟨xg_NoCase, xk_NoCase, ee_NoCase, xh_NoCase⟩, en_NoCase⟩)))
      all_goals cases hm
  have hall : ∀ {Q : Addr × Addr → Prop}, Q (cc16, P16) → ∀ p ∈ [(cc16, P16)], Q p := fun {Q} q16 p hp => by
    repeat (rcases List.mem_cons.mp hp with e | hp; · (subst e; assumption))
    all_goals cases hp
  refine ⟨PySem.W.fnOf "law" "law" (defArgs s_law) (defBody s_law) (defScope s_law) .none kV30 dc30 pm30 an30 cd30 ct30, [(cc16, P16)], LSp K (sp_law P16), hall (TB0 _ _ _ _ r16 (tab_mk a16 l16 rfl lc16 vc16)).2, hall nP16, hall (TB0 _ _ _ _ r16 (tab_mk a16 l16 rfl lc16 vc16)).1, fun s v => .of_eq rfl, fun H a ns hl _ hT hS => ?_, fun base _ _ hTB => ?_⟩
  · exact hsp_lawT (T := [(P16, "sorted_places.<locals>.<lambda>")]) (by simp) hl (fun p hp => by
      repeat (rcases List.mem_cons.mp hp with e | hp; · (subst e; first | exact hT (cc16, P16) (by simp)))
      all_goals cases hp) hS
  have TB16 : LamX.TabB base mg cc16 P16 := hTB (cc16, P16) (by simp)
  obtain ⟨cA, Z⟩ := ZZ base
  have L_Case : Cls K C_Case := ⟨kg_Case, kh_Case, kp_Case, ks_Case⟩
  have uqC : ∀ {x : Str} {A B : Addr}, PySem.W.nsIn K mainGlobals x = some (some (.ref A)) → PySem.W.nsIn K mainGlobals x = some (some (.ref B)) → A = B := fun p q => by
    rw [p] at q; cases q; rfl
  have ZC : Clz K mg (fun x => if x = "Case" then C_Case else 0) := ⟨⟨fun c f hm C h1 => by
    have uq : ∀ {x : Str} {A B : Addr}, PySem.W.nsIn K mainGlobals x = some (some (.ref A)) → PySem.W.nsIn K mainGlobals x = some (some (.ref B)) → A = B := fun p q => by
      rw [p] at q; cases q; rfl
    unfold fldT at hm
    repeat (rcases List.mem_cons.mp hm with q | hm; · (cases q; first | (cases uq h1 ka_Case; exact ⟨L_Case, kf_Case_ranked⟩) | (cases uq h1 ka_Case; exact ⟨L_Case, kf_Case_widths⟩) | (cases uq h1 ka_Case; exact ⟨L_Case, kf_Case_footing⟩) | (cases uq h1 ka_Case; exact ⟨L_Case, kf_Case_seating⟩)))
    all_goals cases hm⟩⟩
  have G_is_whole := ok_is_whole (P := l.prog) (w := w) (base := base) T F1 ZC Z (PySem.W.mg_of X G a1)
  have G_is_sign := ok_is_sign (P := l.prog) (w := w) (base := base) T F2 ZC Z (PySem.W.mg_of X G a2)
  have G_is_text := ok_is_text (P := l.prog) (w := w) (base := base) T F3 ZC Z (PySem.W.mg_of X G a3)
  have G_want_letters := ok_want_letters (P := l.prog) (w := w) (base := base) T F4 ZC Z G_is_text (PySem.W.mg_of X G a4)
  have G_want_word := ok_want_word (P := l.prog) (w := w) (base := base) T F5 ZC Z G_want_letters (PySem.W.mg_of X G a5)
  have G_is_from := ok_is_from (P := l.prog) (w := w) (base := base) T F6 ZC Z G_is_whole (PySem.W.mg_of X G a6)
  have G_is_spot := ok_is_spot (P := l.prog) (w := w) (base := base) T F7 ZC Z G_is_from (PySem.W.mg_of X G a7)
  have G_is_seat_of := ok_is_seat_of (P := l.prog) (w := w) (base := base) T F8 ZC Z G_is_from G_is_sign (PySem.W.mg_of X G a8)
  have G_kept := ok_kept (P := l.prog) (w := w) (base := base) T F9 ZC Z (PySem.W.mg_of X G a9)
  have G_Case_is_hung := ok_Case_is_hung (P := l.prog) (w := w) (base := base) T F10 ZC Z ka_Case L_Case ⟨a10, m10, k10⟩
  have G_Case___init__ := ok_Case___init__ (P := l.prog) (w := w) (base := base) T F11 ZC Z G_is_spot G_is_seat_of G_kept G_Case_is_hung G_is_sign G_is_from ka_Case (PySem.W.mg_of X G ka_Case) ⟨km_Case, a11, m11, kk_Case⟩
  have G_Case_rank_of := ok_Case_rank_of (P := l.prog) (w := w) (base := base) T F12 ZC Z ka_Case L_Case ⟨a12, m12, k12⟩
  have G_Case_is_base := ok_Case_is_base (P := l.prog) (w := w) (base := base) T F13 ZC Z ka_Case L_Case ⟨a13, m13, k13⟩
  have G_clusters := ok_clusters (P := l.prog) (w := w) (base := base) T F14 ZC Z G_Case_is_base G_want_word (PySem.W.mg_of X G a14)
  have G_shown_turn := ok_shown_turn (P := l.prog) (w := w) (base := base) T F15 ZC Z G_Case_rank_of (PySem.W.mg_of X G a15)
  have G_sorted_places := ok_sorted_places (P := l.prog) (w := w) (base := base) T TB16 ZC Z G_clusters G_shown_turn (PySem.W.mg_of X G a15) F16 (PySem.W.mg_of X G a16)
  have G_text_at := ok_text_at (P := l.prog) (w := w) (base := base) T F17 ZC Z (PySem.W.mg_of X G a17)
  have G_ordered := ok_ordered (P := l.prog) (w := w) (base := base) T F18 ZC Z G_text_at G_sorted_places (PySem.W.mg_of X G a15) (PySem.W.mg_of X G a18)
  have G__law_mixed := ok__law_mixed (P := l.prog) (w := w) (base := base) T F19 ZC Z (PySem.W.mg_of X G a19)
  have G__law_well := ok__law_well (P := l.prog) (w := w) (base := base) T F20 ZC Z (PySem.W.mg_of X G a20)
  have G__law_draw := ok__law_draw (P := l.prog) (w := w) (base := base) T F21 ZC Z G__law_mixed (PySem.W.mg_of X G a21)
  have G__law_unlike := ok__law_unlike (P := l.prog) (w := w) (base := base) T F22 ZC Z G__law_draw (PySem.W.mg_of X G a22)
  have G__law_ranks := ok__law_ranks (P := l.prog) (w := w) (base := base) T F23 ZC Z G__law_draw (PySem.W.mg_of X G a23)
  have G__law_word := ok__law_word (P := l.prog) (w := w) (base := base) T F24 ZC Z G__law_draw (PySem.W.mg_of X G a24)
  have G__law_clusters := ok__law_clusters (P := l.prog) (w := w) (base := base) T F25 ZC Z (PySem.W.mg_of X G a25)
  have G__law_shown_places := ok__law_shown_places (P := l.prog) (w := w) (base := base) T F26 ZC Z G__law_clusters (PySem.W.mg_of X G a26)
  have G__law_whole := ok__law_whole (P := l.prog) (w := w) (base := base) T F27 ZC Z (PySem.W.mg_of X G a27)
  have G__law_long := ok__law_long (P := l.prog) (w := w) (base := base) T F28 ZC Z G__law_draw (PySem.W.mg_of X G a28)
  have G__law_right := ok__law_right (P := l.prog) (w := w) (base := base) T F29 ZC Z G__law_whole (PySem.W.mg_of X G a29)
  exact ok_law (P := l.prog) (w := w) (base := base) T F30 ZC Z G_ordered G_Case___init__ G__law_right G__law_shown_places G__law_long G__law_word G__law_ranks G__law_unlike G__law_well
end Lw
open PySem PySem.W PyProof.Rows
set_option maxHeartbeats 0 in
theorem PySem.Challenge.cw_markseam_k14_marks_in_order_holds : PySem.Challenge.rw_markseam_k14_marks_in_order.Holds := by
  w_on; o_law; k_head; (case hw => w_witness2)
  k_fill
  refine DL.walk_ofAll (l := PySem.Challenge.rw_markseam_k14_marks_in_order) (n := 63) (k := 8) (x := "_law_script") (CX := fun w => L2.CX PySem.Challenge.rw_markseam_k14_marks_in_order.prog w) rfl (by decide) rfl ⟨rfl, by decide, by decide⟩ (fun w h Y => PySem.W.km_in_of Y) ?F (fun _ _ _ _ _ h => DL.hcx_law h)
  case F =>
    intro w mg fa h Y KX G hmg TB0
    refine' Lw.all_mk KX G hmg TB0 ?ka_Case ?kg_Case ?kh_Case ?kp_Case ?ks_Case ?kf_Case_ranked ?kf_Case_widths ?kf_Case_footing ?kf_Case_seating ?km_Case ?kk_Case ?a1 ?l1 ?c1 ?k1 ?a2 ?l2 ?c2 ?k2 ?a3 ?l3 ?c3 ?k3 ?a4 ?l4 ?c4 ?k4 ?a5 ?l5 ?c5 ?k5 ?t5 ?a6 ?l6 ?c6 ?k6 ?a7 ?l7 ?c7 ?k7 ?a8 ?l8 ?c8 ?k8 ?a9 ?l9 ?c9 ?k9 ?a10 ?m10 ?l10 ?c10 ?k10 ?a11 ?m11 ?l11 ?c11 ?k11 ?t11 ?a12 ?m12 ?l12 ?c12 ?k12 ?a13 ?m13 ?l13 ?c13 ?k13 ?a14 ?l14 ?c14 ?k14 ?a15 ?l15 ?c15 ?k15 ?a16 ?l16 ?c16 ?k16 ?lc16 ?vc16 ?nP16 ?r16 ?a17 ?l17 ?c17 ?k17 ?a18 ?l18 ?c18 ?k18 ?a19 ?l19 ?c19 ?k19 ?a20 ?l20 ?c20 ?k20 ?a21 ?l21 ?c21 ?k21 ?a22 ?l22 ?c22 ?k22 ?a23 ?l23 ?c23 ?k23 ?a24 ?l24 ?c24 ?k24 ?a25 ?l25 ?c25 ?k25 ?a26 ?l26 ?c26 ?k26 ?a27 ?l27 ?c27 ?k27 ?a28 ?l28 ?c28 ?k28 ?a29 ?l29 ?c29 ?k29 ?a30 ?l30 ?c30 ?k30 ?z_all ?z_bool ?z_dict ?z_enumerate ?z_int ?z_isinstance ?z_len ?z_list ?z_range ?z_set ?z_sorted ?z_str ?z_tuple ?z_zip ?v_MOST_LETTERS ?v_MOST_RANK ?v_MOST_WIDE ?v_SIGNS ?ea_NoWord ?ea_NoRule ?ea_NoCase ?ea_SeamError ?br_SeamError ?bg_SeamError ?bv_SeamError ?el_NoWord ?eb_NoWord ?es_NoWord ?ee_NoWord ?et_NoWord ?ek_NoWord ?ei_NoWord ?ef_NoWord ?il_NoWord ?ix_NoWord ?iy_NoWord ?en_NoWord ?xg_NoWord ?xk_NoWord ?xh_NoWord ?el_NoRule ?eb_NoRule ?es_NoRule ?ee_NoRule ?et_NoRule ?ek_NoRule ?ei_NoRule ?ef_NoRule ?il_NoRule ?ix_NoRule ?iy_NoRule ?en_NoRule ?xg_NoRule ?xk_NoRule ?xh_NoRule ?el_NoCase ?eb_NoCase ?es_NoCase ?ee_NoCase ?et_NoCase ?ek_NoCase ?ei_NoCase ?ef_NoCase ?il_NoCase ?ix_NoCase ?iy_NoCase ?en_NoCase ?xg_NoCase ?xk_NoCase ?xh_NoCase
    (case ka_Case => k_is); (case kg_Case => k_is); (case kh_Case => k_is); (case kp_Case => k_is); (case ks_Case => k_is); (case kf_Case_ranked => k_is); (case kf_Case_widths => k_is); (case kf_Case_footing => k_is); (case kf_Case_seating => k_is); (case km_Case => k_is); (case kk_Case => k_is); (case a1 => k_is); (case l1 => k_is); (case c1 => k_is); (case k1 => k_is); (case a2 => k_is); (case l2 => k_is); (case c2 => k_is); (case k2 => k_is); (case a3 => k_is); (case l3 => k_is); (case c3 => k_is); (case k3 => k_is); (case a4 => k_is); (case l4 => k_is); (case c4 => k_is); (case k4 => k_is); (case a5 => k_is); (case l5 => k_is); (case c5 => k_is); (case k5 => k_is); (case t5 => k_is); (case a6 => k_is); (case l6 => k_is); (case c6 => k_is); (case k6 => k_is); (case a7 => k_is); (case l7 => k_is); (case c7 => k_is); (case k7 => k_is); (case a8 => k_is); (case l8 => k_is); (case c8 => k_is); (case k8 => k_is); (case a9 => k_is); (case l9 => k_is); (case c9 => k_is); (case k9 => k_is); (case a10 => k_is); (case m10 => k_is); (case l10 => k_is); (case c10 => k_is); (case k10 => k_is); (case a11 => k_is); (case m11 => k_is); (case l11 => k_is); (case c11 => k_is); (case k11 => k_is); (case t11 => k_is); (case a12 => k_is); (case m12 => k_is); (case l12 => k_is); (case c12 => k_is); (case k12 => k_is); (case a13 => k_is); (case m13 => k_is); (case l13 => k_is); (case c13 => k_is); (case k13 => k_is); (case a14 => k_is); (case l14 => k_is); (case c14 => k_is); (case k14 => k_is); (case a15 => k_is); (case l15 => k_is); (case c15 => k_is); (case k15 => k_is); (case a16 => k_is); (case l16 => k_is); (case c16 => k_is); (case k16 => k_is); (case lc16 => k_is); (case vc16 => rfl); (case nP16 => first | rfl | kernel_rfl | decide +kernel); (case r16 => rfl); (case a17 => k_is); (case l17 => k_is); (case c17 => k_is); (case k17 => k_is); (case a18 => k_is); (case l18 => k_is); (case c18 => k_is); (case k18 => k_is); (case a19 => k_is); (case l19 => k_is); (case c19 => k_is); (case k19 => k_is); (case a20 => k_is); (case l20 => k_is); (case c20 => k_is); (case k20 => k_is); (case a21 => k_is); (case l21 => k_is); (case c21 => k_is); (case k21 => k_is); (case a22 => k_is); (case l22 => k_is); (case c22 => k_is); (case k22 => k_is); (case a23 => k_is); (case l23 => k_is); (case c23 => k_is); (case k23 => k_is); (case a24 => k_is); (case l24 => k_is); (case c24 => k_is); (case k24 => k_is); (case a25 => k_is); (case l25 => k_is); (case c25 => k_is); (case k25 => k_is); (case a26 => k_is); (case l26 => k_is); (case c26 => k_is); (case k26 => k_is); (case a27 => k_is); (case l27 => k_is); (case c27 => k_is); (case k27 => k_is); (case a28 => k_is); (case l28 => k_is); (case c28 => k_is); (case k28 => k_is); (case a29 => k_is); (case l29 => k_is); (case c29 => k_is); (case k29 => k_is); (case a30 => k_is); (case l30 => k_is); (case c30 => k_is); (case k30 => k_is); (case z_all => k_is); (case z_bool => k_is); (case z_dict => k_is); (case z_enumerate => k_is); (case z_int => k_is); (case z_isinstance => k_is); (case z_len => k_is); (case z_list => k_is); (case z_range => k_is); (case z_set => k_is); (case z_sorted => k_is); (case z_str => k_is); (case z_tuple => k_is); (case z_zip => k_is); (case v_MOST_LETTERS => k_is); (case v_MOST_RANK => k_is); (case v_MOST_WIDE => k_is); (case v_SIGNS => k_is); (case ea_NoWord => k_is); (case ea_NoRule => k_is); (case ea_NoCase => k_is); (case ea_SeamError => k_is); (case br_SeamError => k_is); (case bg_SeamError => k_is); (case bv_SeamError => k_is); (case el_NoWord => k_is); (case eb_NoWord => first | rfl | decide +kernel); (case es_NoWord => k_is); (case ee_NoWord => k_is); (case et_NoWord => k_is); (case ek_NoWord => k_is); (case ei_NoWord => k_is); (case ef_NoWord => k_is); (case il_NoWord => k_is); (case ix_NoWord => k_is); (case iy_NoWord => k_is); (case en_NoWord => k_is); (case xg_NoWord => k_is); (case xk_NoWord => k_is); (case xh_NoWord => k_is); (case el_NoRule => k_is); (case eb_NoRule => first | rfl | decide +kernel); (case es_NoRule => k_is); (case ee_NoRule => k_is); (case et_NoRule => k_is); (case ek_NoRule => k_is); (case ei_NoRule => k_is); (case ef_NoRule => k_is); (case il_NoRule => k_is); (case ix_NoRule => k_is); (case iy_NoRule => k_is); (case en_NoRule => k_is); (case xg_NoRule => k_is); (case xk_NoRule => k_is); (case xh_NoRule => k_is); (case el_NoCase => k_is); (case eb_NoCase => first | rfl | decide +kernel); (case es_NoCase => k_is); (case ee_NoCase => k_is); (case et_NoCase => k_is); (case ek_NoCase => k_is); (case ei_NoCase => k_is); (case ef_NoCase => k_is); (case il_NoCase => k_is); (case ix_NoCase => k_is); (case iy_NoCase => k_is); (case en_NoCase => k_is); (case xg_NoCase => k_is); (case xk_NoCase => k_is); (case xh_NoCase => k_is)
