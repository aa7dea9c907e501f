import PyProof.Rows.All
import Wide.All
import OpenK.AllK
import Wide.FinOn
import HandS.ForMost
import HandS.Exc
import HandS.ExcOwn
import HandS.ExcInit
import HandS.WordsExc
import HandS.Wide
import HandS.Lambda
import HandS.EndTab
import HandS.EndOwn
import HandS.ExcField
import HandS.TryMany
import KE.KeyNested
import KE.KDictKeyed
import KE.KDictDisplayH
import HandS.IsInst
import HandS.Flow
import HandS.StrMore
import HandS.Defaults
import HandS.Strs
import HandS.ClsMeth
import HandS.ExcIs
import PyProof.StrOps2
import PyProof.ZipIter
import HandS.Iter
import PyProof.Draws
import PyProof.EnumMake
import HandS.Style
import PyProof.SliceStr2
import HandS.MakeKw
import HandS.MakeKwOnly
import KE.OsArith
import KE.BitLaws
import PyProof.ListMulRoad
import HandS.SlotsOwn
import HandS.OwnEq
import HandS.FStr
import HandS.More
import KE.KCallOwn
import KE.KFmtOwn
import PyProof.CollectStr
import PyProof.InstEq
import HandS.Set
import HandS.Conv
import HandS.SortInts
import HandS.SortKw
import KE.KMinKey
import KE.GoesZip
import KE.GoesEnumKw
import KE.GoesMore
import PyProof.TupleIter
import KE.KDictCopyH
import HandS.SetTxt0
import KE.KDictZip
import KE.KDictPairs
import HandS.DictComp
import KE.SortKeyHeap
import KE.SortCalls
import KE.SortData
import HandS.RevRange
import HandS.TupLen
import KE.KDictWalk
import HandS.TupAny
import HandS.Deep
import KE.DataFind
import PyProof.StrLawsIn
import HandS.Call
import HandS.List
import HandS.Head0
import HandS.Head1
import HandS.Head2
import HandS.HeadEnd
import HandS.HeadHook1
import HandS.HeadHook2
import HandS.HeadHook3
import HandS.HeadHook4
import HandS.HeadWalk
import HandS.SortRule
import PySem.Challenge.RW_markseam_k56_papers_that_shut_nothing
set_option Elab.async false
set_option linter.all false
set_option maxRecDepth 100000
set_option maxHeartbeats 4000000
namespace DL
open PySem PySem.Spec PyProof.Rows L2
abbrev St := L2.St
/-! ### data: values without the heap; lists that stand still are trees -/
inductive Dv where
  | non | bl (b : Bool) | int (i : Int) | str (x : Str) | ty (n : String) | ref (a : Addr)
  | tup (ds : List Dv) | lst (ds : List Dv) | obj (c : Str) (fs : List (Str × Dv)) | dct (kvs : List (Key × Dv)) | dctT (w : World) (kvs : List (NestedKey × Dv))
instance : Inhabited Dv := ⟨.non⟩
/-- a list that stands still: locked, or an object of the module -/
def FzL (K : PySem.W.Frag) (H : Hp) (a : Addr) (xs : List V) : Prop :=
  (∃ o, H a = some (.frz o (.lst xs))) ∨
    ∃ (o : Obj) (its : Array Value) (n : Nat), K.lookup a = some o ∧ o.cls = .type "list" ∧ o.dict = none ∧ o.data = .seq its n ∧ its.size ≤ sizeLine ∧ Vals xs its.toList
theorem FzL.seq {K : PySem.W.Frag} {H : Hp} {a : Addr} {xs : List V} (h : FzL K H a xs) : SqL K H a xs := by
  rcases h with ⟨o, h⟩ | h
  · exact .inl (.inr ⟨o, h⟩)
  · exact .inr h
/-- an entry of a dict, in the heap -/
abbrev Ent := NestedKey × Addr × Value
def entN (w : World) (x : Ent) : DictEntry := ⟨x.1.hash w, .ref x.2.1, x.2.2⟩
def dictO (w : World) (a : Addr) (xs : List Ent) : HO := .ext fun h => (a == sysModules) = false ∧ xs.length ≤ sizeLine ∧ (xs.map (·.1)).Nodup ∧ ∃ o es ep, h.get? a = some o ∧ o.ExactDict ∧ o.data = .dict es ep ∧ es.toList = xs.map (entN w)
mutual
/-- a key of tuples, in the heap -/
def NkV (K : PySem.W.Frag) (H : Hp) : NestedKey → V → Prop
  | .none, v => v = .non
  | .num i, v => v = .int i
  | .text x, v => v = .str x
  | .tup ks, v => ∃ a vs, v = .ref a ∧ SqT K H a vs ∧ NkVs K H ks vs
def NkVs (K : PySem.W.Frag) (H : Hp) : List NestedKey → List V → Prop
  | [], vs => vs = []
  | k :: ks, vs => ∃ v r, vs = v :: r ∧ NkV K H k v ∧ NkVs K H ks r
end
mutual
def RD (K : PySem.W.Frag) (H : Hp) : Dv → V → Prop
  | .non, v => v = .non
  | .bl b, v => v = .bl b
  | .int i, v => v = .int i
  | .str x, v => v = .str x
  | .ty n, v => v = .ty n
  | .ref a, v => v = .ref a
  | .tup ds, v => ∃ a vs, v = .ref a ∧ SqT K H a vs ∧ RDs K H ds vs
  | .lst ds, v => ∃ a vs, v = .ref a ∧ FzL K H a vs ∧ RDs K H ds vs
  | .obj c fs, v => ∃ a o C dx vfs, v = .ref a ∧ PySem.W.nsIn K mainGlobals c = some (some (.ref C)) ∧ H a = some (.frz o (.ins C dx vfs)) ∧ RDf K H fs vfs
  | .dct kvs, v => ∃ a o vks, v = .ref a ∧ H a = some (.frz o (.dK vks)) ∧ RDk1 K H kvs vks
  | .dctT w kvs, v => ∃ a o xs, v = .ref a ∧ H a = some (.frz o (dictO w a xs)) ∧ RDk2 K H kvs xs
def RDs (K : PySem.W.Frag) (H : Hp) : List Dv → List V → Prop
  | [], vs => vs = []
  | d :: ds, vs => ∃ v r, vs = v :: r ∧ RD K H d v ∧ RDs K H ds r
def RDf (K : PySem.W.Frag) (H : Hp) : List (Str × Dv) → List (Str × V) → Prop
  | [], vs => vs = []
  | (f, d) :: ds, vs => ∃ v r, vs = (f, v) :: r ∧ RD K H d v ∧ RDf K H ds r
def RDk1 (K : PySem.W.Frag) (H : Hp) : List (Key × Dv) → List (Key × V) → Prop
  | [], vs => vs = []
  | (f, d) :: ds, vs => ∃ v r, vs = (f, v) :: r ∧ RD K H d v ∧ RDk1 K H ds r
def RDk2 (K : PySem.W.Frag) (H : Hp) : List (NestedKey × Dv) → List Ent → Prop
  | [], xs => xs = []
  | (k, d) :: ds, xs => ∃ b u v r, xs = (k, b, u) :: r ∧ k.depth ≤ 8 ∧ NkV K H k (.ref b) ∧ RelV v u ∧ RD K H d v ∧ RDk2 K H ds r
end
/-- what stands still, stands -/
def Mutd : Option HO → Prop
  | some (.ext _) => False
  | o => Mut o
theorem Mutd.mut : ∀ {o : Option HO}, Mutd o → Mut o
  | none, h => h
  | some o, h => by
    cases o <;> first | exact h | exact h.elim
/-- no table of code objects -/
def NT (o : HO) : Prop := ∀ ps, o ≠ .tbl ps
theorem nt_lst {xs : List V} : NT (.lst xs) := fun _ z => by cases z
structure Keep (H H' : Hp) : Prop where
  tups : ∀ b xs, H b = some (.tup xs) → H' b = some (.tup xs)
  frzs : ∀ b o u, H b = some (.frz o u) → H' b = some (.frz o u)
  cods : ∀ b q, H b = some (LamX.CodeO b q) → H' b = some (LamX.CodeO b q)
theorem Keep.refl (H : Hp) : Keep H H := ⟨fun _ _ h => h, fun _ _ _ h => h, fun _ _ h => h⟩
theorem Keep.trans {H H1 H2 : Hp} (a : Keep H H1) (b : Keep H1 H2) : Keep H H2 := ⟨fun c x h => b.tups c x (a.tups c x h), fun c o u h => b.frzs c o u (a.frzs c o u h), fun c q h => b.cods c q (a.cods c q h)⟩
theorem Keep.seqT {K : PySem.W.Frag} {H H' : Hp} (k : Keep H H') {a : Addr} {xs : List V} (h : SqT K H a xs) : SqT K H' a xs := by
  rcases h with (h | ⟨o, h⟩) | h
  · exact .inl (.inl (k.tups _ _ h))
  · exact .inl (.inr ⟨o, k.frzs _ _ _ h⟩)
  · exact .inr h
theorem Keep.fz {K : PySem.W.Frag} {H H' : Hp} (k : Keep H H') {a : Addr} {xs : List V} (h : FzL K H a xs) : FzL K H' a xs := by
  rcases h with ⟨o, h⟩ | h
  · exact .inl ⟨o, k.frzs _ _ _ h⟩
  · exact .inr h
theorem Keep.new {H : Hp} {p : Addr} {o : HO} (h : H p = none) : Keep H (upd H p o) :=
  ⟨fun b xs e => by rw [upd_ne (ne_of_none e h)]; exact e, fun b o u e => by rw [upd_ne (ne_of_none e h)]; exact e, fun b q e => by rw [upd_ne (ne_of_none e h)]; exact e⟩
theorem Keep.mut {H : Hp} {p : Addr} {o : HO} (h : Mutd (H p)) : Keep H (upd H p o) :=
  ⟨fun b xs e => by rw [upd_ne (fun z => by subst z; rw [e] at h; exact h)]; exact e, fun b o u e => by rw [upd_ne (fun z => by subst z; rw [e] at h; exact h)]; exact e, fun b q e => by rw [upd_ne (fun z => by subst z; rw [e] at h; exact h)]; exact e⟩
theorem Keep.at' {H : Hp} {p : Addr} {o : HO} {φ : Heap → Prop} (h1 : H p = some (.ext φ)) (h2 : ∀ q, H p ≠ some (LamX.CodeO p q)) : Keep H (upd H p o) :=
  ⟨fun b xs e => by rw [upd_ne (fun z => by rw [z, h1] at e; cases e)]; exact e, fun b o u e => by rw [upd_ne (fun z => by rw [z, h1] at e; cases e)]; exact e, fun b q e => by rw [upd_ne (fun z => by rw [z] at e; exact h2 q e)]; exact e⟩
mutual
theorem NkV.keep {K : PySem.W.Frag} {H H' : Hp} (k : Keep H H') : ∀ {n : NestedKey} {v : V}, NkV K H n v → NkV K H' n v
  | .none, _, h => h
  | .num _, _, h => h
  | .text _, _, h => h
  | .tup ks, v, h => by
    unfold NkV at h ⊢
    obtain ⟨a, vs, e, s, r⟩ := h
    exact ⟨a, vs, e, k.seqT s, NkVs.keep k r⟩
theorem NkVs.keep {K : PySem.W.Frag} {H H' : Hp} (k : Keep H H') : ∀ {ns : List NestedKey} {vs : List V}, NkVs K H ns vs → NkVs K H' ns vs
  | [], _, h => h
  | n :: ns, vs, h => by
    unfold NkVs at h ⊢
    obtain ⟨v, r, e, h1, h2⟩ := h
    exact ⟨v, r, e, NkV.keep k h1, NkVs.keep k h2⟩
end
mutual
theorem RD.keep {K : PySem.W.Frag} {H H' : Hp} (k : Keep H H') : ∀ {d : Dv} {v : V}, RD K H d v → RD K H' d v
  | .non, _, h => h
  | .bl _, _, h => h
  | .int _, _, h => h
  | .str _, _, h => h
  | .ty _, _, h => h
  | .ref _, _, h => h
  | .tup ds, v, h => by
    unfold RD at h ⊢
    obtain ⟨a, vs, e, s, r⟩ := h
    exact ⟨a, vs, e, k.seqT s, RDs.keep k r⟩
  | .lst ds, v, h => by
    unfold RD at h ⊢
    obtain ⟨a, vs, e, s, r⟩ := h
    exact ⟨a, vs, e, k.fz s, RDs.keep k r⟩
  | .obj C fs, v, h => by
    unfold RD at h ⊢
    obtain ⟨a, o, C, dx, vs, e, n, s, r⟩ := h
    exact ⟨a, o, C, dx, vs, e, n, k.frzs _ _ _ s, RDf.keep k r⟩
  | .dct kvs, v, h => by
    unfold RD at h ⊢
    obtain ⟨a, o, vs, e, s, r⟩ := h
    exact ⟨a, o, vs, e, k.frzs _ _ _ s, RDk1.keep k r⟩
  | .dctT w kvs, v, h => by
    unfold RD at h ⊢
    obtain ⟨a, o, vs, e, s, r⟩ := h
    exact ⟨a, o, vs, e, k.frzs _ _ _ s, RDk2.keep k r⟩
theorem RDs.keep {K : PySem.W.Frag} {H H' : Hp} (k : Keep H H') : ∀ {ds : List Dv} {vs : List V}, RDs K H ds vs → RDs K H' ds vs
  | [], _, h => h
  | d :: ds, vs, h => by
    unfold RDs at h ⊢
    obtain ⟨v, r, e, h1, h2⟩ := h
    exact ⟨v, r, e, RD.keep k h1, RDs.keep k h2⟩
theorem RDf.keep {K : PySem.W.Frag} {H H' : Hp} (k : Keep H H') : ∀ {ds : List (Str × Dv)} {vs : List (Str × V)}, RDf K H ds vs → RDf K H' ds vs
  | [], _, h => h
  | (f, d) :: ds, vs, h => by
    unfold RDf at h ⊢
    obtain ⟨v, r, e, h1, h2⟩ := h
    exact ⟨v, r, e, RD.keep k h1, RDf.keep k h2⟩
theorem RDk1.keep {K : PySem.W.Frag} {H H' : Hp} (k : Keep H H') : ∀ {ds : List (Key × Dv)} {vs : List (Key × V)}, RDk1 K H ds vs → RDk1 K H' ds vs
  | [], _, h => h
  | (f, d) :: ds, vs, h => by
    unfold RDk1 at h ⊢
    obtain ⟨v, r, e, h1, h2⟩ := h
    exact ⟨v, r, e, RD.keep k h1, RDk1.keep k h2⟩
theorem RDk2.keep {K : PySem.W.Frag} {H H' : Hp} (k : Keep H H') : ∀ {ds : List (NestedKey × Dv)} {xs : List Ent}, RDk2 K H ds xs → RDk2 K H' ds xs
  | [], _, h => h
  | (f, d) :: ds, xs, h => by
    unfold RDk2 at h ⊢
    obtain ⟨b, u, v, r, e, h0, h1, h2, h3, h4⟩ := h
    exact ⟨b, u, v, r, e, h0, NkV.keep k h1, h2, RD.keep k h3, RDk2.keep k h4⟩
end
section
variable {K : PySem.W.Frag} {H : Hp}
theorem RDs.length : ∀ {ds : List Dv} {vs : List V}, RDs K H ds vs → ds.length = vs.length
  | [], vs, h => by unfold RDs at h; subst h; rfl
  | d :: ds, vs, h => by
    unfold RDs at h
    obtain ⟨v, r, e, h1, h2⟩ := h
    subst e
    rw [List.length_cons, List.length_cons, RDs.length h2]
theorem RDs.nil : RDs K H [] [] := by unfold RDs; rfl
theorem RDs.cons {d : Dv} {v : V} {ds : List Dv} {vs : List V} (h : RD K H d v) (r : RDs K H ds vs) : RDs K H (d :: ds) (v :: vs) := by unfold RDs; exact ⟨v, vs, rfl, h, r⟩
theorem RDs.app : ∀ {ds es : List Dv} {vs ws : List V}, RDs K H ds vs → RDs K H es ws → RDs K H (ds ++ es) (vs ++ ws)
  | [], es, vs, ws, h, h' => by unfold RDs at h; subst h; exact h'
  | d :: ds, es, vs, ws, h, h' => by
    unfold RDs at h
    obtain ⟨v, r, e, h1, h2⟩ := h
    subst e
    exact RDs.cons h1 (RDs.app h2 h')
theorem RDs.get : ∀ {ds : List Dv} {vs : List V} {i : Nat} {d : Dv}, RDs K H ds vs → ds[i]? = some d → ∃ v, vs[i]? = some v ∧ RD K H d v
  | [], vs, i, d, h, e => by simp at e
  | d :: ds, vs, 0, d', h, e => by
    unfold RDs at h
    obtain ⟨v, r, e1, h1, h2⟩ := h
    subst e1
    simp at e
    subst e
    exact ⟨v, rfl, h1⟩
  | d :: ds, vs, i + 1, d', h, e => by
    unfold RDs at h
    obtain ⟨v, r, e1, h1, h2⟩ := h
    subst e1
    obtain ⟨u, hu, ru⟩ := RDs.get (i := i) h2 (by simpa using e)
    exact ⟨u, by simpa using hu, ru⟩
theorem RDs.set {d : Dv} {v : V} (h : RD K H d v) : ∀ {ds : List Dv} {vs : List V} (i : Nat), RDs K H ds vs → RDs K H (ds.set i d) (vs.set i v)
  | [], vs, i, r => by unfold RDs at r; subst r; exact RDs.nil
  | e :: ds, vs, 0, r => by
    unfold RDs at r
    obtain ⟨u, w, e1, h1, h2⟩ := r
    subst e1
    exact RDs.cons h h2
  | e :: ds, vs, i + 1, r => by
    unfold RDs at r
    obtain ⟨u, w, e1, h1, h2⟩ := r
    subst e1
    exact RDs.cons h1 (RDs.set h i h2)
theorem RDs.take : ∀ {ds : List Dv} {vs : List V} (n : Nat), RDs K H ds vs → RDs K H (ds.take n) (vs.take n)
  | ds, vs, 0, _ => by simp; exact RDs.nil
  | [], vs, n + 1, h => by unfold RDs at h; subst h; exact RDs.nil
  | d :: ds, vs, n + 1, h => by
    unfold RDs at h
    obtain ⟨v, r, e, h1, h2⟩ := h
    subst e
    exact RDs.cons h1 (RDs.take n h2)
theorem RDs.drop : ∀ {ds : List Dv} {vs : List V} (n : Nat), RDs K H ds vs → RDs K H (ds.drop n) (vs.drop n)
  | ds, vs, 0, h => h
  | [], vs, n + 1, h => by unfold RDs at h; subst h; exact RDs.nil
  | d :: ds, vs, n + 1, h => by
    unfold RDs at h
    obtain ⟨v, r, e, h1, h2⟩ := h
    subst e
    exact RDs.drop n h2
theorem RDs.reverse : ∀ {ds : List Dv} {vs : List V}, RDs K H ds vs → RDs K H ds.reverse vs.reverse
  | [], vs, h => by unfold RDs at h; subst h; exact RDs.nil
  | d :: ds, vs, h => by
    unfold RDs at h
    obtain ⟨v, r, e, h1, h2⟩ := h
    subst e
    rw [List.reverse_cons, List.reverse_cons]
    exact RDs.app (RDs.reverse h2) (RDs.cons h1 RDs.nil)
theorem RDf.lookup : ∀ {fs : List (Str × Dv)} {vfs : List (Str × V)} {f : Str} {d : Dv}, RDf K H fs vfs → fs.lookup f = some d → ∃ v, vfs.lookup f = some v ∧ RD K H d v
  | [], vs, f, d, h, e => by simp at e
  | (g, d) :: ds, vs, f, d', h, e => by
    unfold RDf at h
    obtain ⟨v, r, e1, h1, h2⟩ := h
    subst e1
    rw [List.lookup_cons] at e ⊢
    cases q : f == g with
    | true =>
      rw [q] at e
      cases e
      exact ⟨v, rfl, h1⟩
    | false =>
      rw [q] at e
      exact RDf.lookup h2 e
theorem RDf.lookup_none : ∀ {fs : List (Str × Dv)} {vfs : List (Str × V)} {f : Str}, RDf K H fs vfs → fs.lookup f = none → vfs.lookup f = none
  | [], vs, f, h, e => by unfold RDf at h; subst h; rfl
  | (g, d) :: ds, vs, f, h, e => by
    unfold RDf at h
    obtain ⟨v, r, e1, h1, h2⟩ := h
    subst e1
    rw [List.lookup_cons] at e ⊢
    cases q : f == g with
    | true =>
      rw [q] at e
      cases e
    | false =>
      rw [q] at e
      exact RDf.lookup_none h2 e
theorem RDf.length : ∀ {ds : List (Str × Dv)} {vs : List (Str × V)}, RDf K H ds vs → ds.length = vs.length
  | [], vs, h => by unfold RDf at h; subst h; rfl
  | (f, d) :: ds, vs, h => by
    unfold RDf at h
    obtain ⟨v, r, e, h1, h2⟩ := h
    subst e
    rw [List.length_cons, List.length_cons, RDf.length h2]
/-- a field stored -/
def putD (f : Str) (v : Dv) : List (Str × Dv) → List (Str × Dv)
  | [] => [(f, v)]
  | (g, u) :: r => if f = g then (g, v) :: r else (g, u) :: putD f v r
end
/-! ### the objects that one owns -/
inductive OO where
  | lst (ds : List Dv) | ins (c : Str) (fs : List (Str × Dv)) | xd (fs : List (Str × Dv)) | dK (kvs : List (Key × Dv)) | dT (w : World) (kvs : List (NestedKey × Dv)) | tab (q : Str)
abbrev Mo := Addr → Option OO
def mup (M : Mo) (a : Addr) (o : OO) : Mo := fun b => if b = a then some o else M b
def mdl (M : Mo) (a : Addr) : Mo := fun b => if b = a then none else M b
theorem mup_same {M : Mo} {a : Addr} {o : OO} : mup M a o a = some o := if_pos rfl
theorem mup_ne {M : Mo} {a b : Addr} {o : OO} (h : b ≠ a) : mup M a o b = M b := if_neg h
theorem mdl_same {M : Mo} {a : Addr} : mdl M a a = none := if_pos rfl
theorem mdl_ne {M : Mo} {a b : Addr} (h : b ≠ a) : mdl M a b = M b := if_neg h
theorem mup_mup {M : Mo} {a : Addr} {o u : OO} : mup (mup M a o) a u = mup M a u := by
  funext b; unfold mup; split <;> rfl
theorem mdl_mup {M : Mo} {a : Addr} {o : OO} (h : M a = none) : mdl (mup M a o) a = M := by
  funext b
  unfold mdl mup
  by_cases e : b = a
  · rw [if_pos e, e, h]
  · rw [if_neg e, if_neg e]
theorem mup_eq {M : Mo} {a : Addr} {o : OO} (h : M a = some o) : mup M a o = M := by
  funext b
  unfold mup
  by_cases e : b = a
  · rw [if_pos e, e, h]
  · rw [if_neg e]
def RDk (K : PySem.W.Frag) (H : Hp) {α : Type} : List (α × Dv) → List (α × V) → Prop
  | [], vs => vs = []
  | (f, d) :: ds, vs => ∃ v r, vs = (f, v) :: r ∧ RD K H d v ∧ RDk K H ds r
theorem RDk.keep {K : PySem.W.Frag} {H H' : Hp} {α : Type} (k : Keep H H') : ∀ {ds : List (α × Dv)} {vs : List (α × V)}, RDk K H ds vs → RDk K H' ds vs
  | [], _, h => h
  | (f, d) :: ds, vs, h => by
    unfold RDk at h ⊢
    obtain ⟨v, r, e, h1, h2⟩ := h
    exact ⟨v, r, e, RD.keep k h1, RDk.keep k h2⟩
theorem rdk1 {K : PySem.W.Frag} {H : Hp} : ∀ {ds : List (Key × Dv)} {vs : List (Key × V)}, RDk1 K H ds vs ↔ RDk K H ds vs
  | [], vs => by unfold RDk1 RDk; exact Iff.rfl
  | (f, d) :: ds, vs => by
    unfold RDk1 RDk
    exact ⟨fun ⟨v, r, e, h1, h2⟩ => ⟨v, r, e, h1, rdk1.mp h2⟩, fun ⟨v, r, e, h1, h2⟩ => ⟨v, r, e, h1, rdk1.mpr h2⟩⟩
/-! dicts whose keys are tuples of any depth -/
mutual
def nkD : NestedKey → Dv
  | .none => .non
  | .num i => .int i
  | .text x => .str x
  | .tup ks => .tup (nkDs ks)
def nkDs : List NestedKey → List Dv
  | [] => []
  | k :: ks => nkD k :: nkDs ks
end
/-- an entry, told -/
def REn (K : PySem.W.Frag) (H : Hp) (p : NestedKey × Dv) (x : Ent) : Prop := p.1 = x.1 ∧ x.1.depth ≤ 8 ∧ RD K H (nkD x.1) (.ref x.2.1) ∧ ∃ v, RelV v x.2.2 ∧ RD K H p.2 v
theorem REn.keep {K : PySem.W.Frag} {H H' : Hp} (k : Keep H H') {p : NestedKey × Dv} {x : Ent} (h : REn K H p x) : REn K H' p x := by
  obtain ⟨h1, h2, h3, v, h4, h5⟩ := h
  exact ⟨h1, h2, h3.keep k, v, h4, h5.keep k⟩
abbrev REs (K : PySem.W.Frag) (H : Hp) : List (NestedKey × Dv) → List Ent → Prop := Paired (REn K H)
theorem REs.keep {K : PySem.W.Frag} {H H' : Hp} (k : Keep H H') {kvs : List (NestedKey × Dv)} {xs : List Ent} (h : REs K H kvs xs) : REs K H' kvs xs := Paired.mapP h fun _ _ e => e.keep k
mutual
theorem nkv_rd {K : PySem.W.Frag} {H : Hp} : ∀ {n : NestedKey} {v : V}, NkV K H n v ↔ RD K H (nkD n) v
  | .none, v => by unfold nkD NkV RD; exact Iff.rfl
  | .num _, v => by unfold nkD NkV RD; exact Iff.rfl
  | .text _, v => by unfold nkD NkV RD; exact Iff.rfl
  | .tup ks, v => by
    unfold nkD NkV RD
    exact ⟨fun ⟨a, vs, e, s, r⟩ => ⟨a, vs, e, s, nkvs_rd.mp r⟩, fun ⟨a, vs, e, s, r⟩ => ⟨a, vs, e, s, nkvs_rd.mpr r⟩⟩
theorem nkvs_rd {K : PySem.W.Frag} {H : Hp} : ∀ {ns : List NestedKey} {vs : List V}, NkVs K H ns vs ↔ RDs K H (nkDs ns) vs
  | [], vs => by unfold nkDs NkVs RDs; exact Iff.rfl
  | n :: ns, vs => by
    unfold nkDs NkVs RDs
    exact ⟨fun ⟨v, r, e, h1, h2⟩ => ⟨v, r, e, nkv_rd.mp h1, nkvs_rd.mp h2⟩, fun ⟨v, r, e, h1, h2⟩ => ⟨v, r, e, nkv_rd.mpr h1, nkvs_rd.mpr h2⟩⟩
end
theorem rdk2 {K : PySem.W.Frag} {H : Hp} : ∀ {ds : List (NestedKey × Dv)} {xs : List Ent}, RDk2 K H ds xs ↔ REs K H ds xs
  | [], xs => by
    unfold RDk2
    exact ⟨fun e => by subst e; exact .nil, fun h => by cases h; rfl⟩
  | (k, d) :: ds, xs => by
    unfold RDk2
    constructor
    · rintro ⟨b, u, v, r, rfl, h0, h1, h2, h3, h4⟩
      exact .cons ⟨rfl, h0, nkv_rd.mp h1, v, h2, h3⟩ (rdk2.mp h4)
    · intro h
      cases h with
      | cons a t =>
        rename_i x ys
        obtain ⟨e1, h0, h1, v, h2, h3⟩ := a
        obtain ⟨x1, b, u⟩ := x
        cases e1
        exact ⟨b, u, v, ys, rfl, h0, nkv_rd.mpr h1, h2, h3, rdk2.mpr t⟩
def Own (K : PySem.W.Frag) (H : Hp) (a : Addr) : OO → Prop
  | .lst ds => ∃ vs, H a = some (.lst vs) ∧ RDs K H ds vs
  | .ins c fs => ∃ C dx vfs, PySem.W.nsIn K mainGlobals c = some (some (.ref C)) ∧ H a = some (.ins C dx vfs) ∧ RDf K H fs vfs
  | .xd fs => ∃ vfs, H a = some (.xd vfs) ∧ RDf K H fs vfs
  | .dK kvs => ∃ vks, H a = some (.dK vks) ∧ RDk K H kvs vks
  | .dT w kvs => ∃ xs, H a = some (dictO w a xs) ∧ REs K H kvs xs
  | .tab q => LamX.TabS H a q
theorem Own.there {K : PySem.W.Frag} {H : Hp} {a : Addr} {o : OO} (h : Own K H a o) : ∃ u, H a = some u := by
  cases o <;> simp only [Own] at h
  · obtain ⟨_, e, _⟩ := h; exact ⟨_, e⟩
  · obtain ⟨_, _, _, _, e, _⟩ := h; exact ⟨_, e⟩
  · obtain ⟨_, e, _⟩ := h; exact ⟨_, e⟩
  · obtain ⟨_, e, _⟩ := h; exact ⟨_, e⟩
  · obtain ⟨_, e, _⟩ := h; exact ⟨_, e⟩
  · obtain ⟨_, e, _⟩ := h; exact ⟨_, e⟩
theorem Own.keep {K : PySem.W.Frag} {H H' : Hp} {a : Addr} {o : OO} (k : Keep H H') (e : H' a = H a) (h : Own K H a o) : Own K H' a o := by
  cases o <;> simp only [Own] at h ⊢ <;> (try rw [e])
  · obtain ⟨x, e, r⟩ := h; exact ⟨x, e, r.keep k⟩
  · obtain ⟨x, y, z, n, e, r⟩ := h; exact ⟨x, y, z, n, e, r.keep k⟩
  · obtain ⟨x, e, r⟩ := h; exact ⟨x, e, r.keep k⟩
  · obtain ⟨x, e, r⟩ := h; exact ⟨x, e, r.keep k⟩
  · obtain ⟨x, e, r⟩ := h; exact ⟨x, e, r.keep k⟩
  · obtain ⟨ps, h1, h2, h3⟩ := h
    refine ⟨ps, e.trans h1, h2, fun pos cv hc => ?_⟩
    obtain ⟨c, e1, e2⟩ := h3 pos cv hc
    exact ⟨c, e1, k.cods _ _ e2⟩
def SR (K : PySem.W.Frag) (M : Mo) (H : Hp) : Prop := ∀ a o, M a = some o → Own K H a o
theorem SR.free {K : PySem.W.Frag} {M : Mo} {H : Hp} (s : SR K M H) {a : Addr} (h : H a = none) : M a = none := by
  cases e : M a with
  | none => rfl
  | some o =>
    obtain ⟨u, q⟩ := (s a o e).there
    rw [h] at q
    cases q
/-- from one moment to a later one: what is not owned stays as it is -/
structure Stp (K : PySem.W.Frag) (M : Mo) (H : Hp) (M' : Mo) (H' : Hp) : Prop where
  keep : Keep H H'
  sr : SR K M' H'
  old : ∀ a o, H a = some o → H' a ≠ none
  same : ∀ a o, H a = some o → NT o → M a = none → H' a = some o ∧ M' a = none
section
variable {K : PySem.W.Frag} {M M1 M2 : Mo} {H H1 H2 : Hp}
theorem Stp.refl (s : SR K M H) : Stp K M H M H := ⟨Keep.refl H, s, fun a o h z => by (rw [h] at z; cases z), fun _ _ h _ n => ⟨h, n⟩⟩
theorem Stp.trans (a : Stp K M H M1 H1) (b : Stp K M1 H1 M2 H2) : Stp K M H M2 H2 := by
  refine ⟨a.keep.trans b.keep, b.sr, fun c o h => ?_, fun c o h nt n => ?_⟩
  · cases e : H1 c with
    | none => exact absurd e (a.old c o h)
    | some o' => exact b.old c o' e
  · obtain ⟨e1, e2⟩ := a.same c o h nt n
    exact b.same c o e1 nt e2
/-- a new object that is tracked, not owned -/
theorem Stp.new0 (s : SR K M H) {p : Addr} {u : HO} (hp : H p = none) : Stp K M H M (upd H p u) := by
  have k : Keep H (upd H p u) := Keep.new hp
  refine ⟨k, fun a o e => ?_, fun a o h => ?_, fun a o h _ n => ⟨by rw [upd_ne (ne_of_none h hp)]; exact h, n⟩⟩
  · obtain ⟨u', hu⟩ := (s a o e).there
    exact (s a o e).keep k (upd_ne (ne_of_none hu hp))
  · rw [upd_ne (ne_of_none h hp), h]
    intro z
    cases z
/-- a new object that is owned -/
theorem Stp.new (s : SR K M H) {p : Addr} {u : HO} {oo : OO} (hp : H p = none) (h : Own K (upd H p u) p oo) : Stp K M H (mup M p oo) (upd H p u) := by
  have k : Keep H (upd H p u) := Keep.new hp
  refine ⟨k, fun a o e => ?_, fun a o h => ?_, fun a o h _ n => ⟨by rw [upd_ne (ne_of_none h hp)]; exact h, by rw [mup_ne (ne_of_none h hp)]; exact n⟩⟩
  · by_cases q : a = p
    · subst q
      rw [mup_same] at e
      cases e
      exact h
    · rw [mup_ne q] at e
      exact (s a o e).keep k (upd_ne q)
  · rw [upd_ne (ne_of_none h hp), h]
    intro z
    cases z
/-- an owned object is changed -/
theorem Stp.set (s : SR K M H) {p : Addr} {u : HO} {oo o1 : OO} (hp : M p = some o1) (hm : Mutd (H p)) (h : Own K (upd H p u) p oo) : Stp K M H (mup M p oo) (upd H p u) := by
  have k : Keep H (upd H p u) := Keep.mut hm
  refine ⟨k, fun a o e => ?_, fun a o h => ?_, fun a o h _ n => ?_⟩
  · by_cases q : a = p
    · subst q
      rw [mup_same] at e
      cases e
      exact h
    · rw [mup_ne q] at e
      exact (s a o e).keep k (upd_ne q)
  · by_cases q : a = p
    · subst q
      rw [upd_same]
      intro z
      cases z
    · rw [upd_ne q, h]
      intro z
      cases z
  · have q : a ≠ p := fun z => by subst z; rw [hp] at n; cases n
    exact ⟨by rw [upd_ne q]; exact h, by rw [mup_ne q]; exact n⟩
/-- a tracked list that is not owned is owned from here on -/
theorem Stp.take (s : SR K M H) {p : Addr} {vs : List V} {ds : List Dv} (hp : H p = some (.lst vs)) (hm : M p = none) (r : RDs K H ds vs) {H0 : Hp} {M0 : Mo} (st : Stp K M0 H0 M H) (h0 : H0 p = none) : Stp K M0 H0 (mup M p (.lst ds)) H := by
  refine ⟨st.keep, fun a o e => ?_, st.old, fun a o h nt n => ?_⟩
  · by_cases q : a = p
    · subst q
      rw [mup_same] at e
      cases e
      simp only [Own]
      exact ⟨vs, hp, r⟩
    · rw [mup_ne q] at e
      exact s a o e
  · obtain ⟨e1, e2⟩ := st.same a o h nt n
    refine ⟨e1, ?_⟩
    rw [mup_ne (ne_of_none h h0)]
    exact e2
end
/-! ### the readings over data -/
abbrev StD := List (Option Dv)
abbrev QD := Dv → Mo → Prop
abbrev TED := StD → Mo → QD → Prop
abbrev TTD := StD → Mo → (Bool → Mo → Prop) → Prop
abbrev TAD := StD → Mo → (List Dv → Mo → Prop) → Prop
structure EndsD where
  nx : StD → Mo → Prop
  rt : QD
  bk : StD → Mo → Prop := fun _ _ => False
  ct : StD → Mo → Prop := fun _ _ => False
abbrev TSD := EndsD → StD → Mo → Prop
def Rs (K : PySem.W.Frag) (H : Hp) (sd : StD) (σ : St) : Prop := sd.length = σ.length ∧ ∀ (i : Nat) (d : Dv), sd[i]? = some (some d) → ∃ v, σ[i]? = some (some v) ∧ RD K H d v
section
variable {K : PySem.W.Frag} {H H' : Hp} {sd : StD} {σ : St}
theorem Rs.keep (k : Keep H H') (r : Rs K H sd σ) : Rs K H' sd σ := ⟨r.1, fun i d e => let ⟨v, h, q⟩ := r.2 i d e; ⟨v, h, q.keep k⟩⟩
theorem Rs.set {d : Dv} {v : V} (r : Rs K H sd σ) (q : RD K H d v) (i : Nat) : Rs K H (sd.set i (some d)) (σ.set i (some v)) := by
  refine ⟨by rw [List.length_set, List.length_set, r.1], fun j e h => ?_⟩
  by_cases c : i = j
  · subst c
    by_cases l : i < sd.length
    · rw [List.getElem?_set_self l] at h
      cases h
      exact ⟨v, List.getElem?_set_self (by rw [← r.1]; exact l), q⟩
    · rw [List.getElem?_eq_none (by rw [List.length_set]; omega)] at h
      cases h
  · rw [List.getElem?_set_ne c] at h
    obtain ⟨w, hw, qw⟩ := r.2 j e h
    exact ⟨w, by rw [List.getElem?_set_ne c]; exact hw, qw⟩
theorem Rs.setN (r : Rs K H sd σ) (o : Option V) (i : Nat) : Rs K H (sd.set i none) (σ.set i o) := by
  refine ⟨by rw [List.length_set, List.length_set, r.1], fun j e h => ?_⟩
  by_cases c : i = j
  · subst c
    by_cases l : i < sd.length
    · rw [List.getElem?_set_self l] at h
      cases h
    · rw [List.getElem?_eq_none (by rw [List.length_set]; omega)] at h
      cases h
  · rw [List.getElem?_set_ne c] at h
    obtain ⟨w, hw, qw⟩ := r.2 j e h
    exact ⟨w, by rw [List.getElem?_set_ne c]; exact hw, qw⟩
end
/-- what holds of the end: values -/
def Ct (K : PySem.W.Frag) (M : Mo) (H : Hp) (Qd : QD) (Q : VK) : Prop := ∀ d M' v H', Stp K M H M' H' → RD K H' d v → Qd d M' → Q v H'
def CtB (K : PySem.W.Frag) (M : Mo) (H : Hp) (Qd : Bool → Mo → Prop) (Q : Bool → Hp → Prop) : Prop := ∀ b M' H', Stp K M H M' H' → Qd b M' → Q b H'
def CtA (K : PySem.W.Frag) (M : Mo) (H : Hp) (Qd : List Dv → Mo → Prop) (Q : List V → Hp → Prop) : Prop := ∀ ds M' vs H', Stp K M H M' H' → RDs K H' ds vs → Qd ds M' → Q vs H'
structure CtS (K : PySem.W.Frag) (M : Mo) (H : Hp) (Dd : EndsD) (Dn : Ends) : Prop where
  nx : ∀ sd M' σ H', Stp K M H M' H' → Rs K H' sd σ → Dd.nx sd M' → Dn.nx σ H'
  rt : Ct K M H Dd.rt Dn.rt
  bk : ∀ sd M' σ H', Stp K M H M' H' → Rs K H' sd σ → Dd.bk sd M' → Dn.bk σ H'
  ct : ∀ sd M' σ H', Stp K M H M' H' → Rs K H' sd σ → Dd.ct sd M' → Dn.ct σ H'
section
variable {K : PySem.W.Frag} {M M1 : Mo} {H H1 : Hp}
theorem Ct.on {Qd : QD} {Q : VK} (c : Ct K M H Qd Q) (s : Stp K M H M1 H1) : Ct K M1 H1 Qd Q := fun d M' v H' s' r q => c d M' v H' (s.trans s') r q
theorem CtB.on {Qd : Bool → Mo → Prop} {Q : Bool → Hp → Prop} (c : CtB K M H Qd Q) (s : Stp K M H M1 H1) : CtB K M1 H1 Qd Q := fun d M' H' s' q => c d M' H' (s.trans s') q
theorem CtA.on {Qd : List Dv → Mo → Prop} {Q : List V → Hp → Prop} (c : CtA K M H Qd Q) (s : Stp K M H M1 H1) : CtA K M1 H1 Qd Q := fun d M' v H' s' r q => c d M' v H' (s.trans s') r q
theorem CtS.on {Dd : EndsD} {Dn : Ends} (c : CtS K M H Dd Dn) (s : Stp K M H M1 H1) : CtS K M1 H1 Dd Dn :=
  ⟨fun sd M' σ H' s' r q => c.nx sd M' σ H' (s.trans s') r q, c.rt.on s, fun sd M' σ H' s' r q => c.bk sd M' σ H' (s.trans s') r q, fun sd M' σ H' s' r q => c.ct sd M' σ H' (s.trans s') r q⟩
end
/-- where a reading begins: M0, H0 the entry of the def -/
structure At (K : PySem.W.Frag) (M0 : Mo) (H0 : Hp) (sd : StD) (M : Mo) (σ : St) (H : Hp) : Prop where
  st : Stp K M0 H0 M H
  rs : Rs K H sd σ
theorem At.on {K : PySem.W.Frag} {M0 M M1 : Mo} {H0 H H1 : Hp} {sd : StD} {σ : St} (a : At K M0 H0 sd M σ H) (s : Stp K M H M1 H1) : At K M0 H0 sd M1 σ H1 := ⟨a.st.trans s, a.rs.keep s.keep⟩
theorem At.here {K : PySem.W.Frag} {M0 M : Mo} {H0 H : Hp} {sd : StD} {σ : St} (a : At K M0 H0 sd M σ H) : Stp K M H M H := Stp.refl a.st.sr
def LE (K : PySem.W.Frag) (M0 : Mo) (H0 : Hp) (t : TED) : TE := fun σ H Q => ∃ sd M Qd, At K M0 H0 sd M σ H ∧ t sd M Qd ∧ Ct K M H Qd Q
def LT (K : PySem.W.Frag) (M0 : Mo) (H0 : Hp) (t : TTD) : TT := fun σ H Q => ∃ sd M Qd, At K M0 H0 sd M σ H ∧ t sd M Qd ∧ CtB K M H Qd Q
def LA (K : PySem.W.Frag) (M0 : Mo) (H0 : Hp) (t : TAD) : TA := fun σ H Q => ∃ sd M Qd, At K M0 H0 sd M σ H ∧ t sd M Qd ∧ CtA K M H Qd Q
def LS (K : PySem.W.Frag) (M0 : Mo) (H0 : Hp) (t : TSD) : TS := fun Dn σ H => ∃ sd M Dd, At K M0 H0 sd M σ H ∧ t Dd sd M ∧ CtS K M H Dd Dn
theorem PE.imp {X : Cx} {e : Expr} {t t' : TE} (h : PE X e t) (w : ∀ σ H Q, t' σ H Q → t σ H Q) : PE X e t' := ⟨fun pins s σ H Q I q => h.run pins s σ H Q I (w _ _ _ q)⟩
theorem PT.imp {X : Cx} {e : Expr} {t t' : TT} (h : PT X e t) (w : ∀ σ H Q, t' σ H Q → t σ H Q) : PT X e t' := ⟨fun pins s σ H Q I q => h.run pins s σ H Q I (w _ _ _ q)⟩
theorem PW.imp {X : Cx} {e : Expr} {t t' : TT} (h : PW X e t) (w : ∀ σ H Q, t' σ H Q → t σ H Q) : PW X e t' := ⟨fun wh pins s σ H Q I q => h.run wh pins s σ H Q I (w _ _ _ q)⟩
theorem PA.imp {X : Cx} {e : List Expr} {t t' : TA} (h : PA X e t) (w : ∀ σ H Q, t' σ H Q → t σ H Q) : PA X e t' := ⟨fun pos pins s σ H Q I q => h.run pos pins s σ H Q I (w _ _ _ q)⟩
theorem PS.imp {X : Cx} {e : Stmt} {t t' : TS} (h : PS X e t) (w : ∀ D σ H, t' D σ H → t D σ H) : PS X e t' := ⟨fun pins s σ H D I q => h.run pins s σ H D I (w _ _ _ q)⟩
theorem PSs.imp {X : Cx} {e : List Stmt} {t t' : TS} (h : PSs X e t) (w : ∀ D σ H, t' D σ H → t D σ H) : PSs X e t' := ⟨fun pins s σ H D I q => h.run pins s σ H D I (w _ _ _ q)⟩
/-- the judgements over data: M, H the def's entry -/
abbrev PEd (X : Cx) (M : Mo) (H : Hp) (e : Expr) (t : TED) : Prop := PE X e (LE X.K M H t)
abbrev PTd (X : Cx) (M : Mo) (H : Hp) (e : Expr) (t : TTD) : Prop := PT X e (LT X.K M H t)
abbrev PWd (X : Cx) (M : Mo) (H : Hp) (e : Expr) (t : TTD) : Prop := PW X e (LT X.K M H t)
abbrev PAd (X : Cx) (M : Mo) (H : Hp) (e : List Expr) (t : TAD) : Prop := PA X e (LA X.K M H t)
abbrev PSd (X : Cx) (M : Mo) (H : Hp) (e : Stmt) (t : TSD) : Prop := PS X e (LS X.K M H t)
abbrev PSsd (X : Cx) (M : Mo) (H : Hp) (e : List Stmt) (t : TSD) : Prop := PSs X e (LS X.K M H t)
section
variable {X : Cx} {M0 : Mo} {H0 : Hp}
/-! ### names, constants -/
def dVar (i : Nat) : TED := fun sd M Q => match sd[i]? with
  | some (some d) => Q d M
  | _ => False
def dC (d : Dv) : TED := fun _ M Q => Q d M
theorem dv (i : Nat) {x : Str} {pos : Pos} (hN : X.N[i]? = some x := by rfl) (hv : Vis X.env.scope x := by first | exact Or.inl rfl | exact Or.inr (Or.inl rfl) | exact Or.inr (Or.inr rfl)) (hd : (x == ("__debug__" : Str)) = false := by decide)
    (hcd : (x == ("__classdict__" : Str)) = false := by decide) : PEd X M0 H0 (.Name x pos) (dVar i) :=
  PE.imp (pe_var hN hv hd hcd) fun σ H Q ⟨sd, M, Qd, a, h, c⟩ => by
    unfold dVar at h
    split at h
    · rename_i d e
      obtain ⟨v, hv, rv⟩ := a.rs.2 i d e
      exact ⟨v, hv, c d M v H a.here rv h⟩
    · exact h.elim
theorem PE.const {e : Expr} {v : V} {d : Dv} (h : PE X e (tC v)) (r : ∀ H, RD X.K H d v) : PEd X M0 H0 e (dC d) :=
  PE.imp h fun σ H Q ⟨sd, M, Qd, a, h, c⟩ => c d M v H a.here (r H) h
theorem de_int {i j pos} : PEd X M0 H0 (.Constant (.int i) j pos) (dC (.int i)) := PE.const pe_int fun _ => by unfold RD; rfl
theorem de_bl {b j pos} : PEd X M0 H0 (.Constant (.bool b) j pos) (dC (.bl b)) := PE.const pe_bl fun _ => by unfold RD; rfl
theorem de_non {j pos} : PEd X M0 H0 (.Constant .none j pos) (dC .non) := PE.const pe_non fun _ => by unfold RD; rfl
theorem de_str {x j pos} : PEd X M0 H0 (.Constant (.str x) j pos) (dC (.str x)) := PE.const pe_str fun _ => by unfold RD; rfl
/-- a module's constant -/
theorem de_globI {x : Str} {i : Int} {t : Tok} {pos : Pos} (hg : Gl X x) (hm : X.mg x = some (.int i t)) (hd : (x == ("__debug__" : Str)) = false := by decide) : PEd X M0 H0 (.Name x pos) (dC (.int i)) := PE.const (pe_glob (v := .int i) hg hm ⟨t, rfl⟩ hd) fun _ => by unfold RD; rfl
theorem de_globS {x z : Str} {t : Tok} {pos : Pos} (hg : Gl X x) (hm : X.mg x = some (.str z t)) (hd : (x == ("__debug__" : Str)) = false := by decide) : PEd X M0 H0 (.Name x pos) (dC (.str z)) := PE.const (pe_glob (v := .str z) hg hm ⟨t, rfl⟩ hd) fun _ => by unfold RD; rfl
theorem de_bltn {x : Str} {n : String} {pos : Pos} (hg : Gl X x) (hm : X.mg x = none) (hv : bootBuiltins x = some (.type n)) (hn : x ≠ "__name__" := by decide) (hd : (x == ("__debug__" : Str)) = false := by decide) : PEd X M0 H0 (.Name x pos) (dC (.ty n)) := PE.const (pe_bltn (v := .ty n) hg hm hv rfl hn hd) fun _ => by unfold RD; rfl
/-! ### operators by values -/
abbrev R2d := Dv → Dv → Mo → QD → Prop
def L2op (K : PySem.W.Frag) (rd : R2d) : R2 := fun x y H Q => ∃ d e M Qd, RD K H d x ∧ RD K H e y ∧ SR K M H ∧ rd d e M Qd ∧ Ct K M H Qd Q
def dOp (rd : R2d) (ta tb : TED) : TED := fun sd M Q => ta sd M fun d M1 => tb sd M1 fun e M2 => rd d e M2 Q
theorem two_imp {ta tb : TED} {rd : R2d} {r : R2} (hr : ∀ x y H Q, L2op X.K rd x y H Q → r x y H Q) : ∀ σ H Q, LE X.K M0 H0 (dOp rd ta tb) σ H Q → tOp r (LE X.K M0 H0 ta) (LE X.K M0 H0 tb) σ H Q := fun σ H Q ⟨sd, M, Qd, a, h, c⟩ =>
  ⟨sd, M, _, a, h, fun d M1 v H1 s1 r1 h1 => ⟨sd, M1, _, a.on s1, h1, fun e M2 u H2 s2 r2 h2 => hr _ _ _ _ ⟨d, e, M2, Qd, r1.keep s2.keep, r2, s2.sr, h2, c.on (s1.trans s2)⟩⟩⟩
section
variable {a b : Expr} {ta tb : TED} {pos : Pos}
theorem de_op {op : Operator} {rd : R2d} (ho : OpR X (binaryOp op) (L2op X.K rd)) (ha : PEd X M0 H0 a ta) (hb : PEd X M0 H0 b tb) : PEd X M0 H0 (.BinOp a op b pos) (dOp rd ta tb) :=
  PE.imp (pe_op ho ha hb) (two_imp fun _ _ _ _ h => h)
theorem de_cmp {op : CmpOp} {rd : R2d} (ho : OpR X (compareOp op) (L2op X.K rd)) (ha : PEd X M0 H0 a ta) (hb : PEd X M0 H0 b tb) (hm : behindInMarks op b = false) : PEd X M0 H0 (.Compare a [op] [b] pos) (dOp rd ta tb) :=
  PE.imp (pe_cmpR ho ha hb hm) (two_imp fun _ _ _ _ h => h)
end
end
end DL
namespace DL
open PySem PySem.Spec PyProof.Rows L2
section
variable {X : Cx} {M0 : Mo} {H0 : Hp}
/-! ### sequences by values -/
def seqL (M : Mo) : Dv → Option (List Dv)
  | .lst ds => some ds
  | .ref a => match M a with
    | some (.lst ds) => some ds
    | _ => none
  | _ => none
def seqT : Dv → Option (List Dv)
  | .tup ds => some ds
  | _ => none
theorem seqL_ok {K : PySem.W.Frag} {M : Mo} {H : Hp} {d : Dv} {v : V} {ds : List Dv} (s : SR K M H) (r : RD K H d v) (h : seqL M d = some ds) : ∃ a vs, v = .ref a ∧ SqL K H a vs ∧ RDs K H ds vs := by
  unfold seqL at h
  split at h
  · cases h
    unfold RD at r
    obtain ⟨a, vs, e, f, q⟩ := r
    exact ⟨a, vs, e, f.seq, q⟩
  · rename_i a
    split at h
    · rename_i ds' e
      cases h
      unfold RD at r
      have o := s a _ e
      simp only [Own] at o
      obtain ⟨vs, hv, q⟩ := o
      exact ⟨a, vs, r, .inl (.inl hv), q⟩
    · cases h
  · cases h
theorem seqT_ok {K : PySem.W.Frag} {H : Hp} {d : Dv} {v : V} {ds : List Dv} (r : RD K H d v) (h : seqT d = some ds) : ∃ a vs, v = .ref a ∧ SqT K H a vs ∧ RDs K H ds vs := by
  unfold seqT at h
  split at h
  · cases h
    unfold RD at r
    exact r
  · cases h
/-! ### operators on ints and texts -/
theorem add_seqs {prog : Program} {w : World} {A : Around} {E : Value → Shared → Prop} {s : Shared} {l b : Addr} {vs ws : List Value} {Q : Value → Shared → Prop} (hl : s.heap.IsList l vs.toArray) (hb : s.heap.IsList b ws.toArray)
    (h : Q (.ref s.heap.objs.size) { s with heap := s.heap.push { cls := .type "list", data := .seq (vs ++ ws).toArray } }) (hsz : vs.length + ws.length ≤ sizeLine) : wpAny (model prog w) A (binaryOp .Add (.ref l) (.ref b)) Q E s := by
  obtain ⟨⟨cls, dd, data, sl⟩, ho, hc, n, hd⟩ := id hl
  obtain ⟨⟨cls2, dd2, data2, sl2⟩, ho2, hc2, n2, hd2⟩ := id hb
  simp only at hc hd hc2 hd2
  subst hc hd hc2 hd2
  have e : vs.toArray ++ ws.toArray = (vs ++ ws).toArray := by simp
  refine concat_meets ⟨_, ho, rfl⟩ ⟨_, ho2, rfl⟩ noFill_list_add seq_list_add PySem.F.slot_list_add PySem.F.entry_list_add (PySem.F.args_list_add_2 _ _) (list_addW l b vs.toArray ws.toArray n n2 dd dd2 sl sl2 (by simpa using hsz)) ⟨ho, ho2, ?_⟩
  rw [e]
  exact h
theorem op_catL : OpR X (binaryOp .Add) (fun x y H Q => ∃ l b xs zs, x = .ref l ∧ y = .ref b ∧ SqL X.K H l xs ∧ SqL X.K H b zs ∧ xs.length + zs.length ≤ sizeLine ∧ ∀ p, H p = none → Q (.ref p) (upd H p (.lst (xs ++ zs)))) := by
  intro pins s σ H x y v u Q I rx ry h
  obtain ⟨l, b, xs, zs, rfl, rfl, hH, hB, hz, q⟩ := h
  cases rx
  cases ry
  obtain ⟨its, r, p, _⟩ := I.list hH
  obtain ⟨its2, r2, p2, _⟩ := I.list hB
  have e1 := r.length
  have e2 := r2.length
  refine add_seqs p.isList p2.isList ?_ (by omega)
  exact ⟨.ref _, _, I.lnew (t' := s.toks) (r.append r2) (by rw [List.length_append]; omega), rfl, q _ I.fresh⟩
def dAdd : R2d := fun d e M Q => match d, e with
  | .int i, .int j => Q (.int (i + j)) M
  | .str x, .str y => x.length + y.length ≤ 16777216 ∧ Q (.str (x ++ y)) M
  | d, e => match seqL M d, seqL M e with
    | some xs, some ys => xs.length + ys.length ≤ 16777216 ∧ ∀ p, M p = none → Q (.ref p) (mup M p (.lst (xs ++ ys)))
    | _, _ => False
/-- from ints -/
theorem RD.int_of {K : PySem.W.Frag} {H : Hp} {i : Int} {v : V} (r : RD K H (.int i) v) : v = .int i := by unfold RD at r; exact r
theorem RD.str_of {K : PySem.W.Frag} {H : Hp} {i : Str} {v : V} (r : RD K H (.str i) v) : v = .str i := by unfold RD at r; exact r
theorem RD.bl_of {K : PySem.W.Frag} {H : Hp} {i : Bool} {v : V} (r : RD K H (.bl i) v) : v = .bl i := by unfold RD at r; exact r
theorem RD.non_of {K : PySem.W.Frag} {H : Hp} {v : V} (r : RD K H .non v) : v = .non := by unfold RD at r; exact r
theorem RD.ref_of {K : PySem.W.Frag} {H : Hp} {a : Addr} {v : V} (r : RD K H (.ref a) v) : v = .ref a := by unfold RD at r; exact r
theorem RD.int {K : PySem.W.Frag} {H : Hp} {i : Int} : RD K H (.int i) (.int i) := by unfold RD; rfl
theorem RD.str {K : PySem.W.Frag} {H : Hp} {i : Str} : RD K H (.str i) (.str i) := by unfold RD; rfl
theorem RD.bl {K : PySem.W.Frag} {H : Hp} {i : Bool} : RD K H (.bl i) (.bl i) := by unfold RD; rfl
theorem RD.non {K : PySem.W.Frag} {H : Hp} : RD K H .non .non := by unfold RD; rfl
theorem RD.ref {K : PySem.W.Frag} {H : Hp} {a : Addr} : RD K H (.ref a) (.ref a) := by unfold RD; rfl
theorem line_eq : (16777216 : Nat) = sizeLine := sizeLine_eq.symm
/-- by ints: a rule -/
theorem opd_I {f : Value → Value → Sem Value} {r : R2} {rd : R2d} (h : OpR X f r) (w : ∀ d e M Qd x y H Q, RD X.K H d x → RD X.K H e y → SR X.K M H → rd d e M Qd → Ct X.K M H Qd Q → r x y H Q) : OpR X f (L2op X.K rd) :=
  fun pins s σ H x y v u Q I rx ry ⟨d, e, M, Qd, r1, r2, sr, q, c⟩ => h pins s σ H x y v u Q I rx ry (w d e M Qd x y H Q r1 r2 sr q c)
theorem od_add : OpR X (binaryOp .Add) (L2op X.K dAdd) := by
  refine opd_I (r := fun x y H Q => rI0 (fun i j => .int (i + j)) x y H Q ∨ (∃ i j, x = .str i ∧ y = .str j ∧ i.length + j.length ≤ sizeLine ∧ Q (.str (i ++ j)) H) ∨ (∃ l b xs zs, x = .ref l ∧ y = .ref b ∧ SqL X.K H l xs ∧ SqL X.K H b zs ∧ xs.length + zs.length ≤ sizeLine ∧ ∀ p, H p = none → Q (.ref p) (upd H p (.lst (xs ++ zs)))))
    (op_add.or (op_add_str.or op_catL)) fun d e M Qd x y H Q r1 r2 sr q c => ?_
  unfold dAdd at q
  split at q
  · exact .inl ⟨_, _, r1.int_of, r2.int_of, c _ M _ H (.refl sr) .int q⟩
  · exact .inr (.inl ⟨_, _, r1.str_of, r2.str_of, by rw [← line_eq]; exact q.1, c _ M _ H (.refl sr) .str q.2⟩)
  · split at q
    · rename_i xs ys h1 h2
      obtain ⟨a, vs, e1, s1, d1⟩ := seqL_ok sr r1 h1
      obtain ⟨b, ws, e2, s2, d2⟩ := seqL_ok sr r2 h2
      obtain ⟨hz, q⟩ := q
      refine .inr (.inr ⟨a, b, vs, ws, e1, e2, s1, s2, by rw [← d1.length, ← d2.length, ← line_eq]; exact hz, fun p hp => ?_⟩)
      have k : Keep H (upd H p (.lst (vs ++ ws))) := Keep.new hp
      exact c _ _ _ _ (Stp.new sr hp (by simp only [Own]; exact ⟨_, upd_same, (d1.keep k).app (d2.keep k)⟩)) .ref (q p (sr.free hp))
    · exact q.elim
/-- two ints, a condition, a value -/
def dI (C : Int → Int → Prop) (g : Int → Int → Dv) : R2d := fun d e M Q => match d, e with
  | .int i, .int j => C i j ∧ Q (g i j) M
  | _, _ => False
def dI0 (g : Int → Int → Dv) : R2d := fun d e M Q => match d, e with
  | .int i, .int j => Q (g i j) M
  | _, _ => False
theorem od_I {f : Value → Value → Sem Value} {C : Int → Int → Prop} {g : Int → Int → Dv} {g' : Int → Int → V} (h : OpR X f (rI C g')) (hg : ∀ i j H, RD X.K H (g i j) (g' i j)) : OpR X f (L2op X.K (dI C g)) :=
  opd_I h fun d e M Qd x y H Q r1 r2 sr q c => by
    unfold dI at q
    split at q
    · exact ⟨_, _, r1.int_of, r2.int_of, q.1, c _ M _ H (.refl sr) (hg _ _ _) q.2⟩
    · exact q.elim
theorem od_I0 {f : Value → Value → Sem Value} {g : Int → Int → Dv} {g' : Int → Int → V} (h : OpR X f (rI0 g')) (hg : ∀ i j H, RD X.K H (g i j) (g' i j)) : OpR X f (L2op X.K (dI0 g)) :=
  opd_I h fun d e M Qd x y H Q r1 r2 sr q c => by
    unfold dI0 at q
    split at q
    · exact ⟨_, _, r1.int_of, r2.int_of, c _ M _ H (.refl sr) (hg _ _ _) q⟩
    · exact q.elim
abbrev dSub : R2d := dI0 fun i j => .int (i - j)
abbrev dFdiv : R2d := dI CDivW fun i j => .int (i / j)
abbrev dMod : R2d := dI (fun _ j => 0 < j) fun i j => .int (i % j)
abbrev dPow : R2d := dI CPow fun i j => .int (i ^ j.toNat)
theorem od_sub : OpR X (binaryOp .Sub) (L2op X.K dSub) := od_I0 op_sub fun _ _ _ => .int
theorem od_fdiv : OpR X (binaryOp .FloorDiv) (L2op X.K dFdiv) := od_I op_fdivW fun _ _ _ => .int
theorem od_mod : OpR X (binaryOp .Mod) (L2op X.K dMod) := od_I op_mod fun _ _ _ => .int
theorem od_pow : OpR X (binaryOp .Pow) (L2op X.K dPow) := od_I op_pow fun _ _ _ => .int
theorem od_lt : OpR X (compareOp .Lt) (L2op X.K (dI0 fun i j => .bl (decide (i < j)))) := od_I0 op_lt fun _ _ _ => .bl
theorem od_le : OpR X (compareOp .LtE) (L2op X.K (dI0 fun i j => .bl (decide (i ≤ j)))) := od_I0 op_le fun _ _ _ => .bl
theorem od_gt : OpR X (compareOp .Gt) (L2op X.K (dI0 fun i j => .bl (decide (j < i)))) := od_I0 op_gt fun _ _ _ => .bl
theorem od_ge : OpR X (compareOp .GtE) (L2op X.K (dI0 fun i j => .bl (decide (j ≤ i)))) := od_I0 op_ge fun _ _ _ => .bl
/-! ### == over data -/
mutual
/-- data as the library's data (lists that are owned: of the first rank) -/
def pyD : Dv → Option PyData
  | .non => some .none
  | .bl b => some (.bool b)
  | .int i => some (.int i)
  | .str x => some (.str x)
  | .tup ds => (pyDs ds).map .tuple
  | .lst ds => (pyDs ds).map .list
  | _ => none
def pyDs : List Dv → Option (List PyData)
  | [] => some []
  | d :: ds => match pyD d, pyDs ds with
    | some p, some ps => some (p :: ps)
    | _, _ => none
end
def pyM (M : Mo) : Dv → Option PyData
  | .ref a => match M a with
    | some (.lst ds) => (pyDs ds).map .list
    | _ => none
  | d => pyD d
mutual
theorem pyD_ok {K : PySem.W.Frag} {H : Hp} : ∀ {d : Dv} {v : V} {p : PyData}, RD K H d v → pyD d = some p → Dp K H v p
  | .non, v, p, r, h => by unfold pyD at h; cases h; rw [r.non_of]; exact .non
  | .bl b, v, p, r, h => by unfold pyD at h; cases h; rw [r.bl_of]; exact .bl b
  | .int i, v, p, r, h => by unfold pyD at h; cases h; rw [r.int_of]; exact .int i
  | .str i, v, p, r, h => by unfold pyD at h; cases h; rw [r.str_of]; exact .str i
  | .tup ds, v, p, r, h => by
    unfold pyD at h
    unfold RD at r
    obtain ⟨a, vs, rfl, s, q⟩ := r
    cases e : pyDs ds with
    | none => rw [e] at h; cases h
    | some ps =>
      rw [e] at h
      cases h
      exact .tup s (pyDs_ok q e)
  | .lst ds, v, p, r, h => by
    unfold pyD at h
    unfold RD at r
    obtain ⟨a, vs, rfl, s, q⟩ := r
    cases e : pyDs ds with
    | none => rw [e] at h; cases h
    | some ps =>
      rw [e] at h
      cases h
      exact .lst s.seq (pyDs_ok q e)
  | .ty _, v, p, r, h => by unfold pyD at h; cases h
  | .ref _, v, p, r, h => by unfold pyD at h; cases h
  | .obj _ _, v, p, r, h => by unfold pyD at h; cases h
  | .dct _, v, p, r, h => by unfold pyD at h; cases h
  | .dctT _ _, v, p, r, h => by unfold pyD at h; cases h
theorem pyDs_ok {K : PySem.W.Frag} {H : Hp} : ∀ {ds : List Dv} {vs : List V} {ps : List PyData}, RDs K H ds vs → pyDs ds = some ps → DpAll K H vs ps
  | [], vs, ps, r, h => by unfold pyDs at h; cases h; unfold RDs at r; subst r; exact .nil
  | d :: ds, vs, ps, r, h => by
    unfold RDs at r
    obtain ⟨v, w, rfl, r1, r2⟩ := r
    unfold pyDs at h
    split at h
    · rename_i p qs e1 e2
      cases h
      exact .cons (pyD_ok r1 e1) (pyDs_ok r2 e2)
    · cases h
end
theorem pyM_ok {K : PySem.W.Frag} {M : Mo} {H : Hp} {d : Dv} {v : V} {p : PyData} (s : SR K M H) (r : RD K H d v) (h : pyM M d = some p) : Dp K H v p := by
  unfold pyM at h
  split at h
  · rename_i a
    split at h
    · rename_i ds e
      have o := s a _ e
      simp only [Own] at o
      obtain ⟨vs, hv, q⟩ := o
      rw [r.ref_of]
      cases e2 : pyDs ds with
      | none => rw [e2] at h; cases h
      | some ps =>
        rw [e2] at h
        cases h
        exact .lst (.inl (.inl hv)) (pyDs_ok q e2)
    · cases h
  · exact pyD_ok r h
/-- d == e -/
def dEq : R2d := fun d e M Q => match d, e with
  | .int i, .int j => Q (.bl (decide (i = j))) M
  | .str i, .str j => Q (.bl (decide (i = j))) M
  | .bl i, .bl j => Q (.bl (decide (i = j))) M
  | d, e => match pyM M d, pyM M e with
    | some p, some q => SeqAt.shaped p = true ∧ SeqAt.shaped q = true ∧ Q (.bl (PyData.eqv p q)) M
    | _, _ => False
def dNe : R2d := fun d e M Q => match d, e with
  | .int i, .int j => Q (.bl (!decide (i = j))) M
  | .str i, .str j => Q (.bl (!decide (i = j))) M
  | .bl i, .bl j => Q (.bl (!decide (i = j))) M
  | d, e => match pyM M d, pyM M e with
    | some p, some q => SeqAt.shaped p = true ∧ SeqAt.shaped q = true ∧ Q (.bl (!PyData.eqv p q)) M
    | _, _ => False
theorem od_eq (hu : X.A.units + 64 < cLine) : OpR X (compareOp .Eq) (L2op X.K dEq) := by
  refine opd_I (op_eq.or (op_eqD hu)) fun d e M Qd x y H Q r1 r2 sr q c => ?_
  unfold dEq at q
  split at q
  · exact .inl ⟨by rw [r1.int_of, r2.int_of]; rfl, by rw [r1.int_of, r2.int_of]; rw [dec_int, ← Bool.beq_eq_decide_eq] at *; exact c _ M _ H (.refl sr) .bl q⟩
  · exact .inl ⟨by rw [r1.str_of, r2.str_of]; rfl, by rw [r1.str_of, r2.str_of]; rw [dec_str, ← Bool.beq_eq_decide_eq] at *; exact c _ M _ H (.refl sr) .bl q⟩
  · exact .inl ⟨by rw [r1.bl_of, r2.bl_of]; rfl, by rw [r1.bl_of, r2.bl_of]; rw [dec_bl, ← Bool.beq_eq_decide_eq] at *; exact c _ M _ H (.refl sr) .bl q⟩
  · split at q
    · rename_i p p' e1 e2
      exact .inr ⟨_, _, pyM_ok sr r1 e1, pyM_ok sr r2 e2, q.1, q.2.1, c _ M _ H (.refl sr) .bl q.2.2⟩
    · exact q.elim
theorem od_ne (hu : X.A.units + 64 < cLine) : OpR X (compareOp .NotEq) (L2op X.K dNe) := by
  refine opd_I (op_ne.or (op_neD hu)) fun d e M Qd x y H Q r1 r2 sr q c => ?_
  unfold dNe at q
  split at q
  · exact .inl ⟨by rw [r1.int_of, r2.int_of]; rfl, by rw [r1.int_of, r2.int_of]; rw [dec_int, ← Bool.beq_eq_decide_eq] at *; exact c _ M _ H (.refl sr) .bl q⟩
  · exact .inl ⟨by rw [r1.str_of, r2.str_of]; rfl, by rw [r1.str_of, r2.str_of]; rw [dec_str, ← Bool.beq_eq_decide_eq] at *; exact c _ M _ H (.refl sr) .bl q⟩
  · exact .inl ⟨by rw [r1.bl_of, r2.bl_of]; rfl, by rw [r1.bl_of, r2.bl_of]; rw [dec_bl, ← Bool.beq_eq_decide_eq] at *; exact c _ M _ H (.refl sr) .bl q⟩
  · split at q
    · rename_i p p' e1 e2
      exact .inr ⟨_, _, pyM_ok sr r1 e1, pyM_ok sr r2 e2, q.1, q.2.1, c _ M _ H (.refl sr) .bl q.2.2⟩
    · exact q.elim
end
end DL
namespace DL
open PySem PySem.Spec PyProof.Rows L2
section
variable {X : Cx} {M0 : Mo} {H0 : Hp}
/-! ### tests -/
def dTest (t : TED) : TTD := fun sd M Q => t sd M fun d M1 => match d with
  | .bl b => Q b M1
  | _ => False
theorem test_imp {t : TED} {t' : TE} (h : ∀ σ H Q, LE X.K M0 H0 t σ H Q → t' σ H Q) : ∀ σ H Q, LT X.K M0 H0 (dTest t) σ H Q → tTest t' σ H Q := fun σ H Q ⟨sd, M, Qd, a, q, c⟩ =>
  h _ _ _ ⟨sd, M, _, a, q, fun d M' v H' s r q => by
    split at q
    · exact ⟨_, r.bl_of, c _ _ _ s q⟩
    · exact q.elim⟩
/-- a value's truth -/
def dTru (M : Mo) (d : Dv) (Q : Bool → Prop) : Prop := match d with
  | .non => Q false
  | .bl b => Q b
  | .int i => Q (i != 0)
  | .str y => y.length ≤ 16777216 ∧ Q ((y.length : Int) != 0)
  | d => match seqL M d with
    | some ds => Q (!ds.isEmpty)
    | none => match seqT d with
      | some ds => Q (!ds.isEmpty)
      | none => match d with
        | .ref a => match M a with
          | some (.dK kvs) => Q (!kvs.isEmpty)
          | _ => False
        | _ => False
def dTruth (t : TED) : TTD := fun sd M Q => t sd M fun d M1 => dTru M1 d fun b => Q b M1
theorem RDs.empty {K : PySem.W.Frag} {H : Hp} {ds : List Dv} {vs : List V} (r : RDs K H ds vs) : ds.isEmpty = vs.isEmpty := by
  cases ds with
  | nil => unfold RDs at r; subst r; rfl
  | cons d ds => unfold RDs at r; obtain ⟨v, w, rfl, _⟩ := r; rfl
theorem RDk.empty {K : PySem.W.Frag} {H : Hp} {α : Type} {ds : List (α × Dv)} {vs : List (α × V)} (r : RDk K H ds vs) : ds.isEmpty = vs.isEmpty := by
  cases ds with
  | nil => unfold RDk at r; subst r; rfl
  | cons d ds => unfold RDk at r; obtain ⟨v, w, rfl, _⟩ := r; rfl
theorem tru_of {K : PySem.W.Frag} {M : Mo} {H : Hp} {d : Dv} {v : V} {Q : Bool → Prop} (s : SR K M H) (r : RD K H d v) (h : dTru M d Q) : ∃ k, TruV K v H k ∧ Q k := by
  unfold dTru at h
  split at h
  · rw [r.non_of]; exact ⟨_, rfl, h⟩
  · rw [r.bl_of]; exact ⟨_, rfl, h⟩
  · rw [r.int_of]; exact ⟨_, rfl, h⟩
  · rw [r.str_of]; exact ⟨_, ⟨by rw [← line_eq]; exact h.1, rfl⟩, h.2⟩
  · split at h
    · rename_i ds e
      obtain ⟨a, vs, rfl, q, rs⟩ := seqL_ok s r e
      exact ⟨_, .inl ⟨vs, q, rfl⟩, by rw [← rs.empty]; exact h⟩
    · split at h
      · rename_i ds e
        obtain ⟨a, vs, rfl, q, rs⟩ := seqT_ok r e
        exact ⟨_, .inr (.inl ⟨vs, q, rfl⟩), by rw [← rs.empty]; exact h⟩
      · split at h
        · rename_i a _ _ _ _ _ _
          split at h
          · rename_i kvs e
            have o := s a _ e
            simp only [Own] at o
            obtain ⟨vks, hk, rk⟩ := o
            rw [r.ref_of]
            exact ⟨_, .inr (.inr ⟨vks, hk, rfl⟩), by rw [← rk.empty]; exact h⟩
          · exact h.elim
        · exact h.elim
section
variable {a b c e : Expr} {ta tb : TED} {t u : TTD} {pos : Pos} {rest : List Expr}
theorem dt_cmp {op : CmpOp} {rd : R2d} (ho : OpR X (compareOp op) (L2op X.K rd)) (ha : PEd X M0 H0 a ta) (hb : PEd X M0 H0 b tb) (hm : behindInMarks op b = false) : PTd X M0 H0 (.Compare a [op] [b] pos) (dTest (dOp rd ta tb)) :=
  PT.imp (pt_cmpR ho ha hb hm) (test_imp (two_imp fun _ _ _ _ h => h))
theorem dt_val (ha : PEd X M0 H0 a ta) (he : ∀ whole, isTrue a X.env whole = (do let v ← whole; standAt a.pos; holding [v] (truthy v)) := by intro _; rfl) : PTd X M0 H0 a (dTruth ta) :=
  PT.imp (pt_truth ha he) fun σ H Q ⟨sd, M, Qd, w, q, c⟩ => ⟨sd, M, _, w, q, fun d M' v H' s r q => by
    obtain ⟨k, hk, qk⟩ := tru_of s.sr r q
    exact ⟨k, hk, c _ _ _ s qk⟩⟩
def dAnd2 (t u : TTD) : TTD := fun sd M Q => t sd M fun c M1 => if c = true then u sd M1 Q else Q false M1
def dOr2 (t u : TTD) : TTD := fun sd M Q => t sd M fun c M1 => if c = true then Q true M1 else u sd M1 Q
def dNot (t : TTD) : TTD := fun sd M Q => t sd M fun c M1 => Q (!c) M1
theorem dw_and1 (ha : PTd X M0 H0 a t) : PWd X M0 H0 (.BoolOp .And [a] pos) t := pw_and1 ha
theorem dw_or1 (ha : PTd X M0 H0 a t) : PWd X M0 H0 (.BoolOp .Or [a] pos) t := pw_or1 ha
theorem dw_and (ha : PTd X M0 H0 a t) (hb : PWd X M0 H0 (.BoolOp .And (b :: rest) pos) u) : PWd X M0 H0 (.BoolOp .And (a :: b :: rest) pos) (dAnd2 t u) :=
  PW.imp (pw_and ha hb) fun σ H Q ⟨sd, M, Qd, w, q, c⟩ => ⟨sd, M, _, w, q, fun b M' H' s q => by
    cases b with
    | true => rw [if_pos rfl] at q ⊢; exact ⟨sd, M', Qd, w.on s, q, c.on s⟩
    | false => rw [if_neg Bool.false_ne_true] at q ⊢; exact c _ _ _ s q⟩
theorem dw_or (ha : PTd X M0 H0 a t) (hb : PWd X M0 H0 (.BoolOp .Or (b :: rest) pos) u) : PWd X M0 H0 (.BoolOp .Or (a :: b :: rest) pos) (dOr2 t u) :=
  PW.imp (pw_or ha hb) fun σ H Q ⟨sd, M, Qd, w, q, c⟩ => ⟨sd, M, _, w, q, fun b M' H' s q => by
    cases b with
    | false => rw [if_neg Bool.false_ne_true] at q ⊢; exact ⟨sd, M', Qd, w.on s, q, c.on s⟩
    | true => rw [if_pos rfl] at q ⊢; exact c _ _ _ s q⟩
theorem dt_w (h : PWd X M0 H0 e t) : PTd X M0 H0 e t := PW.pt h
theorem dt_not (ha : PTd X M0 H0 a t) : PTd X M0 H0 (.UnaryOp .Not a pos) (dNot t) :=
  PT.imp (pt_not ha) fun σ H Q ⟨sd, M, Qd, w, q, c⟩ => ⟨sd, M, _, w, q, fun b M' H' s q => c _ _ _ s q⟩
/-! ### and, or, not as values of tests -/
def dAndV (ta tb : TED) : TED := fun sd M Q => ta sd M fun d M1 => match d with
  | .bl c => if c = true then tb sd M1 Q else Q (.bl false) M1
  | _ => False
def dOrV (ta tb : TED) : TED := fun sd M Q => ta sd M fun d M1 => match d with
  | .bl c => if c = true then Q (.bl true) M1 else tb sd M1 Q
  | _ => False
def dNotV (ta : TED) : TED := fun sd M Q => ta sd M fun d M1 => match d with
  | .bl c => Q (.bl (!c)) M1
  | _ => False
theorem de_one {op} (h : PEd X M0 H0 a ta) : PEd X M0 H0 (.BoolOp op [a] pos) ta := pe_one h
theorem de_and (ha : PEd X M0 H0 a ta) (hb : PEd X M0 H0 (.BoolOp .And (b :: rest) pos) tb) : PEd X M0 H0 (.BoolOp .And (a :: b :: rest) pos) (dAndV ta tb) :=
  PE.imp (pe_and ha hb) fun σ H Q ⟨sd, M, Qd, w, q, c⟩ => ⟨sd, M, _, w, q, fun d M' v H' s r q => by
    split at q
    · rename_i b
      refine ⟨b, r.bl_of, ?_⟩
      cases b with
      | true => rw [if_pos rfl] at q ⊢; exact ⟨sd, M', Qd, w.on s, q, c.on s⟩
      | false => rw [if_neg Bool.false_ne_true] at q ⊢; exact c _ _ _ _ s .bl q
    · exact q.elim⟩
theorem de_not (ha : PEd X M0 H0 a ta) : PEd X M0 H0 (.UnaryOp .Not a pos) (dNotV ta) :=
  PE.imp (pe_not ha) fun σ H Q ⟨sd, M, Qd, w, q, c⟩ => ⟨sd, M, _, w, q, fun d M' v H' s r q => by
    split at q
    · exact ⟨_, r.bl_of, c _ _ _ _ s .bl q⟩
    · exact q.elim⟩
def dIf (t : TTD) (ta tb : TED) : TED := fun sd M Q => t sd M fun c M1 => if c = true then ta sd M1 Q else tb sd M1 Q
theorem de_if (hc : PTd X M0 H0 c t) (ha : PEd X M0 H0 a ta) (hb : PEd X M0 H0 b tb) : PEd X M0 H0 (.IfExp c a b pos) (dIf t ta tb) :=
  PE.imp (pe_ifExp hc ha hb) fun σ H Q ⟨sd, M, Qd, w, q, c⟩ => ⟨sd, M, _, w, q, fun d M' H' s q => by
    cases d with
    | true => rw [if_pos rfl] at q ⊢; exact ⟨sd, M', Qd, w.on s, q, c.on s⟩
    | false => rw [if_neg Bool.false_ne_true] at q ⊢; exact ⟨sd, M', Qd, w.on s, q, c.on s⟩⟩
/-- -a -/
def dNeg (ta : TED) : TED := fun sd M Q => ta sd M fun d M1 => match d with
  | .int i => Q (.int (-i)) M1
  | _ => False
theorem de_neg (ha : PEd X M0 H0 a ta) : PEd X M0 H0 (.UnaryOp .USub a pos) (dNeg ta) :=
  PE.imp (pe_un un_neg ha) fun σ H Q ⟨sd, M, Qd, w, q, c⟩ => ⟨sd, M, _, w, q, fun d M' v H' s r q => by
    split at q
    · exact ⟨_, r.int_of, c _ _ _ _ s .int q⟩
    · exact q.elim⟩
/-- a is None -/
def isN : Dv → Bool
  | .non => true
  | _ => false
def dIsN : R2d := fun d e M Q => match e with
  | .non => Q (.bl (isN d)) M
  | _ => False
def dNotN : R2d := fun d e M Q => match e with
  | .non => Q (.bl (!isN d)) M
  | _ => False
theorem RD.non_iff {K : PySem.W.Frag} {H : Hp} {d : Dv} {v : V} (r : RD K H d v) : decide (v = .non) = isN d := by
  cases d with
  | non => rw [r.non_of]; rfl
  | bl b => rw [r.bl_of]; rfl
  | int b => rw [r.int_of]; rfl
  | str b => rw [r.str_of]; rfl
  | ref b => rw [r.ref_of]; rfl
  | ty n => unfold RD at r; rw [r]; rfl
  | tup ds => unfold RD at r; obtain ⟨_, _, rfl, _⟩ := r; rfl
  | lst ds => unfold RD at r; obtain ⟨_, _, rfl, _⟩ := r; rfl
  | obj C fs => unfold RD at r; obtain ⟨_, _, _, _, _, rfl, _⟩ := r; rfl
  | dct C => unfold RD at r; obtain ⟨_, _, _, rfl, _⟩ := r; rfl
  | dctT w C => unfold RD at r; obtain ⟨_, _, _, rfl, _⟩ := r; rfl
theorem od_isN : OpR X (compareOp .Is) (L2op X.K dIsN) := opd_I op_isN fun d e M Qd x y H Q r1 r2 sr q c => by
  unfold dIsN at q
  split at q
  · rw [← r1.non_iff] at q
    exact ⟨r2.non_of, c _ M _ H (.refl sr) .bl q⟩
  · exact q.elim
theorem od_notN : OpR X (compareOp .IsNot) (L2op X.K dNotN) := opd_I op_notN fun d e M Qd x y H Q r1 r2 sr q c => by
  unfold dNotN at q
  split at q
  · rw [← r1.non_iff] at q
    exact ⟨r2.non_of, c _ M _ H (.refl sr) .bl q⟩
  · exact q.elim
/-! ### a < b < c -/
def dChain (r r' : R2d) (ta tb tc : TED) : TED := fun sd M Q => ta sd M fun x M1 => tb sd M1 fun y M2 => r x y M2 fun z M3 => match z with
  | .bl k => if k = true then tc sd M3 fun u M4 => r' y u M4 Q else Q (.bl false) M3
  | _ => False
theorem chain_imp {ta tb tc : TED} {rd rd' : R2d} : ∀ σ H Q, LE X.K M0 H0 (dChain rd rd' ta tb tc) σ H Q → tChain (L2op X.K rd) (L2op X.K rd') (LE X.K M0 H0 ta) (LE X.K M0 H0 tb) (LE X.K M0 H0 tc) σ H Q := fun σ H Q ⟨sd, M, Qd, a, h, c⟩ =>
  ⟨sd, M, _, a, h, fun d M1 v H1 s1 r1 h1 => ⟨sd, M1, _, a.on s1, h1, fun e M2 u H2 s2 r2 h2 => ⟨d, e, M2, _, r1.keep s2.keep, r2, s2.sr, h2, fun z M3 zv H3 s3 rz h3 => by
    split at h3
    · rename_i k
      refine ⟨k, rz.bl_of, ?_⟩
      have s13 := s1.trans (s2.trans s3)
      cases k with
      | false => rw [if_neg Bool.false_ne_true] at h3 ⊢; exact c _ _ _ _ s13 .bl h3
      | true =>
        rw [if_pos rfl] at h3 ⊢
        exact ⟨sd, M3, _, a.on s13, h3, fun f M4 w H4 s4 r4 h4 => ⟨e, f, M4, Qd, r2.keep (s3.keep.trans s4.keep), r4, s4.sr, h4, c.on (s13.trans s4)⟩⟩
    · exact h3.elim⟩⟩⟩
theorem de_chain {op op' : CmpOp} {rd rd' : R2d} {tc : TED} (ho : OpR X (compareOp op) (L2op X.K rd)) (ho' : OpR X (compareOp op') (L2op X.K rd')) (ha : PEd X M0 H0 a ta) (hb : PEd X M0 H0 b tb) (hc : PEd X M0 H0 c tc)
    (hm : lastMarks [op, op'] [b, c] = false := by with_unfolding_all rfl) : PEd X M0 H0 (.Compare a [op, op'] [b, c] pos) (dChain rd rd' ta tb tc) := PE.imp (pe_chain ho ho' ha hb hc hm) chain_imp
theorem dt_chain {op op' : CmpOp} {rd rd' : R2d} {tc : TED} (ho : OpR X (compareOp op) (L2op X.K rd)) (ho' : OpR X (compareOp op') (L2op X.K rd')) (ha : PEd X M0 H0 a ta) (hb : PEd X M0 H0 b tb) (hc : PEd X M0 H0 c tc)
    (hm : lastMarks [op, op'] [b, c] = false := by with_unfolding_all rfl) : PTd X M0 H0 (.Compare a [op, op'] [b, c] pos) (dTest (dChain rd rd' ta tb tc)) := PT.imp (pt_chain ho ho' ha hb hc hm) (test_imp chain_imp)
end
end
end DL
namespace DL
open PySem PySem.Spec PyProof.Rows L2
section
variable {X : Cx} {M0 : Mo} {H0 : Hp}
/-! ### arguments, displays -/
def dNilA : TAD := fun _ M Q => Q [] M
def dConsA (ta : TED) (tr : TAD) : TAD := fun sd M Q => ta sd M fun d M1 => tr sd M1 fun ds M2 => Q (d :: ds) M2
section
variable {a e o i : Expr} {es : List Expr} {te ta to ti : TED} {t : TAD} {pos : Pos}
theorem da_nil : PAd X M0 H0 [] dNilA := PA.imp pa_nil fun σ H Q ⟨sd, M, Qd, w, q, c⟩ => c _ _ _ _ w.here .nil q
theorem da_cons (ha : PEd X M0 H0 e te) (hr : PAd X M0 H0 es t) (hs : starEach (e :: es) X.env = (false, eval e X.env) :: starEach es X.env := by rfl) : PAd X M0 H0 (e :: es) (dConsA te t) :=
  PA.imp (pa_cons ha hr hs) fun σ H Q ⟨sd, M, Qd, w, q, c⟩ => ⟨sd, M, _, w, q, fun d M1 v H1 s1 r1 q1 => ⟨sd, M1, _, w.on s1, q1, fun ds M2 vs H2 s2 r2 q2 => c _ _ _ _ (s1.trans s2) ((r1.keep s2.keep : RD _ _ _ _) |> fun z => RDs.cons z r2) q2⟩⟩
def dTup (t : TAD) : TED := fun sd M Q => t sd M fun ds M1 => ds.length ≤ 1000 ∧ Q (.tup ds) M1
def dLst (t : TAD) : TED := fun sd M Q => t sd M fun ds M1 => ds.length ≤ 1000 ∧ ∀ p, M1 p = none → Q (.ref p) (mup M1 p (.lst ds))
theorem le_line {n : Nat} (h : n ≤ 1000) : n ≤ sizeLine := by rw [sizeLine_eq]; omega
theorem own_lst {K : PySem.W.Frag} {H : Hp} {p : Addr} {vs : List V} {ds : List Dv} (hp : H p = none) (r : RDs K H ds vs) : Own K (upd H p (.lst vs)) p (.lst ds) := by
  simp only [Own]
  exact ⟨vs, upd_same, r.keep (Keep.new hp)⟩
theorem de_tup {x1} (h : PAd X M0 H0 es t) : PEd X M0 H0 (.Tuple es x1 pos) (dTup t) :=
  PE.imp (pe_tup h) fun σ H Q ⟨sd, M, Qd, w, q, c⟩ => ⟨sd, M, _, w, q, fun ds M1 vs H1 s1 r1 q1 => ⟨by rw [← r1.length]; exact le_line q1.1, fun p hp => by
    have k : Keep H1 (upd H1 p (.tup vs)) := Keep.new hp
    refine c _ M1 _ _ (s1.trans (Stp.new0 s1.sr hp)) ?_ q1.2
    unfold RD
    exact ⟨p, vs, rfl, .inl (.inl upd_same), r1.keep k⟩⟩⟩
theorem de_lst (h : PAd X M0 H0 es t) : PEd X M0 H0 (.List es pos) (dLst t) :=
  PE.imp (pe_lst h) fun σ H Q ⟨sd, M, Qd, w, q, c⟩ => ⟨sd, M, _, w, q, fun ds M1 vs H1 s1 r1 q1 => ⟨by rw [← r1.length]; exact le_line q1.1, fun p hp =>
    c _ _ _ _ (s1.trans (Stp.new s1.sr hp (own_lst hp r1))) .ref (q1.2 p (s1.sr.free hp))⟩⟩
/-- the list (the instance, the dict) that e makes stands still from here on -/
def frzV : OO → Option Dv
  | .lst ds => some (.lst ds)
  | .ins c fs => some (.obj c fs)
  | .dK kvs => some (.dct kvs)
  | .dT w kvs => some (.dctT w kvs)
  | _ => none
def kFz (d : Dv) (M : Mo) (Q : QD) : Prop := match d with
  | .ref p => ∃ o d', M p = some o ∧ frzV o = some d' ∧ Q d' (mdl M p)
  | d => Q d M
def dFrz (te : TED) : TED := fun sd M Q => te sd M fun d M1 => kFz d M1 Q
theorem Inv.frzD {pins : List (Addr × Obj)} {s : Shared} {σ : L2.St} {H : Hp} {M : Mo} {p : Addr} {o : OO} {d : Dv} (I : Inv X pins σ H s) (sr : SR X.K M H) (h : M p = some o)
    (hd : frzV o = some d) : ∃ H', Inv X pins σ H' s ∧ Stp X.K M H (mdl M p) H' ∧ RD X.K H' d (.ref p) := by
  have go0 : ∀ u : HO, H p = some u → Mut (some u) → (∀ o, Keep H (upd H p o)) → (∀ od, Keep H (upd H p (.frz od u)) → RD X.K (upd H p (.frz od u)) d (.ref p)) → ∃ H', Inv X pins σ H' s ∧ Stp X.K M H (mdl M p) H' ∧ RD X.K H' d (.ref p) := by
    intro u hu mu kk hr
    obtain ⟨od, I1⟩ := I.lock hu mu
    have k : Keep H (upd H p (.frz od u)) := kk _
    refine ⟨_, I1, ⟨k, fun a oo e => ?_, fun a o' e => ?_, fun a o' e nt n => ?_⟩, hr od k⟩
    · by_cases q : a = p
      · subst q
        rw [mdl_same] at e
        cases e
      · rw [mdl_ne q] at e
        exact (sr a oo e).keep k (upd_ne q)
    · by_cases q : a = p
      · subst q
        rw [upd_same]
        intro z
        cases z
      · rw [upd_ne q, e]
        intro z
        cases z
    · have q : a ≠ p := fun z => by subst z; rw [h] at n; cases n
      exact ⟨by rw [upd_ne q]; exact e, by rw [mdl_ne q]; exact n⟩
  have go : ∀ u : HO, H p = some u → Mutd (some u) → (∀ od, Keep H (upd H p (.frz od u)) → RD X.K (upd H p (.frz od u)) d (.ref p)) → ∃ H', Inv X pins σ H' s ∧ Stp X.K M H (mdl M p) H' ∧ RD X.K H' d (.ref p) :=
    fun u hu mu hr => go0 u hu mu.mut (fun o => Keep.mut (by rw [hu]; exact mu)) hr
  have goE : ∀ φ : Heap → Prop, H p = some (.ext φ) → (∀ q, H p ≠ some (LamX.CodeO p q)) → (∀ od, Keep H (upd H p (.frz od (.ext φ))) → RD X.K (upd H p (.frz od (.ext φ))) d (.ref p)) → ∃ H', Inv X pins σ H' s ∧ Stp X.K M H (mdl M p) H' ∧ RD X.K H' d (.ref p) :=
    fun φ hu hc hr => go0 _ hu trivial (fun o => Keep.at' hu hc) hr
  have ow := sr p o h
  unfold frzV at hd
  split at hd
  · cases hd
    simp only [Own] at ow
    obtain ⟨vs, hv, r⟩ := ow
    refine go _ hv trivial fun od k => ?_
    unfold RD
    exact ⟨p, vs, rfl, .inl ⟨od, upd_same⟩, r.keep k⟩
  · cases hd
    simp only [Own] at ow
    obtain ⟨Ca, dx, vfs, hn, hv, r⟩ := ow
    refine go _ hv trivial fun od k => ?_
    unfold RD
    exact ⟨p, od, Ca, dx, vfs, rfl, hn, upd_same, r.keep k⟩
  · cases hd
    simp only [Own] at ow
    obtain ⟨vfs, hv, r⟩ := ow
    refine go _ hv trivial fun od k => ?_
    unfold RD
    exact ⟨p, od, vfs, rfl, upd_same, rdk1.mpr (r.keep k)⟩
  · cases hd
    simp only [Own] at ow
    obtain ⟨xs, hv, r⟩ := ow
    rename_i w kvs
    refine goE _ hv ?_ fun od k => ?_
    · intro q z
      obtain ⟨⟨_, _, _, o, es, ep, ho, hc, hd, he⟩, _, _⟩ := (show ObjOk X.prog X.w H s.heap p (dictO w p xs) from I.hok p _ hv)
      obtain ⟨⟨oc, vs, t, hoc, hdc, _⟩, _, _⟩ := (show ObjOk X.prog X.w H s.heap p (LamX.CodeO p q) from I.hok p _ z)
      rw [ho] at hoc
      cases hoc
      rw [hd] at hdc
      cases hdc
    · unfold RD
      exact ⟨p, od, xs, rfl, upd_same, rdk2.mpr (REs.keep k r)⟩
  · cases hd
theorem de_frz (h : PEd X M0 H0 e te) : PEd X M0 H0 e (dFrz te) := by
  refine ⟨fun pins s σ H Q I ⟨sd, M, Qd, w, q, c⟩ => ?_⟩
  refine thn (h.run pins s σ H (fun v H1 => ∃ d M1, Stp X.K M H M1 H1 ∧ RD X.K H1 d v ∧ kFz d M1 Qd) I ⟨sd, M, _, w, q, fun d M1 v H1 s1 r1 q1 => ⟨d, M1, s1, r1, q1⟩⟩) fun u s1 ⟨v, H1, I1, rv, d, M1, s1', r1, q1⟩ => ?_
  have fin : ∀ {d' : Dv}, RD X.K H1 d' v → Qd d' M1 → EP X pins σ Q u s1 := fun r q => ⟨v, H1, I1, rv, c _ _ _ _ s1' r q⟩
  unfold kFz at q1
  split at q1
  · rename_i p
    have ev := r1.ref_of
    subst ev
    obtain ⟨o, d', e, ed, q1⟩ := q1
    obtain ⟨H2, I2, s2, r2⟩ := Inv.frzD I1 s1'.sr e ed
    exact ⟨_, H2, I2, rv, c _ _ _ _ (s1'.trans s2) r2 q1⟩
  · exact fin r1 q1
/-! ### built-ins by values -/
abbrev RNd := List Dv → Mo → QD → Prop
def LNop (K : PySem.W.Frag) (rd : RNd) : List V → Hp → VK → Prop := fun xs H Q => ∃ ds M Qd, RDs K H ds xs ∧ SR K M H ∧ rd ds M Qd ∧ Ct K M H Qd Q
def dCB (rd : RNd) (t : TAD) : TED := fun sd M Q => t sd M fun ds M1 => rd ds M1 Q
theorem cb_imp {rd : RNd} : ∀ σ H Q, LE X.K M0 H0 (dCB rd t) σ H Q → tCB (LNop X.K rd) (LA X.K M0 H0 t) σ H Q := fun σ H Q ⟨sd, M, Qd, w, q, c⟩ =>
  ⟨sd, M, _, w, q, fun ds M1 vs H1 s1 r1 q1 => ⟨ds, M1, Qd, r1, s1.sr, q1, c.on s1⟩⟩
theorem de_callB {id : String} {x : Str} {p : Pos} {rd : RNd} (hc : CallR X (.builtin id) (LNop X.K rd)) (hg : Gl X x) (hm : X.mg x = none) (hv : bootBuiltins x = some (.builtin id)) (ha : PAd X M0 H0 (e :: es) t) (hn : x ≠ "__name__" := by decide) (hdb : (x == ("__debug__" : Str)) = false := by decide)
    (he : starEach (e :: es) X.env = (false, eval e X.env) :: starEach es X.env := by rfl) (hpl : (backTo pos (starEach es X.env)).any (·.1) = false := by rfl) : PEd X M0 H0 (.Call (.Name x p) (e :: es) [] pos) (dCB rd t) :=
  PE.imp (pe_callB hc hg hm hv ha hn hdb he hpl) cb_imp
theorem de_callTy {T : String} {x : Str} {p : Pos} {rd : RNd} (hc : CallR X (.type T) (LNop X.K rd)) (hg : Gl X x) (hm : X.mg x = none) (hv : bootBuiltins x = some (.type T)) (ha : PAd X M0 H0 (e :: es) t) (hn : x ≠ "__name__" := by decide) (hdb : (x == ("__debug__" : Str)) = false := by decide)
    (he : starEach (e :: es) X.env = (false, eval e X.env) :: starEach es X.env := by rfl) (hpl : (backTo pos (starEach es X.env)).any (·.1) = false := by rfl) : PEd X M0 H0 (.Call (.Name x p) (e :: es) [] pos) (dCB rd t) :=
  PE.imp (pe_callTy hc hg hm hv ha hn hdb he hpl) cb_imp
theorem cd_I {f : Value} {r : List V → Hp → VK → Prop} {rd : RNd} (h : CallR X f r) (w : ∀ ds M Qd xs H Q, RDs X.K H ds xs → SR X.K M H → rd ds M Qd → Ct X.K M H Qd Q → r xs H Q) : CallR X f (LNop X.K rd) :=
  fun pins s σ H xs us Q I rv ⟨ds, M, Qd, rs, sr, q, c⟩ => h pins s σ H xs us Q I rv (w ds M Qd xs H Q rs sr q c)
theorem RDs.one {K : PySem.W.Frag} {H : Hp} {d : Dv} {vs : List V} (r : RDs K H [d] vs) : ∃ v, vs = [v] ∧ RD K H d v := by
  unfold RDs at r
  obtain ⟨v, w, rfl, r1, r2⟩ := r
  unfold RDs at r2
  subst r2
  exact ⟨v, rfl, r1⟩
theorem RDs.two {K : PySem.W.Frag} {H : Hp} {d e : Dv} {vs : List V} (r : RDs K H [d, e] vs) : ∃ v u, vs = [v, u] ∧ RD K H d v ∧ RD K H e u := by
  unfold RDs at r
  obtain ⟨v, w, rfl, r1, r2⟩ := r
  obtain ⟨u, rfl, r3⟩ := r2.one
  exact ⟨v, u, rfl, r1, r3⟩
theorem RDs.zero {K : PySem.W.Frag} {H : Hp} {vs : List V} (r : RDs K H [] vs) : vs = [] := by unfold RDs at r; exact r
/-- len(x) -/
def dLen : RNd := fun ds M Q => match ds with
  | [.str x] => x.length ≤ 16777216 ∧ Q (.int x.length) M
  | [d] => match seqL M d with
    | some es => Q (.int es.length) M
    | none => match seqT d with
      | some es => Q (.int es.length) M
      | none => False
  | _ => False
theorem cd_len : CallR X (.builtin "len") (LNop X.K dLen) := cd_I call_len fun ds M Qd xs H Q rs sr q c => by
  unfold dLen at q
  split at q
  · obtain ⟨v, rfl, r⟩ := rs.one
    rw [r.str_of]
    exact ⟨_, _, rfl, ⟨by rw [← line_eq]; exact q.1, rfl⟩, c _ _ _ _ (.refl sr) .int q.2⟩
  · obtain ⟨v, rfl, r⟩ := rs.one
    split at q
    · rename_i es e
      obtain ⟨a, vs, rfl, sq, rr⟩ := seqL_ok sr r e
      exact ⟨_, _, rfl, .inl ⟨vs, sq, rfl⟩, by rw [← rr.length]; exact c _ _ _ _ (.refl sr) .int q⟩
    · split at q
      · rename_i es e
        obtain ⟨a, vs, rfl, sq, rr⟩ := seqT_ok r e
        exact ⟨_, _, rfl, .inr ⟨vs, sq, rfl⟩, by rw [← rr.length]; exact c _ _ _ _ (.refl sr) .int q⟩
      · exact q.elim
  · exact q.elim
/-- min(m, n), max(m, n) -/
def dMin2 : RNd := fun ds M Q => match ds with
  | [.int i, .int j] => Q (.int (if j < i then j else i)) M
  | _ => False
def dMax2 : RNd := fun ds M Q => match ds with
  | [.int i, .int j] => Q (.int (if j > i then j else i)) M
  | _ => False
theorem cd_max2 (hc : X.calm = true) : CallR X (.builtin "max") (LNop X.K dMax2) := cd_I (call_max2 hc) fun ds M Qd xs H Q rs sr q c => by
  unfold dMax2 at q
  split at q
  · obtain ⟨v, u, rfl, r1, r2⟩ := rs.two
    rw [r1.int_of, r2.int_of]
    exact ⟨_, _, rfl, c _ _ _ _ (.refl sr) .int q⟩
  · exact q.elim
/-- all(xs), any(xs), of truths -/
def blsOf : List Dv → Option (List Bool)
  | [] => some []
  | .bl b :: ds => (blsOf ds).map (b :: ·)
  | _ => none
theorem blsOf_ok {K : PySem.W.Frag} {H : Hp} : ∀ {ds : List Dv} {vs : List V} {bs : List Bool}, RDs K H ds vs → blsOf ds = some bs → vs = bs.map V.bl
  | [], vs, bs, r, h => by unfold blsOf at h; cases h; exact r.zero
  | d :: ds, vs, bs, r, h => by
    unfold RDs at r
    obtain ⟨v, w, rfl, r1, r2⟩ := r
    cases d with
    | bl b =>
      unfold blsOf at h
      cases q : blsOf ds with
      | none => rw [q] at h; cases h
      | some cs =>
        rw [q] at h
        cases h
        rw [r1.bl_of, blsOf_ok r2 q]
        rfl
    | _ => unfold blsOf at h; cases h
def dAll : RNd := fun ds M Q => match ds with
  | [d] => match (seqL M d).bind blsOf with
    | some bs => Q (.bl (bs.all id)) M
    | none => False
  | _ => False
theorem cd_all (hc : X.calm = true) : CallR X (.builtin "all") (LNop X.K dAll) := cd_I (cr_all hc) fun ds M Qd xs H Q rs sr q c => by
  unfold dAll at q
  split at q
  · rename_i d
    obtain ⟨v, rfl, r⟩ := rs.one
    split at q
    · rename_i bs e
      obtain ⟨es, h1, h2⟩ := Option.bind_eq_some_iff.mp e
      obtain ⟨a, vs, rfl, sq, rr⟩ := seqL_ok sr r h1
      rw [blsOf_ok rr h2] at sq
      exact ⟨a, bs, rfl, sq, c _ _ _ _ (.refl sr) .bl q⟩
    · exact q.elim
  · exact q.elim
/-- list(x) -/
def dListOf : RNd := fun ds M Q => match ds with
  | [d] => match seqL M d with
    | some es => ∀ p, M p = none → Q (.ref p) (mup M p (.lst es))
    | none => match seqT d with
      | some es => ∀ p, M p = none → Q (.ref p) (mup M p (.lst es))
      | none => False
  | _ => False
theorem cd_list : CallR X (.type "list") (LNop X.K dListOf) := cd_I call_list_of fun ds M Qd xs H Q rs sr q c => by
  unfold dListOf at q
  split at q
  · rename_i d
    obtain ⟨v, rfl, r⟩ := rs.one
    split at q
    · rename_i es e
      obtain ⟨a, vs, rfl, sq, rr⟩ := seqL_ok sr r e
      exact ⟨a, vs, rfl, .inl sq, fun p hp => c _ _ _ _ (Stp.new sr hp (own_lst hp rr)) .ref (q p (sr.free hp))⟩
    · split at q
      · rename_i es e
        obtain ⟨a, vs, rfl, sq, rr⟩ := seqT_ok r e
        exact ⟨a, vs, rfl, .inr sq, fun p hp => c _ _ _ _ (Stp.new sr hp (own_lst hp rr)) .ref (q p (sr.free hp))⟩
      · exact q.elim
  · exact q.elim
/-! ### subscripts -/
def dIx : R2d := fun d e M Q => match e with
  | .int i => match d with
    | .str z => z.length ≤ 16777216 ∧ (match atI z.cps.toList i with
      | some c => Q (.str ⟨#[c]⟩) M
      | none => False)
    | d => match seqL M d with
      | some ds => (match atI ds i with
        | some x => Q x M
        | none => False)
      | none => match seqT d with
        | some ds => (match atI ds i with
          | some x => Q x M
          | none => False)
        | none => False
  | _ => False
theorem RDs.atI {K : PySem.W.Frag} {H : Hp} {ds : List Dv} {vs : List V} {i : Int} {d : Dv} (r : RDs K H ds vs) (h : atI ds i = some d) : ∃ v, atI vs i = some v ∧ RD K H d v := by
  unfold L2.atI at h ⊢
  obtain ⟨j, h1, h2⟩ := Option.bind_eq_some_iff.mp h
  obtain ⟨v, hv, rv⟩ := r.get h2
  exact ⟨v, Option.bind_eq_some_iff.mpr ⟨j, by rw [← r.length]; exact h1, hv⟩, rv⟩
theorem id_I {r : R2} {rd : R2d} (h : IxR X r) (w : ∀ d e M Qd x y H Q, RD X.K H d x → RD X.K H e y → SR X.K M H → rd d e M Qd → Ct X.K M H Qd Q → r x y H Q) : IxR X (L2op X.K rd) :=
  fun va sl pins s σ H x y v u Q I rx ry ⟨d, e, M, Qd, r1, r2, sr, q, c⟩ hs => h va sl pins s σ H x y v u Q I rx ry (w d e M Qd x y H Q r1 r2 sr q c) hs
theorem xd_ix : IxR X (L2op X.K dIx) := id_I ix_seq fun d e M Qd x y H Q r1 r2 sr q c => by
  unfold dIx at q
  split at q
  · rename_i i
    rw [r2.int_of]
    split at q
    · rw [r1.str_of]
      obtain ⟨hz, q⟩ := q
      split at q
      · rename_i ch e
        exact .inr (.inr ⟨_, i, ch, rfl, rfl, by rw [← line_eq]; exact hz, e, c _ _ _ _ (.refl sr) .str q⟩)
      · exact q.elim
    · split at q
      · rename_i es e
        obtain ⟨a, vs, rfl, sq, rr⟩ := seqL_ok sr r1 e
        split at q
        · rename_i z ez
          obtain ⟨v, hv, rv⟩ := rr.atI ez
          exact .inl ⟨a, vs, i, v, rfl, rfl, sq, hv, c _ _ _ _ (.refl sr) rv q⟩
        · exact q.elim
      · split at q
        · rename_i es e
          obtain ⟨a, vs, rfl, sq, rr⟩ := seqT_ok r1 e
          split at q
          · rename_i z ez
            obtain ⟨v, hv, rv⟩ := rr.atI ez
            exact .inr (.inl ⟨a, vs, i, v, rfl, rfl, sq, hv, c _ _ _ _ (.refl sr) rv q⟩)
          · exact q.elim
        · exact q.elim
  · exact q.elim
theorem de_ix {b : Expr} {tb : TED} (ha : PEd X M0 H0 a ta) (hb : PEd X M0 H0 b tb) (hs : PlainIx b := by exact (fun _ _ => rfl)) : PEd X M0 H0 (.Subscript a b pos) (dOp dIx ta tb) :=
  PE.imp (pe_ix xd_ix ha hb hs) (two_imp fun _ _ _ _ h => h)
/-! ### slices -/
abbrev TOD := StD → Mo → (Option Int → Mo → Prop) → Prop
def LO (K : PySem.W.Frag) (M0 : Mo) (H0 : Hp) (t : TOD) : TO := fun σ H Q => ∃ sd M Qd, At K M0 H0 sd M σ H ∧ t sd M Qd ∧ ∀ o M' H', Stp K M H M' H' → Qd o M' → Q o H'
theorem PO.imp {e : Option Expr} {t t' : TO} (h : PO X e t) (w : ∀ σ H Q, t' σ H Q → t σ H Q) : PO X e t' := ⟨fun pins s σ H Q I q => h.run pins s σ H Q I (w _ _ _ q)⟩
abbrev POd (X : Cx) (M : Mo) (H : Hp) (e : Option Expr) (t : TOD) : Prop := PO X e (LO X.K M H t)
def dNo : TOD := fun _ M Q => Q none M
def dPart (t : TED) : TOD := fun sd M Q => t sd M fun d M1 => match d with
  | .int i => Q (some i) M1
  | _ => False
theorem do_none : POd X M0 H0 none dNo := PO.imp po_none fun σ H Q ⟨sd, M, Qd, w, q, c⟩ => c _ _ _ w.here q
theorem do_some (h : PEd X M0 H0 e te) : POd X M0 H0 (some e) (dPart te) := PO.imp (po_some h) fun σ H Q ⟨sd, M, Qd, w, q, c⟩ => ⟨sd, M, _, w, q, fun d M1 v H1 s1 r1 q1 => by
  split at q1
  · exact ⟨_, r1.int_of, c _ _ _ s1 q1⟩
  · exact q1.elim⟩
def cutD (xs : List Dv) (lo hi : Option Int) : List Dv := (xs.drop (HT.sIx xs.length 0 lo)).take (HT.sIx xs.length xs.length hi - HT.sIx xs.length 0 lo)
theorem RDs.cut {K : PySem.W.Frag} {H : Hp} {ds : List Dv} {vs : List V} (r : RDs K H ds vs) (lo hi : Option Int) : RDs K H (cutD ds lo hi) (cutV vs lo hi) := by
  unfold cutD cutV
  rw [r.length]
  exact (r.drop _).take _
def dSlV (d : Dv) (lo hi : Option Int) (M : Mo) (Q : QD) : Prop := match d with
  | .str z => z.length ≤ 16777216 ∧ Q (.str (cutS z lo hi)) M
  | d => match seqL M d with
    | some ds => ∀ p, M p = none → Q (.ref p) (mup M p (.lst (cutD ds lo hi)))
    | none => False
def dSl (te : TED) (tl th : TOD) : TED := fun sd M Q => te sd M fun d M1 => tl sd M1 fun lo M2 => th sd M2 fun hi M3 => dSlV d lo hi M3 Q
theorem de_slice {lo hi : Option Expr} {p2 : Pos} {tl th : TOD} (he : PEd X M0 H0 e te) (hl : POd X M0 H0 lo tl) (hu : POd X M0 H0 hi th) : PEd X M0 H0 (.Subscript e (.Slice lo hi none p2) pos) (dSl te tl th) :=
  PE.imp (pe_slice (sl_str.or sl_list) he hl hu) fun σ H Q ⟨sd, M, Qd, w, q, c⟩ => ⟨sd, M, _, w, q, fun d M1 v H1 s1 r1 q1 => ⟨sd, M1, _, w.on s1, q1, fun l M2 H2 s2 q2 => ⟨sd, M2, _, w.on (s1.trans s2), q2, fun u M3 H3 s3 q3 => by
    have s := s1.trans (s2.trans s3)
    have r3 := r1.keep (s2.keep.trans s3.keep)
    unfold dSlV at q3
    split at q3
    · rw [r3.str_of]
      exact .inl ⟨_, rfl, by rw [← line_eq]; exact q3.1, c _ _ _ _ s .str q3.2⟩
    · split at q3
      · rename_i es e
        obtain ⟨a, vs, rfl, sq, rr⟩ := seqL_ok s3.sr r3 e
        exact .inr ⟨a, vs, rfl, sq, fun p hp => c _ _ _ _ (s.trans (Stp.new s3.sr hp (own_lst hp (rr.cut _ _)))) .ref (q3 p (s3.sr.free hp))⟩
      · exact q3.elim⟩⟩⟩
end
end
end DL
namespace DL
open PySem PySem.Spec PyProof.Rows L2
section
variable {X : Cx} {M0 : Mo} {H0 : Hp}
/-! ### blocks and small statements -/
section
variable {st : Stmt} {rest : List Stmt} {t u : TSD} {e c : Expr} {te : TED} {tc : TTD} {pos : Pos} {a b : List Stmt}
def dNext : TSD := fun D sd M => D.nx sd M
def dSeq (t u : TSD) : TSD := fun D sd M => t { D with nx := u D } sd M
theorem dss_nil : PSsd X M0 H0 [] dNext := PSs.imp pss_nil fun D σ H ⟨sd, M, Dd, w, q, c⟩ => c.nx _ _ _ _ w.here w.rs q
theorem dss_cons (h1 : PSd X M0 H0 st t) (h2 : PSsd X M0 H0 rest u) : PSsd X M0 H0 (st :: rest) (dSeq t u) :=
  PSs.imp (pss_cons h1 h2) fun D σ H ⟨sd, M, Dd, w, q, c⟩ => ⟨sd, M, { Dd with nx := u Dd }, w, q, ⟨fun sd' M' σ' H' s r h => ⟨sd', M', Dd, ⟨w.st.trans s, r⟩, h, c.on s⟩, c.rt, c.bk, c.ct⟩⟩
theorem dss_one (h1 : PSd X M0 H0 st t) : PSsd X M0 H0 [st] t := pss_one h1
def dBreak : TSD := fun D sd M => D.bk sd M
def dCont : TSD := fun D sd M => D.ct sd M
def dDrop (te : TED) : TSD := fun D sd M => te sd M fun _ M1 => D.nx sd M1
theorem ds_expr (he : PEd X M0 H0 e te) (hs : swapsWith e none pos.line X.env = pure false := by rfl) : PSd X M0 H0 (.Expr e pos) (dDrop te) :=
  PS.imp (ps_expr he hs) fun D σ H ⟨sd, M, Dd, w, q, c⟩ => ⟨sd, M, _, w, q, fun d M1 v H1 s1 r1 q1 => c.nx _ _ _ _ s1 (w.rs.keep s1.keep) q1⟩
def dRet (te : TED) : TSD := fun D sd M => te sd M D.rt
theorem ds_ret (he : PEd X M0 H0 e te) : PSd X M0 H0 (.Return (some e) pos) (dRet te) :=
  PS.imp (ps_ret he) fun D σ H ⟨sd, M, Dd, w, q, c⟩ => ⟨sd, M, _, w, q, c.rt⟩
def dRetN : TSD := fun D _ M => D.rt .non M
def dIfS (c : TTD) (t u : TSD) : TSD := fun D sd M => c sd M fun b M1 => if b = true then t D sd M1 else u D sd M1
theorem ds_if (hc : PTd X M0 H0 c tc) (ha : PSsd X M0 H0 a t) (hb : PSsd X M0 H0 b u) : PSd X M0 H0 (.If c a b pos) (dIfS tc t u) :=
  PS.imp (ps_if hc ha hb) fun D σ H ⟨sd, M, Dd, w, q, c⟩ => ⟨sd, M, _, w, q, fun k M1 H1 s1 q1 => by
    cases k with
    | true => rw [if_pos rfl] at q1 ⊢; exact ⟨sd, M1, Dd, w.on s1, q1, c.on s1⟩
    | false => rw [if_neg Bool.false_ne_true] at q1 ⊢; exact ⟨sd, M1, Dd, w.on s1, q1, c.on s1⟩⟩
end
/-! ### targets -/
abbrev TGD := Dv → StD → Mo → (StD → Mo → Prop) → Prop
abbrev TGsD := List Dv → StD → Mo → (StD → Mo → Prop) → Prop
def CtG (K : PySem.W.Frag) (M : Mo) (H : Hp) (Qd : StD → Mo → Prop) (Q : St → Hp → Prop) : Prop := ∀ sd M' σ H', Stp K M H M' H' → Rs K H' sd σ → Qd sd M' → Q σ H'
def LG (K : PySem.W.Frag) (M0 : Mo) (H0 : Hp) (t : TGD) : TG := fun v σ H Q => ∃ d sd M Qd, At K M0 H0 sd M σ H ∧ RD K H d v ∧ t d sd M Qd ∧ CtG K M H Qd Q
def LGs (K : PySem.W.Frag) (M0 : Mo) (H0 : Hp) (t : TGsD) : TGs := fun vs σ H Q => ∃ ds sd M Qd, At K M0 H0 sd M σ H ∧ RDs K H ds vs ∧ t ds sd M Qd ∧ CtG K M H Qd Q
theorem PG.imp {X : Cx} {e : Expr} {t t' : TG} (h : PG X e t) (w : ∀ v σ H Q, t' v σ H Q → t v σ H Q) : PG X e t' := ⟨fun pins s σ H v u Q I r q => h.run pins s σ H v u Q I r (w _ _ _ _ q)⟩
theorem PGs.imp {X : Cx} {e : List Expr} {t t' : TGs} (h : PGs X e t) (w : ∀ v σ H Q, t' v σ H Q → t v σ H Q) : PGs X e t' := ⟨fun pins s σ H v u Q I r q => h.run pins s σ H v u Q I r (w _ _ _ _ q)⟩
abbrev PGd (X : Cx) (M : Mo) (H : Hp) (e : Expr) (t : TGD) : Prop := PG X e (LG X.K M H t)
abbrev PGsd (X : Cx) (M : Mo) (H : Hp) (e : List Expr) (t : TGsD) : Prop := PGs X e (LGs X.K M H t)
section
variable {e o i tg : Expr} {es : List Expr} {te to ti : TED} {t : TGD} {g : TGD} {u : TGsD} {pos pos' tpos : Pos} {x : Str} {k : Nat}
def gN (i : Nat) : TGD := fun d sd M Q => Q (sd.set i (some d)) M
theorem dg_name {i : Nat} (hN : X.N.Nodup) (hi : X.N[i]? = some x) (hx : Loc X.env.scope x) (hf : X.fn x = true ∨ X.env.scope.names.lookup x = some .local := by first | exact .inl rfl | exact .inr rfl | assumption) : PGd X M0 H0 (.Name x pos) (gN i) :=
  PG.imp (pg_name hN hi hx hf) fun v σ H Q ⟨d, sd, M, Qd, w, r, q, c⟩ => c _ _ _ _ w.here (w.rs.set r i) q
def gNl : TGsD := fun ds sd M Q => ds = [] ∧ Q sd M
def gCn (t : TGD) (u : TGsD) : TGsD := fun ds sd M Q => match ds with
  | d :: r => t d sd M fun sd' M' => u r sd' M' Q
  | [] => False
theorem dgs_nil : PGsd X M0 H0 [] gNl := PGs.imp pgs_nil fun v σ H Q ⟨d, sd, M, Qd, w, r, q, c⟩ => by
  obtain ⟨rfl, q⟩ := q
  exact ⟨r.zero, c _ _ _ _ w.here w.rs q⟩
theorem dgs_cons (h1 : PGd X M0 H0 e t) (h2 : PGsd X M0 H0 es u) (hs : (assignEach (e :: es) X.env).map (·.2) = assign e X.env :: (assignEach es X.env).map (·.2) := by rfl) : PGsd X M0 H0 (e :: es) (gCn t u) :=
  PGs.imp (pgs_cons h1 h2 hs) fun v σ H Q ⟨ds, sd, M, Qd, w, r, q, c⟩ => by
    unfold gCn at q
    split at q
    · rename_i d ds'
      unfold RDs at r
      obtain ⟨v, vr, rfl, r1, r2⟩ := r
      exact ⟨v, vr, rfl, d, sd, M, _, w, r1, q, fun sd' M' σ' H' s rs h => ⟨ds', sd', M', Qd, ⟨w.st.trans s, rs⟩, r2.keep s.keep, h, fun a b c' d' s' r' q' => c a b c' d' (s.trans s') r' q'⟩⟩
    · exact q.elim
def gTp (n : Nat) (t : TGsD) : TGD := fun d sd M Q => match seqT d with
  | some ds => ds.length = n ∧ t ds sd M Q
  | none => False
theorem dg_tup {n : Nat} (hc : X.calm = true) (h : PGsd X M0 H0 es u) (hn : (assignEach es X.env).length = n := by rfl) (hst : (assignEach es X.env).findIdx? (·.1) = none := by rfl) : PGd X M0 H0 (.Tuple es k pos) (gTp n u) :=
  PG.imp (pg_tup hc h hn hst) fun v σ H Q ⟨d, sd, M, Qd, w, r, q, c⟩ => by
    unfold gTp at q
    split at q
    · rename_i ds e
      obtain ⟨a, vs, rfl, sq, rr⟩ := seqT_ok r e
      exact ⟨a, vs, rfl, sq, by rw [← rr.length]; exact q.1, ds, sd, M, Qd, w, rr, q.2, c⟩
    · exact q.elim
/-- o[i] = v, by values -/
abbrev TSetD := Dv → Dv → Dv → Mo → (Mo → Prop) → Prop
def LSet (K : PySem.W.Frag) (t : TSetD) : TSet := fun o i v H Q => ∃ od id d M Qd, RD K H od o ∧ RD K H id i ∧ RD K H d v ∧ SR K M H ∧ t od id d M Qd ∧ ∀ M' H', Stp K M H M' H' → Qd M' → Q H'
def gSb (to ti : TED) (t : TSetD) : TGD := fun d sd M Q => to sd M fun o M1 => ti sd M1 fun i M2 => t o i d M2 fun M3 => Q sd M3
theorem PSet.imp {X : Cx} {t t' : TSet} (h : PSet X t) (w : ∀ o i v H Q, t' o i v H Q → t o i v H Q) : PSet X t' := fun pins s σ H o i v ov iv u Q I r1 r2 r3 q => h pins s σ H o i v ov iv u Q I r1 r2 r3 (w _ _ _ _ _ q)
theorem dg_sub {ts : TSetD} (ho : PEd X M0 H0 o to) (hi : PEd X M0 H0 i ti) (hs : PSet X (LSet X.K ts))
    (ha : ∀ v, assign (.Subscript o i pos) X.env v = (do
      let ov ← holding [v] (eval o X.env)
      let iv ← holding [v, ov] (eval i X.env)
      standAt pos
      holding [v, ov, iv] (setItem ov iv v)
      release [v, ov, iv] []) := by intro _; rfl) : PGd X M0 H0 (.Subscript o i pos) (gSb to ti ts) :=
  PG.imp (pg_sub ho hi hs ha) fun v σ H Q ⟨d, sd, M, Qd, w, r, q, c⟩ => ⟨sd, M, _, w, q, fun od M1 ov H1 s1 r1 q1 => ⟨sd, M1, _, w.on s1, q1, fun id M2 iv H2 s2 r2 q2 =>
    ⟨od, id, d, M2, _, r1.keep s2.keep, r2, r.keep (s1.keep.trans s2.keep), s2.sr, q2, fun M3 H3 s3 q3 => c _ _ _ _ (s1.trans (s2.trans s3)) (w.rs.keep (s1.keep.trans (s2.keep.trans s3.keep))) q3⟩⟩⟩
/-- an item of an owned list is stored -/
def dSetL : TSetD := fun o i d M Q => match o, i with
  | .ref a, .int k => match M a with
    | some (.lst ds) => match ixN ds.length k with
      | some j => Q (mup M a (.lst (ds.set j d)))
      | none => False
    | _ => False
  | _, _ => False
theorem xs_list : PSet X (LSet X.K dSetL) := PSet.imp set_list fun o i v H Q ⟨od, id, d, M, Qd, r1, r2, r3, sr, q, c⟩ => by
  unfold dSetL at q
  split at q
  · rename_i a k
    split at q
    · rename_i ds e
      split at q
      · rename_i j ej
        have ow := sr a _ e
        simp only [Own] at ow
        obtain ⟨vs, hv, rr⟩ := ow
        rw [r1.ref_of, r2.int_of]
        have mu : Mutd (H a) := by rw [hv]; trivial
        exact ⟨a, vs, k, j, rfl, rfl, hv, by rw [← rr.length]; exact ej, c _ _ (Stp.set sr e mu (by simp only [Own]; exact ⟨_, upd_same, ((rr.keep (Keep.mut mu)).set (r3.keep (Keep.mut mu)) j)⟩)) q⟩
      · exact q.elim
    · exact q.elim
  · exact q.elim
/-- target = value -/
def dAsg (te : TED) (g : TGD) : TSD := fun D sd M => te sd M fun d M1 => g d sd M1 D.nx
theorem ds_asg (he : PEd X M0 H0 e te) (hg : PGd X M0 H0 tg g) (hs : swapsWithSole [tg] e pos.line X.env = pure false := by rfl) (hw : swappedStores [tg] e X.env = pure none := by rfl)
    (h1 : (assignEach [tg] X.env).map (·.2) = [assign tg X.env] := by rfl) : PSd X M0 H0 (.Assign [tg] e pos) (dAsg te g) :=
  PS.imp (ps_asg he hg hs hw h1) fun D σ H ⟨sd, M, Dd, w, q, c⟩ => ⟨sd, M, _, w, q, fun d M1 v H1 s1 r1 q1 => ⟨d, sd, M1, _, w.on s1, r1, q1, fun sd' M' σ' H' s r h => c.nx _ _ _ _ (s1.trans s) r h⟩⟩
theorem ds_set {i : Nat} (hN : X.N.Nodup) (hi : X.N[i]? = some x) (hx : Loc X.env.scope x) (he : PEd X M0 H0 e te) (hs : swapsWith e (some (.Name x pos')) pos.line X.env = pure false := by rfl) (hf : X.fn x = true ∨ X.env.scope.names.lookup x = some .local := by first | exact .inl rfl | exact .inr rfl | assumption) :
    PSd X M0 H0 (.Assign [.Name x pos'] e pos) (dAsg te (gN i)) :=
  PS.imp (ps_set hN hi hx he hs hf) fun D σ H ⟨sd, M, Dd, w, q, c⟩ => ⟨sd, M, _, w, q, fun d M1 v H1 s1 r1 q1 => c.nx _ _ _ _ s1 ((w.rs.keep s1.keep).set r1 i) q1⟩
def dAug (i : Nat) (te : TED) (rd : R2d) : TSD := fun D sd M => match sd[i]? with
  | some (some x) => te sd M fun y M1 => rd x y M1 fun z M2 => D.nx (sd.set i (some z)) M2
  | _ => False
theorem ds_aug {i : Nat} {op : Operator} {rd : R2d} (hN : X.N.Nodup) (hi : X.N[i]? = some x) (hx : Loc X.env.scope x) (he : PEd X M0 H0 e te) (ho : PIp X op (L2op X.K rd)) (hf : X.fn x = true ∨ X.env.scope.names.lookup x = some .local := by first | exact .inl rfl | exact .inr rfl | assumption) :
    PSd X M0 H0 (.AugAssign (.Name x pos') op e pos) (dAug i te rd) :=
  PS.imp (ps_aug hN hi hx he ho hf) fun D σ H ⟨sd, M, Dd, w, q, c⟩ => by
    unfold dAug at q
    split at q
    · rename_i d ed
      obtain ⟨v, hv, rv⟩ := w.rs.2 i d ed
      exact ⟨v, hv, sd, M, _, w, q, fun y M1 u H1 s1 r1 q1 => ⟨d, y, M1, _, rv.keep s1.keep, r1, s1.sr, q1, fun z M2 zv H2 s2 r2 q2 => c.nx _ _ _ _ (s1.trans s2) ((w.rs.keep (s1.keep.trans s2.keep)).set r2 i) q2⟩⟩
    · exact q.elim
end
theorem ip_of {op : Operator} {r : R2} {rd : R2d} (h : OpR X (inplaceOp op) r) (w : ∀ d e M Qd x y H Q, RD X.K H d x → RD X.K H e y → SR X.K M H → rd d e M Qd → Ct X.K M H Qd Q → r x y H Q) : PIp X op (L2op X.K rd) :=
  fun pins s σ H x y v u Q I rx ry ⟨d, e, M, Qd, r1, r2, sr, q, c⟩ => h pins s σ H x y v u Q I rx ry (w d e M Qd x y H Q r1 r2 sr q c)
/-- += on ints and texts -/
def dIAdd : R2d := fun d e M Q => match d, e with
  | .int i, .int j => Q (.int (i + j)) M
  | .str x, .str y => x.length + y.length ≤ 16777216 ∧ Q (.str (x ++ y)) M
  | _, _ => False
theorem xi_add : PIp X .Add (L2op X.K dIAdd) := ip_of (iop_add.or iop_add_str) fun d e M Qd x y H Q r1 r2 sr q c => by
  unfold dIAdd at q
  split at q
  · exact .inl ⟨_, _, r1.int_of, r2.int_of, c _ M _ H (.refl sr) .int q⟩
  · exact .inr ⟨_, _, r1.str_of, r2.str_of, by rw [← line_eq]; exact q.1, c _ M _ H (.refl sr) .str q.2⟩
  · exact q.elim
/-! ### while -/
section
variable {c tg iter : Expr} {body : List Stmt} {tc : TTD} {tb : TSD} {pos : Pos}
def dWhile (c : TTD) (tb : TSD) : TSD := fun D sd M => ∃ W : Nat → StD → Mo → Prop, (∃ m, W m sd M) ∧ ∀ m sd M, W m sd M →
  c sd M fun b M1 => if b = true then tb { D with nx := fun sd' M' => ∃ m', m' < m ∧ W m' sd' M', ct := fun sd' M' => ∃ m', m' < m ∧ W m' sd' M', bk := D.nx } sd M1 else D.nx sd M1
theorem ds_while (hp : PassesOwn (model X.prog X.w) X.A X.env X.xe) (hc : PTd X M0 H0 c tc) (hb : PSsd X M0 H0 body tb) : PSd X M0 H0 (.While c body [] pos) (dWhile tc tb) :=
  PS.imp (ps_while hp hc hb) fun D σ H ⟨sd, M, Dd, w, ⟨W, ⟨m0, w0⟩, turn⟩, c⟩ => by
    refine ⟨fun m σ' H' => ∃ sd' M', Stp X.K M H M' H' ∧ Rs X.K H' sd' σ' ∧ W m sd' M', ⟨m0, sd, M, w.here, w.rs, w0⟩, ?_⟩
    rintro m σ' H' ⟨sd', M', s, r, hW⟩
    refine ⟨sd', M', _, ⟨w.st.trans s, r⟩, turn m sd' M' hW, fun b M1 H1 s1 q1 => ?_⟩
    have r1 := r.keep s1.keep
    have ss := s.trans s1
    cases b with
    | true =>
      rw [if_pos rfl] at q1
      refine iteT ?_
      refine ⟨fun σ2 H2 => ∃ m', m' < m ∧ ∃ sd2 M2, Stp X.K M H M2 H2 ∧ Rs X.K H2 sd2 σ2 ∧ W m' sd2 M2, fun σ2 H2 h => h, sd', M1, _, ⟨w.st.trans ss, r1⟩, q1, ⟨fun sd2 M2 σ2 H2 s2 r2 h => ?_, c.rt.on ss, fun sd2 M2 σ2 H2 s2 r2 h => c.nx _ _ _ _ (ss.trans s2) r2 h, fun sd2 M2 σ2 H2 s2 r2 h => ?_⟩⟩
      · obtain ⟨m', hm, hw⟩ := h
        exact ⟨m', hm, sd2, M2, ss.trans s2, r2, hw⟩
      · obtain ⟨m', hm, hw⟩ := h
        exact ⟨m', hm, sd2, M2, ss.trans s2, r2, hw⟩
    | false =>
      rw [if_neg Bool.false_ne_true] at q1
      exact iteF (c.nx _ _ _ _ ss r1 q1)
/-! ### for -/
/-- what is walked: its items, and what must hold at each turn -/
structure ItD where
  ds : List Dv
  ok : Mo → Prop
abbrev TID := StD → Mo → (ItD → Mo → Prop) → Prop
/-- the walk J' of the heap from (M, H) on gives J's items -/
structure ItRel (K : PySem.W.Frag) (J : ItD) (M : Mo) (H : Hp) (J' : It) : Prop where
  go : ∀ i d M1 H1, Stp K M H M1 H1 → J.ok M1 → J.ds[i]? = some d → J'.go i H1 ∧ ∀ x H2, J'.yld i H1 x H2 → Stp K M1 H1 M1 H2 ∧ RD K H2 d x
  stop : ∀ M1 H1, Stp K M H M1 H1 → J.ok M1 → J'.stop J.ds.length H1
def LI (K : PySem.W.Frag) (M0 : Mo) (H0 : Hp) (t : TID) : TI := fun σ H R => ∃ sd M Rd, At K M0 H0 sd M σ H ∧ t sd M Rd ∧ ∀ J M' J' H', Stp K M H M' H' → ItRel K J M' H' J' → Rd J M' → R J' H'
theorem PI.imp {X : Cx} {tg e : Expr} {t t' : TI} (h : PI X tg e t) (w : ∀ σ H Q, t' σ H Q → t σ H Q) : PI X tg e t' := ⟨fun pins s σ H Q I q => h.run pins s σ H Q I (w _ _ _ q)⟩
abbrev PId (X : Cx) (M : Mo) (H : Hp) (tg e : Expr) (t : TID) : Prop := PI X tg e (LI X.K M H t)
def dFor (wi : TID) (g : TGD) (tb : TSD) : TSD := fun D sd M => wi sd M fun J M1 => ∃ W : Nat → StD → Mo → Prop, W 0 sd M1 ∧ (∀ i sd M, i ≤ J.ds.length → W i sd M → J.ok M) ∧
  (∀ i d sd M, J.ds[i]? = some d → W i sd M → g d sd M fun sd2 M2 => tb { D with nx := W (i + 1), ct := W (i + 1), bk := D.nx } sd2 M2) ∧ ∀ sd M, W J.ds.length sd M → D.nx sd M
theorem ds_for {wi : TID} {g : TGD} (hp : PassesOwn (model X.prog X.w) X.A X.env X.xe) (hc : X.calm = true) (hi : PId X M0 H0 tg iter wi) (hg : PGd X M0 H0 tg g) (hb : PSsd X M0 H0 body tb)
    (hs : ∀ x, foldedSetIterable iter X.env x = pure x := by intro _; rfl) : PSd X M0 H0 (.For tg iter body [] pos) (dFor wi g tb) :=
  PS.imp (ps_for hp hc hi hg hb hs) fun D σ H ⟨sd, M, Dd, w, q, c⟩ => by
    refine ⟨sd, M, _, w, q, ?_⟩
    rintro J M1 J' H1 s1 jr ⟨W, w0, hok, turn, done⟩
    have w1 := w.on s1
    refine ⟨fun i m σ' H' => m = J.ds.length - i ∧ i ≤ J.ds.length ∧ ∃ sd' M', Stp X.K M1 H1 M' H' ∧ Rs X.K H' sd' σ' ∧ W i sd' M', ⟨J.ds.length, rfl, Nat.zero_le _, sd, M1, w1.here, w1.rs, w0⟩, ?_⟩
    rintro i m σ' H' ⟨rfl, hi', sd', M', s, r, hW⟩
    have ok := hok i sd' M' hi' hW
    by_cases hlt : i < J.ds.length
    · obtain ⟨g1, g2⟩ := jr.go i J.ds[i] M' H' s ok (by simp [hlt])
      refine .inr ⟨g1, fun σ2 H2 => ∃ sd2 M2, Stp X.K M1 H1 M2 H2 ∧ Rs X.K H2 sd2 σ2 ∧ W (i + 1) sd2 M2, fun σ2 H2 h => ⟨J.ds.length - (i + 1), by omega, rfl, hlt, h⟩, fun x H2 y => ?_⟩
      obtain ⟨s2, rx⟩ := g2 x H2 y
      have ss := s.trans s2
      refine ⟨J.ds[i], sd', M', _, ⟨w1.st.trans ss, r.keep s2.keep⟩, rx, turn i _ sd' M' (by simp [hlt]) hW, fun sd3 M3 σ3 H3 s3 r3 q3 => ?_⟩
      have s13 := ss.trans s3
      exact ⟨sd3, M3, _, ⟨w1.st.trans s13, r3⟩, q3, ⟨fun sd4 M4 σ4 H4 s4 r4 h => ⟨sd4, M4, s13.trans s4, r4, h⟩, c.rt.on (s1.trans s13), fun sd4 M4 σ4 H4 s4 r4 h => c.nx _ _ _ _ (s1.trans (s13.trans s4)) r4 h, fun sd4 M4 σ4 H4 s4 r4 h => ⟨sd4, M4, s13.trans s4, r4, h⟩⟩⟩
    · have e : i = J.ds.length := by omega
      subst e
      exact .inl ⟨jr.stop M' H' s ok, c.nx _ _ _ _ (s1.trans s) r (done sd' M' hW)⟩
/-- a list walked -/
def iSeq (t : TED) : TID := fun sd M R => t sd M fun d M1 => match d with
  | .lst ds => R ⟨ds, fun _ => True⟩ M1
  | .ref a => match M1 a with
    | some (.lst ds) => R ⟨ds, fun M => M a = some (.lst ds)⟩ M1
    | _ => False
  | _ => False
/-- list by its address: what stands there -/
theorem itl_rel {K : PySem.W.Frag} {M : Mo} {H : Hp} {a : Addr} {ds : List Dv} {ok : Mo → Prop} (h : ∀ M1 H1, Stp K M H M1 H1 → ok M1 → ∃ vs, SqL K H1 a vs ∧ RDs K H1 ds vs) : ItRel K ⟨ds, ok⟩ M H (Itl K a) :=
  ⟨fun i d M1 H1 s o e => by
    obtain ⟨vs, sq, rr⟩ := h M1 H1 s o
    obtain ⟨v, hv, rv⟩ := rr.get e
    refine ⟨⟨vs, v, sq, hv⟩, fun x H2 y => ?_⟩
    obtain ⟨rfl, y⟩ := y
    have := y vs sq
    rw [hv] at this
    cases this
    exact ⟨.refl s.sr, rv⟩, fun M1 H1 s o => by
    obtain ⟨vs, sq, rr⟩ := h M1 H1 s o
    exact ⟨vs, sq, by rw [← rr.length]; exact Nat.le_refl _⟩⟩
end
end
end DL
namespace DL
open PySem PySem.Spec PyProof.Rows L2
section
variable {X : Cx} {M0 : Mo} {H0 : Hp}
/-! ### what is walked -/
section
variable {e e2 tg : Expr} {te : TED} {ta : TAD} {p pos tpos : Pos}
theorem own_at {K : PySem.W.Frag} {M : Mo} {H : Hp} {a : Addr} {ds : List Dv} (s : SR K M H) (h : M a = some (.lst ds)) : ∃ vs, H a = some (.lst vs) ∧ RDs K H ds vs := by
  have o := s a _ h
  simp only [Own] at o
  exact o
theorem itl_own {K : PySem.W.Frag} {M : Mo} {H : Hp} {a : Addr} {ds : List Dv} : ItRel K ⟨ds, fun M => M a = some (.lst ds)⟩ M H (Itl K a) :=
  itl_rel fun M1 H1 s o => by
    obtain ⟨vs, hv, r⟩ := own_at s.sr o
    exact ⟨vs, .inl (.inl hv), r⟩
theorem itl_fz {K : PySem.W.Frag} {M : Mo} {H : Hp} {a : Addr} {ds : List Dv} {vs : List V} (f : FzL K H a vs) (r : RDs K H ds vs) : ItRel K ⟨ds, fun _ => True⟩ M H (Itl K a) :=
  itl_rel fun M1 H1 s o => ⟨vs, (s.keep.fz f).seq, r.keep s.keep⟩
/-- a list, as it stands at each turn -/
theorem di_list (he : PEd X M0 H0 e te) : PId X M0 H0 tg e (iSeq te) :=
  PI.imp (pi_list he) fun σ H R ⟨sd, M, Rd, w, q, c⟩ => ⟨sd, M, _, w, q, fun d M1 v H1 s1 r1 q1 => by
    split at q1
    · rename_i ds
      unfold RD at r1
      obtain ⟨a, vs, rfl, f, rr⟩ := r1
      exact ⟨a, rfl, ⟨vs, f.seq⟩, c _ _ _ _ s1 (itl_fz f rr) q1⟩
    · rename_i a
      split at q1
      · rename_i ds e
        obtain ⟨vs, hv, rr⟩ := own_at s1.sr e
        rw [r1.ref_of]
        exact ⟨a, rfl, ⟨vs, .inl (.inl hv)⟩, c _ _ _ _ s1 itl_own q1⟩
      · exact q1.elim
    · exact q1.elim⟩
/-- a tuple -/
def iTupD (t : TED) : TID := fun sd M R => t sd M fun d M1 => match d with
  | .tup ds => R ⟨ds, fun _ => True⟩ M1
  | _ => False
theorem di_tup (he : PEd X M0 H0 e te) : PId X M0 H0 tg e (iTupD te) :=
  PI.imp (pi_tup he) fun σ H R ⟨sd, M, Rd, w, q, c⟩ => ⟨sd, M, _, w, q, fun d M1 v H1 s1 r1 q1 => by
    split at q1
    · rename_i ds
      unfold RD at r1
      obtain ⟨a, vs, rfl, f, rr⟩ := r1
      refine ⟨a, rfl, ⟨vs, f⟩, c _ _ _ _ s1 ⟨fun i d M2 H2 s o e => ?_, fun M2 H2 s o => ?_⟩ q1⟩
      · obtain ⟨v, hv, rv⟩ := (rr.keep s.keep).get e
        refine ⟨⟨vs, v, s.keep.seqT f, hv⟩, fun x H3 y => ?_⟩
        obtain ⟨rfl, y⟩ := y
        have z := y vs (s.keep.seqT f)
        rw [hv] at z
        cases z
        exact ⟨.refl s.sr, rv⟩
      · exact ⟨vs, s.keep.seqT f, by rw [← rr.length]; exact Nat.le_refl _⟩
    · exact q1.elim⟩
def rngD (lo : Int) (n : Nat) : List Dv := (List.range n).map fun i => .int (lo + (i : Nat))
theorem rngD_length (lo : Int) (n : Nat) : (rngD lo n).length = n := by unfold rngD; simp
theorem rngD_get {lo : Int} {n i : Nat} {d : Dv} (h : (rngD lo n)[i]? = some d) : i < n ∧ d = .int (lo + (i : Nat)) := by
  have hi : i < n := by
    have := (List.getElem?_eq_some_iff.mp h).1
    rwa [rngD_length] at this
  refine ⟨hi, ?_⟩
  unfold rngD at h
  rw [List.getElem?_map, List.getElem?_range hi] at h
  exact (Option.some.inj h).symm
theorem itr_rel {K : PySem.W.Frag} {M : Mo} {H : Hp} {lo : Int} {n : Nat} : ItRel K ⟨rngD lo n, fun _ => True⟩ M H (Itr lo n) :=
  ⟨fun i d M1 H1 s o e => by
    obtain ⟨hi, rfl⟩ := rngD_get e
    refine ⟨hi, fun x H2 y => ?_⟩
    obtain ⟨rfl, rfl⟩ := y
    exact ⟨.refl s.sr, .int⟩, fun M1 H1 s o => by show n ≤ _; rw [rngD_length]; exact Nat.le_refl _⟩
def iRng1D (ta : TAD) : TID := fun sd M R => ta sd M fun ds M1 => match ds with
  | [.int j] => j < 4611686018427387904 ∧ -4611686018427387904 ≤ j ∧ R ⟨rngD 0 j.toNat, fun _ => True⟩ M1
  | _ => False
def iRng2D (ta : TAD) : TID := fun sd M R => ta sd M fun ds M1 => match ds with
  | [.int i, .int j] => (i < 4611686018427387904 ∧ -4611686018427387904 ≤ i ∧ j < 4611686018427387904 ∧ -4611686018427387904 ≤ j) ∧ R ⟨rngD i (j - i).toNat, fun _ => True⟩ M1
  | _ => False
theorem di_range1 (hg : Gl X "range") (hm : X.mg "range" = none) (ha : PAd X M0 H0 [e] ta) (hs : starEach [e] X.env = [(false, eval e X.env)] := by rfl) : PId X M0 H0 tg (.Call (.Name "range" p) [e] [] pos) (iRng1D ta) :=
  PI.imp (pi_range1 hg hm ha hs) fun σ H R ⟨sd, M, Rd, w, q, c⟩ => ⟨sd, M, _, w, q, fun d M1 v H1 s1 r1 q1 => by
    split at q1
    · rename_i j
      obtain ⟨v, rfl, r⟩ := r1.one
      rw [r.int_of]
      obtain ⟨h1, h2, q1⟩ := q1
      exact ⟨j, rfl, h2, h1, c _ _ _ _ s1 itr_rel q1⟩
    · exact q1.elim⟩
/-- a text's signs -/
def signsD (x : Str) : List Dv := x.cps.toList.map fun c => .str ⟨#[c]⟩
theorem signsD_get {x : Str} {i : Nat} {d : Dv} (h : (signsD x)[i]? = some d) : ∃ c, x.cps[i]? = some c ∧ d = .str ⟨#[c]⟩ := by
  unfold signsD at h
  rw [List.getElem?_map] at h
  cases e : x.cps.toList[i]? with
  | none => rw [e] at h; cases h
  | some c =>
    rw [e] at h
    exact ⟨c, by rw [← Array.getElem?_toList]; exact e, (Option.some.inj h).symm⟩
theorem its_rel {K : PySem.W.Frag} {M : Mo} {H : Hp} {x : Str} : ItRel K ⟨signsD x, fun _ => True⟩ M H (Its x) :=
  ⟨fun i d M1 H1 s o e => by
    obtain ⟨c, hc, rfl⟩ := signsD_get e
    refine ⟨(Array.getElem?_eq_some_iff.mp hc).1, fun v H2 y => ?_⟩
    obtain ⟨rfl, c', hc', rfl⟩ := y
    rw [hc] at hc'
    cases hc'
    exact ⟨.refl s.sr, .str⟩, fun M1 H1 s o => by show x.cps.size ≤ _; unfold signsD; simp⟩
def iStrD (t : TED) : TID := fun sd M R => t sd M fun d M1 => match d with
  | .str x => R ⟨signsD x, fun _ => True⟩ M1
  | _ => False
theorem di_str (he : PEd X M0 H0 e te) : PId X M0 H0 tg e (iStrD te) :=
  PI.imp (pi_str he) fun σ H R ⟨sd, M, Rd, w, q, c⟩ => ⟨sd, M, _, w, q, fun d M1 v H1 s1 r1 q1 => by
    split at q1
    · rename_i x
      exact ⟨x, r1.str_of, c _ _ _ _ s1 its_rel q1⟩
    · exact q1.elim⟩
/-- pairs of numbers and items -/
def enumD (n : Nat) : List Dv → List Dv
  | [] => []
  | d :: ds => .tup [.int (n : Nat), d] :: enumD (n + 1) ds
theorem enumD_length : ∀ (ds : List Dv) (n : Nat), (enumD n ds).length = ds.length
  | [], _ => rfl
  | d :: ds, n => by unfold enumD; rw [List.length_cons, List.length_cons, enumD_length ds]
theorem enumD_get : ∀ {ds : List Dv} {n i : Nat} {d : Dv}, (enumD n ds)[i]? = some d → ∃ x, ds[i]? = some x ∧ d = .tup [.int ((n + i : Nat) : Int), x]
  | [], _, _, _, h => by unfold enumD at h; simp at h
  | x :: ds, n, 0, d, h => by unfold enumD at h; simp at h; exact ⟨x, rfl, h.symm⟩
  | x :: ds, n, i + 1, d, h => by
    unfold enumD at h
    obtain ⟨y, hy, e⟩ := enumD_get (ds := ds) (n := n + 1) (i := i) (by simpa using h)
    refine ⟨y, by simpa using hy, ?_⟩
    rw [e]
    have : n + 1 + i = n + (i + 1) := by omega
    rw [this]
theorem RD.pair {K : PySem.W.Frag} {H : Hp} {T : Addr} {x y : V} {d e : Dv} (h1 : RD K H d x) (h2 : RD K H e y) (hT : H T = none) : RD K (upd H T (.tup [x, y])) (.tup [d, e]) (.ref T) := by
  have k : Keep H (upd H T (.tup [x, y])) := Keep.new hT
  unfold RD
  exact ⟨T, [x, y], rfl, .inl (.inl upd_same), .cons (h1.keep k) (.cons (h2.keep k) .nil)⟩
theorem ite_rel {K : PySem.W.Frag} {M : Mo} {H : Hp} {a : Addr} {ds : List Dv} {ok : Mo → Prop} (h : ∀ M1 H1, Stp K M H M1 H1 → ok M1 → ∃ vs, SqL K H1 a vs ∧ RDs K H1 ds vs) : ItRel K ⟨enumD 0 ds, ok⟩ M H (Ite K a) :=
  ⟨fun i d M1 H1 s o e => by
    obtain ⟨vs, sq, rr⟩ := h M1 H1 s o
    obtain ⟨y, hy, rfl⟩ := enumD_get e
    obtain ⟨v, hv, rv⟩ := rr.get hy
    refine ⟨⟨vs, v, sq, hv⟩, fun x H2 z => ?_⟩
    obtain ⟨T, x', rfl, hT, rfl, z⟩ := z
    have := z vs sq
    rw [hv] at this
    cases this
    refine ⟨Stp.new0 s.sr hT, ?_⟩
    rw [Nat.zero_add]
    exact RD.pair .int rv hT, fun M1 H1 s o => by
    obtain ⟨vs, sq, rr⟩ := h M1 H1 s o
    exact ⟨vs, sq, by rw [← rr.length]; show _ ≤ (enumD 0 ds).length; rw [enumD_length]; exact Nat.le_refl _⟩⟩
def iEnumD (ta : TAD) : TID := fun sd M R => ta sd M fun ds M1 => match ds with
  | [.lst xs] => R ⟨enumD 0 xs, fun _ => True⟩ M1
  | [.ref a] => match M1 a with
    | some (.lst xs) => R ⟨enumD 0 xs, fun M => M a = some (.lst xs)⟩ M1
    | _ => False
  | _ => False
theorem di_enum {elts : List Expr} {kk : Nat} (hg : Gl X "enumerate") (hm : X.mg "enumerate" = none) (ha : PAd X M0 H0 [e] ta) (hs : starEach [e] X.env = [(false, eval e X.env)] := by rfl) :
    PId X M0 H0 (.Tuple elts kk tpos) (.Call (.Name "enumerate" p) [e] [] pos) (iEnumD ta) :=
  PI.imp (pi_enum hg hm ha hs) fun σ H R ⟨sd, M, Rd, w, q, c⟩ => ⟨sd, M, _, w, q, fun d M1 v H1 s1 r1 q1 => by
    split at q1
    · rename_i ds
      obtain ⟨v, rfl, r⟩ := r1.one
      unfold RD at r
      obtain ⟨a, vs, rfl, f, rr⟩ := r
      exact ⟨a, vs, rfl, f.seq, c _ _ _ _ s1 (ite_rel fun M2 H2 s o => ⟨vs, (s.keep.fz f).seq, rr.keep s.keep⟩) q1⟩
    · rename_i a
      obtain ⟨v, rfl, r⟩ := r1.one
      split at q1
      · rename_i ds e
        obtain ⟨vs, hv, rr⟩ := own_at s1.sr e
        rw [r.ref_of]
        exact ⟨a, vs, rfl, .inl (.inl hv), c _ _ _ _ s1 (ite_rel fun M2 H2 s o => by
          obtain ⟨vs, hv, r⟩ := own_at s.sr o
          exact ⟨vs, .inl (.inl hv), r⟩) q1⟩
      · exact q1.elim
    · exact q1.elim⟩
end
/-! ### targets of a comprehension -/
inductive Tgt where
  | nm (i : Nat) | tp (ts : List Tgt)
mutual
def hG (K : PySem.W.Frag) : Tgt → TG
  | .nm i => gName i
  | .tp ts => gTup K ts.length (hGs K ts)
def hGs (K : PySem.W.Frag) : List Tgt → TGs
  | [] => gNil
  | t :: ts => gCons (hG K t) (hGs K ts)
end
mutual
def dG : Tgt → TGD
  | .nm i => gN i
  | .tp ts => gTp ts.length (dGs ts)
def dGs : List Tgt → TGsD
  | [] => gNl
  | t :: ts => gCn (dG t) (dGs ts)
end
mutual
def slotsT : Tgt → List Nat
  | .nm i => [i]
  | .tp ts => slotsTs ts
def slotsTs : List Tgt → List Nat
  | [] => []
  | t :: ts => slotsT t ++ slotsTs ts
end
mutual
theorem hG_imp {K : PySem.W.Frag} : ∀ (t : Tgt) (v : V) (σ : L2.St) (H : Hp) (Q : L2.St → Hp → Prop), LG K M0 H0 (dG t) v σ H Q → hG K t v σ H Q
  | .nm i, v, σ, H, Q, h => by
    unfold dG at h
    unfold hG
    obtain ⟨d, sd, M, Qd, w, r, q, c⟩ := h
    exact c _ _ _ _ w.here (w.rs.set r i) q
  | .tp ts, v, σ, H, Q, h => by
    unfold dG at h
    unfold hG
    obtain ⟨d, sd, M, Qd, w, r, q, c⟩ := h
    unfold gTp at q
    split at q
    · rename_i ds e
      obtain ⟨a, vs, rfl, sq, rr⟩ := seqT_ok r e
      exact ⟨a, vs, rfl, sq, by rw [← rr.length]; exact q.1, hGs_imp ts vs σ H Q ⟨ds, sd, M, Qd, w, rr, q.2, c⟩⟩
    · exact q.elim
theorem hGs_imp {K : PySem.W.Frag} : ∀ (ts : List Tgt) (vs : List V) (σ : L2.St) (H : Hp) (Q : L2.St → Hp → Prop), LGs K M0 H0 (dGs ts) vs σ H Q → hGs K ts vs σ H Q
  | [], vs, σ, H, Q, h => by
    unfold dGs at h
    unfold hGs
    obtain ⟨ds, sd, M, Qd, w, r, ⟨rfl, q⟩, c⟩ := h
    exact ⟨r.zero, c _ _ _ _ w.here w.rs q⟩
  | t :: ts, vs, σ, H, Q, h => by
    unfold dGs at h
    unfold hGs
    obtain ⟨ds, sd, M, Qd, w, r, q, c⟩ := h
    unfold gCn at q
    split at q
    · rename_i d ds'
      unfold RDs at r
      obtain ⟨v, vr, rfl, r1, r2⟩ := r
      exact ⟨v, vr, rfl, hG_imp t v σ H _ ⟨d, sd, M, _, w, r1, q, fun sd' M' σ' H' s rs h => hGs_imp ts vr σ' H' Q ⟨ds', sd', M', Qd, ⟨w.st.trans s, rs⟩, r2.keep s.keep, h, fun a b c' d' s' r' q' => c a b c' d' (s.trans s') r' q'⟩⟩⟩
    · exact q.elim
end
theorem wipe_set {σ : L2.St} {i : Nat} {o : Option V} : ∀ {vs : List Nat}, i ∈ vs → wipe (σ.set i o) vs = wipe σ vs
  | [], h => by simp at h
  | v :: vs, h => by
    unfold wipe
    by_cases e : i ∈ vs
    · rw [wipe_set e]
    · have ev : i = v := by
        rcases List.mem_cons.mp h with z | z
        · exact z
        · exact absurd z e
      subst ev
      have : ∀ (ws : List Nat) (σ : L2.St), i ∉ ws → wipe (σ.set i o) ws = (wipe σ ws).set i o := by
        intro ws
        induction ws with
        | nil => intro σ _; rfl
        | cons w ws ih =>
          intro σ hn
          unfold wipe
          rw [ih σ (fun z => hn (List.mem_cons_of_mem _ z))]
          rw [List.set_comm _ _ (fun z : w = i => hn (by rw [z]; exact List.mem_cons_self))]
      rw [this vs σ e, List.set_set]
mutual
theorem hG_wipe {K : PySem.W.Frag} {vs : List Nat} : ∀ (t : Tgt), (∀ i ∈ slotsT t, i ∈ vs) → ∀ (v : V) (σ : L2.St) (H : Hp) (Q : L2.St → Hp → Prop), hG K t v σ H Q → hG K t v σ H fun σ2 H2 => wipe σ2 vs = wipe σ vs ∧ Q σ2 H2
  | .nm i, hs, v, σ, H, Q, h => by
    unfold hG at h ⊢
    exact ⟨wipe_set (hs i (by unfold slotsT; simp)), h⟩
  | .tp ts, hs, v, σ, H, Q, h => by
    unfold hG at h ⊢
    obtain ⟨a, xs, e1, e2, e3, h⟩ := h
    exact ⟨a, xs, e1, e2, e3, hGs_wipe ts (fun i hi => hs i (by unfold slotsT; exact hi)) xs σ H Q h⟩
theorem hGs_wipe {K : PySem.W.Frag} {vs : List Nat} : ∀ (ts : List Tgt), (∀ i ∈ slotsTs ts, i ∈ vs) → ∀ (xs : List V) (σ : L2.St) (H : Hp) (Q : L2.St → Hp → Prop), hGs K ts xs σ H Q → hGs K ts xs σ H fun σ2 H2 => wipe σ2 vs = wipe σ vs ∧ Q σ2 H2
  | [], hs, xs, σ, H, Q, h => by
    unfold hGs at h ⊢
    exact ⟨h.1, rfl, h.2⟩
  | t :: ts, hs, xs, σ, H, Q, h => by
    unfold hGs at h ⊢
    obtain ⟨v, r, e, h⟩ := h
    refine ⟨v, r, e, ?_⟩
    have h1 := hG_wipe (vs := vs) t (fun i hi => hs i (by unfold slotsTs; exact List.mem_append_left _ hi)) v σ H _ h
    -- the rest, at each end of the first
    exact hG_mono t v σ H _ _ (fun σ2 H2 ⟨e2, z⟩ => by
      have h2 := hGs_wipe (vs := vs) ts (fun i hi => hs i (by unfold slotsTs; exact List.mem_append_right _ hi)) r σ2 H2 Q z
      exact hGs_mono ts r σ2 H2 _ _ (fun σ3 H3 ⟨e3, z3⟩ => ⟨e3.trans e2, z3⟩) h2) h1
theorem hG_mono {K : PySem.W.Frag} : ∀ (t : Tgt) (v : V) (σ : L2.St) (H : Hp) (Q Q' : L2.St → Hp → Prop), (∀ a b, Q a b → Q' a b) → hG K t v σ H Q → hG K t v σ H Q'
  | .nm i, v, σ, H, Q, Q', m, h => by
    unfold hG at h ⊢
    exact m _ _ h
  | .tp ts, v, σ, H, Q, Q', m, h => by
    unfold hG at h ⊢
    obtain ⟨a, xs, e1, e2, e3, h⟩ := h
    exact ⟨a, xs, e1, e2, e3, hGs_mono ts xs σ H Q Q' m h⟩
theorem hGs_mono {K : PySem.W.Frag} : ∀ (ts : List Tgt) (xs : List V) (σ : L2.St) (H : Hp) (Q Q' : L2.St → Hp → Prop), (∀ a b, Q a b → Q' a b) → hGs K ts xs σ H Q → hGs K ts xs σ H Q'
  | [], xs, σ, H, Q, Q', m, h => by
    unfold hGs at h ⊢
    exact ⟨h.1, m _ _ h.2⟩
  | t :: ts, xs, σ, H, Q, Q', m, h => by
    unfold hGs at h ⊢
    obtain ⟨v, r, e, h⟩ := h
    exact ⟨v, r, e, hG_mono t v σ H _ _ (fun σ2 H2 z => hGs_mono ts r σ2 H2 _ _ m z) h⟩
end
theorem wipe_in {σ : L2.St} {i : Nat} : ∀ {vs : List Nat}, i ∈ vs → (wipe σ vs)[i]? = if i < σ.length then some none else none
  | [], h => by simp at h
  | v :: vs, h => by
    unfold wipe
    by_cases e : v = i
    · subst e
      by_cases l : v < σ.length
      · rw [if_pos l, List.getElem?_set_self (by rw [wipe_length]; exact l)]
      · rw [if_neg l, List.getElem?_eq_none (by rw [List.length_set, wipe_length]; omega)]
    · rw [List.getElem?_set_ne e]
      exact wipe_in ((List.mem_cons.mp h).resolve_left (fun z => e z.symm))
theorem wipe_wipe (σ : L2.St) (vs : List Nat) : wipe (wipe σ vs) vs = wipe σ vs := by
  refine List.ext_getElem? fun i => ?_
  by_cases h : i ∈ vs
  · rw [wipe_in h, wipe_in h, wipe_length]
  · rw [wipe_out h]
/-! ### comprehensions -/
def wipeD (sd : StD) : List Nat → StD
  | [] => sd
  | v :: vs => (wipeD sd vs).set v none
theorem Rs.wipe {K : PySem.W.Frag} {H : Hp} {sd : StD} {σ : L2.St} (r : Rs K H sd σ) : ∀ vs : List Nat, Rs K H (wipeD sd vs) (L2.wipe σ vs)
  | [] => r
  | v :: vs => by
    unfold wipeD L2.wipe
    exact (Rs.wipe r vs).setN none v
structure PTsD (X : Cx) (M : Mo) (H : Hp) (ifs : List Expr) (t : TTD) : Prop where
  run : PTs X ifs (LT X.K M H t)
def dYes : TTD := fun _ M Q => Q true M
theorem PTs.imp {X : Cx} {e : List Expr} {t t' : TT} (h : PTs X e t) (w : ∀ σ H Q, t' σ H Q → t σ H Q) : PTs X e t' := ⟨fun pins s σ H Q I q => h.run pins s σ H Q I (w _ _ _ q)⟩
theorem dts_nil : PTsD X M0 H0 [] dYes := ⟨PTs.imp pts_nil fun σ H Q ⟨sd, M, Qd, w, q, c⟩ => c _ _ _ w.here q⟩
theorem dts_one {c : Expr} {t : TTD} (h : PTd X M0 H0 c t) : PTsD X M0 H0 [c] t := ⟨pts_one h⟩
def dLc (wi : TID) (g : Tgt) (tt : TTD) (te : TED) (vs : List Nat) : TED := fun sd M Q => wi sd M fun J M1 => J.ds.length ≤ 16777216 ∧ ∃ W : Nat → List Dv → Mo → Prop, W 0 [] M1 ∧
  (∀ i acc M, i ≤ J.ds.length → W i acc M → J.ok M) ∧
  (∀ i d acc M, J.ds[i]? = some d → acc.length ≤ i → W i acc M → dG g d (wipeD sd vs) M fun sd2 M2 => tt sd2 M2 fun b M3 =>
    if b = true then te sd2 M3 fun y M4 => W (i + 1) (acc ++ [y]) M4 else W (i + 1) acc M3) ∧
  ∀ acc M, acc.length ≤ J.ds.length → W J.ds.length acc M → ∀ p, M p = none → Q (.ref p) (mup M p (.lst acc))
theorem lc_imp {wi : TID} {g : Tgt} {tt : TTD} {te : TED} {vs : List Nat} (hv : ∀ i ∈ slotsT g, i ∈ vs) : ∀ σ H Q, LE X.K M0 H0 (dLc wi g tt te vs) σ H Q → tLc (LI X.K M0 H0 wi) (hG X.K g) (LT X.K M0 H0 tt) (LE X.K M0 H0 te) vs σ H Q := fun σ H Q ⟨sd, M, Qd, w, q, c⟩ => by
  refine ⟨sd, M, _, w, q, ?_⟩
  rintro J M1 J' H1 s1 jr ⟨hz, W, w0, hok, turn, done⟩ D hD
  have w1 := w.on s1
  -- with the new list at D, which is tracked, not owned
  refine ⟨fun i m H' => m = J.ds.length - i ∧ i ≤ J.ds.length ∧ ∃ M' acc vacc, Stp X.K M1 H1 M' H' ∧ M' D = none ∧ H' D = some (.lst vacc) ∧ RDs X.K H' acc vacc ∧ acc.length ≤ i ∧ W i acc M',
    ⟨J.ds.length, rfl, Nat.zero_le _, M1, [], [], Stp.new0 s1.sr hD, s1.sr.free hD, upd_same, .nil, Nat.zero_le _, w0⟩, ?_⟩
  rintro i m H' ⟨rfl, hi, M', acc, vacc, s, mD, eD, ra, la, hW⟩
  have ok := hok i acc M' hi hW
  by_cases hlt : i < J.ds.length
  · obtain ⟨g1, g2⟩ := jr.go i J.ds[i] M' H' s ok (by simp [hlt])
    refine .inr ⟨g1, fun H2 => ∃ M2 acc2 vacc2, Stp X.K M1 H1 M2 H2 ∧ M2 D = none ∧ H2 D = some (.lst vacc2) ∧ RDs X.K H2 acc2 vacc2 ∧ acc2.length ≤ i + 1 ∧ W (i + 1) acc2 M2, fun H2 h => ⟨J.ds.length - (i + 1), by omega, rfl, hlt, h⟩, fun x H2 y => ?_⟩
    obtain ⟨s2, rx⟩ := g2 x H2 y
    obtain ⟨eD2, _⟩ := s2.same D _ eD nt_lst mD
    have s12 := s.trans s2
    have ws : At X.K M0 H0 (wipeD sd vs) M' (L2.wipe σ vs) H2 := ⟨w1.st.trans s12, (w1.rs.wipe vs).keep s12.keep⟩
    refine hG_mono g x _ _ _ _ (fun σ2 H3 z => ⟨z.1.trans (wipe_wipe σ vs), z.2⟩) (hG_wipe (vs := vs) g hv x (L2.wipe σ vs) H2 _ (hG_imp (M0 := M0) (H0 := H0) g x _ _ _ ⟨J.ds[i], _, M', _, ws, rx, turn i _ acc M' (by simp [hlt]) la hW, fun sd3 M3 σ3 H3 s3 r3 q3 => ?_⟩))
    have s13 := s12.trans s3
    refine ⟨sd3, M3, _, ⟨w1.st.trans s13, r3⟩, q3, fun b M4 H4 s4 q4 => ?_⟩
    have s14 := s13.trans s4
    obtain ⟨e4, m4⟩ := (s2.trans (s3.trans s4)).same D _ eD nt_lst mD
    have ra4 : RDs X.K H4 acc vacc := ra.keep (s2.trans (s3.trans s4)).keep
    cases b with
    | true =>
      rw [if_pos rfl] at q4
      refine iteT ⟨sd3, M4, _, ⟨w1.st.trans s14, r3.keep s4.keep⟩, q4, fun d5 M5 v5 H5 s5 r5 q5 => ?_⟩
      obtain ⟨e5, m5⟩ := s5.same D _ e4 nt_lst m4
      have mu : Mutd (H5 D) := by rw [e5]; trivial
      have k : Keep H5 (upd H5 D (.lst (vacc ++ [v5]))) := Keep.mut mu
      have s15 := s14.trans s5
      refine ⟨vacc, e5, ?_, M5, acc ++ [d5], vacc ++ [v5], ?_, m5, upd_same, ((ra4.keep s5.keep).keep k).app (.cons (r5.keep k) .nil), ?_, q5⟩
      · have := ra.length
        rw [← line_eq]
        omega
      · refine ⟨s15.keep.trans k, fun a o e => ?_, fun a o h => ?_, fun a o h nt n => ?_⟩
        · have q : a ≠ D := fun z => by subst z; rw [m5] at e; cases e
          exact (s15.sr a o e).keep k (upd_ne q)
        · by_cases q : a = D
          · subst q
            rw [upd_same]
            intro z
            cases z
          · rw [upd_ne q]
            exact s15.old a o h
        · have q : a ≠ D := ne_of_none h hD
          rw [upd_ne q]
          exact s15.same a o h nt n
      · rw [List.length_append]
        show acc.length + 1 ≤ i + 1
        omega
    | false =>
      rw [if_neg Bool.false_ne_true] at q4
      exact iteF ⟨M4, acc, vacc, s14, m4, e4, ra4, by omega, q4⟩
  · have e : i = J.ds.length := by omega
    subst e
    exact .inl ⟨jr.stop M' H' s ok, c _ _ _ _ (s1.trans (Stp.take s.sr eD mD ra s hD)) .ref (done acc M' la hW D mD)⟩
section
variable {elt tg iter : Expr} {ifs : List Expr} {scope : Scope} {own : List (Str × Nat)} {pos : Pos} {wi : TID} {g : Tgt} {tt : TTD} {te : TED}
/-- [elt for target in iter if ..] as a value -/
theorem de_lc (hc : X.calm = true) (hN : X.N.Nodup) (hi : PId X M0 H0 tg iter wi) (ok : BlkOk X.N X.env.scope scope own)
    (hg : ∀ (s : Shared) (H : Hp) (C : Addr) (cl : List (Str × Addr)) (fp : List Addr), PG (X.blk s H scope (compEnvC scope cl C X.env) fp) tg (hG X.K g))
    (ht : ∀ (s : Shared) (H : Hp) (C : Addr) (cl : List (Str × Addr)) (fp : List Addr), PTsD (X.blk s H scope (compEnvC scope cl C X.env) fp) M0 H0 ifs tt)
    (he : ∀ (s : Shared) (H : Hp) (C : Addr) (cl : List (Str × Addr)) (fp : List Addr), PEd (X.blk s H scope (compEnvC scope cl C X.env) fp) M0 H0 elt te)
    (hv : (slotsT g).all (fun i => (own.map (·.2)).contains i) = true := by decide) (hs : ∀ x, foldedSetIterable iter X.env x = pure x := by intro _; rfl) :
    PEd X M0 H0 (.ListComp elt [⟨tg, iter, ifs, 0⟩] scope pos) (dLc wi g tt te (own.map (·.2))) :=
  PE.imp (pe_lc hc hN hi ok hg (fun s H C cl fp => (ht s H C cl fp).run) he hs) (lc_imp fun i hi => by
    have h := List.all_eq_true.mp hv i hi
    simpa using h)
/-- y = [..] -/
theorem ds_setLc {i : Nat} {y : Str} {py spos : Pos} (hc : X.calm = true) (hN : X.N.Nodup) (hy : X.N[i]? = some y) (hyl : X.env.scope.names.lookup y = some .local)
    (hsw : swapsWith (.ListComp elt [⟨tg, iter, ifs, 0⟩] scope pos) (some (.Name y py)) spos.line X.env = pure true) (hi : PId X M0 H0 tg iter wi) (ok : BlkOk X.N X.env.scope scope own)
    (hg : ∀ (s : Shared) (H : Hp) (C : Addr) (cl : List (Str × Addr)) (fp : List Addr), PG (X.blk s H scope (compEnvC scope cl C X.env) fp) tg (hG X.K g))
    (ht : ∀ (s : Shared) (H : Hp) (C : Addr) (cl : List (Str × Addr)) (fp : List Addr), PTsD (X.blk s H scope (compEnvC scope cl C X.env) fp) M0 H0 ifs tt)
    (he : ∀ (s : Shared) (H : Hp) (C : Addr) (cl : List (Str × Addr)) (fp : List Addr), PEd (X.blk s H scope (compEnvC scope cl C X.env) fp) M0 H0 elt te)
    (hv : (slotsT g).all (fun i => (own.map (·.2)).contains i) = true := by decide) (hs : ∀ x, foldedSetIterable iter X.env x = pure x := by intro _; rfl) :
    PSd X M0 H0 (.Assign [.Name y py] (.ListComp elt [⟨tg, iter, ifs, 0⟩] scope pos) spos) (dAsg (dLc wi g tt te (own.map (·.2))) (gN i)) :=
  PS.imp (ps_setLc hc hN hy hyl hsw hi ok hg (fun s H C cl fp => (ht s H C cl fp).run) he hs) fun D σ H ⟨sd, M, Dd, w, q, c⟩ =>
    lc_imp (fun i hi => by
      have h := List.all_eq_true.mp hv i hi
      simpa using h) σ H _ ⟨sd, M, _, w, q, fun d M1 v H1 s1 r1 q1 => c.nx _ _ _ _ s1 ((w.rs.keep s1.keep).set r1 i) q1⟩
end
end
end DL
namespace DL
open PySem PySem.Spec PyProof.Rows L2
/-! ### what a def promises, over data -/
/-- an error: its class by its name, its one field, the field's value -/
abbrev EXD := Str → Str → Dv → Mo → Prop
abbrev SpD := List Dv → Mo → QD → EXD → Prop
def CtX (K : PySem.W.Frag) (M : Mo) (H : Hp) (Ed : EXD) (E : XK) : Prop := ∀ x f C d M' a v H', PySem.W.nsIn K mainGlobals x = some (some (.ref C)) → Stp K M H M' H' → M' a = none → H' a = some (.xd [(f, v)]) → RD K H' d v → Ed x f d M' → E (.ref C) (some a) H'
theorem CtX.on {K : PySem.W.Frag} {M M1 : Mo} {H H1 : Hp} {Ed : EXD} {E : XK} (c : CtX K M H Ed E) (s : Stp K M H M1 H1) : CtX K M1 H1 Ed E := fun x f C d M' a v H' n s' m h r q => c x f C d M' a v H' n (s.trans s') m h r q
def LSp (K : PySem.W.Frag) (sp : SpD) : Sp := fun vs H Q E => ∃ ds M Qd Ed, RDs K H ds vs ∧ SR K M H ∧ sp ds M Qd Ed ∧ Ct K M H Qd Q ∧ CtX K M H Ed E
abbrev Ed0 : EXD := fun _ _ _ _ => False
theorem ctx0 {K : PySem.W.Frag} {M : Mo} {H : Hp} {E : XK} : CtX K M H Ed0 E := fun _ _ _ _ _ _ _ _ _ _ _ _ _ q => q.elim
/-- what one owns may be let go -/
def Sub (M M' : Mo) : Prop := ∀ a o, M a = some o → M' a = some o
theorem Sub.refl (M : Mo) : Sub M M := fun _ _ h => h
theorem Sub.trans {M M1 M2 : Mo} (a : Sub M M1) (b : Sub M1 M2) : Sub M M2 := fun c o h => b c o (a c o h)
theorem Sub.new {M : Mo} {p : Addr} {o : OO} (h : M p = none) : Sub M (mup M p o) := fun c u e => by
  rw [mup_ne (fun z => by subst z; rw [h] at e; cases e)]
  exact e
theorem Sub.mup {M M' : Mo} {p : Addr} {o : OO} (h : Sub M M') : Sub (mup M p o) (mup M' p o) := fun c u e => by
  by_cases z : c = p
  · subst z
    rw [mup_same] at e ⊢
    exact e
  · rw [mup_ne z] at e ⊢
    exact h c u e
def Fg (Q : QD) : QD := fun d M' => ∃ M, Sub M M' ∧ Q d M
theorem Fg.here {Q : QD} {d : Dv} {M : Mo} (h : Q d M) : Fg Q d M := ⟨M, .refl M, h⟩
theorem Stp.sub {K : PySem.W.Frag} {M M1 M2 : Mo} {H H1 : Hp} (s : Stp K M H M1 H1) (h : Sub M2 M1) : Stp K M H M2 H1 :=
  ⟨s.keep, fun a o e => s.sr a o (h a o e), s.old, fun a o e nt n => by
    obtain ⟨e1, e2⟩ := s.same a o e nt n
    refine ⟨e1, ?_⟩
    cases q : M2 a with
    | none => rfl
    | some u =>
      have := h a u q
      rw [e2] at this
      cases this⟩
def FgE (E : EXD) : EXD := fun x f d M' => ∃ M, Sub M M' ∧ E x f d M
theorem FgE.here {E : EXD} {x f : Str} {d : Dv} {M : Mo} (h : E x f d M) : FgE E x f d M := ⟨M, .refl M, h⟩
theorem CtX.fg {K : PySem.W.Frag} {M : Mo} {H : Hp} {Ed : EXD} {E : XK} (c : CtX K M H Ed E) : CtX K M H (FgE Ed) E := fun x f C d M' a v H' n s m h r ⟨M2, hs, q⟩ => c x f C d M2 a v H' n (s.sub hs) (by
  cases e : M2 a with
  | none => rfl
  | some o =>
    have := hs a o e
    rw [m] at this
    cases this) h r q
def startD (N : List Str) (ds : List Dv) : StD := ds.map some ++ List.replicate (N.length - ds.length) none
theorem start_rs {K : PySem.W.Frag} {H : Hp} {N : List Str} {ds : List Dv} {vs : List V} (r : RDs K H ds vs) : Rs K H (startD N ds) (L2.start N vs) := by
  unfold startD L2.start
  refine ⟨by rw [List.length_append, List.length_append, List.length_map, List.length_map, List.length_replicate, List.length_replicate, r.length], fun i d h => ?_⟩
  by_cases hi : i < ds.length
  · rw [List.getElem?_append_left (by simpa using hi), List.getElem?_map] at h
    rw [List.getElem?_append_left (by rw [List.length_map, ← r.length]; exact hi), List.getElem?_map]
    cases e : ds[i]? with
    | none => rw [e] at h; cases h
    | some d' =>
      rw [e] at h
      cases h
      obtain ⟨v, hv, rv⟩ := r.get e
      exact ⟨v, by rw [hv]; rfl, rv⟩
  · rw [List.getElem?_append_right (by simpa using hi), List.getElem?_replicate] at h
    split at h <;> cases h
section
variable {P : Program} {w : World} {K : PySem.W.Frag} {mg : Str → Option Value} {base : Heap}
/-- THE RULE for a def over data -/
theorem okD {x qual : Str} {st : Stmt} {f : Addr} {fd : FuncData} {N ps : List Str} {k : Nat} {sp : SpD} (F : Fun K x qual st f fd) (S : FnScope N ps (defScope st)) (len : ∀ ds M Q E, sp ds M Q E → ds.length = ps.length)
    (hbody : ∀ (cdv : Value) (A : Around) (outer : List Env) (s : Shared) (H : Hp) (M : Mo) (ds : List Dv) (Qd : QD) (Ed : EXD) (E : XK), Room k (A.deeper (envOfC qual (defScope st) s.heap.objs.size f cdv)) → CtX K M H (FgE Ed) E → sp ds M Qd Ed →
      ∃ t, PSsd (cxOf (L2.CX P w) P w K mg base N qual (defScope st) f cdv A outer s H E) M H (defBody st) t ∧ t { nx := fun _ M' => Fg Qd .non M', rt := Fg Qd } (startD N ds) M) : FnOk P w K mg base (L2.CX P w) (k + 1) f fd ps (LSp K sp) := by
  refine F.okX S (fun vs H Q E h => ?_) (fun cdv A outer s H vs Q E hr h => ?_)
  · obtain ⟨ds, M, Qd, Ed, r, sr, h, _, _⟩ := h
    rw [← r.length]
    exact len ds M Qd Ed h
  · obtain ⟨ds, M, Qd, Ed, r, sr, h, c, cx⟩ := h
    obtain ⟨t, ht, hq⟩ := hbody cdv A outer s H M ds Qd Ed E hr cx.fg h
    refine ⟨LS K M H t, ht, startD N ds, M, _, ⟨.refl sr, start_rs r⟩, hq, ⟨fun sd M' σ H' s rs ⟨M2, hs, q⟩ => c .non M2 .non H' (s.sub hs) .non q, fun d M' v H' s r ⟨M2, hs, q⟩ => c d M2 v H' (s.sub hs) r q, fun _ _ _ _ _ _ q => q.elim, fun _ _ _ _ _ _ q => q.elim⟩⟩
end
section
variable {X : Cx} {M0 : Mo} {H0 : Hp}
/-- f(..) -/
def dCall (sp : SpD) (dvs : List Dv) (Ed : EXD) (t : TAD) : TED := fun sd M Q => t sd M fun ds M1 => sp (ds ++ dvs) M1 Q Ed
section
variable {CX : CXT} {k : Nat} {f : Addr} {fd : FuncData} {ps : List Str} {sp : SpD} {ddvs : List Dv} {dvs : List V} {us : List Value} {Ed : EXD} {E : XK} {x : Str} {p pos : Pos} {e : Expr} {es : List Expr} {t tk : TAD}
theorem call_imp (hdd : ∀ H, RDs X.K H ddvs dvs) (hE : CtX X.K M0 H0 Ed E) : ∀ σ H Q, LE X.K M0 H0 (dCall sp ddvs Ed t) σ H Q → tCall (LSp X.K sp) dvs E (LA X.K M0 H0 t) σ H Q := fun σ H Q ⟨sd, M, Qd, w, q, c⟩ =>
  ⟨sd, M, _, w, q, fun ds M1 vs H1 s1 r1 q1 => ⟨ds ++ ddvs, M1, Qd, Ed, r1.app (hdd H1), s1.sr, q1, c.on s1, hE.on (w.st.trans s1)⟩⟩
theorem de_call (F : FnOk X.prog X.w X.K X.mg X.base CX k f fd ps (LSp X.K sp)) (hr : Room k X.A) (hg : Gl X x) (hm : X.mg x = some (.ref f)) (hk : PySem.W.keepIn X.K (.ref f) = true) (hb : Binds X.K fd ps us) (hd : Vals dvs us) (hdd : ∀ H, RDs X.K H ddvs dvs)
    (hx : Passes CX X E) (hE : CtX X.K M0 H0 Ed E) (ha : PAd X M0 H0 (e :: es) t) (hdb : (x == ("__debug__" : Str)) = false := by decide) (he : starEach (e :: es) X.env = (false, eval e X.env) :: starEach es X.env := by rfl) (hpl : (backTo pos (starEach es X.env)).any (·.1) = false := by rfl) :
    PEd X M0 H0 (.Call (.Name x p) (e :: es) [] pos) (dCall sp ddvs Ed t) := PE.imp (pe_call F hr hg hm hk hb hd hx ha hdb he hpl) (call_imp hdd hE)
theorem tnil_imp : ∀ σ H Q, LA X.K M0 H0 dNilA σ H Q → tNil σ H Q := fun σ H Q ⟨sd, M, Qd, w, q, c⟩ => c _ _ _ _ w.here .nil q
abbrev PKd (X : Cx) (M : Mo) (H : Hp) (ks : List Keyword) (t : TAD) : Prop := PK X ks (LA X.K M H t)
theorem PK.imp {X : Cx} {e : List Keyword} {t t' : TA} (h : PK X e t) (w : ∀ σ H Q, t' σ H Q → t σ H Q) : PK X e t' := ⟨fun pos pins s σ H Q I q => h.run pos pins s σ H Q I (w _ _ _ q)⟩
theorem dk_nil : PKd X M0 H0 [] dNilA := PK.imp pk_nil tnil_imp
theorem dk_cons {te : TED} {kws : List Keyword} {nm : Option Str} {kpos : Pos} (ha : PEd X M0 H0 e te) (hr : PKd X M0 H0 kws t) : PKd X M0 H0 (⟨nm, e, kpos⟩ :: kws) (dConsA te t) :=
  PK.imp (pk_cons ha hr) fun σ H Q ⟨sd, M, Qd, w, q, c⟩ => ⟨sd, M, _, w, q, fun d M1 v H1 s1 r1 q1 => ⟨sd, M1, _, w.on s1, q1, fun ds M2 vs H2 s2 r2 q2 => c _ _ _ _ (s1.trans s2) (RDs.cons (r1.keep s2.keep) r2) q2⟩⟩
end
/-! ### products -/
def dMul : R2d := fun d e M Q => match d, e with
  | .int i, .int j => CMul i j ∧ Q (.int (i * j)) M
  | _, _ => False
/-! ### methods of built-in types by values -/
abbrev RMd := Dv → List Dv → Mo → QD → Prop
def LMop (K : PySem.W.Frag) (rd : RMd) : V → List V → Hp → VK → Prop := fun x xs H Q => ∃ d ds M Qd, RD K H d x ∧ RDs K H ds xs ∧ SR K M H ∧ rd d ds M Qd ∧ Ct K M H Qd Q
def tyD (T : String) (d : Dv) (M : Mo) : Prop := match d with
  | .str _ => T = "str"
  | .int _ => T = "int"
  | .lst _ => T = "list"
  | .ref a => match M a with
    | some (.lst _) => T = "list"
    | some (.dK _) => T = "dict"
    | _ => False
  | _ => False
theorem ty_of {K : PySem.W.Frag} {M : Mo} {H : Hp} {d : Dv} {v : V} {T : String} (s : SR K M H) (r : RD K H d v) (h : tyD T d M) : tyV K T v H := by
  unfold tyD at h
  split at h
  · rw [r.str_of]; exact h
  · rw [r.int_of]; exact h
  · unfold RD at r
    obtain ⟨a, vs, rfl, f, _⟩ := r
    exact .inl ⟨h, vs, f.seq⟩
  · rw [r.ref_of]
    split at h
    · rename_i a _ ds e
      obtain ⟨vs, hv, _⟩ := own_at s e
      exact .inl ⟨h, vs, .inl (.inl hv)⟩
    · rename_i a _ kvs e
      have o := s _ _ e
      simp only [Own] at o
      obtain ⟨vks, hv, _⟩ := o
      exact .inr (.inr (.inl ⟨h, .inl ⟨_, hv⟩⟩))
    · exact h.elim
  · exact h.elim
def dBM0 (T : String) (rd : RMd) (to : TED) : TED := fun sd M Q => to sd M fun d M1 => tyD T d M1 ∧ rd d [] M1 Q
def dBM (T : String) (rd : RMd) (to : TED) (t : TAD) : TED := fun sd M Q => to sd M fun d M1 => tyD T d M1 ∧ t sd M1 fun ds M2 => rd d ds M2 Q
section
variable {o e : Expr} {es : List Expr} {to te : TED} {t : TAD} {name : Str} {apos cpos : Pos} {T id : String} {rd : RMd}
theorem de_bm (pa : PlainAttrs T) (slot : Slot T name id) (hty : typeOf (.builtin id) = pure (.type "method_descriptor")) (hm : MtR X id (LMop X.K rd)) (ho : PEd X M0 H0 o to) (ha : PAd X M0 H0 (e :: es) t)
    (hbase : attributeBase o name X.env (eval o X.env) = eval o X.env := by rfl)
    (hfew : ((backTo cpos (starEach (e :: es) X.env)).all (fun x => !x.1) && (backToKw cpos (keywordEach [] X.env)).all (fun x => x.1.isSome)
      && decide ((e :: es).length + ([] : List Keyword).length + (if ([] : List Keyword).isEmpty then 0 else 1) < 30)) = true := by rfl)
    (hline : (apos.endLine == cpos.line) = true := by rfl) (hs : starEach (e :: es) X.env = (false, eval e X.env) :: starEach es X.env := by rfl) (hplain : (backTo cpos (starEach es X.env)).any (·.1) = false := by rfl) :
    PEd X M0 H0 (.Call (.Attribute o name apos) (e :: es) [] cpos) (dBM T rd to t) :=
  PE.imp (pe_bm pa slot hty hm ho ha hbase hfew hline hs hplain) fun σ H Q ⟨sd, M, Qd, w, q, c⟩ => ⟨sd, M, _, w, q, fun d M1 v H1 s1 r1 q1 => ⟨ty_of s1.sr r1 q1.1, sd, M1, _, w.on s1, q1.2, fun ds M2 vs H2 s2 r2 q2 => ⟨d, ds, M2, Qd, r1.keep s2.keep, r2, s2.sr, q2, c.on (s1.trans s2)⟩⟩⟩
end
theorem md_I {id : String} {r : V → List V → Hp → VK → Prop} {rd : RMd} (h : MtR X id r) (w : ∀ d ds M Qd x xs H Q, RD X.K H d x → RDs X.K H ds xs → SR X.K M H → rd d ds M Qd → Ct X.K M H Qd Q → r x xs H Q) : MtR X id (LMop X.K rd) :=
  fun pins s σ H x xs v us Q I rx rs ⟨d, ds, M, Qd, r1, r2, sr, q, c⟩ => h pins s σ H x xs v us Q I rx rs (w d ds M Qd x xs H Q r1 r2 sr q c)
/-- xs.append(y) -/
def dAppend : RMd := fun d ds M Q => match d, ds with
  | .ref a, [y] => match M a with
    | some (.lst xs) => xs.length < 16777216 ∧ Q .non (mup M a (.lst (xs ++ [y])))
    | _ => False
  | _, _ => False
theorem stp_lst {K : PySem.W.Frag} {M : Mo} {H : Hp} {a : Addr} {ds es : List Dv} {vs ws : List V} (sr : SR K M H) (h : M a = some (.lst ds)) (hv : H a = some (.lst vs)) (r : ∀ H', Keep H H' → RDs K H' es ws) : Stp K M H (mup M a (.lst es)) (upd H a (.lst ws)) := by
  have mu : Mutd (H a) := by rw [hv]; trivial
  refine Stp.set sr h mu ?_
  simp only [Own]
  exact ⟨ws, upd_same, r _ (Keep.mut mu)⟩
theorem md_append : MtR X "list.append" (LMop X.K dAppend) := md_I mt_append fun d ds M Qd x xs H Q r1 r2 sr q c => by
  unfold dAppend at q
  split at q
  · rename_i a y
    split at q
    · rename_i zs e
      obtain ⟨vs, hv, rr⟩ := own_at sr e
      obtain ⟨u, rfl, ru⟩ := r2.one
      rw [r1.ref_of]
      exact ⟨a, vs, u, rfl, rfl, hv, by rw [← rr.length, ← line_eq]; exact q.1, c _ _ _ _ (stp_lst sr e hv fun H' k => (rr.keep k).app (.cons (ru.keep k) .nil)) .non q.2⟩
    · exact q.elim
  · exact q.elim
/-- s.join(xs) -/
def strsOf : List Dv → Option (List Str)
  | [] => some []
  | .str b :: ds => (strsOf ds).map (b :: ·)
  | _ => none
theorem strsOf_ok {K : PySem.W.Frag} {H : Hp} : ∀ {ds : List Dv} {vs : List V} {bs : List Str}, RDs K H ds vs → strsOf ds = some bs → vs = bs.map V.str
  | [], vs, bs, r, h => by unfold strsOf at h; cases h; exact r.zero
  | d :: ds, vs, bs, r, h => by
    unfold RDs at r
    obtain ⟨v, w, rfl, r1, r2⟩ := r
    cases d with
    | str b =>
      unfold strsOf at h
      cases q : strsOf ds with
      | none => rw [q] at h; cases h
      | some cs =>
        rw [q] at h
        cases h
        rw [r1.str_of, strsOf_ok r2 q]
        rfl
    | _ => unfold strsOf at h; cases h
theorem strsOf_map (bs : List Str) : strsOf (bs.map Dv.str) = some bs := by
  induction bs with
  | nil => rfl
  | cons b bs ih => rw [List.map_cons]; unfold strsOf; rw [ih]; rfl
theorem blsOf_map (bs : List Bool) : blsOf (bs.map Dv.bl) = some bs := by
  induction bs with
  | nil => rfl
  | cons b bs ih => rw [List.map_cons]; unfold blsOf; rw [ih]; rfl
def dJoin : RMd := fun d ds M Q => match d, ds with
  | .str a, [y] => match (seqL M y).bind strsOf with
    | some ys => (ys.map (·.length)).sum + ys.length * a.length ≤ 16777216 ∧ Q (.str (Txt.join a ys)) M
    | none => False
  | _, _ => False
theorem md_join : MtR X "str.join" (LMop X.K dJoin) := md_I mt_join fun d ds M Qd x xs H Q r1 r2 sr q c => by
  unfold dJoin at q
  split at q
  · rename_i a y
    split at q
    · rename_i ys e
      obtain ⟨es, h1, h2⟩ := Option.bind_eq_some_iff.mp e
      obtain ⟨u, rfl, ru⟩ := r2.one
      obtain ⟨p, vs, rfl, sq, rr⟩ := seqL_ok sr ru h1
      rw [strsOf_ok rr h2] at sq
      rw [r1.str_of]
      exact ⟨a, p, ys, rfl, rfl, .inl sq, q.1, c _ _ _ _ (.refl sr) .str q.2⟩
    · exact q.elim
  · exact q.elim
/-! ### isinstance against built-in classes -/
/-- the built-in class of a value -/
def tyN (M : Mo) : Dv → Option String
  | .non => some "NoneType"
  | .bl _ => some "bool"
  | .int _ => some "int"
  | .str _ => some "str"
  | .lst _ => some "list"
  | .tup _ => some "tuple"
  | .ref a => match M a with
    | some (.lst _) => some "list"
    | some (.dK _) => some "dict"
    | _ => none
  | _ => none
theorem tyN_ok {K : PySem.W.Frag} {M : Mo} {H : Hp} {d : Dv} {v : V} {n : String} (s : SR K M H) (r : RD K H d v) (h : tyN M d = some n) : TyX K H v (.type n) := by
  unfold tyN at h
  split at h
  · cases h; rw [r.non_of]; exact .base .non
  · cases h; rw [r.bl_of]; exact .base (.bl _)
  · cases h; rw [r.int_of]; exact .base (.int _)
  · cases h; rw [r.str_of]; exact .base (.str _)
  · cases h
    unfold RD at r
    obtain ⟨a, vs, rfl, f, _⟩ := r
    rcases f with ⟨o, f⟩ | ⟨o, its, n, f, f2, _⟩
    · exact .base (.frz f)
    · exact .kList f f2
  · cases h
    unfold RD at r
    obtain ⟨a, vs, rfl, f, _⟩ := r
    rcases f with (f | ⟨o, f⟩) | ⟨o, its, n, f, f2, _⟩
    · exact .base (.tup f)
    · exact .fTuple f
    · exact .kTuple f f2
  · rw [r.ref_of]
    split at h
    · rename_i a _ ds e
      cases h
      obtain ⟨vs, hv, _⟩ := own_at s e
      exact .base (.lst hv)
    · rename_i a _ kvs e
      cases h
      have o := s _ _ e
      simp only [Own] at o
      obtain ⟨vks, hv, _⟩ := o
      exact .base (.dK hv)
    · cases h
  · cases h
def isiB (a b : String) : Bool := a == b || (a == "bool" && b == "int")
def knownT (b : String) : Bool := b == "int" || b == "str" || b == "bool" || b == "list" || b == "tuple" || b == "dict"
theorem kit_known {a b : String} (ha : a = "NoneType" ∨ a = "bool" ∨ a = "int" ∨ a = "str" ∨ a = "list" ∨ a = "tuple" ∨ a = "dict") (hb : knownT b = true) : kitB a b = some (isiB a b) := by
  have hb' : b = "int" ∨ b = "str" ∨ b = "bool" ∨ b = "list" ∨ b = "tuple" ∨ b = "dict" := by
    unfold knownT at hb
    simpa [or_assoc] using hb
  rcases ha with rfl | rfl | rfl | rfl | rfl | rfl | rfl <;> rcases hb' with rfl | rfl | rfl | rfl | rfl | rfl <;> decide +kernel
theorem tyN_cases {M : Mo} {d : Dv} {a : String} (h : tyN M d = some a) : a = "NoneType" ∨ a = "bool" ∨ a = "int" ∨ a = "str" ∨ a = "list" ∨ a = "tuple" ∨ a = "dict" := by
  unfold tyN at h
  split at h
  · cases h; simp
  · cases h; simp
  · cases h; simp
  · cases h; simp
  · cases h; simp
  · cases h; simp
  · split at h
    · cases h; simp
    · cases h; simp
    · cases h
  · cases h
/-- isinstance(x, T), T a built-in class -/
def dIsi : RNd := fun ds M Q => match ds with
  | [d, .ty b] => match tyN M d with
    | some a => knownT b = true ∧ Q (.bl (isiB a b)) M
    | none => False
  | _ => False
theorem cd_isi : CallR X (.builtin "isinstance") (LNop X.K dIsi) := cd_I call_isi fun ds M Qd xs H Q rs sr q c => by
  unfold dIsi at q
  split at q
  · rename_i d b
    obtain ⟨v, u, rfl, r1, r2⟩ := rs.two
    have eu : u = .ty b := by unfold RD at r2; exact r2
    subst eu
    split at q
    · rename_i a e
      exact ⟨v, .ty b, .type a, .type b, _, rfl, .ty b, tyN_ok sr r1 e, kit_ty (kit_known (tyN_cases e) q.1), c _ _ _ _ (.refl sr) .bl q.2⟩
    · exact q.elim
  · exact q.elim
end
end DL
namespace DL
open PySem PySem.Spec PyProof.Rows L2
/-- a def of the text: where it stands, how it binds, what it promises -/
structure FnD (P : Program) (w : World) (K : PySem.W.Frag) (mg : Str → Option Value) (base : Heap) (x : Str) (k : Nat) (ps : List Str) (B : FuncData → Prop) (sp : SpD) : Prop where
  ex : ∃ f fd, mg x = some (.ref f) ∧ PySem.W.keepIn K (.ref f) = true ∧ B fd ∧ FnOk P w K mg base (L2.CX P w) k f fd ps (LSp K sp)
section
variable {X : Cx} {M0 : Mo} {H0 : Hp} {k : Nat} {ps : List Str} {B : FuncData → Prop} {sp : SpD} {ddvs : List Dv} {dvs : List V} {us : List Value} {Ed : EXD} {E : XK} {x : Str} {p pos : Pos} {e : Expr} {es : List Expr} {t tk : TAD}
theorem de_callF (F : FnD X.prog X.w X.K X.mg X.base x k ps B sp) (hr : Room k X.A) (hg : Gl X x) (hb : ∀ fd, B fd → Binds X.K fd ps us) (hd : Vals dvs us) (hdd : ∀ H, RDs X.K H ddvs dvs)
    (hx : Passes (L2.CX X.prog X.w) X E) (hE : CtX X.K M0 H0 Ed E) (ha : PAd X M0 H0 (e :: es) t) (hdb : (x == ("__debug__" : Str)) = false := by decide) (he : starEach (e :: es) X.env = (false, eval e X.env) :: starEach es X.env := by rfl) (hpl : (backTo pos (starEach es X.env)).any (·.1) = false := by rfl) :
    PEd X M0 H0 (.Call (.Name x p) (e :: es) [] pos) (dCall sp ddvs Ed t) := by
  obtain ⟨f, fd, hm, hk, b, F⟩ := F.ex
  exact de_call F hr hg hm hk (hb fd b) hd hdd hx hE ha hdb he hpl
theorem rdn {K : PySem.W.Frag} (H : Hp) : RDs K H [] [] := .nil
end
/-- the def's own errors go out -/
theorem passB {X : Cx} {E : XK} (tk : L2.Takes X (fun cls d _ H => E cls d H)) : Passes (L2.CX X.prog X.w) X E := passes_call tk fun _ _ _ _ h => h
end DL
namespace DL
open PySem PySem.Spec PyProof.Rows L2
/-! ### the readings, step by step, backwards -/
def kB (d : Dv) (R : Bool → Prop) : Prop := match d with | .bl b => R b | _ => False
def kI (d : Dv) (R : Int → Prop) : Prop := match d with | .int i => R i | _ => False
section
variable {M : Mo} {Q : QD} {d e : Dv} {i j : Int} {x y : Str} {xs ys ds es : List Dv} {a : Addr} {sd : StD} {D : EndsD}
theorem i_if {c : TTD} {t u : TSD} (h : c sd M fun b M1 => if b = true then t D sd M1 else u D sd M1) : dIfS c t u D sd M := h
theorem i_c (h : Q d M) : dC d sd M Q := h
theorem i_var {n : Nat} (e : sd[n]? = some (some d)) (h : Q d M) : dVar n sd M Q := by unfold dVar; rw [e]; exact h
theorem i_op {rd : R2d} {ta tb : TED} (h : ta sd M fun d M1 => tb sd M1 fun e M2 => rd d e M2 Q) : dOp rd ta tb sd M Q := h
theorem i_neg {ta : TED} (h : ta sd M fun d M1 => kI d fun i => Q (.int (-i)) M1) : dNeg ta sd M Q := h
theorem i_kI {R : Int → Prop} (h : R i) : kI (.int i) R := h
theorem i_kB {R : Bool → Prop} {b : Bool} (h : R b) : kB (.bl b) R := h
theorem i_ifx {c : TTD} {ta tb : TED} (h : c sd M fun k M1 => if k = true then ta sd M1 Q else tb sd M1 Q) : dIf c ta tb sd M Q := h
theorem i_gN {n : Nat} {R : StD → Mo → Prop} (h : R (sd.set n (some d)) M) : gN n d sd M R := h
theorem i_gTp {n : Nat} {t : TGsD} {R : StD → Mo → Prop} (hn : ds.length = n) (h : t ds sd M R) : gTp n t (.tup ds) sd M R := ⟨hn, h⟩
theorem i_gCn {t : TGD} {u : TGsD} {R : StD → Mo → Prop} (h : t d sd M fun sd' M' => u ds sd' M' R) : gCn t u (d :: ds) sd M R := h
theorem i_gNl {R : StD → Mo → Prop} (h : R sd M) : gNl [] sd M R := ⟨rfl, h⟩
theorem i_gSb {to ti : TED} {t : TSetD} {R : StD → Mo → Prop} (h : to sd M fun o M1 => ti sd M1 fun i M2 => t o i d M2 fun M3 => R sd M3) : gSb to ti t d sd M R := h
theorem i_setL {R : Mo → Prop} {k : Nat} (h1 : M a = some (.lst ds)) (h2 : ixN ds.length i = some k) (q : R (mup M a (.lst (ds.set k d)))) : dSetL (.ref a) (.int i) d M R := by
  unfold dSetL; simp only [h1, h2]; exact q
theorem i_aug {n : Nat} {te : TED} {rd : R2d} (e : sd[n]? = some (some d)) (h : te sd M fun y M1 => rd d y M1 fun z M2 => D.nx (sd.set n (some z)) M2) : dAug n te rd D sd M := by unfold dAug; simp only [e]; exact h
theorem i_nilA {R : List Dv → Mo → Prop} (h : R [] M) : dNilA sd M R := h
theorem i_consA {ta : TED} {tr : TAD} {R : List Dv → Mo → Prop} (h : ta sd M fun d M1 => tr sd M1 fun ds M2 => R (d :: ds) M2) : dConsA ta tr sd M R := h
theorem i_tup {t : TAD} (h : t sd M fun ds M1 => ds.length ≤ 1000 ∧ Q (.tup ds) M1) : dTup t sd M Q := h
theorem i_lst {t : TAD} (h : t sd M fun ds M1 => ds.length ≤ 1000 ∧ ∀ p, M1 p = none → Q (.ref p) (mup M1 p (.lst ds))) : dLst t sd M Q := h
theorem i_cb {rd : RNd} {t : TAD} (h : t sd M fun ds M1 => rd ds M1 Q) : dCB rd t sd M Q := h
theorem i_bm {T : String} {rd : RMd} {to : TED} {t : TAD} (h : to sd M fun d M1 => tyD T d M1 ∧ t sd M1 fun ds M2 => rd d ds M2 Q) : dBM T rd to t sd M Q := h
theorem i_bm0 {T : String} {rd : RMd} {to : TED} (h : to sd M fun d M1 => tyD T d M1 ∧ rd d [] M1 Q) : dBM0 T rd to sd M Q := h
theorem i_call {sp : SpD} {Ed : EXD} {t : TAD} (h : t sd M fun ds M1 => sp ds M1 Q Ed) : dCall sp [] Ed t sd M Q := by
  unfold dCall
  simp only [List.append_nil]
  exact h
theorem i_test {t : TED} {R : Bool → Mo → Prop} (h : t sd M fun d M1 => kB d fun b => R b M1) : dTest t sd M R := h
theorem i_truth {t : TED} {R : Bool → Mo → Prop} (h : t sd M fun d M1 => dTru M1 d fun b => R b M1) : dTruth t sd M R := h
theorem i_truB {b : Bool} {R : Bool → Prop} (h : R b) : dTru M (.bl b) R := h
theorem i_truI {R : Bool → Prop} (h : R (i != 0)) : dTru M (.int i) R := h
theorem i_truS {R : Bool → Prop} (hl : x.length ≤ 16777216) (h : R ((x.length : Int) != 0)) : dTru M (.str x) R := ⟨hl, h⟩
theorem i_truN {R : Bool → Prop} (h : R false) : dTru M .non R := h
theorem i_truT {R : Bool → Prop} (h : R (!ds.isEmpty)) : dTru M (.tup ds) R := h
theorem i_truL {R : Bool → Prop} (h : R (!ds.isEmpty)) : dTru M (.lst ds) R := h
theorem i_truR {R : Bool → Prop} (h1 : M a = some (.lst ds)) (q : R (!ds.isEmpty)) : dTru M (.ref a) R := by unfold dTru seqL; simp only [h1]; exact q
theorem i_and2 {t u : TTD} {R : Bool → Mo → Prop} (h : t sd M fun c M1 => if c = true then u sd M1 R else R false M1) : dAnd2 t u sd M R := h
theorem i_or2 {t u : TTD} {R : Bool → Mo → Prop} (h : t sd M fun c M1 => if c = true then R true M1 else u sd M1 R) : dOr2 t u sd M R := h
theorem i_not {t : TTD} {R : Bool → Mo → Prop} (h : t sd M fun c M1 => R (!c) M1) : dNot t sd M R := h
theorem i_andV {ta tb : TED} (h : ta sd M fun d M1 => kB d fun c => if c = true then tb sd M1 Q else Q (.bl false) M1) : dAndV ta tb sd M Q := h
theorem i_orV {ta tb : TED} (h : ta sd M fun d M1 => kB d fun c => if c = true then Q (.bl true) M1 else tb sd M1 Q) : dOrV ta tb sd M Q := h
theorem i_notV {ta : TED} (h : ta sd M fun d M1 => kB d fun c => Q (.bl (!c)) M1) : dNotV ta sd M Q := h
theorem i_chain {r r' : R2d} {ta tb tc : TED} (h : ta sd M fun x M1 => tb sd M1 fun y M2 => r x y M2 fun z M3 => kB z fun k => if k = true then tc sd M3 fun u M4 => r' y u M4 Q else Q (.bl false) M3) : dChain r r' ta tb tc sd M Q := h
theorem i_I {C : Int → Int → Prop} {g : Int → Int → Dv} (hc : C i j) (h : Q (g i j) M) : dI C g (.int i) (.int j) M Q := ⟨hc, h⟩
theorem i_I0 {g : Int → Int → Dv} (h : Q (g i j) M) : dI0 g (.int i) (.int j) M Q := h
theorem i_addI (h : Q (.int (i + j)) M) : dAdd (.int i) (.int j) M Q := h
theorem i_addS (hl : x.length + y.length ≤ 16777216) (h : Q (.str (x ++ y)) M) : dAdd (.str x) (.str y) M Q := ⟨hl, h⟩
theorem i_addL (h1 : seqL M d = some xs) (h2 : seqL M e = some ys) (h3 : xs.length + ys.length ≤ 16777216) (q : ∀ p, M p = none → Q (.ref p) (mup M p (.lst (xs ++ ys)))) : dAdd d e M Q := by
  unfold dAdd
  split
  · simp [seqL] at h1
  · simp [seqL] at h1
  · simp only [h1, h2]
    exact ⟨h3, q⟩
theorem i_mulI (hc : CMul i j) (h : Q (.int (i * j)) M) : dMul (.int i) (.int j) M Q := ⟨hc, h⟩
theorem i_iaddI (h : Q (.int (i + j)) M) : dIAdd (.int i) (.int j) M Q := h
theorem i_iaddS (hl : x.length + y.length ≤ 16777216) (h : Q (.str (x ++ y)) M) : dIAdd (.str x) (.str y) M Q := ⟨hl, h⟩
theorem i_eqI (h : Q (.bl (decide (i = j))) M) : dEq (.int i) (.int j) M Q := h
theorem i_eqS (h : Q (.bl (decide (x = y))) M) : dEq (.str x) (.str y) M Q := h
theorem i_eqB {b c : Bool} (h : Q (.bl (decide (b = c))) M) : dEq (.bl b) (.bl c) M Q := h
theorem i_neI (h : Q (.bl (!decide (i = j))) M) : dNe (.int i) (.int j) M Q := h
theorem i_neS (h : Q (.bl (!decide (x = y))) M) : dNe (.str x) (.str y) M Q := h
theorem i_neB {b c : Bool} (h : Q (.bl (!decide (b = c))) M) : dNe (.bl b) (.bl c) M Q := h
theorem i_ixL (h1 : seqL M d = some ds) (h2 : L2.atI ds i = some e) (q : Q e M) : dIx d (.int i) M Q := by
  unfold dIx
  split
  · rename_i k r
    injection r with r
    subst r
    split
    · simp [seqL] at h1
    · simp only [h1, h2]
      exact q
  · rename_i r
    exact absurd rfl (r i)
theorem i_ixT (h2 : L2.atI ds i = some e) (q : Q e M) : dIx (.tup ds) (.int i) M Q := by
  unfold dIx
  simp only [seqL, seqT, h2]
  exact q
theorem i_ixS {c : Nat} (hx : L2.atI x.cps.toList i = some c) (hl : x.length ≤ 16777216) (q : Q (.str ⟨#[c]⟩) M) : dIx (.str x) (.int i) M Q := by
  unfold dIx
  simp only [hx]
  exact ⟨hl, q⟩
theorem i_lenS (hl : x.length ≤ 16777216) (q : Q (.int x.length) M) : dLen [.str x] M Q := ⟨hl, q⟩
theorem i_lenL (h1 : seqL M d = some ds) (q : Q (.int ds.length) M) : dLen [d] M Q := by
  unfold dLen
  split
  · simp_all [seqL]
  · rename_i r
    injection r with r
    subst r
    simp only [h1]
    exact q
  · rename_i r1 r2
    exact absurd rfl (r2 d)
theorem i_lenT (q : Q (.int ds.length) M) : dLen [.tup ds] M Q := q
theorem i_min (q : Q (.int (if j < i then j else i)) M) : dMin2 [.int i, .int j] M Q := q
theorem i_max (q : Q (.int (if j > i then j else i)) M) : dMax2 [.int i, .int j] M Q := q
theorem i_all {bs : List Bool} (h : seqL M d = some ds) (hb : blsOf ds = some bs) (q : Q (.bl (bs.all id)) M) : dAll [d] M Q := by unfold dAll; simp only [h, Option.bind_some, hb]; exact q
theorem i_listOf (h1 : seqL M d = some ds) (q : ∀ p, M p = none → Q (.ref p) (mup M p (.lst ds))) : dListOf [d] M Q := by unfold dListOf; simp only [h1]; exact q
theorem i_listOfT (q : ∀ p, M p = none → Q (.ref p) (mup M p (.lst ds))) : dListOf [.tup ds] M Q := by unfold dListOf; simp only [seqL, seqT]; exact q
theorem i_sl {te : TED} {tl th : TOD} (h : te sd M fun d M1 => tl sd M1 fun lo M2 => th sd M2 fun hi M3 => dSlV d lo hi M3 Q) : dSl te tl th sd M Q := h
theorem i_no {R : Option Int → Mo → Prop} (h : R none M) : dNo sd M R := h
theorem i_part {t : TED} {R : Option Int → Mo → Prop} (h : t sd M fun d M1 => kI d fun i => R (some i) M1) : dPart t sd M R := h
theorem i_slS {lo hi : Option Int} (hl : x.length ≤ 16777216) (h : Q (.str (cutS x lo hi)) M) : dSlV (.str x) lo hi M Q := ⟨hl, h⟩
theorem i_slL {lo hi : Option Int} (h1 : seqL M d = some ds) (q : ∀ p, M p = none → Q (.ref p) (mup M p (.lst (cutD ds lo hi)))) : dSlV d lo hi M Q := by
  unfold dSlV
  split
  · simp [seqL] at h1
  · simp only [h1]
    exact q
theorem i_append {v : Dv} (h1 : M a = some (.lst ds)) (h2 : ds.length < 16777216) (q : Q .non (mup M a (.lst (ds ++ [v])))) : dAppend (.ref a) [v] M Q := by unfold dAppend; simp only [h1]; exact ⟨h2, q⟩
theorem i_join {zs : List Str} (h : seqL M d = some ds) (hz : strsOf ds = some zs) (hl : (zs.map (·.length)).sum + zs.length * x.length ≤ 16777216) (q : Q (.str (Txt.join x zs)) M) : dJoin (.str x) [d] M Q := by
  unfold dJoin; simp only [h, Option.bind_some, hz]; exact ⟨hl, q⟩
theorem i_isi {b n : String} (h : tyN M d = some n) (hk : knownT b = true) (q : Q (.bl (isiB n b)) M) : dIsi [d, .ty b] M Q := by unfold dIsi; simp only [h]; exact ⟨hk, q⟩
theorem e_seqR (h : M a = some (.lst ds)) : seqL M (.ref a) = some ds := by unfold seqL; simp only [h]
theorem e_seqL : seqL M (.lst ds) = some ds := rfl
theorem e_tyR {T : String} (h : M a = some (.lst ds)) (q : T = "list") : tyD T (.ref a) M := by unfold tyD; simp only [h]; exact q
theorem e_ix {n k : Nat} (h : k < n) : ixN n (k : Int) = some k := by
  unfold ixN
  rw [if_pos (by omega), if_pos (by omega)]
  simp
theorem e_atI {α : Type} {zs : List α} {i : Int} {z : α} (h0 : 0 ≤ i) (h : zs[i.toNat]? = some z) : L2.atI zs i = some z := by
  have e : ((i.toNat : Nat) : Int) = i := by omega
  rw [← e]
  exact L2.atI_nat h
theorem mne {a b : Addr} {o : OO} (h : M b = some o) (h' : M a = none) : b ≠ a := fun z => by subst z; rw [h] at h'; cases h'
theorem mne2 {a b : Addr} {o : OO} (h' : M a = none) (h : M b = some o) : b ≠ a := mne h h'
theorem i_ifT {c : Bool} {A B : Prop} (e : c = true) (h : A) : if c = true then A else B := by rw [if_pos e]; exact h
theorem i_ifF {c : Bool} {A B : Prop} (e : c = false) (h : B) : if c = true then A else B := by rw [e]; exact iteF h
theorem i_ifd {p A B : Prop} [Decidable p] (h1 : p → A) (h2 : ¬ p → B) : if (decide p) = true then A else B := by
  by_cases h : p
  · rw [decide_eq_true h]; exact h1 h
  · rw [decide_eq_false h]; exact iteF (h2 h)
theorem i_ifn {p A B : Prop} [Decidable p] (h1 : ¬ p → A) (h2 : p → B) : if (!decide p) = true then A else B := by
  by_cases h : p
  · rw [decide_eq_true h]; exact iteF (h2 h)
  · rw [decide_eq_false h]; exact h1 h
theorem i_ift {A B : Prop} (h : A) : if true = true then A else B := iteT h
theorem i_iff {A B : Prop} (h : B) : if false = true then A else B := iteF h
def kR1 (ds : List Dv) (F : Int → Prop) : Prop := match ds with
  | [.int j] => F j
  | _ => False
def kR2 (ds : List Dv) (F : Int → Int → Prop) : Prop := match ds with
  | [.int i, .int j] => F i j
  | _ => False
theorem i_kR1 {F : Int → Prop} (h : F i) : kR1 [.int i] F := h
theorem i_kR2 {F : Int → Int → Prop} (h : F i j) : kR2 [.int i, .int j] F := h
theorem i_rngA {ta : TAD} {R : ItD → Mo → Prop} (h : ta sd M fun ds M1 => kR1 ds fun j => j < 4611686018427387904 ∧ -4611686018427387904 ≤ j ∧ R ⟨rngD 0 j.toNat, fun _ => True⟩ M1) : iRng1D ta sd M R := h
theorem i_rngB {ta : TAD} {R : ItD → Mo → Prop} (h : ta sd M fun ds M1 => kR2 ds fun i j => (i < 4611686018427387904 ∧ -4611686018427387904 ≤ i ∧ j < 4611686018427387904 ∧ -4611686018427387904 ≤ j) ∧ R ⟨rngD i (j - i).toNat, fun _ => True⟩ M1) : iRng2D ta sd M R := h
def kSq (M : Mo) (d : Dv) (F : List Dv → (Mo → Prop) → Prop) : Prop := match d with
  | .lst ds => F ds fun _ => True
  | .ref a => match M a with
    | some (.lst ds) => F ds fun M => M a = some (.lst ds)
    | _ => False
  | _ => False
theorem i_seqI {t : TED} {R : ItD → Mo → Prop} (h : t sd M fun d M1 => kSq M1 d fun ds ok => R ⟨ds, ok⟩ M1) : iSeq t sd M R := h
theorem i_kSqL {F : List Dv → (Mo → Prop) → Prop} (h : F ds fun _ => True) : kSq M (.lst ds) F := h
theorem i_kSqR {F : List Dv → (Mo → Prop) → Prop} (h1 : M a = some (.lst ds)) (q : F ds fun M => M a = some (.lst ds)) : kSq M (.ref a) F := by unfold kSq; simp only [h1]; exact q
def kStr (d : Dv) (F : Str → Prop) : Prop := match d with
  | .str x => F x
  | _ => False
theorem i_kStr {F : Str → Prop} (h : F x) : kStr (.str x) F := h
theorem i_strI {t : TED} {R : ItD → Mo → Prop} (h : t sd M fun d M1 => kStr d fun x => R ⟨signsD x, fun _ => True⟩ M1) : iStrD t sd M R := h
def kTup (d : Dv) (F : List Dv → Prop) : Prop := match d with
  | .tup ds => F ds
  | _ => False
theorem i_kTup {F : List Dv → Prop} (h : F ds) : kTup (.tup ds) F := h
theorem i_tupI {t : TED} {R : ItD → Mo → Prop} (h : t sd M fun d M1 => kTup d fun ds => R ⟨ds, fun _ => True⟩ M1) : iTupD t sd M R := h
def kEn (M : Mo) (ds : List Dv) (F : List Dv → (Mo → Prop) → Prop) : Prop := match ds with
  | [.lst xs] => F (enumD 0 xs) fun _ => True
  | [.ref a] => match M a with
    | some (.lst xs) => F (enumD 0 xs) fun M => M a = some (.lst xs)
    | _ => False
  | _ => False
theorem i_enI {t : TAD} {R : ItD → Mo → Prop} (h : t sd M fun ds M1 => kEn M1 ds fun es ok => R ⟨es, ok⟩ M1) : iEnumD t sd M R := by
  unfold iEnumD
  unfold kEn at h
  exact h
theorem i_kEnL {F : List Dv → (Mo → Prop) → Prop} (h : F (enumD 0 ds) fun _ => True) : kEn M [.lst ds] F := h
theorem i_kEnR {F : List Dv → (Mo → Prop) → Prop} (h1 : M a = some (.lst ds)) (q : F (enumD 0 ds) fun M => M a = some (.lst ds)) : kEn M [.ref a] F := by unfold kEn; simp only [h1]; exact q
theorem i_yes {R : Bool → Mo → Prop} (h : R true M) : dYes sd M R := h
theorem i_dGn {n : Nat} {R : StD → Mo → Prop} (h : R (sd.set n (some d)) M) : dG (.nm n) d sd M R := by unfold dG; exact h
theorem i_dGt {ts : List Tgt} {R : StD → Mo → Prop} (h : gTp ts.length (dGs ts) d sd M R) : dG (.tp ts) d sd M R := by unfold dG; exact h
theorem i_dGc {t : Tgt} {ts : List Tgt} {R : StD → Mo → Prop} (h : dG t d sd M fun sd' M' => dGs ts ds sd' M' R) : dGs (t :: ts) (d :: ds) sd M R := by unfold dGs gCn; exact h
theorem i_dG0 {R : StD → Mo → Prop} (h : R sd M) : dGs [] [] sd M R := by unfold dGs; exact ⟨rfl, h⟩
end
end DL
namespace DL
open PySem PySem.Spec PyProof.Rows L2
theorem i_new {M : Mo} {F : Addr → Prop} (h : ∀ p, M p = none → F p) : ∀ p, M p = none → F p := h
theorem cutS_take (x : Str) (k : Nat) : cutS x none (some (k : Int)) = ⟨(x.cps.toList.take k).toArray⟩ := by
  unfold cutS
  rw [HT.sIx_none, HT.sIx_nat, List.drop_zero, Nat.sub_zero]
  have e : x.length = x.cps.toList.length := by simp [Str.length]
  have e2 : x.cps.toList.take (min k x.length) = x.cps.toList.take k := by rw [e, List.take_eq_take_iff]; omega
  rw [e2]
theorem cutS_drop (x : Str) (k : Nat) : cutS x (some (k : Int)) none = ⟨(x.cps.toList.drop k).toArray⟩ := by
  unfold cutS
  rw [HT.sIx_none, HT.sIx_nat]
  have e : x.length = x.cps.toList.length := by simp [Str.length]
  rw [e]
  by_cases h : k ≤ x.cps.toList.length
  · rw [Nat.min_eq_left h, List.take_of_length_le (by rw [List.length_drop]; exact Nat.le_refl _)]
  · rw [List.drop_of_length_le (by omega), List.drop_of_length_le (by omega)]
    simp
theorem str_len (x : Str) : x.length = x.cps.toList.length := by simp [Str.length]
theorem cmul_l {i j : Int} (h : -18446744073709551616 < i) (h' : i < 18446744073709551616) : CMul i j := .inl ⟨h, h'⟩
theorem cmul_r {i j : Int} (h : -18446744073709551616 < j) (h' : j < 18446744073709551616) : CMul i j := .inr ⟨h, h'⟩
theorem cdivw {i j : Int} (h : 0 < j) (h' : j < 18446744073709551616) : CDivW i j := wide_div h (b := 64) (by omega) (by decide) (by decide)
end DL
namespace DL
open PySem PySem.Spec PyProof.Rows L2
/-- the law's own promise: at up to n whole numbers it answers True -/
def spLaw (n : Nat) : SpD := fun ds M Q E => match ds with
  | [.lst xs] => (∃ ns : List Int, xs = ns.map .int ∧ ns.length ≤ n) ∧ ∀ M', Q (.bl true) M'
  | _ => False
theorem rd_ints {K : PySem.W.Frag} {H : Hp} : ∀ ns : List Int, RDs K H (ns.map .int) (ns.map V.int)
  | [] => .nil
  | n :: ns => .cons (by unfold RD; rfl) (rd_ints ns)
theorem hsp_law {K : PySem.W.Frag} {n : Nat} {H : Hp} {a : Addr} {ns : List Int} (hl : ns.length ≤ n) (hO : L2.Only H) (hS : SqL K H a (ns.map V.int)) : LSp K (spLaw n) [.ref a] H (fun v _ => v = .bl true) (fun _ _ _ => False) := by
  have hF : FzL K H a (ns.map V.int) := by
    rcases hS with (h | ⟨o, h⟩) | h
    · rcases hO a with q | ⟨o, xs, q⟩
      · rw [q] at h
        cases h
      · rw [q] at h
        cases h
    · exact .inl ⟨o, h⟩
    · exact .inr h
  refine ⟨[.lst (ns.map .int)], fun _ => none, fun d _ => d = .bl true, Ed0, .cons ?_ .nil, (fun _ _ h => by cases h), ⟨⟨ns, rfl, hl⟩, fun _ => rfl⟩, ?_, ctx0⟩
  · unfold RD
    exact ⟨a, _, rfl, hF, rd_ints ns⟩
  · intro d M' v H' _ r e
    subst e
    unfold RD at r
    exact r
theorem hcx_law {P : Program} {w : World} {H : Hp} {s : Shared} {e : Value} {s' : Shared} (h : L2.CX P w [] H s (fun _ _ _ => False) e s') : False := by
  obtain ⟨_, _, _, _, _, _, _, _, _, _, _, _, q⟩ := h
  exact q
end DL
namespace DL
open PySem PySem.Spec PyProof.Rows
/-- how many unlike ones stand among the first i -/
def dctN (xs : List Str) : Nat → Nat
  | 0 => 0
  | i + 1 => if (xs.take i).any (· == xs.getD i Str.empty) = true then dctN xs i else dctN xs i + 1
theorem dctN_le (xs : List Str) : ∀ i, dctN xs i ≤ i
  | 0 => Nat.le_refl _
  | i + 1 => by
    have := dctN_le xs i
    unfold dctN
    split <;> omega
section
variable {prog : Program} {w : World} {A : Around} {R : Result → Shared → Prop} {I : Addr} {fp wr : List Addr} {G : Array GenState → Array GenState → Prop} {n : Nat} {P : Nat → Value → Prop} {St : Nat → Shared → Prop}
theorem loopTx (W : WalksS prog w A.in1 I fp wr G n P St) (S : Addr) (hSf : S ∉ fp) (xs : List Str) (hsz : xs.length = n) (hnb : n < scanBound)
    (hval : ∀ i v, P i v → ∃ t, v = .str (xs.getD i Str.empty) t) :
    ∀ (k i : Nat) (s : Shared), n - i = k → i ≤ n → St i s →
      s.heap.SetOf (PySem.strKind prog w) S (fun k' => (xs.take i).any (· == k')) (dctN xs i) →
      (∀ s', Moved (S :: wr) G s s' → s'.heap.SetOf (PySem.strKind prog w) S (fun k' => (xs.take n).any (· == k')) (dctN xs n) → R (.ok (.ret .none)) s') →
      codeAny (model prog w) A (.builtin "set.update.loop" ⟨[.ref S, .ref I], []⟩) R s := by
  have hSw : S ∉ wr := fun h => hSf (W.sub _ h)
  have hsub : ∀ b ∈ wr, b ∈ S :: wr := fun b hb => List.mem_cons_of_mem _ hb
  intro k
  induction k with
  | zero =>
    intro i s hk hi hst hS hR
    have hin : i = n := by omega
    subst hin
    refine codeAny_builtin PyProof.Rows.F.entry_set_update_loop ?_
    rw [Around.under_plainId PyProof.Rows.F.plain_set_update_loop _]
    show wpAny _ A.in1 (pyNext (.ref I) >>= _) _ _ s
    refine wpAny_bind (W.done s _ _ hst fun s' hm => ?_)
    show wpAny _ A.in1 (ret Value.none) _ _ s'
    exact wpAny_pure (hR s' (hm.mono hsub) (by
      obtain ⟨o, es, ep, t, ho, rest⟩ := hS
      exact ⟨o, es, ep, t, hm.heap S _ hSw ho, rest⟩))
  | succ k ih =>
    intro i s hk hi hst hS hR
    have hlt : i < n := by omega
    refine codeAny_builtin PyProof.Rows.F.entry_set_update_loop ?_
    rw [Around.under_plainId PyProof.Rows.F.plain_set_update_loop _]
    show wpAny _ A.in1 (pyNext (.ref I) >>= _) _ _ s
    refine wpAny_bind (W.item i s _ _ hlt hst fun v s' hP hst' hm => ?_)
    obtain ⟨t, rfl⟩ := hval i v hP
    have hS' : s'.heap.SetOf (PySem.strKind prog w) S (fun k' => (xs.take i).any (· == k')) (dctN xs i) := by
      obtain ⟨o, es, ep, tb, ho, rest⟩ := hS
      exact ⟨o, es, ep, tb, hm.heap S _ hSw ho, rest⟩
    show wpAny _ A.in1 (holding [Value.str (xs.getD i Str.empty) t] (setAdd S (.str (xs.getD i Str.empty) t)) >>= _) _ _ s'
    refine wpAny_bind (wpAny_holding ?_)
    unfold setAdd
    refine wpAny_holding ?_
    refine wpAny_bind ((PySem.strKind prog w).pyHash (k := xs.getD i Str.empty) (strKind_is _ _ _ _) ?_)
    have hle := dctN_le xs i
    refine wpAny_setAddHashed_of (knd := PySem.strKind prog w) (s := { s' with toks := s'.toks + 1 }) (strKind_is _ _ _ _) rfl hS' (by omega) fun h' hsb hS2 => ?_
    have hSi : h'.SetOf (PySem.strKind prog w) S (fun k' => (xs.take (i + 1)).any (· == k')) (dctN xs (i + 1)) := by
      refine SetOf_congr hS2 (fun k' => ?_) rfl
      have hx : i < xs.length := by omega
      have e1 : xs.getD i Str.empty = xs[i] := by
        rw [List.getD_eq_getElem?_getD, List.getElem?_eq_getElem hx]
        rfl
      show ((xs.take i).any (· == k') || decide (k' = xs.getD i Str.empty)) = (xs.take (i + 1)).any (· == k')
      rw [List.take_succ_eq_append_getElem hx, List.any_append, e1]
      by_cases e : k' = xs[i]
      · rw [decide_eq_true e, ← e]
        simp
      · have hb : (xs[i] == k') = false := by simpa [beq_iff_eq] using (fun h' : xs[i] = k' => e h'.symm)
        rw [decide_eq_false e]
        simp [hb]
    refine wpAny_pure ⟨plainId_quiet PyProof.Rows.F.plain_set_update_loop _, ih (i + 1) _ (by omega) hlt (W.frame _ s' _ _ hst' (Nat.le_succ _) fun b hb o e => ?_) hSi fun s'' hm'' hS'' => ?_⟩
    · rw [hsb.2 b (fun h : b = S => hSf (by rw [← h]; exact hb))]; exact e
    · refine hR s'' (Moved.trans W.gtrans ((hm.mono hsub).then_heap (Nat.le_succ _) fun b o hb e => ?_) hm'') hS''
      rw [hsb.2 b (fun h : b = S => hb (by rw [h]; exact List.mem_cons_self))]; exact e
end
def sgs (x : Str) : List Str := x.cps.toList.map fun c => ⟨#[c]⟩
theorem sgs_len (x : Str) : (sgs x).length = x.cps.size := by simp [sgs]
section
variable {prog : Program} {w : World} {A : Around} {E : Value → Shared → Prop} {s : Shared}
set_option maxHeartbeats 3200000 in
theorem call_set_tx {x : Str} {t : Tok} {Q : Value → Shared → Prop} (hh : A.handled = none) (hn1 : x.cps.size < scanBound)
    (h : ∀ (h' : Heap) (tk : Nat), h'.SetOf (PySem.strKind prog w) s.heap.objs.size (fun k' => ((sgs x).take x.cps.size).any (· == k')) (dctN (sgs x) x.cps.size) →
      (∀ b o, b < s.heap.objs.size → s.heap.get? b = some o → h'.get? b = some o) → Q (.ref s.heap.objs.size) { s with heap := h', toks := tk }) :
    wpAny (model prog w) A (call (.type "set") [.str x t]) Q E s := by
  obtain ⟨c, tl, hmro⟩ := PySem.F.called_set.mro
  have hmade := PySem.F.called_set.made
  have hsub := PySem.F.called_set.sub
  refine wpAny_call (codeAny_of_tree ?_)
  show wpAny _ _ (callAny (.type "set") _) _ _ _
  refine wpAny_pure ⟨Code.quiet_builtin _ (by decide +kernel), codeAny_builtin PySem.F.entry_type_call ?_⟩
  rw [Around.under_plain (weight_type_call_type "set" [.str x t] []) rfl]
  have h1 := PySem.F.called_set.notType
  have h2 := PySem.F.called_set.canCreate
  have hct := PySem.F.typeCall_set_1 (.str x t)
  repeat (any_goals (first | assumption | wp_step))
  refine codeAny_mono (code_set_new_1 (.str x t) (E := E) (Q₁ := fun obj s₁ => ∃ led : Bool, obj = .ref s.heap.objs.size ∧ s₁ = { s with heap := s.heap.push { cls := .type "set", dict := none, data := .set #[] 0 (.fresh 0 0 led) } }) fun led => ⟨led, rfl, rfl⟩) fun r s₁ hr => ?_
  cases r with
  | error e => exact hr
  | ok fl =>
    cases fl with
    | ret obj =>
      obtain ⟨led, rfl, rfl⟩ := hr
      have hS : (s.heap.push { cls := .type "set", dict := none, data := .set #[] 0 (.fresh 0 0 led) }).get? s.heap.objs.size = some { cls := .type "set", dict := none, data := .set #[] 0 (.fresh 0 0 led) } := Heap.get?_push_size _ rfl
      have hT : Shared.TypeIs { s with heap := s.heap.push { cls := .type "set", dict := none, data := .set #[] 0 (.fresh 0 0 led) } } (.ref s.heap.objs.size) "set" := ⟨_, hS, rfl⟩
      have hli := PySem.F.called_set.init.lookup
      have hbi := PySem.F.called_set.init.bind (.ref s.heap.objs.size)
      repeat (any_goals (first | assumption | wp_step))
      refine codeAny_mono (codeAny_call_builtin (R := wants (fun r s₂ => r = .none ∧ ∃ h' tk, s₂ = { s with heap := h', toks := tk } ∧
          h'.SetOf (PySem.strKind prog w) s.heap.objs.size (fun k' => ((sgs x).take x.cps.size).any (· == k')) (dctN (sgs x) x.cps.size) ∧
          (∀ b o, b < s.heap.objs.size → s.heap.get? b = some o → h'.get? b = some o)) E) PySem.F.called_set.init.plain PySem.F.entry_set_init (check_set_init_1 hT ?_)) fun r₂ s₂ hr₂ => ?_
      · have hsls := PySem.F.sub_str_set
        have hslf := PySem.F.sub_str_frozenset
        have hne : (Value.type "str" == Value.type "dict") = false := by decide
        unfold Builtin.«set.__init__» noKeywords Builtin.Frozenset.updateFrom
        generalize hPI : pyIter = PI
        wp_walk
        subst hPI
        refine wpAny_pyIter_str fun o St WW st0 => ?_
        refine wpAny_bind (wpAny_runValue ?_)
        have hh3 : A.in1.in1.in1.handled = none := by simp [hh]
        have hSf : s.heap.objs.size ∉ [(s.heap.push { cls := .type "set", dict := none, data := .set #[] 0 (.fresh 0 0 led) }).objs.size] := by
          rw [Heap.size_push]; simp only [List.mem_singleton]
          exact Nat.ne_of_lt (Nat.lt_succ_self _)
        have hval : ∀ (i : Nat) (v : Value), SignAt x i v → ∃ t, v = .str ((sgs x).getD i Str.empty) t := fun i v ⟨c, u, hc, e⟩ => ⟨u, by
          rw [e, List.getD_eq_getElem?_getD, sgs, List.getElem?_map, Array.getElem?_toList, hc]
          rfl⟩
        refine loopTx ((WW _ hh3).toS) s.heap.objs.size
          hSf (sgs x) (sgs_len x) hn1 hval (x.cps.size - 0) 0 _ (by omega) (Nat.zero_le _)
          st0 ?hS0 ?hR
        case hS0 =>
          have hget : ((s.heap.push { cls := .type "set", dict := none, data := .set #[] 0 (.fresh 0 0 led) }).push o).get? s.heap.objs.size
              = some { cls := .type "set", dict := none, data := .set #[] 0 (.fresh 0 0 led) } := Heap.get?_push_of_some _ hS
          exact PyProof.Rows.SetOf_congr ((PyProof.Rows.setObjOf_fresh (knd := PySem.strKind prog w) led).setOf hget (by unfold scanBound; omega)) (fun _ => rfl) rfl
        case hR =>
          intro s' hm hS'
          obtain ⟨h', g', d', tk', os'⟩ := s'
          have eg : g' = s.gens := hm.gens
          have ed : d' = s.drawn := hm.drawn
          have eo : os' = s.os := hm.os
          subst eg; subst ed; subst eo
          show wpAny _ _ _ _ _ _
          refine wpAny_pure ?_
          show wpAny _ _ (ret Value.none) _ _ _
          refine wpAny_pure ⟨rfl, h', tk', rfl, hS', fun b o hb e => ?_⟩
          have hb1 : b ≠ s.heap.objs.size := Nat.ne_of_lt hb
          have hb2 : b ≠ (s.heap.push { cls := .type "set", dict := none, data := .set #[] 0 (.fresh 0 0 led) }).objs.size := by
            rw [Heap.size_push]; exact Nat.ne_of_lt (Nat.lt_succ_of_lt hb)
          exact hm.heap b o (by simp only [List.mem_cons, List.mem_singleton, List.not_mem_nil, or_false, not_or]; exact ⟨hb1, hb2⟩) (Heap.get?_push_of_some _ (Heap.get?_push_of_some _ e))
      · cases r₂ with
        | error e => exact hr₂
        | ok fl₂ =>
          cases fl₂ with
          | ret r =>
            obtain ⟨rfl, h', tk, rfl, hS', hk'⟩ := hr₂
            repeat (any_goals (first | assumption | wp_step))
            exact h _ _ hS' hk'
          | _ => exact hr₂.elim
    | _ => exact hr.elim
end
end DL
namespace DL
open PySem PySem.Spec PyProof.Rows L2
section
variable {X : Cx} {M0 : Mo} {H0 : Hp}
/-- len(set(text)) -/
def dLenSet (t : TED) : TED := fun sd M Q => t sd M fun d M1 => ∃ x : Str, d = .str x ∧ x.length < 4096 ∧ Q (.int (dctN (sgs x) x.length : Nat)) M1
def tLenTx (ta : TE) : TE := fun σ H Q => ta σ H fun v H1 => ∃ x : Str, v = .str x ∧ x.length < 4096 ∧ Q (.int (dctN (sgs x) x.length : Nat)) H1
theorem pe_lenTx {a : Expr} {ta : TE} {p p2 q pos : Pos} (hc : X.calm = true) (hg : Gl X "len") (hm : X.mg "len" = none) (hg2 : Gl X "set") (hm2 : X.mg "set" = none) (ha : PE X a ta)
    (na : starEach [a] X.env = (false, eval a X.env) :: starEach [] X.env := by rfl) : PE X (.Call (.Name "len" p) [.Call (.Name "set" p2) [a] [] q] [] pos) (tLenTx ta) := by
  refine ⟨fun pins s σ H Q I h => ?_⟩
  refine Call_ (ld_blt I hg hm boot_len ?_)
  refine PyProof.Rows.callWith_builtin1 (PyProof.Rows.args_cons ?_ rfl) rfl rfl
  refine Call_ (ld_blt I hg2 hm2 boot_set ?_)
  refine PyProof.Rows.callWith_type1 (PyProof.Rows.args_cons (thn (ha.run pins s σ H _ I h) fun v s1 ⟨x, H1, I1, r1, q1⟩ => PyProof.Rows.args_nil ?_) na) na rfl
  obtain ⟨z, rfl, hz, q1⟩ := q1
  obtain ⟨t, rfl⟩ := r1
  refine call_set_tx (I1.ok.hd hc) hz fun h' tk hS hk => ?_
  refine PyProof.Rows.args_nil ?_
  obtain ⟨o, es, ep, t, ho, hex, hd, _, _, _, hf, hn⟩ := hS
  have I2 : Inv X pins σ H1 { s1 with heap := h', toks := tk } := I1.kept fun b o e => hk b o (Heap.lt_size e) e
  have hle := dctN_le (sgs z) z.cps.size
  have hz2 : z.cps.size < 4096 := hz
  exact call_len_set ho hex hd hf (by rw [hn]; omega) ⟨.int (dctN (sgs z) z.length : Nat), H1, I2.tok _, ⟨_, by rw [hn]; rfl⟩, q1⟩
end
end DL
namespace DL
open PySem PySem.Spec PyProof.Rows PySem.StrLaws
/-! ### the first place of a sign -/
theorem occ_full (s sub : Str) (hi : Nat) : ∀ (l : List Nat) (st : Array Nat × Nat), ¬ st.fst.size < 1 → (forIn l st (occBody s sub hi 1)).run = st
  | [], st, _ => rfl
  | a :: l, st, h => by
    rw [List.forIn_cons]
    unfold occBody
    rw [if_neg (fun z => h z.1.1.1)]
    exact occ_full s sub hi l _ h
theorem occ_first (s sub : Str) (hi k : Nat) (hk : k + sub.length ≤ hi ∧ Builtin.Str.subAt s sub k = true) (post : List Nat) : ∀ (pre : List Nat) (free : Nat), free ≤ k → (∀ i ∈ pre, ¬ (i + sub.length ≤ hi ∧ Builtin.Str.subAt s sub i = true)) →
    (forIn (pre ++ k :: post) ((#[] : Array Nat), free) (occBody s sub hi 1)).run.fst = #[k]
  | [], free, hf, _ => by
    rw [List.nil_append, List.forIn_cons]
    unfold occBody
    rw [if_pos ⟨⟨⟨by simp, hf⟩, hk.1⟩, hk.2⟩]
    have := occ_full s sub hi post (#[k], k + sub.length) (by simp)
    exact congrArg Prod.fst this
  | a :: pre, free, hf, hn => by
    rw [List.cons_append, List.forIn_cons]
    unfold occBody
    rw [if_neg (fun z => hn a (List.mem_cons_self ..) ⟨z.1.2, z.2⟩)]
    exact occ_first s sub hi k hk post pre free hf fun i hi' => hn i (List.mem_cons_of_mem _ hi')
theorem index_sign {x : Str} {c k : Nat} (h : x.cps.toList[k]? = some c) (hn : ∀ j, j < k → x.cps.toList[j]? ≠ some c) : Txt.index0 x ⟨#[c]⟩ = some k := by
  unfold Txt.index0
  rw [occ_eq]
  have hk : k < x.length := by
    have := (List.getElem?_eq_some_iff.mp h).1
    simpa [Str.length] using this
  have e : List.range' 0 (x.length + 1 - 0) = List.range' 0 k ++ k :: List.range' (k + 1) (x.length - k) := by
    have : x.length + 1 - 0 = k + (x.length - k + 1) := by omega
    rw [this, ← List.range'_append_1, List.range'_succ, Nat.zero_add]
  rw [e, occ_first x ⟨#[c]⟩ x.length k ((subAt_one x c k).mpr h) _ _ _ (Nat.zero_le _) fun i hi z => hn i (by simp [List.mem_range'_1] at hi; exact hi) ((subAt_one x c i).mp z)]
  rfl
end DL
namespace DL
open PySem PySem.Spec PyProof.Rows L2
section
variable {X : Cx} {M0 : Mo} {H0 : Hp}
/-! ### len(set(text)) -/
theorem de_lenSet {a : Expr} {ta : TED} {p p2 q pos : Pos} (hc : X.calm = true) (hg : Gl X "len") (hm : X.mg "len" = none) (hg2 : Gl X "set") (hm2 : X.mg "set" = none) (ha : PEd X M0 H0 a ta)
    (na : starEach [a] X.env = (false, eval a X.env) :: starEach [] X.env := by rfl) : PEd X M0 H0 (.Call (.Name "len" p) [.Call (.Name "set" p2) [a] [] q] [] pos) (dLenSet ta) :=
  PE.imp (pe_lenTx hc hg hm hg2 hm2 ha na) fun σ H Q ⟨sd, M, Qd, w, q, c⟩ => ⟨sd, M, _, w, q, fun d M1 v H1 s1 r1 ⟨x, e, hz, q1⟩ => by
    subst e
    exact ⟨x, r1.str_of, hz, c _ _ _ _ s1 .int q1⟩⟩
/-! ### in -/
/-- == of flat data -/
def flatD : Dv → Bool
  | .non => true
  | .bl _ => true
  | .int _ => true
  | .str _ => true
  | _ => false
def eqF : Dv → Dv → Bool
  | .non, .non => true
  | .bl a, .bl b => a == b
  | .bl a, .int b => (if a then 1 else 0) == b
  | .int a, .bl b => a == (if b then 1 else 0)
  | .int a, .int b => a == b
  | .str a, .str b => a == b
  | _, _ => false
theorem flat_of {K : PySem.W.Frag} {H : Hp} {d : Dv} {v : V} (r : RD K H d v) (h : flatD d = true) : flatV v = true := by
  cases d <;> first | (unfold flatD at h; cases h; done) | (unfold RD at r; subst r; rfl)
theorem eqF_of {K : PySem.W.Frag} {H : Hp} {d e : Dv} {v u : V} (r : RD K H d v) (r' : RD K H e u) (h : flatD d = true) (h' : flatD e = true) : eqV v u = eqF d e := by
  cases d <;> first | (unfold flatD at h; cases h; done) | (cases e <;> first | (unfold flatD at h'; cases h'; done) | (unfold RD at r r'; subst r; subst r'; rfl))
theorem flats_of {K : PySem.W.Frag} {H : Hp} : ∀ {ds : List Dv} {vs : List V}, RDs K H ds vs → ds.all flatD = true → vs.all flatV = true
  | [], vs, r, h => by rw [r.zero]; rfl
  | d :: ds, vs, r, h => by
    unfold RDs at r
    obtain ⟨v, w, rfl, r1, r2⟩ := r
    rw [List.all_cons, Bool.and_eq_true] at h ⊢
    exact ⟨flat_of r1 h.1, flats_of r2 h.2⟩
theorem anyF_of {K : PySem.W.Frag} {H : Hp} {d : Dv} {v : V} (r0 : RD K H d v) (h0 : flatD d = true) : ∀ {ds : List Dv} {vs : List V}, RDs K H ds vs → ds.all flatD = true → inV v vs = ds.any (fun y => eqF y d)
  | [], vs, r, h => by rw [r.zero]; rfl
  | e :: ds, vs, r, h => by
    unfold RDs at r
    obtain ⟨u, w, rfl, r1, r2⟩ := r
    rw [List.all_cons, Bool.and_eq_true] at h
    have ih := anyF_of r0 h0 r2 h.2
    unfold inV at ih ⊢
    rw [List.any_cons, List.any_cons, ih, eqF_of r1 r0 h.1 h0]
/-- x in y: a sign in a text; a flat value in a list or tuple of such -/
def dInB (neg : Bool) : R2d := fun d e M Q => match d, e with
  | .str x, .str z => match x.cps.toList with
    | [c] => Q (.bl (if neg then !decide (c ∈ z.cps.toList) else decide (c ∈ z.cps.toList))) M
    | _ => False
  | d, e => match (match seqL M e with | some xs => some xs | none => seqT e) with
    | some xs => flatD d = true ∧ xs.all flatD = true ∧ Q (.bl (if neg then !xs.any (fun y => eqF y d) else xs.any (fun y => eqF y d))) M
    | none => False
def dIn : R2d := dInB false
def dNotIn : R2d := dInB true
theorem opB_I {f : Value → Value → Sem Value} {neg : Bool} (h1 : OpR X f (fun x y H Q => ∃ (c : Nat) (z : Str), x = .str ⟨#[c]⟩ ∧ y = .str z ∧ Q (.bl (if neg then !decide (c ∈ z.cps.toList) else decide (c ∈ z.cps.toList))) H)) (h2 : OpR X f (rIn X.K neg)) : OpR X f (L2op X.K (dInB neg)) := by
  refine opd_I (r := fun x y H Q => (∃ (c : Nat) (z : Str), x = .str ⟨#[c]⟩ ∧ y = .str z ∧ Q (.bl (if neg then !decide (c ∈ z.cps.toList) else decide (c ∈ z.cps.toList))) H) ∨ rIn X.K neg x y H Q)
    (fun pins s σ H x y v u Q I rx ry h => h.elim (h1 pins s σ H x y v u Q I rx ry) (h2 pins s σ H x y v u Q I rx ry)) fun d e M Qd x y H Q r1 r2 sr q c => ?_
  unfold dInB at q
  split at q
  · rename_i x z
    split at q
    · rename_i k ek
      refine .inl ⟨k, z, ?_, r2.str_of, c _ _ _ _ (.refl sr) .bl q⟩
      rw [r1.str_of]
      have : x = ⟨#[k]⟩ := by
        cases x
        simp only [Str.mk.injEq]
        exact Array.toList_inj.mp ek
      rw [this]
    · exact q.elim
  · split at q
    · rename_i xs e1
      obtain ⟨f1, f2, q⟩ := q
      have : ∃ p vs, y = .ref p ∧ (SqL X.K H p vs ∨ SqT X.K H p vs) ∧ RDs X.K H xs vs := by
        split at e1
        · rename_i ys e2
          cases e1
          obtain ⟨a, vs, rfl, sq, rr⟩ := seqL_ok sr r2 e2
          exact ⟨a, vs, rfl, .inl sq, rr⟩
        · obtain ⟨a, vs, rfl, sq, rr⟩ := seqT_ok r2 e1
          exact ⟨a, vs, rfl, .inr sq, rr⟩
      obtain ⟨p, vs, rfl, sq, rr⟩ := this
      refine .inr ⟨p, vs, rfl, sq, flat_of r1 f1, flats_of rr f2, ?_⟩
      rw [anyF_of r1 f1 rr f2]
      exact c _ _ _ _ (.refl sr) .bl q
    · exact q.elim
theorem od_in : OpR X (compareOp .In) (L2op X.K dIn) := opB_I (neg := false) op_in_sign op_in_seq
theorem od_notin : OpR X (compareOp .NotIn) (L2op X.K dNotIn) := opB_I (neg := true) op_notIn_sign op_notIn_seq
/-! ### s.index(t), xs.extend(ys), divmod -/
def dIndex : RMd := fun d ds M Q => match d, ds with
  | .str a, [.str b] => match Txt.index0 a b with
    | some k => Q (.int (k : Nat)) M
    | none => False
  | _, _ => False
theorem md_index (hc : X.calm = true) : MtR X "str.index" (LMop X.K dIndex) := fun pins s σ H x xs v us Q I rx rs ⟨d, ds, M, Qd, r1, r2, sr, q, c⟩ => by
  refine mt_indexX hc takes_none5 pins s σ H x xs v us Q I rx rs ?_
  unfold dIndex at q
  split at q
  · rename_i a b
    split at q
    · rename_i k e
      obtain ⟨u, rfl, ru⟩ := r2.one
      refine ⟨a, b, r1.str_of, by rw [ru.str_of], fun k' e' => ?_, fun e' => ?_⟩
      · rw [e] at e'
        cases e'
        exact c _ _ _ _ (.refl sr) .int q
      · rw [e] at e'
        cases e'
    · exact q.elim
  · exact q.elim
def dDivmod : RNd := fun ds M Q => match ds with
  | [.int i, .int j] => (0 < j ∧ j < 1073741824) ∧ Q (.tup [.int (i / j), .int (i % j)]) M
  | _ => False
end
/-! ### enumerate(text) -/
def ItES (x : Str) : It := ⟨fun i _ => i < x.cps.size, fun i H v H' => ∃ T c, v = .ref T ∧ H T = none ∧ H' = upd H T (.tup [.int (i : Nat), .str ⟨#[c]⟩]) ∧ x.cps[i]? = some c, fun i _ => i = x.cps.size⟩
theorem turn_enumS {P : Program} {w : World} {K : PySem.W.Frag} {elts : List Expr} {kk : Nat} {tpos : Pos} (x : Str) (t : Tok) (e it : Addr) (ty : String) (hty : ty = "str_ascii_iterator" ∨ ty = "str_iterator") :
    Turn P w K (.Tuple elts kk tpos) (ItES x) [e, it] e (fun i h => (∃ old, IsEnum h e it ((i : Nat) : Int) old) ∧ h.IsStrIter it ty x t i ∧ e ≠ it) where
  mem := by simp
  obj := fun i h st b hb => by
    obtain ⟨⟨old, he⟩, ⟨o, ho, hc, hd⟩, _⟩ := st
    have e' : b = e ∨ b = it := by simpa using hb
    rcases e' with z | z
    · rw [z]; exact ⟨_, he, fun v q => nomatch q⟩
    · rw [z]; exact ⟨o, ho, fun v q => by rw [hd] at q; cases q⟩
  keep := fun i h h' st k => let ⟨⟨old, he⟩, ⟨o, ho, r⟩, hne⟩ := st; ⟨⟨old, k e (by simp) _ he⟩, ⟨o, k it (by simp) o ho, r⟩, hne⟩
  item := by
    intro X hP hw hK hc i pins s σ H E I hf st hg
    subst hP hw hK
    obtain ⟨⟨old, he⟩, hit, hne⟩ := st
    have hh : X.A.in1.handled = none := by simp [I.ok.hd hc]
    have D : Draws X.prog X.w X.A.in1 it [it] x.cps.size (fun i v => ∃ c u, x.cps[i]? = some c ∧ v = .str ⟨#[c]⟩ u) (fun i h => h.IsStrIter it ty x t i) := by
      rcases hty with z | z
      · rw [z]; exact Draws.strAscii hh it x t
      · rw [z]; exact Draws.strWide hh it x t
    have hel : e < s.heap.objs.size := Heap.lt_size he
    have hil : it < s.heap.objs.size := by obtain ⟨_, q, _⟩ := hit; exact Heap.lt_size q
    refine wpAny_pyNext_enum_itemD D he hit hg hne (by simpa using hne) fun y h' tk hP ho hit' hT hsz hk => ?_
    obtain ⟨c, u, hcx, rfl⟩ := hP
    refine ⟨_, rfl, wpAny_letOwnedTupleGo_enum (s := { s with heap := h', toks := tk + 1 }) ho fun h'' he' sb => ?_⟩
    have hT2 : h''.get? s.heap.objs.size = some { cls := .type "tuple", data := .seq #[.int i tk, .str ⟨#[c]⟩ u] } := (sb.2 _ (Nat.ne_of_gt hel)).trans hT
    have new : ObjOk X.prog X.w (upd H s.heap.objs.size (.tup [.int (i : Nat), .str ⟨#[c]⟩])) h'' s.heap.objs.size (.tup [.int (i : Nat), .str ⟨#[c]⟩]) :=
      ⟨by show 2 ≤ sizeLine; decide, [.int i tk, .str ⟨#[c]⟩ u], .cons ⟨_, rfl⟩ (.cons ⟨_, rfl⟩ .nil), ⟨_, hT2, rfl, _, rfl⟩⟩
    have I1 : Inv X pins σ (upd H s.heap.objs.size (.tup [.int (i : Nat), .str ⟨#[c]⟩])) { s with heap := h'', toks := tk + 1 } :=
      I.turnedNew (ch := [e, it]) (fun b ob hb q => (sb.2 b (fun z => hb (by simp [z]))).trans (hk b ob (fun z => hb (by simp [z])) (fun z => hb (by simp [z])) q)) hf (Nat.le_refl _) new
    obtain ⟨oi, ei, ci⟩ := hit'
    refine ⟨.ref s.heap.objs.size, _, I1, rfl, ⟨_, c, rfl, I.hok.fresh (Nat.le_refl _), rfl, hcx⟩, ⟨⟨.str ⟨#[c]⟩ u, ?_⟩, ⟨oi, (sb.2 it (Ne.symm hne)).trans ei, ci⟩, hne⟩, fun b hb => ?_⟩
    · have e1 : ((i + 1 : Nat) : Int) = (i : Int) + 1 := by omega
      rw [e1]; exact he'
    · have hb' : b < s.heap.objs.size := by
        have e' : b = e ∨ b = it := by simpa using hb
        rcases e' with z | z
        · rw [z]; exact hel
        · rw [z]; exact hil
      rw [upd_ne (Nat.ne_of_lt hb')]
      exact (hf b hb).1
  done := by
    intro X hP hw hK hc i pins s σ H E I hf st hg
    subst hP hw hK
    obtain ⟨⟨old, he⟩, hit, hne⟩ := st
    have hi : i = x.cps.size := hg
    subst hi
    have hh : X.A.in1.handled = none := by simp [I.ok.hd hc]
    have D : Draws X.prog X.w X.A.in1 it [it] x.cps.size (fun i v => ∃ c u, x.cps[i]? = some c ∧ v = .str ⟨#[c]⟩ u) (fun i h => h.IsStrIter it ty x t i) := by
      rcases hty with z | z
      · rw [z]; exact Draws.strAscii hh it x t
      · rw [z]; exact Draws.strWide hh it x t
    obtain ⟨f0, f1, f2, f3, f4, f5⟩ := hf it (by simp)
    exact wpAny_pyNext_enum_endD D he hit fun h' eb => ⟨rfl, I.turned (t' := s.toks) (fun b o hb q => eb b o hb q) f0 f1 f3 f4 f5⟩
  self := fun A i s Q E st h => let ⟨⟨_, he⟩, _⟩ := st; wpAny_pyIter_enum he h
def iEnumS (ta : TA) : TI := fun σ H R => ta σ H fun vs H1 => ∃ x, vs = [.str x] ∧ R (ItES x) H1
theorem pi_enumS {X : Cx} {e : Expr} {ta : TA} {p pos tpos : Pos} {elts : List Expr} {kk : Nat} (hg : Gl X "enumerate") (hm : X.mg "enumerate" = none) (ha : PA X [e] ta) (hs : starEach [e] X.env = [(false, eval e X.env)] := by rfl) :
    PI X (.Tuple elts kk tpos) (.Call (.Name "enumerate" p) [e] [] pos) (iEnumS ta) := by
  refine ⟨fun pins s σ H R I h => ?_⟩
  refine Call_ (ld_blt I hg hm boot_enumerate (PyProof.Rows.callWith_type1 (thn (ha.run pos pins s σ H _ I h) fun us s1 ⟨vs, H1, I1, r1, q1⟩ => ?_) hs rfl))
  obtain ⟨x, ex, q⟩ := q1
  subst ex
  cases r1 with
  | cons r rr =>
    cases rr
    obtain ⟨t, rfl⟩ := r
    refine call_enumerate_str fun h' he hit hsz hk => wpAny_pyIter_enum he ?_
    have I2 : Inv X pins σ H1 { s1 with heap := h' } := I1.kept (t' := s1.toks) hk
    have hty : strIterType x = "str_ascii_iterator" ∨ strIterType x = "str_iterator" := by
      unfold strIterType
      split
      · exact .inl rfl
      · exact .inr rfl
    refine ⟨s1.heap.objs.size + 1, [s1.heap.objs.size + 1, s1.heap.objs.size], _, _, H1, rfl, I2, turn_enumS x t (s1.heap.objs.size + 1) s1.heap.objs.size _ hty, ⟨⟨.none, he⟩, hit, Nat.succ_ne_self _⟩, fun b hb => ?_, q⟩
    have e' : b = s1.heap.objs.size + 1 ∨ b = s1.heap.objs.size := by simpa using hb
    have hle : s1.heap.objs.size ≤ b := by
      rcases e' with z | z
      · rw [z]; exact Nat.le_add_right _ _
      · rw [z]; exact Nat.le_refl _
    exact I1.fpOk hle (I1.hok.fresh hle)
theorem ites_rel {K : PySem.W.Frag} {M : Mo} {H : Hp} {x : Str} : ItRel K ⟨enumD 0 (signsD x), fun _ => True⟩ M H (ItES x) :=
  ⟨fun i d M1 H1 s o e => by
    obtain ⟨y, hy, rfl⟩ := enumD_get e
    obtain ⟨c, hc, rfl⟩ := signsD_get hy
    refine ⟨(Array.getElem?_eq_some_iff.mp hc).1, fun v H2 z => ?_⟩
    obtain ⟨T, c', rfl, hT, rfl, hc'⟩ := z
    rw [hc] at hc'
    cases hc'
    refine ⟨Stp.new0 s.sr hT, ?_⟩
    rw [Nat.zero_add]
    exact RD.pair .int .str hT, fun M1 H1 s o => by
    show (enumD 0 (signsD x)).length = _
    rw [enumD_length]
    unfold signsD
    simp⟩
def iEnumSD (ta : TAD) : TID := fun sd M R => ta sd M fun ds M1 => match ds with
  | [.str x] => R ⟨enumD 0 (signsD x), fun _ => True⟩ M1
  | _ => False
section
variable {X : Cx} {M0 : Mo} {H0 : Hp}
theorem di_enumS {e : Expr} {ta : TAD} {p pos tpos : Pos} {elts : List Expr} {kk : Nat} (hg : Gl X "enumerate") (hm : X.mg "enumerate" = none) (ha : PAd X M0 H0 [e] ta) (hs : starEach [e] X.env = [(false, eval e X.env)] := by rfl) :
    PId X M0 H0 (.Tuple elts kk tpos) (.Call (.Name "enumerate" p) [e] [] pos) (iEnumSD ta) :=
  PI.imp (pi_enumS hg hm ha hs) fun σ H R ⟨sd, M, Rd, w, q, c⟩ => ⟨sd, M, _, w, q, fun d M1 v H1 s1 r1 q1 => by
    split at q1
    · rename_i x
      obtain ⟨v, rfl, r⟩ := r1.one
      exact ⟨x, by rw [r.str_of], c _ _ _ _ s1 ites_rel q1⟩
    · exact q1.elim⟩
end
/-! ### defs with defaults, calls with keywords -/
section
variable {P : Program} {w : World} {K : PySem.W.Frag} {mg : Str → Option Value} {base : Heap}
theorem okDD {x qual : Str} {params : Arguments} {body : List Stmt} {scope : Scope} {dvs : List V} {kws : List (Str × V)} {f : Addr} {fd : FuncData} {N ps : List Str} {k : Nat} {sp : SpD} (F : FunD K x qual params body scope dvs kws f fd) (S : FnScope N ps scope) (len : ∀ ds M Q E, sp ds M Q E → ds.length = ps.length)
    (hbody : ∀ (cdv : Value) (A : Around) (outer : List Env) (s : Shared) (H : Hp) (M : Mo) (ds : List Dv) (Qd : QD) (Ed : EXD) (E : XK), Room k (A.deeper (envOfC qual scope s.heap.objs.size f cdv)) → CtX K M H (FgE Ed) E → sp ds M Qd Ed →
      ∃ t, PSsd (cxOf (L2.CX P w) P w K mg base N qual scope f cdv A outer s H E) M H body t ∧ t { nx := fun _ M' => Fg Qd .non M', rt := Fg Qd } (startD N ds) M) : FnOk P w K mg base (L2.CX P w) (k + 1) f fd ps (LSp K sp) := by
  refine F.ok S (fun vs H Q E h => ?_) (fun cdv A outer s H vs Q E hr h => ?_)
  · obtain ⟨ds, M, Qd, Ed, r, sr, h, _, _⟩ := h
    rw [← r.length]
    exact len ds M Qd Ed h
  · obtain ⟨ds, M, Qd, Ed, r, sr, h, c, cx⟩ := h
    obtain ⟨t, ht, hq⟩ := hbody cdv A outer s H M ds Qd Ed E hr cx.fg h
    refine ⟨LS K M H t, ht, startD N ds, M, _, ⟨.refl sr, start_rs r⟩, hq, ⟨fun sd M' σ H' s rs ⟨M2, hs, q⟩ => c .non M2 .non H' (s.sub hs) .non q, fun d M' v H' s r ⟨M2, hs, q⟩ => c d M2 v H' (s.sub hs) r q, fun _ _ _ _ _ _ q => q.elim, fun _ _ _ _ _ _ q => q.elim⟩⟩
end
section
variable {X : Cx} {M0 : Mo} {H0 : Hp} {k : Nat} {ps : List Str} {B : FuncData → Prop} {sp : SpD} {ddvs : List Dv} {dvs : List V} {Ed : EXD} {E : XK} {x : Str} {p pos : Pos} {e : Expr} {es : List Expr} {t tk : TAD}
theorem de_callG (F : FnD X.prog X.w X.K X.mg X.base x k ps B sp) (hr : Room k X.A) (hg : Gl X x) (hb : ∀ fd, B fd → ∃ us, Vals dvs us ∧ Binds X.K fd ps us) (hdd : ∀ H, RDs X.K H ddvs dvs)
    (hx : Passes (L2.CX X.prog X.w) X E) (hE : CtX X.K M0 H0 Ed E) (ha : PAd X M0 H0 (e :: es) t) (hdb : (x == ("__debug__" : Str)) = false := by decide) (he : starEach (e :: es) X.env = (false, eval e X.env) :: starEach es X.env := by rfl) (hpl : (backTo pos (starEach es X.env)).any (·.1) = false := by rfl) :
    PEd X M0 H0 (.Call (.Name x p) (e :: es) [] pos) (dCall sp ddvs Ed t) := by
  obtain ⟨f, fd, hm, hk, b, F⟩ := F.ex
  obtain ⟨us, hd, b⟩ := hb fd b
  exact de_call F hr hg hm hk b hd hdd hx hE ha hdb he hpl
/-- f(e, .., k = v, ..), the keywords behind the positional ones in the parameters' order -/
def dCallN (sp : SpD) (n m : Nat) (Ed : EXD) (t tk : TAD) : TED := fun sd M Q => t sd M fun ds M1 => tk sd M1 fun zs M2 => ds.length = n ∧ zs.length = m ∧ sp (ds ++ zs) M2 Q Ed
end
end DL
namespace DL
open PySem PySem.Spec PyProof.Rows L2
section
variable {sd : StD} {M : Mo} {Q : QD} {E : EXD} {d e : Dv} {ds es xs ys : List Dv} {i j : Int} {x y z : Str} {a b : Addr} {c : Nat}
def kLS (d : Dv) (M : Mo) (Q : QD) : Prop := ∃ x : Str, d = .str x ∧ x.length < 4096 ∧ Q (.int (dctN (sgs x) x.length : Nat)) M
theorem i_lenSet {t : TED} (h : t sd M fun d M1 => kLS d M1 Q) : dLenSet t sd M Q := h
theorem i_kLS (h0 : x.length < 4096) (h : Q (.int (dctN (sgs x) x.length : Nat)) M) : kLS (.str x) M Q := ⟨x, rfl, h0, h⟩
theorem i_inS (h : Q (.bl (decide (c ∈ z.cps.toList))) M) : dIn (.str ⟨#[c]⟩) (.str z) M Q := h
theorem i_ninS (h : Q (.bl (!decide (c ∈ z.cps.toList))) M) : dNotIn (.str ⟨#[c]⟩) (.str z) M Q := h
theorem i_inT (h1 : flatD d = true) (h2 : xs.all flatD = true) (h : Q (.bl (xs.any fun y => eqF y d)) M) : dIn d (.tup xs) M Q := by
  unfold dIn dInB
  cases d <;> exact ⟨h1, h2, h⟩
theorem i_index {k : Nat} (h0 : x.cps.toList[k]? = some c) (h1 : ∀ j, j < k → x.cps.toList[j]? ≠ some c) (h : Q (.int (k : Nat)) M) : dIndex (.str x) [.str ⟨#[c]⟩] M Q := by
  unfold dIndex
  simp only [index_sign h0 h1]
  exact h
theorem i_divmod (h1 : 0 < j) (h2 : j < 1073741824) (h : Q (.tup [.int (i / j), .int (i % j)]) M) : dDivmod [.int i, .int j] M Q := ⟨⟨h1, h2⟩, h⟩
def kEnS (ds : List Dv) (F : Str → Prop) : Prop := match ds with
  | [.str x] => F x
  | _ => False
theorem i_enSI {t : TAD} {R : ItD → Mo → Prop} (h : t sd M fun ds M1 => kEnS ds fun x => R ⟨enumD 0 (signsD x), fun _ => True⟩ M1) : iEnumSD t sd M R := by
  have : (fun (ds : List Dv) (M1 : Mo) => kEnS ds fun x => R ⟨enumD 0 (signsD x), fun _ => True⟩ M1) = fun ds M1 => match ds with
      | [.str x] => R ⟨enumD 0 (signsD x), fun _ => True⟩ M1
      | _ => False := by
    funext ds M1
    unfold kEnS
    split <;> rfl
  rw [this] at h
  exact h
theorem i_kEnS {F : Str → Prop} (h : F x) : kEnS [.str x] F := h
/-- calls with defaults and keywords: the arguments put together -/
def kA (sp : SpD) (ds es : List Dv) (M : Mo) (Q : QD) (E : EXD) : Prop := sp (ds ++ es) M Q E
theorem i_callD {sp : SpD} {v : Dv} {vs : List Dv} {t : TAD} (h : t sd M fun ds M1 => kA sp ds (v :: vs) M1 Q E) : dCall sp (v :: vs) E t sd M Q := h
section
variable {sp : SpD} {d1 d2 d3 d4 d5 : Dv}
theorem i_kA11 (h : sp [d1, d2] M Q E) : kA sp [d1] [d2] M Q E := h
theorem i_kA12 (h : sp [d1, d2, d3] M Q E) : kA sp [d1] [d2, d3] M Q E := h
theorem i_kA21 (h : sp [d1, d2, d3] M Q E) : kA sp [d1, d2] [d3] M Q E := h
theorem i_kA22 (h : sp [d1, d2, d3, d4] M Q E) : kA sp [d1, d2] [d3, d4] M Q E := h
theorem i_kA13 (h : sp [d1, d2, d3, d4] M Q E) : kA sp [d1] [d2, d3, d4] M Q E := h
theorem i_kA31 (h : sp [d1, d2, d3, d4] M Q E) : kA sp [d1, d2, d3] [d4] M Q E := h
def kN (sp : SpD) (n m : Nat) (ds zs : List Dv) (M : Mo) (Q : QD) (E : EXD) : Prop := ds.length = n ∧ zs.length = m ∧ sp (ds ++ zs) M Q E
theorem i_callN {n m : Nat} {t tk : TAD} (h : t sd M fun ds M1 => tk sd M1 fun zs M2 => kN sp n m ds zs M2 Q E) : dCallN sp n m E t tk sd M Q := h
theorem i_kN11 {n m : Nat} (h1 : 1 = n) (h2 : 1 = m) (h : sp [d1, d2] M Q E) : kN sp n m [d1] [d2] M Q E := ⟨h1, h2, h⟩
theorem i_kN12 {n m : Nat} (h1 : 1 = n) (h2 : 2 = m) (h : sp [d1, d2, d3] M Q E) : kN sp n m [d1] [d2, d3] M Q E := ⟨h1, h2, h⟩
theorem i_kN21 {n m : Nat} (h1 : 2 = n) (h2 : 1 = m) (h : sp [d1, d2, d3] M Q E) : kN sp n m [d1, d2] [d3] M Q E := ⟨h1, h2, h⟩
theorem i_kN22 {n m : Nat} (h1 : 2 = n) (h2 : 2 = m) (h : sp [d1, d2, d3, d4] M Q E) : kN sp n m [d1, d2] [d3, d4] M Q E := ⟨h1, h2, h⟩
theorem i_kN31 {n m : Nat} (h1 : 3 = n) (h2 : 1 = m) (h : sp [d1, d2, d3, d4] M Q E) : kN sp n m [d1, d2, d3] [d4] M Q E := ⟨h1, h2, h⟩
theorem i_kN13 {n m : Nat} (h1 : 1 = n) (h2 : 3 = m) (h : sp [d1, d2, d3, d4] M Q E) : kN sp n m [d1] [d2, d3, d4] M Q E := ⟨h1, h2, h⟩
end
end
/-! ### unlike signs -/
theorem any_take {xs : List Str} {i : Nat} (hi : i < xs.length) : ((xs.take i).any (· == xs.getD i Str.empty)) = decide (xs[i] ∈ xs.take i) := by
  have e1 : xs.getD i Str.empty = xs[i] := by
    rw [List.getD_eq_getElem?_getD, List.getElem?_eq_getElem hi]
    rfl
  rw [e1, Bool.eq_iff_iff]
  simp
theorem dctN_nodup {xs : List Str} (h : xs.Nodup) : ∀ i, i ≤ xs.length → dctN xs i = i
  | 0, _ => rfl
  | i + 1, hi => by
    unfold dctN
    rw [any_take (by omega), dctN_nodup h i (by omega), decide_eq_false, if_neg Bool.false_ne_true]
    intro hm
    obtain ⟨j, hj, e⟩ := List.mem_iff_getElem.mp hm
    rw [List.getElem_take] at e
    rw [List.length_take] at hj
    have := (List.nodup_iff_pairwise_ne.mp h)
    have := List.pairwise_iff_getElem.mp this j i (by omega) (by omega) (by omega)
    exact this e
theorem dctN_dup {xs : List Str} {i j : Nat} (hij : i < j) (hj : j < xs.length) (e : xs[i] = xs[j]) : ∀ n, j < n → dctN xs n < n
  | 0, h => by omega
  | n + 1, h => by
    by_cases hn : j = n
    · subst hn
      unfold dctN
      rw [any_take hj, decide_eq_true, if_pos rfl]
      · have := dctN_le xs j
        omega
      · rw [← e]
        exact List.mem_iff_getElem.mpr ⟨i, by rw [List.length_take]; omega, by rw [List.getElem_take]⟩
    · have := dctN_dup hij hj e n (by omega)
      unfold dctN
      split <;> omega
theorem sgs_nodup {x : Str} (h : x.cps.toList.Nodup) : (sgs x).Nodup := by
  unfold sgs
  refine List.nodup_iff_pairwise_ne.mpr (List.pairwise_map.mpr ?_)
  exact (List.nodup_iff_pairwise_ne.mp h).imp fun {a b} hne e => hne (by
    have e2 : (#[a] : Array Nat) = #[b] := congrArg Str.cps e
    simpa using e2)
theorem set_nodup {x : Str} (h : x.cps.toList.Nodup) : dctN (sgs x) x.length = x.length := dctN_nodup (sgs_nodup h) _ (by rw [sgs_len]; exact Nat.le_refl _)
theorem set_dup {x : Str} (h : ¬ x.cps.toList.Nodup) : dctN (sgs x) x.length < x.length := by
  have h2 : ∃ i j, ∃ (hi : i < j) (hj : j < x.cps.toList.length), x.cps.toList[i] = x.cps.toList[j] := by
    refine Classical.byContradiction fun hn => h ?_
    refine List.nodup_iff_pairwise_ne.mpr (List.pairwise_iff_getElem.mpr fun i j hi hj hij e => hn ⟨i, j, hij, hj, e⟩)
  obtain ⟨i, j, hi, hj, e⟩ := h2
  have hz : (sgs x).length = x.cps.toList.length := by simp [sgs]
  refine dctN_dup (i := i) (j := j) hi (by omega) ?_ _ (by rw [show x.length = x.cps.toList.length by simp [Str.length]]; exact hj)
  simp only [sgs, List.getElem_map]
  rw [e]
end DL
namespace DL
open PySem PySem.Spec PyProof.Rows L2
/-- one step back, found by the goal's head -/
class Step (A : Prop) (B : outParam Prop) : Prop where
  go : B → A
/-- slots by number -/
class GetAt (sd : StD) (n : Nat) (d : outParam Dv) : Prop where
  eq : sd[n]? = some (some d)
class SetAt (sd : StD) (n : Nat) (v : Option Dv) (sd' : outParam StD) : Prop where
  eq : sd.set n v = sd'
class StartAt (N : List Str) (ds : List Dv) (sd : outParam StD) : Prop where
  eq : startD N ds = sd
instance ga_0 {d : Dv} {r : StD} : GetAt (some d :: r) 0 d := ⟨rfl⟩
instance ga_s {d : Dv} {o : Option Dv} {r : StD} {n : Nat} [g : GetAt r n d] : GetAt (o :: r) (n + 1) d := ⟨g.eq⟩
instance sa_0 {v o : Option Dv} {r : StD} : SetAt (o :: r) 0 v (v :: r) := ⟨rfl⟩
instance sa_s {v o : Option Dv} {r r' : StD} {n : Nat} [g : SetAt r n v r'] : SetAt (o :: r) (n + 1) v (o :: r') := ⟨congrArg (o :: ·) g.eq⟩
instance st_0 : StartAt [] [] [] := ⟨rfl⟩
instance st_n {x : Str} {N : List Str} {sd : StD} [g : StartAt N [] sd] : StartAt (x :: N) [] (none :: sd) := ⟨by
  rw [← g.eq]
  rfl⟩
instance st_c {x : Str} {N : List Str} {d : Dv} {ds : List Dv} {sd : StD} [g : StartAt N ds sd] : StartAt (x :: N) (d :: ds) (some d :: sd) := ⟨by
  rw [← g.eq]
  unfold startD
  rw [List.length_cons, List.length_cons, Nat.add_sub_add_right]
  rfl⟩
instance ga_st {N : List Str} {ds : List Dv} {sd : StD} {n : Nat} {d : Dv} [s : StartAt N ds sd] [g : GetAt sd n d] : GetAt (startD N ds) n d := ⟨by rw [s.eq]; exact g.eq⟩
instance sa_st {N : List Str} {ds : List Dv} {sd sd' : StD} {n : Nat} {v : Option Dv} [s : StartAt N ds sd] [g : SetAt sd n v sd'] : SetAt (startD N ds) n v sd' := ⟨by rw [s.eq]; exact g.eq⟩
class NormAt (sd : StD) (sd' : outParam StD) : Prop where
  eq : sd = sd'
instance na_n : NormAt [] [] := ⟨rfl⟩
instance na_c {o : Option Dv} {r : StD} : NormAt (o :: r) (o :: r) := ⟨rfl⟩
instance na_st {N : List Str} {ds : List Dv} {sd : StD} [s : StartAt N ds sd] : NormAt (startD N ds) sd := ⟨s.eq⟩
instance na_w0 {sd sd' : StD} [s : NormAt sd sd'] : NormAt (wipeD sd []) sd' := ⟨s.eq⟩
instance na_wc {sd sd1 sd2 : StD} {v : Nat} {vs : List Nat} [s : NormAt (wipeD sd vs) sd1] [g : SetAt sd1 v none sd2] : NormAt (wipeD sd (v :: vs)) sd2 := ⟨by
  have e := s.eq
  show (wipeD sd vs).set v none = sd2
  rw [e, g.eq]⟩
instance na_m0 {sd sd' : StD} {f : Str × Nat → Nat} [s : NormAt sd sd'] : NormAt (wipeD sd (List.map f [])) sd' := ⟨s.eq⟩
instance na_mc {sd sd1 sd2 : StD} {f : Str × Nat → Nat} {q : Str × Nat} {l : List (Str × Nat)} [s : NormAt (wipeD sd (List.map f l)) sd1] [g : SetAt sd1 (f q) none sd2] : NormAt (wipeD sd (List.map f (q :: l))) sd2 := ⟨by
  have e := s.eq
  show (wipeD sd (List.map f l)).set (f q) none = sd2
  rw [e, g.eq]⟩
instance ga_w {sd sd' : StD} {vs : List Nat} {n : Nat} {d : Dv} [s : NormAt (wipeD sd vs) sd'] [g : GetAt sd' n d] : GetAt (wipeD sd vs) n d := ⟨by rw [s.eq]; exact g.eq⟩
instance sa_w {sd sd' sd2 : StD} {vs : List Nat} {n : Nat} {v : Option Dv} [s : NormAt (wipeD sd vs) sd'] [g : SetAt sd' n v sd2] : SetAt (wipeD sd vs) n v sd2 := ⟨by rw [s.eq]; exact g.eq⟩
def kSetN (n : Nat) (z : Dv) (sd : StD) (M : Mo) (a : StD → Mo → Prop) : Prop := a (sd.set n (some z)) M
section
variable {X : Cx} {M0 : Mo} {H0 : Hp}
theorem de_globSx {x z : Str} {pos : Pos} (hg : Gl X x) (hm : ∃ t, X.mg x = some (.str z t)) (hd : (x == ("__debug__" : Str)) = false := by decide) : PEd X M0 H0 (.Name x pos) (dC (.str z)) := by
  obtain ⟨t, h⟩ := hm
  exact de_globS hg h hd
theorem de_globIx {x : Str} {i : Int} {pos : Pos} (hg : Gl X x) (hm : ∃ t, X.mg x = some (.int i t)) (hd : (x == ("__debug__" : Str)) = false := by decide) : PEd X M0 H0 (.Name x pos) (dC (.int i)) := by
  obtain ⟨t, h⟩ := hm
  exact de_globI hg h hd
end
section
variable {M : Mo} {Q : QD} {E : EXD} {d e : Dv} {sd sd' : StD} {D : EndsD} {n : Nat}
instance s_var [g : GetAt sd n d] : Step (dVar n sd M Q) (Q d M) := ⟨i_var g.eq⟩
instance s_gN {R : StD → Mo → Prop} [g : SetAt sd n (some d) sd'] : Step (gN n d sd M R) (R sd' M) := ⟨fun h => i_gN (by rw [g.eq]; exact h)⟩
instance s_dGn {R : StD → Mo → Prop} [g : SetAt sd n (some d) sd'] : Step (dG (.nm n) d sd M R) (R sd' M) := ⟨fun h => i_dGn (by rw [g.eq]; exact h)⟩
end
section
variable {M : Mo} {Q : QD} {E : EXD} {d e : Dv} {sd sd' : StD} {n : Nat} {a b c : StD → Mo → Prop} {r : QD}
instance s_seq {t u : TSD} : Step (dSeq t u ⟨a, r, b, c⟩ sd M) (t ⟨u ⟨a, r, b, c⟩, r, b, c⟩ sd M) := ⟨fun h => h⟩
instance s_next : Step (dNext ⟨a, r, b, c⟩ sd M) (a sd M) := ⟨fun h => h⟩
instance s_asg {te : TED} {g : TGD} : Step (dAsg te g ⟨a, r, b, c⟩ sd M) (te sd M fun d M1 => g d sd M1 a) := ⟨fun h => h⟩
instance s_ret {te : TED} : Step (dRet te ⟨a, r, b, c⟩ sd M) (te sd M r) := ⟨fun h => h⟩
instance s_retN : Step (dRetN ⟨a, r, b, c⟩ sd M) (r .non M) := ⟨fun h => h⟩
instance s_drop {te : TED} : Step (dDrop te ⟨a, r, b, c⟩ sd M) (te sd M fun _ M1 => a sd M1) := ⟨fun h => h⟩
instance s_brk : Step (dBreak ⟨a, r, b, c⟩ sd M) (b sd M) := ⟨fun h => h⟩
instance s_cnt : Step (dCont ⟨a, r, b, c⟩ sd M) (c sd M) := ⟨fun h => h⟩
instance s_aug {te : TED} {rd : R2d} [g : GetAt sd n d] : Step (dAug n te rd ⟨a, r, b, c⟩ sd M) (te sd M fun y M1 => rd d y M1 fun z M2 => kSetN n z sd M2 a) := ⟨fun h => i_aug g.eq h⟩
instance s_kSetN [g : SetAt sd n (some d) sd'] : Step (kSetN n d sd M a) (a sd' M) := ⟨fun h => by unfold kSetN; rw [g.eq]; exact h⟩
/-- a loop, its items told -/
def kFor (J : ItD) (g : TGD) (tb : TSD) (a : StD → Mo → Prop) (r : QD) (sd : StD) (M : Mo) : Prop := ∃ W : Nat → StD → Mo → Prop, W 0 sd M ∧ (∀ i sd M, i ≤ J.ds.length → W i sd M → J.ok M) ∧
  (∀ i d sd M, J.ds[i]? = some d → W i sd M → g d sd M fun sd2 M2 => tb ⟨W (i + 1), r, a, W (i + 1)⟩ sd2 M2) ∧ ∀ sd M, W J.ds.length sd M → a sd M
instance s_for {wi : TID} {g : TGD} {tb : TSD} : Step (dFor wi g tb ⟨a, r, b, c⟩ sd M) (wi sd M fun J M1 => kFor J g tb a r sd M1) := ⟨fun h => h⟩
theorem fo_rng {lo : Int} {n : Nat} {g : TGD} {tb : TSD} (W : Nat → StD → Mo → Prop) (h0 : W 0 sd M)
    (hs : ∀ i sd M, i < n → W i sd M → g (.int (lo + (i : Nat))) sd M fun sd2 M2 => tb ⟨W (i + 1), r, a, W (i + 1)⟩ sd2 M2) (hd : ∀ sd M, W n sd M → a sd M) :
    kFor ⟨rngD lo n, fun _ => True⟩ g tb a r sd M := by
  refine ⟨W, h0, fun _ _ _ _ _ => trivial, fun i d sd M e hw => ?_, fun sd M hw => ?_⟩
  · obtain ⟨hi, rfl⟩ := rngD_get e
    exact hs i sd M hi hw
  · have e : (ItD.mk (rngD lo n) fun _ => True).ds.length = n := rngD_length lo n
    rw [e] at hw
    exact hd sd M hw
theorem fo_fz {ds : List Dv} {g : TGD} {tb : TSD} (W : Nat → StD → Mo → Prop) (h0 : W 0 sd M)
    (hs : ∀ i d sd M, ds[i]? = some d → W i sd M → g d sd M fun sd2 M2 => tb ⟨W (i + 1), r, a, W (i + 1)⟩ sd2 M2) (hd : ∀ sd M, W ds.length sd M → a sd M) :
    kFor ⟨ds, fun _ => True⟩ g tb a r sd M := ⟨W, h0, fun _ _ _ _ _ => trivial, hs, hd⟩
/-- while, by an invariant and a measure -/
theorem wh {t : TTD} {tb : TSD} (W : Nat → StD → Mo → Prop) (m : Nat) (h0 : W m sd M) (turn : ∀ m sd M, W m sd M → t sd M fun k M1 => if k = true then tb ⟨fun sd' M' => ∃ m', m' < m ∧ W m' sd' M', r, a, fun sd' M' => ∃ m', m' < m ∧ W m' sd' M'⟩ sd M1 else a sd M1) : dWhile t tb ⟨a, r, b, c⟩ sd M :=
  ⟨W, ⟨m, h0⟩, turn⟩
end
instance s_isN_non {M : Mo} {Q : QD} : Step (dIsN (.non) .non M Q) (Q (.bl true) M) := ⟨fun h => h⟩
instance s_notN_non {M : Mo} {Q : QD} : Step (dNotN (.non) .non M Q) (Q (.bl false) M) := ⟨fun h => h⟩
instance s_isN_bl {M : Mo} {Q : QD} {b : Bool} : Step (dIsN (.bl b) .non M Q) (Q (.bl false) M) := ⟨fun h => h⟩
instance s_notN_bl {M : Mo} {Q : QD} {b : Bool} : Step (dNotN (.bl b) .non M Q) (Q (.bl true) M) := ⟨fun h => h⟩
instance s_isN_int {M : Mo} {Q : QD} {i : Int} : Step (dIsN (.int i) .non M Q) (Q (.bl false) M) := ⟨fun h => h⟩
instance s_notN_int {M : Mo} {Q : QD} {i : Int} : Step (dNotN (.int i) .non M Q) (Q (.bl true) M) := ⟨fun h => h⟩
instance s_isN_str {M : Mo} {Q : QD} {x : Str} : Step (dIsN (.str x) .non M Q) (Q (.bl false) M) := ⟨fun h => h⟩
instance s_notN_str {M : Mo} {Q : QD} {x : Str} : Step (dNotN (.str x) .non M Q) (Q (.bl true) M) := ⟨fun h => h⟩
instance s_isN_tup {M : Mo} {Q : QD} {ds : List Dv} : Step (dIsN (.tup ds) .non M Q) (Q (.bl false) M) := ⟨fun h => h⟩
instance s_notN_tup {M : Mo} {Q : QD} {ds : List Dv} : Step (dNotN (.tup ds) .non M Q) (Q (.bl true) M) := ⟨fun h => h⟩
instance s_isN_lst {M : Mo} {Q : QD} {ds : List Dv} : Step (dIsN (.lst ds) .non M Q) (Q (.bl false) M) := ⟨fun h => h⟩
instance s_notN_lst {M : Mo} {Q : QD} {ds : List Dv} : Step (dNotN (.lst ds) .non M Q) (Q (.bl true) M) := ⟨fun h => h⟩
instance s_isN_ref {M : Mo} {Q : QD} {p : Addr} : Step (dIsN (.ref p) .non M Q) (Q (.bl false) M) := ⟨fun h => h⟩
instance s_notN_ref {M : Mo} {Q : QD} {p : Addr} : Step (dNotN (.ref p) .non M Q) (Q (.bl true) M) := ⟨fun h => h⟩
theorem e_mup {M : Mo} {a p : Addr} {o : OO} {r : Option OO} (h : a ≠ p) (q : M a = r) : mup M p o a = r := (mup_ne h).trans q
section
variable {M : Mo} {Q : QD} {E : EXD} {d e : Dv} {i j : Int} {x y z : Str} {xs ys ds es : List Dv} {a b : Addr} {c : Nat} {sd : StD} {D : EndsD} {sp : SpD} {d1 d2 d3 d4 d5 : Dv}
instance s_if {c : TTD} {t u : TSD} : Step (dIfS c t u D sd M) (c sd M fun b M1 => if b = true then t D sd M1 else u D sd M1) := ⟨i_if⟩
instance s_c  : Step (dC d sd M Q) (Q d M) := ⟨i_c⟩
instance s_op {rd : R2d} {ta tb : TED} : Step (dOp rd ta tb sd M Q) (ta sd M fun d M1 => tb sd M1 fun e M2 => rd d e M2 Q) := ⟨i_op⟩
instance s_neg {ta : TED} : Step (dNeg ta sd M Q) (ta sd M fun d M1 => kI d fun i => Q (.int (-i)) M1) := ⟨i_neg⟩
instance s_kI {R : Int → Prop} : Step (kI (.int i) R) (R i) := ⟨i_kI⟩
instance s_kB {R : Bool → Prop} {b : Bool} : Step (kB (.bl b) R) (R b) := ⟨i_kB⟩
instance s_ifx {c : TTD} {ta tb : TED} : Step (dIf c ta tb sd M Q) (c sd M fun k M1 => if k = true then ta sd M1 Q else tb sd M1 Q) := ⟨i_ifx⟩
instance s_gCn {t : TGD} {u : TGsD} {R : StD → Mo → Prop} : Step (gCn t u (d :: ds) sd M R) (t d sd M fun sd' M' => u ds sd' M' R) := ⟨i_gCn⟩
instance s_gNl {R : StD → Mo → Prop} : Step (gNl [] sd M R) (R sd M) := ⟨i_gNl⟩
instance s_gSb {to ti : TED} {t : TSetD} {R : StD → Mo → Prop} : Step (gSb to ti t d sd M R) (to sd M fun o M1 => ti sd M1 fun i M2 => t o i d M2 fun M3 => R sd M3) := ⟨i_gSb⟩
instance s_nilA {R : List Dv → Mo → Prop} : Step (dNilA sd M R) (R [] M) := ⟨i_nilA⟩
instance s_consA {ta : TED} {tr : TAD} {R : List Dv → Mo → Prop} : Step (dConsA ta tr sd M R) (ta sd M fun d M1 => tr sd M1 fun ds M2 => R (d :: ds) M2) := ⟨i_consA⟩
instance s_tup {t : TAD} : Step (dTup t sd M Q) (t sd M fun ds M1 => ds.length ≤ 1000 ∧ Q (.tup ds) M1) := ⟨i_tup⟩
instance s_lst {t : TAD} : Step (dLst t sd M Q) (t sd M fun ds M1 => ds.length ≤ 1000 ∧ ∀ p, M1 p = none → Q (.ref p) (mup M1 p (.lst ds))) := ⟨i_lst⟩
instance s_cb {rd : RNd} {t : TAD} : Step (dCB rd t sd M Q) (t sd M fun ds M1 => rd ds M1 Q) := ⟨i_cb⟩
instance s_bm {T : String} {rd : RMd} {to : TED} {t : TAD} : Step (dBM T rd to t sd M Q) (to sd M fun d M1 => tyD T d M1 ∧ t sd M1 fun ds M2 => rd d ds M2 Q) := ⟨i_bm⟩
instance s_bm0 {T : String} {rd : RMd} {to : TED} : Step (dBM0 T rd to sd M Q) (to sd M fun d M1 => tyD T d M1 ∧ rd d [] M1 Q) := ⟨i_bm0⟩
instance s_call {sp : SpD} {Ed : EXD} {t : TAD} : Step (dCall sp [] Ed t sd M Q) (t sd M fun ds M1 => sp ds M1 Q Ed) := ⟨i_call⟩
instance s_test {t : TED} {R : Bool → Mo → Prop} : Step (dTest t sd M R) (t sd M fun d M1 => kB d fun b => R b M1) := ⟨i_test⟩
instance s_truth {t : TED} {R : Bool → Mo → Prop} : Step (dTruth t sd M R) (t sd M fun d M1 => dTru M1 d fun b => R b M1) := ⟨i_truth⟩
instance s_truB {b : Bool} {R : Bool → Prop} : Step (dTru M (.bl b) R) (R b) := ⟨i_truB⟩
instance s_truI {R : Bool → Prop} : Step (dTru M (.int i) R) (R (i != 0)) := ⟨i_truI⟩
instance s_truN {R : Bool → Prop} : Step (dTru M .non R) (R false) := ⟨i_truN⟩
instance s_truT {R : Bool → Prop} : Step (dTru M (.tup ds) R) (R (!ds.isEmpty)) := ⟨i_truT⟩
instance s_truL {R : Bool → Prop} : Step (dTru M (.lst ds) R) (R (!ds.isEmpty)) := ⟨i_truL⟩
instance s_and2 {t u : TTD} {R : Bool → Mo → Prop} : Step (dAnd2 t u sd M R) (t sd M fun c M1 => if c = true then u sd M1 R else R false M1) := ⟨i_and2⟩
instance s_or2 {t u : TTD} {R : Bool → Mo → Prop} : Step (dOr2 t u sd M R) (t sd M fun c M1 => if c = true then R true M1 else u sd M1 R) := ⟨i_or2⟩
instance s_not {t : TTD} {R : Bool → Mo → Prop} : Step (dNot t sd M R) (t sd M fun c M1 => R (!c) M1) := ⟨i_not⟩
instance s_andV {ta tb : TED} : Step (dAndV ta tb sd M Q) (ta sd M fun d M1 => kB d fun c => if c = true then tb sd M1 Q else Q (.bl false) M1) := ⟨i_andV⟩
instance s_orV {ta tb : TED} : Step (dOrV ta tb sd M Q) (ta sd M fun d M1 => kB d fun c => if c = true then Q (.bl true) M1 else tb sd M1 Q) := ⟨i_orV⟩
instance s_notV {ta : TED} : Step (dNotV ta sd M Q) (ta sd M fun d M1 => kB d fun c => Q (.bl (!c)) M1) := ⟨i_notV⟩
instance s_chain {r r' : R2d} {ta tb tc : TED} : Step (dChain r r' ta tb tc sd M Q) (ta sd M fun x M1 => tb sd M1 fun y M2 => r x y M2 fun z M3 => kB z fun k => if k = true then tc sd M3 fun u M4 => r' y u M4 Q else Q (.bl false) M3) := ⟨i_chain⟩
instance s_I0 {g : Int → Int → Dv} : Step (dI0 g (.int i) (.int j) M Q) (Q (g i j) M) := ⟨i_I0⟩
instance s_addI  : Step (dAdd (.int i) (.int j) M Q) (Q (.int (i + j)) M) := ⟨i_addI⟩
instance s_iaddI  : Step (dIAdd (.int i) (.int j) M Q) (Q (.int (i + j)) M) := ⟨i_iaddI⟩
instance s_eqI  : Step (dEq (.int i) (.int j) M Q) (Q (.bl (decide (i = j))) M) := ⟨i_eqI⟩
instance s_eqS  : Step (dEq (.str x) (.str y) M Q) (Q (.bl (decide (x = y))) M) := ⟨i_eqS⟩
instance s_eqB {b c : Bool} : Step (dEq (.bl b) (.bl c) M Q) (Q (.bl (decide (b = c))) M) := ⟨i_eqB⟩
instance s_neI  : Step (dNe (.int i) (.int j) M Q) (Q (.bl (!decide (i = j))) M) := ⟨i_neI⟩
instance s_neS  : Step (dNe (.str x) (.str y) M Q) (Q (.bl (!decide (x = y))) M) := ⟨i_neS⟩
instance s_neB {b c : Bool} : Step (dNe (.bl b) (.bl c) M Q) (Q (.bl (!decide (b = c))) M) := ⟨i_neB⟩
instance s_sl {te : TED} {tl th : TOD} : Step (dSl te tl th sd M Q) (te sd M fun d M1 => tl sd M1 fun lo M2 => th sd M2 fun hi M3 => dSlV d lo hi M3 Q) := ⟨i_sl⟩
instance s_no {R : Option Int → Mo → Prop} : Step (dNo sd M R) (R none M) := ⟨i_no⟩
instance s_part {t : TED} {R : Option Int → Mo → Prop} : Step (dPart t sd M R) (t sd M fun d M1 => kI d fun i => R (some i) M1) := ⟨i_part⟩
instance s_ift {A B : Prop} : Step (if true = true then A else B) (A) := ⟨i_ift⟩
instance s_iff {A B : Prop} : Step (if false = true then A else B) (B) := ⟨i_iff⟩
instance s_kR1 {F : Int → Prop} : Step (kR1 [.int i] F) (F i) := ⟨i_kR1⟩
instance s_kR2 {F : Int → Int → Prop} : Step (kR2 [.int i, .int j] F) (F i j) := ⟨i_kR2⟩
instance s_rngA {ta : TAD} {R : ItD → Mo → Prop} : Step (iRng1D ta sd M R) (ta sd M fun ds M1 => kR1 ds fun j => j < 4611686018427387904 ∧ -4611686018427387904 ≤ j ∧ R ⟨rngD 0 j.toNat, fun _ => True⟩ M1) := ⟨i_rngA⟩
instance s_rngB {ta : TAD} {R : ItD → Mo → Prop} : Step (iRng2D ta sd M R) (ta sd M fun ds M1 => kR2 ds fun i j => (i < 4611686018427387904 ∧ -4611686018427387904 ≤ i ∧ j < 4611686018427387904 ∧ -4611686018427387904 ≤ j) ∧ R ⟨rngD i (j - i).toNat, fun _ => True⟩ M1) := ⟨i_rngB⟩
instance s_seqI {t : TED} {R : ItD → Mo → Prop} : Step (iSeq t sd M R) (t sd M fun d M1 => kSq M1 d fun ds ok => R ⟨ds, ok⟩ M1) := ⟨i_seqI⟩
instance s_kSqL {F : List Dv → (Mo → Prop) → Prop} : Step (kSq M (.lst ds) F) (F ds fun _ => True) := ⟨i_kSqL⟩
instance s_kStr {F : Str → Prop} : Step (kStr (.str x) F) (F x) := ⟨i_kStr⟩
instance s_strI {t : TED} {R : ItD → Mo → Prop} : Step (iStrD t sd M R) (t sd M fun d M1 => kStr d fun x => R ⟨signsD x, fun _ => True⟩ M1) := ⟨i_strI⟩
instance s_kTup {F : List Dv → Prop} : Step (kTup (.tup ds) F) (F ds) := ⟨i_kTup⟩
instance s_tupI {t : TED} {R : ItD → Mo → Prop} : Step (iTupD t sd M R) (t sd M fun d M1 => kTup d fun ds => R ⟨ds, fun _ => True⟩ M1) := ⟨i_tupI⟩
instance s_enI {t : TAD} {R : ItD → Mo → Prop} : Step (iEnumD t sd M R) (t sd M fun ds M1 => kEn M1 ds fun es ok => R ⟨es, ok⟩ M1) := ⟨i_enI⟩
instance s_kEnL {F : List Dv → (Mo → Prop) → Prop} : Step (kEn M [.lst ds] F) (F (enumD 0 ds) fun _ => True) := ⟨i_kEnL⟩
instance s_yes {R : Bool → Mo → Prop} : Step (dYes sd M R) (R true M) := ⟨i_yes⟩
instance s_dGt {ts : List Tgt} {R : StD → Mo → Prop} : Step (dG (.tp ts) d sd M R) (gTp ts.length (dGs ts) d sd M R) := ⟨i_dGt⟩
instance s_dGc {t : Tgt} {ts : List Tgt} {R : StD → Mo → Prop} : Step (dGs (t :: ts) (d :: ds) sd M R) (dG t d sd M fun sd' M' => dGs ts ds sd' M' R) := ⟨i_dGc⟩
instance s_dG0 {R : StD → Mo → Prop} : Step (dGs [] [] sd M R) (R sd M) := ⟨i_dG0⟩
instance s_lenSet {t : TED} : Step (dLenSet t sd M Q) (t sd M fun d M1 => kLS d M1 Q) := ⟨i_lenSet⟩
instance s_inS  : Step (dIn (.str ⟨#[c]⟩) (.str z) M Q) (Q (.bl (decide (c ∈ z.cps.toList))) M) := ⟨i_inS⟩
instance s_ninS  : Step (dNotIn (.str ⟨#[c]⟩) (.str z) M Q) (Q (.bl (!decide (c ∈ z.cps.toList))) M) := ⟨i_ninS⟩
instance s_enSI {t : TAD} {R : ItD → Mo → Prop} : Step (iEnumSD t sd M R) (t sd M fun ds M1 => kEnS ds fun x => R ⟨enumD 0 (signsD x), fun _ => True⟩ M1) := ⟨i_enSI⟩
instance s_kEnS {F : Str → Prop} : Step (kEnS [.str x] F) (F x) := ⟨i_kEnS⟩
instance s_callD {sp : SpD} {v : Dv} {vs : List Dv} {t : TAD} : Step (dCall sp (v :: vs) E t sd M Q) (t sd M fun ds M1 => kA sp ds (v :: vs) M1 Q E) := ⟨i_callD⟩
instance s_kA11  : Step (kA sp [d1] [d2] M Q E) (sp [d1, d2] M Q E) := ⟨i_kA11⟩
instance s_kA12  : Step (kA sp [d1] [d2, d3] M Q E) (sp [d1, d2, d3] M Q E) := ⟨i_kA12⟩
instance s_kA21  : Step (kA sp [d1, d2] [d3] M Q E) (sp [d1, d2, d3] M Q E) := ⟨i_kA21⟩
instance s_kA22  : Step (kA sp [d1, d2] [d3, d4] M Q E) (sp [d1, d2, d3, d4] M Q E) := ⟨i_kA22⟩
instance s_kA13  : Step (kA sp [d1] [d2, d3, d4] M Q E) (sp [d1, d2, d3, d4] M Q E) := ⟨i_kA13⟩
instance s_kA31  : Step (kA sp [d1, d2, d3] [d4] M Q E) (sp [d1, d2, d3, d4] M Q E) := ⟨i_kA31⟩
instance s_callN {n m : Nat} {t tk : TAD} : Step (dCallN sp n m E t tk sd M Q) (t sd M fun ds M1 => tk sd M1 fun zs M2 => kN sp n m ds zs M2 Q E) := ⟨i_callN⟩
end
end DL
namespace DL
open PySem PySem.Spec PyProof.Rows L2
/-! ### is True, is not False .. -/
def isBlB : Dv → Bool → Bool
  | .bl b, c => decide (b = c)
  | _, _ => false
def dIsB : R2d := fun d e M Q => match e with
  | .bl c => Q (.bl (isBlB d c)) M
  | _ => False
def dNotB : R2d := fun d e M Q => match e with
  | .bl c => Q (.bl (!isBlB d c)) M
  | _ => False
section
variable {M : Mo} {Q : QD} {d e : Dv} {b c : Bool}
instance s_isB : Step (dIsB (.bl b) (.bl c) M Q) (Q (.bl (decide (b = c))) M) := ⟨fun h => h⟩
instance s_isBN : Step (dIsB .non (.bl c) M Q) (Q (.bl false) M) := ⟨fun h => h⟩
instance s_notB : Step (dNotB (.bl b) (.bl c) M Q) (Q (.bl (!decide (b = c))) M) := ⟨fun h => h⟩
instance s_notBN : Step (dNotB .non (.bl c) M Q) (Q (.bl true) M) := ⟨fun h => h⟩
end
/-! ### lists of texts, of ints are compared -/
/-- the text is one of signs -/
def GoodS (x : Str) : Prop := ∀ c, c ∈ x.cps.toList → c < 1114112
theorem goodS_ok {x : Str} (h : GoodS x) : PyData.strOk x = true := by
  unfold PyData.strOk
  rw [← Array.all_toList, List.all_eq_true]
  exact fun c hc => decide_eq_true (h c hc)
theorem GoodS.sub {x y : Str} (h : GoodS y) (s : ∀ c, c ∈ x.cps.toList → c ∈ y.cps.toList) : GoodS x := fun c hc => h c (s c hc)
section
variable {M : Mo} {Q : QD} {d e : Dv} {ps qs : List PyData} {ds es : List Dv}
theorem i_neM {p q : PyData} (h1 : pyM M d = some p) (h2 : pyM M e = some q) (s1 : SeqAt.shaped p = true) (s2 : SeqAt.shaped q = true) (n : ∀ i, p ≠ .int i := by intro i z; cases z) (n2 : ∀ i, p ≠ .str i := by intro i z; cases z) (n3 : ∀ i, p ≠ .bool i := by intro i z; cases z) (h : Q (.bl (!PyData.eqv p q)) M) : dNe d e M Q := by
  unfold dNe
  split
  · exact absurd (Option.some.inj h1).symm (n _)
  · exact absurd (Option.some.inj h1).symm (n2 _)
  · exact absurd (Option.some.inj h1).symm (n3 _)
  · simp only [h1, h2]
    exact ⟨s1, s2, h⟩
end
/-- a comprehension, its items told -/
def kLc (J : ItD) (g : Tgt) (tt : TTD) (te : TED) (sw : StD) (F : List Dv → Mo → Prop) (M : Mo) : Prop := J.ds.length ≤ 16777216 ∧ ∃ W : Nat → List Dv → Mo → Prop, W 0 [] M ∧ (∀ i acc M, i ≤ J.ds.length → W i acc M → J.ok M) ∧
      (∀ i d acc M, J.ds[i]? = some d → acc.length ≤ i → W i acc M → dG g d sw M fun sd2 M2 => tt sd2 M2 fun b M3 => if b = true then te sd2 M3 fun y M4 => W (i + 1) (acc ++ [y]) M4 else W (i + 1) acc M3) ∧
      ∀ acc M, acc.length ≤ J.ds.length → W J.ds.length acc M → F acc M
instance s_lc {M : Mo} {sd : StD} {Q : QD} {wi : TID} {g : Tgt} {tt : TTD} {te : TED} {vs : List Nat} : Step (dLc wi g tt te vs sd M Q) (wi sd M fun J M1 => kLc J g tt te (wipeD sd vs) (fun acc M => ∀ p, M p = none → Q (.ref p) (mup M p (.lst acc))) M1) := ⟨fun h => h⟩
theorem lk_rng {M : Mo} {lo : Int} {n : Nat} {g : Tgt} {tt : TTD} {te : TED} {sw : StD} {F : List Dv → Mo → Prop} (W : Nat → List Dv → Mo → Prop) (hn : n ≤ 16777216) (h0 : W 0 [] M)
    (hs : ∀ i acc M, i < n → acc.length ≤ i → W i acc M → dG g (.int (lo + (i : Nat))) sw M fun sd2 M2 => tt sd2 M2 fun b M3 => if b = true then te sd2 M3 fun y M4 => W (i + 1) (acc ++ [y]) M4 else W (i + 1) acc M3)
    (hd : ∀ acc M, acc.length ≤ n → W n acc M → F acc M) : kLc ⟨rngD lo n, fun _ => True⟩ g tt te sw F M := by
  have e : (ItD.mk (rngD lo n) fun _ => True).ds.length = n := rngD_length lo n
  refine ⟨by rw [e]; exact hn, W, h0, fun _ _ _ _ _ => trivial, fun i d acc M q ha hw => ?_, fun acc M ha hw => ?_⟩
  · obtain ⟨hi, rfl⟩ := rngD_get q
    exact hs i acc M hi ha hw
  · rw [e] at ha hw
    exact hd acc M ha hw
theorem lk_fz {M : Mo} {ds : List Dv} {g : Tgt} {tt : TTD} {te : TED} {sw : StD} {F : List Dv → Mo → Prop} (W : Nat → List Dv → Mo → Prop) (hn : ds.length ≤ 16777216) (h0 : W 0 [] M)
    (hs : ∀ i d acc M, ds[i]? = some d → acc.length ≤ i → W i acc M → dG g d sw M fun sd2 M2 => tt sd2 M2 fun b M3 => if b = true then te sd2 M3 fun y M4 => W (i + 1) (acc ++ [y]) M4 else W (i + 1) acc M3)
    (hd : ∀ acc M, acc.length ≤ ds.length → W ds.length acc M → F acc M) : kLc ⟨ds, fun _ => True⟩ g tt te sw F M := ⟨hn, W, h0, fun _ _ _ _ _ => trivial, hs, hd⟩
theorem cutD_take (ds : List Dv) (k : Nat) : cutD ds none (some (k : Int)) = ds.take k := by
  unfold cutD
  rw [HT.sIx_none, HT.sIx_nat, List.drop_zero, Nat.sub_zero, List.take_eq_take_iff]
  omega
theorem i_addS1 {M : Mo} {Q : QD} {x : Str} {c : Nat} (hl : x.length + 1 ≤ 16777216) (h : Q (.str (x ++ ⟨#[c]⟩)) M) : dAdd (.str x) (.str ⟨#[c]⟩) M Q := ⟨hl, h⟩
theorem i_addS2 {M : Mo} {Q : QD} {x : Str} {c : Nat} (hl : 1 + x.length ≤ 16777216) (h : Q (.str (⟨#[c]⟩ ++ x)) M) : dAdd (.str ⟨#[c]⟩) (.str x) M Q := ⟨hl, h⟩
theorem i_iaddS1 {M : Mo} {Q : QD} {x : Str} {c : Nat} (hl : x.length + 1 ≤ 16777216) (h : Q (.str (x ++ ⟨#[c]⟩)) M) : dIAdd (.str x) (.str ⟨#[c]⟩) M Q := ⟨hl, h⟩
theorem sub_set {M M' : Mo} {p : Addr} {o : OO} (s : Sub M M') (h : M p = none) : Sub M (mup M' p o) := fun c u e => by
  rw [mup_ne (fun z => by subst z; rw [h] at e; cases e)]
  exact s c u e
end DL
namespace DL
open PySem PySem.Spec PyProof.Rows L2
/-! ### own exceptions: made, raised -/
/-- what an __init__ of the plain form promises: the one field f is laid -/
def spInit (C : Addr) (f : Str) : Sp := fun vs H Q E => ∃ a v, vs = [.ref a, v] ∧ H a = some (exo a C none) ∧ ∀ d, H d = none → d ≠ a → Q .non (upd (upd H d (exd d [(f, v)])) a (exo a C (some d)))
/-- B.__init__(self, ..), B an own class without own __init__ -/
theorem pe_ownI {X : Cx} {pl : Sem Bool} {B : Str} {CB : Addr} {mc : Value} {e : Expr} {es : List Expr} {ta : TA} {p1 p2 pos : Pos} (hg : Gl X B) (hm : X.mg B = some (.ref CB)) (cr : ClX.CRead X.K CB mc) (vV : PySem.W.findCls X.K (.ref CB) mc "__init__" = some (.val (.builtin "ValueError.__init__"))) (ha : PA X (e :: es) ta)
    (hc : eval (.Call (.Attribute (.Name B p1) "__init__" p2) (e :: es) [] pos) X.env = (do
      let ov ← eval (.Name B p1) X.env
      standAt p2.atName
      let (f, first) ← holding [ov] (getMethod ov "__init__" pl)
      callWith pos f first (backTo pos (starEach (e :: es) X.env)) (backToKw pos (keywordEach [] X.env))) := by rfl)
    (hdb : (B == ("__debug__" : Str)) = false := by decide) (he : starEach (e :: es) X.env = (false, eval e X.env) :: starEach es X.env := by rfl) (hpl : (backTo pos (starEach es X.env)).any (·.1) = false := by rfl) :
    PE X (.Call (.Attribute (.Name B p1) "__init__" p2) (e :: es) [] pos) (tVeI X.K ta) := by
  refine ⟨fun pins s σ H Q I h => ?_⟩
  refine PySem.W.methodCall_KW (ld_glob I hg hm ?_ hdb) hc
  refine PySem.W.method_cls I.kIn cr.ga (PySem.W.cls_value I.kIn cr.rd vV (by decide +kernel) ?_)
  show wpAny _ _ (callWith pos (Value.builtin "ValueError.__init__") [] (backTo pos (starEach (e :: es) X.env)) []) _ _ _
  refine PyProof.Rows.callWith_method1 (thn (ha.run pos pins _ σ H _ (I.tok _) h) fun us s1 ⟨vs, H1, I1, r1, a, C, ws, ev, hl, T, ea, q⟩ => ?_) he hpl
  subst ev
  cases r1 with
  | @cons _ u0 _ ur ra rw' =>
    obtain rfl : u0 = Value.ref a := ra
    have hlen : ur.length ≤ sizeLine := by
      rw [← Paired.length rw', sizeLine_eq]
      omega
    exact oinit_ok T I1 ea hlen fun s' J => ⟨.non, H1, J, rfl, q⟩
/-- the plain __init__, by its body's term -/
theorem ok_init {P : Program} {w : World} {K : PySem.W.Frag} {mg : Str → Option Value} {base : Heap} {C fI : Addr} {fd : FuncData} {st : Stmt} {qual f : Str} {N ps : List Str} (F : Fun K "__init__" qual st fI fd) (S : FnScope N ps (defScope st)) (hp : ps.length = 2) (T : OexC K C) (hno : PySem.W.findIn K (.ref C) f = some none)
    (hbody : ∀ (cdv : Value) (A : Around) (outer : List Env) (s : Shared) (H : Hp) (E : XK), ∃ t, PSs (cxOf (L2.CX P w) P w K mg base N qual (defScope st) fI cdv A outer s H E) (defBody st) t ∧
      ∀ (a : Addr) (v : V) (D : Ends), H a = some (exo a C none) → (∀ d, H d = none → d ≠ a → D.nx (L2.start N [.ref a, v]) (upd (upd H d (exd d [(f, v)])) a (exo a C (some d)))) → t D (L2.start N [.ref a, v]) H) :
    FnOk P w K mg base (L2.CX P w) 1 fI fd ps (spInit C f) := by
  refine F.okX S (fun vs H Q E h => ?_) (fun cdv A outer s H vs Q E hr h => ?_)
  · obtain ⟨a, v, rfl, _⟩ := h
    exact hp.symm
  · obtain ⟨a, v, rfl, ha, h⟩ := h
    obtain ⟨t, ht, hq⟩ := hbody cdv A outer s H E
    exact ⟨t, ht, hq a v _ ha h⟩
/-- raise C(e) -/
def dRaise (x f : Str) (Ed : EXD) (te : TED) : TSD := fun _ sd M => te sd M fun d M1 => Ed x f d M1
/-- what the program tells of the exception class of the name x -/
structure ExcD (P : Program) (w : World) (K : PySem.W.Frag) (mg : Str → Option Value) (base : Heap) (x f : Str) (C : Addr) : Prop where
  gC : mg x = some (.ref C)
  nC : PySem.W.nsIn K mainGlobals x = some (some (.ref C))
  T : OexC K C
  init : ∃ (fI : Addr) (fd : FuncData) (ps : List Str), PySem.W.findIn K (.ref C) "__init__" = some (some (.ref fI)) ∧ PySem.W.typeIn K (.ref fI) = some (.type "function") ∧ Binds K fd ps [] ∧ FnOk P w K mg base (L2.CX P w) 1 fI fd ps (spInit C f)
section
variable {X : Cx} {M0 : Mo} {H0 : Hp}
theorem upd_del {H : Hp} {a d : Addr} {o u o' u' : HO} (h : H a = none) (n : d ≠ a) : upd (del (upd (upd (upd H a o) d u) a o') a) d u' = upd H d u' := by
  funext b
  by_cases e : b = d
  · rw [e, upd_same, upd_same]
  · rw [upd_ne e, upd_ne e]
    by_cases e2 : b = a
    · rw [e2, del_same, h]
    · rw [del_ne e2, upd_ne e2, upd_ne e, upd_ne e2]
theorem ds_raise {x f : Str} {C : Addr} {p pos pos' : Pos} {e : Expr} {te : TED} {Ed : EXD} {E : XK} (D : ExcD X.prog X.w X.K X.mg X.base x f C) (hc : X.calm = true) (tk : Takes X fun cls d _ H => E cls d H) (hr : Room 2 X.A) (hx0 : Passes (L2.CX X.prog X.w) X (fun _ _ _ => False)) (hg : Gl X x)
    (hE : CtX X.K M0 H0 Ed E) (he : PEd X M0 H0 e te) (hdb : (x == ("__debug__" : Str)) = false := by decide) (hs : starEach [e] X.env = (false, eval e X.env) :: starEach [] X.env := by rfl) (hpl : (backTo pos (starEach [] X.env)).any (·.1) = false := by rfl) :
    PSd X M0 H0 (.Raise (some (.Call (.Name x p) [e] [] pos)) none pos') (dRaise x f Ed te) := by
  obtain ⟨fI, fd, ps, iC, tI, hb, F1⟩ := D.init
  refine PS.imp (ps_raise (X := X) (W := fun cls d _ H => E cls d H) hc tk (pmk_oex D.T iC tI F1 hr hb .nil hx0 hg D.gC (ta := tCons (LE X.K M0 H0 te) tNil) (pa_cons he pa_nil hs) hdb hs hpl)) fun Dn σ H ⟨sd, M, Dd, w, q, c⟩ => ?_
  refine ⟨sd, M, _, w, q, fun d M1 v H1 s1 r1 q1 => ?_⟩
  refine ⟨by show 1 ≤ 1000; omega, fun a ha => ⟨a, v, rfl, upd_same, fun dd hd na => ?_⟩⟩
  have hd1 : H1 dd = none := by rw [upd_ne na] at hd; exact hd
  refine ⟨rfl, dd, [(f, v)], upd_same, by rw [upd_ne na, upd_same], hd1, ?_⟩
  rw [upd_del ha na]
  have s2 : Stp X.K M1 H1 M1 (upd H1 dd (.xd [(f, v)])) := Stp.new0 s1.sr hd1
  exact hE x f C d M1 dd v _ D.nC (w.st.trans (s1.trans s2)) (s1.sr.free hd1) upd_same (r1.keep s2.keep) q1
end
end DL
namespace DL
open PySem PySem.Spec PyProof.Rows L2
/-! ### several clauses, each with a name -/
abbrev Cl := Value × Nat × (Addr → Value → Option Addr → TS)
/-- the ends of a suite: its name goes -/
def goes (i : Nat) (D : Ends) : Ends := { nx := fun σ H => D.nx (σ.set i none) H, rt := D.rt, bk := fun σ H => D.bk (σ.set i none) H, ct := fun σ H => D.ct (σ.set i none) H }
def wCls (K : PySem.W.Frag) (Wout : WX) (D : Ends) : List Cl → WX
  | [] => Wout
  | (c, i, ts) :: r => fun cls d σ H => ∃ b, PySem.W.exmOne K cls c = some b ∧ (b = true → ∀ a, H a = none → ts a cls d (goes i D) (σ.set i (some (.ref a))) H) ∧ (b = false → wCls K Wout D r cls d σ H)
inductive ClOk (X : Cx) : List ExceptHandler → List Cl → Prop
  | nil : ClOk X [] []
  | cons {x n : Str} {c : Value} {i : Nat} {ts : Addr → Value → Option Addr → TS} {b₀ : Stmt} {suite : List Stmt} {np hp : Pos} {hds : List ExceptHandler} {l : List Cl} (hi : X.N[i]? = some n) (hln : X.env.kindOf n = some .local) (hc : Names X x c)
      (hsu : ∀ (a : Addr) (oe : Obj) (cls : Value) (d : Option Addr) (pn : List (Addr × Obj)), Zc cls d oe → (∃ vs, oe.data = .fields vs) → PSs (X.suite a ((a, oe) :: pn)) (b₀ :: suite) (ts a cls d)) (r : ClOk X hds l) :
      ClOk X (.ExceptHandler (some (.Name x np)) (some n) (b₀ :: suite) hp :: hds) ((c, i, ts) :: l)
  | only {x : Str} {c : Value} {ts : Addr → Value → Option Addr → TS} {b₀ : Stmt} {suite : List Stmt} {np hp : Pos} {hds : List ExceptHandler} {l : List Cl} (hc : Names X x c)
      (hsu : ∀ (a : Addr) (oe : Obj) (cls : Value) (d : Option Addr) (pn : List (Addr × Obj)), Zc cls d oe → (∃ vs, oe.data = .fields vs) → PSs (X.suite a ((a, oe) :: pn)) (b₀ :: suite) (ts a cls d)) (r : ClOk X hds l) :
      ClOk X (.ExceptHandler (some (.Name x np)) none (b₀ :: suite) hp :: hds) ((c, X.N.length, ts) :: l)
theorem set_out {α : Type} : ∀ {l : List α} {i : Nat} {x : α}, l.length ≤ i → l.set i x = l
  | [], _, _, _ => rfl
  | a :: l, 0, _, h => by simp at h
  | a :: l, i + 1, x, h => by rw [List.set_cons_succ, set_out (by simpa using h)]
section
variable {X : Cx} {body : List Stmt} {h0 : ExceptHandler} {hds : List ExceptHandler} {l : List Cl} {pos : Pos} {tb : WX → TS} {Wout : WX}
/-- what stands below an exception on its ground is out of the frames -/
theorem off_frames {B h : Heap} {l : List Env} {a : Addr} {o : Obj} {vs : Array Value} (ff : h.FunFrames B l) (e : h.get? a = some o) (dd : o.data = .fields vs) : a ∉ frs l := fun hm => by
  obtain ⟨_, o', e', hnf⟩ := ff.mem hm
  have := e.symm.trans e'
  cases this
  exact hnf _ dd
theorem ps_try_cls (hs : X.stack = X.env :: X.outer) (hf : X.env.frame = some X.env.locals) (hN : X.N.Nodup) (tk : Takes X Wout)
    (hb : ∀ (W : WX) (pn : List (Addr × Obj)) (xe : Value → Shared → Prop), Takes (X.tr pn xe) W → PassesOwn (model X.prog X.w) X.A X.env xe → PSs (X.tr pn xe) body (tb W))
    (hh : ClOk X (h0 :: hds) l) : PS X (.Try body (h0 :: hds) [] [] pos) (fun D σ H => tb (wCls X.K Wout D l) D σ H) := by
  refine ⟨fun pins s σ H D I h => ?_⟩
  have ok := I.ok
  have fr1 : X.A.frames = some (X.env :: X.outer) := ok.frames.trans (congrArg some hs)
  refine wpAny_Try_except ?_
  have run := (hb (wCls X.K Wout D l) (X.pn ++ pins) (fun e s1 => wpAny (model X.prog X.w) X.A (noteFrame e X.env) (fun _ s2 => wpAny (model X.prog X.w) X.A (setFlight e none) (fun _ s3 =>
    wpAny (model X.prog X.w) X.A (handleBy e X.env (h0 :: hds)) (SP X pins D) X.xe s3) X.xe s2) X.xe s1) (fun u s' xx => ?_) PassesOwn.looking).run [] s σ H D (I.toTry _) h
  · refine wpAny_mono run (fun f s1 q => ?_) (fun e s1 he => he)
    cases f with
    | ret u => obtain ⟨v, σ', H', J, rv, q⟩ := q; exact ⟨v, σ', H', J.ofTry ok, rv, q⟩
    | next => obtain ⟨σ', H', J, q⟩ := q; exact wpAny_execs_nil ⟨σ', H', J.ofTry ok, q⟩
    | brk => obtain ⟨σ', H', J, q⟩ := q; exact ⟨σ', H', J.ofTry ok, q⟩
    | cont => obtain ⟨σ', H', J, q⟩ := q; exact ⟨σ', H', J.ofTry ok, q⟩
  · obtain ⟨a, B, sI, pins', σ', H', cls, d, rfl, J', nb, up, sky, na, os, ag, w⟩ := xx
    have J : Inv X pins σ' H' sI := J'.ofTry ok
    have sky2 : Sky B (X.env :: X.outer) a (Zc cls d) X.env.locals s'.heap := hs ▸ sky
    show wpAny (model X.prog X.w) X.A (noteFrame (.ref a) X.env) _ _ _
    refine Sky.land Zc.steady fr1 hf sky2 fun h3 fl3 up3 => ?_
    have J3 : Inv X pins σ' H' { s' with heap := h3 } := J.landed nb fl3.1 (up.trans up3) os ag
    obtain ⟨oe3, vs3, he3, hz3, hd3⟩ := fl3.there
    have nfr := off_frames fl3.2.2.1 he3 hd3
    have nL : a ≠ X.env.locals := fun z => nfr (List.mem_filterMap.mpr ⟨X.env, List.mem_cons_self, by rw [hf, z]⟩)
    have nF : a ∉ X.fs := fun hm => by
      obtain ⟨e, q1, q2⟩ := List.mem_filterMap.mp hm
      exact nfr (List.mem_filterMap.mpr ⟨e, List.mem_cons_of_mem _ q1, q2⟩)
    have S3 := J3.suite he3 hd3 na nL nF
    suffices go : ∀ {hs' : List ExceptHandler} {l' : List Cl}, ClOk X hs' l' → wCls X.K Wout D l' cls d σ' H' → wpAny (model X.prog X.w) X.A (handleBy (.ref a) X.env hs') (SP X pins D) X.xe { s' with heap := h3 } from go hh w
    intro hs' l' hk
    induction hk with
    | nil =>
      intro w
      refine wpAny_handleBy_nil ?_
      obtain ⟨k1, k2, k3, oe, vs, T, oT, t3, he, hz, hd, h1, hr⟩ := id fl3
      unfold PySem.passOn
      refine wpAny_bind (wpAny_field he hd h1 ?_)
      rw [if_neg (show ¬ ((Value.ref T == Value.none) = true) from by simp)]
      have fin : wpAny (model X.prog X.w) X.A (setFlight (.ref a) X.env.frame) (fun _ s4 => wpAny (model X.prog X.w) X.A (throw (.ref a) : Sem Flow) (SP X pins D) X.xe s4) X.xe { s' with heap := h3 } := by
        rw [hf]
        exact HandSPX.setFlight_upZ fl3 fun h4 hh4 up4 => wpAny_throw (tk _ _ ⟨a, B, sI, pins, σ', H', cls, d, rfl, J, nb, (up.trans up3).trans up4, .inr (.inr (by rw [hs]; exact hh4)), na, os, ag, w⟩)
      first
        | exact wpAny_bind (wpAny_pure (wpAny_bind fin))
        | exact wpAny_bind fin
    | @only x c ts b₀ suite np hp hds2 l2 hc hsu r ih =>
      intro w
      obtain ⟨b, hb1, yes, no⟩ := w
      refine wpAny_handleBy_cons (codeAny_handlers_test ?_) (by intro q; cases q)
      have LT : PySem.W.Looks (model X.prog X.w) h3 (typeOf (.ref a)) cls := fun A Q E s k q => wpAny_typeOf_ref (k _ _ he3) (by rw [hz3.1]; exact q)
      have LM := PySem.W.exm_one (M := model X.prog X.w) (J3.kIn) LT hb1
      have nm : ∀ {Q : Value → Shared → Prop} {E : Value → Shared → Prop}, Q c { s' with heap := h3 } → wpAny (model X.prog X.w) (X.A.mark (some (.ref a))) (eval (.Name x np) X.env) Q E { s' with heap := h3 } := fun {Q E} q => by
        obtain ⟨hg, hdb, hm | ⟨hm, hv, hnn⟩⟩ := hc
        · exact ld_glob (X := X.suite a ((a, oe3) :: (X.pn ++ pins))) S3 hg hm q hdb
        · exact ld_blt (X := X.suite a ((a, oe3) :: (X.pn ++ pins))) S3 hg hm hv q hnn hdb
      refine nm (LM.here ?_)
      cases b with
      | false => exact ih (no rfl)
      | true =>
        refine codeAny_handlers_suite ?_
        refine HandSPX.lands_againZ fl3 fun h4 fl4 up4 => ?_
        have J4 : Inv X pins σ' H' { s' with heap := h4 } := J.landed nb fl4.1 ((up.trans up3).trans up4) os ag
        obtain ⟨oe4, vs4, he4, hz4, hd4⟩ := fl4.there
        have S4 := J4.suite he4 hd4 na nL nF
        have y := yes rfl a na
        rw [set_out (by rw [J4.len]; exact Nat.le_refl _)] at y
        refine wpAny_mono ((hsu a oe4 cls d (X.pn ++ pins) hz4 ⟨_, hd4⟩).run [] _ _ H' _ S4 y) (fun f s6 q => ?_) (fun _ _ z => z.elim)
        have out : ∀ {σ6 : L2.St} {H6 : Hp} {G : L2.St → Prop}, Inv (X.suite a ((a, oe4) :: (X.pn ++ pins))) [] σ6 H6 s6 → G (σ6.set X.N.length none) → Inv X pins σ6 H6 s6 ∧ G σ6 := fun {σ6 H6 G} S6 q => by
          have J6 := S6.unsuite ok
          rw [set_out (by rw [J6.len]; exact Nat.le_refl _)] at q
          exact ⟨J6, q⟩
        cases f with
        | ret u => obtain ⟨v6, σ6, H6, S6, r6, q6⟩ := q; exact ⟨v6, σ6, H6, S6.unsuite ok, r6, q6⟩
        | next => obtain ⟨σ6, H6, S6, q6⟩ := q; obtain ⟨J6, q7⟩ := out (G := fun σ => D.nx σ H6) S6 q6; exact ⟨σ6, H6, J6, q7⟩
        | brk => obtain ⟨σ6, H6, S6, q6⟩ := q; obtain ⟨J6, q7⟩ := out (G := fun σ => D.bk σ H6) S6 q6; exact ⟨σ6, H6, J6, q7⟩
        | cont => obtain ⟨σ6, H6, S6, q6⟩ := q; obtain ⟨J6, q7⟩ := out (G := fun σ => D.ct σ H6) S6 q6; exact ⟨σ6, H6, J6, q7⟩
    | @cons x n c i ts b₀ suite np hp hds2 l2 hi hln hc hsu r ih =>
      intro w
      obtain ⟨b, hb1, yes, no⟩ := w
      refine wpAny_handleBy_cons (codeAny_handlers_test ?_) (by intro q; cases q)
      have LT : PySem.W.Looks (model X.prog X.w) h3 (typeOf (.ref a)) cls := fun A Q E s k q => wpAny_typeOf_ref (k _ _ he3) (by rw [hz3.1]; exact q)
      have LM := PySem.W.exm_one (M := model X.prog X.w) (J3.kIn) LT hb1
      have nm : ∀ {Q : Value → Shared → Prop} {E : Value → Shared → Prop}, Q c { s' with heap := h3 } → wpAny (model X.prog X.w) (X.A.mark (some (.ref a))) (eval (.Name x np) X.env) Q E { s' with heap := h3 } := fun {Q E} q => by
        obtain ⟨hg, hdb, hm | ⟨hm, hv, hnn⟩⟩ := hc
        · exact ld_glob (X := X.suite a ((a, oe3) :: (X.pn ++ pins))) S3 hg hm q hdb
        · exact ld_blt (X := X.suite a ((a, oe3) :: (X.pn ++ pins))) S3 hg hm hv q hnn hdb
      refine nm (LM.here ?_)
      cases b with
      | false => exact ih (no rfl)
      | true =>
        refine codeAny_handlers_suite_as ?_
        refine HandSPX.lands_againZ fl3 fun h4 fl4 up4 => ?_
        have J4 : Inv X pins σ' H' { s' with heap := h4 } := J.landed nb fl4.1 ((up.trans up3).trans up4) os ag
        obtain ⟨oe4, vs4, he4, hz4, hd4⟩ := fl4.there
        have S4 := J4.suite he4 hd4 na nL nF
        refine store_ok (X := X.suite a ((a, oe4) :: (X.pn ++ pins))) (v := .ref a) S4 hN hi (.inl hln) rfl (fun s5 S5 => ?_) (.inr hln)
        refine wpAny_mono ((hsu a oe4 cls d (X.pn ++ pins) hz4 ⟨_, hd4⟩).run [] s5 _ H' _ S5 (yes rfl a na)) (fun f s6 q => ?_) (fun _ _ z => z.elim)
        have out : ∀ {σ6 : L2.St} {H6 : Hp} {Q : Shared → Prop}, Inv (X.suite a ((a, oe4) :: (X.pn ++ pins))) [] σ6 H6 s6 → (∀ s7, Inv X pins (σ6.set i none) H6 s7 → Q s7) →
            wpAny (model X.prog X.w) X.A (do bindName X.env n .none; unbindBehindTheSuite X.env n hp) (fun _ s7 => Q s7) X.xe s6 := fun {σ6 H6 Q} S6 hq => gone_ok (S6.unsuite ok) hN hi hln hq
        cases f with
        | ret u => obtain ⟨v6, σ6, H6, S6, r6, q6⟩ := q; exact out S6 fun s7 J7 => ⟨_, _, _, J7, r6, q6⟩
        | next => obtain ⟨σ6, H6, S6, q6⟩ := q; exact out S6 fun s7 J7 => ⟨_, _, J7, q6⟩
        | brk => obtain ⟨σ6, H6, S6, q6⟩ := q; exact out S6 fun s7 J7 => ⟨_, _, J7, q6⟩
        | cont => obtain ⟨σ6, H6, S6, q6⟩ := q; exact out S6 fun s7 J7 => ⟨_, _, J7, q6⟩
end
end DL
namespace DL
open PySem PySem.Spec PyProof.Rows L2
/-! ### try over data -/
/-- a wish for exceptions, with the slots -/
abbrev WXD := Str → Str → Dv → StD → Mo → Prop
def CtW (K : PySem.W.Frag) (M : Mo) (H : Hp) (Wd : WXD) (W : WX) : Prop := ∀ x f C d sd M' a v σ H', PySem.W.nsIn K mainGlobals x = some (some (.ref C)) → Stp K M H M' H' → Rs K H' sd σ → M' a = none → H' a = some (.xd [(f, v)]) → RD K H' d v → Wd x f d sd M' → W (.ref C) (some a) σ H'
theorem CtW.on {K : PySem.W.Frag} {M M1 : Mo} {H H1 : Hp} {Wd : WXD} {W : WX} (c : CtW K M H Wd W) (s : Stp K M H M1 H1) : CtW K M1 H1 Wd W := fun x f C d sd M' a v σ H' n s' rs m h r q => c x f C d sd M' a v σ H' n (s.trans s') rs m h r q
theorem CtW.at {K : PySem.W.Frag} {M : Mo} {H : Hp} {Wd : WXD} {W : WX} {sd : StD} {σ : L2.St} (c : CtW K M H Wd W) (rs : Rs K H sd σ) : CtX K M H (fun x f d M' => Wd x f d sd M') (WE W σ) := fun x f C d M' a v H' n s' m h r q => c x f C d sd M' a v σ H' n s' (rs.keep s'.keep) m h r q
/-- the program's exceptions: which stands under which, and the field of each -/
structure ExT where
  sub : Str → Str → Option Bool
  fld : List (Str × Str)
structure ExOk (K : PySem.W.Frag) (T : ExT) : Prop where
  sub : ∀ x c b, T.sub x c = some b → ∀ C Cc, PySem.W.nsIn K mainGlobals x = some (some (.ref C)) → PySem.W.nsIn K mainGlobals c = some (some (.ref Cc)) → PySem.W.exmOne K (.ref C) (.ref Cc) = some b
  fld : ∀ x f, (x, f) ∈ T.fld → ∀ C, PySem.W.nsIn K mainGlobals x = some (some (.ref C)) → XfC K C ∧ PySem.W.findIn K (.ref C) f = some none
/-- a clause: its class's name, the slot of its name, its suite -/
abbrev DCl := Str × Nat × (Addr → Str → Str → Dv → TSD)
def goesD (i : Nat) (D : EndsD) : EndsD := { nx := fun sd M => D.nx (sd.set i none) M, rt := D.rt, bk := fun sd M => D.bk (sd.set i none) M, ct := fun sd M => D.ct (sd.set i none) M }
def wClsD (T : ExT) (D : EndsD) : List DCl → WXD
  | [] => fun _ _ _ _ _ => False
  | (c, i, ts) :: r => fun x f d sd M => match T.sub x c with
    | some true => ∀ a, ts a x f d (goesD i D) (sd.set i (some (.ref a))) M
    | some false => wClsD T D r x f d sd M
    | none => False
def tsOf (K : PySem.W.Frag) (ts : Addr → Str → Str → Dv → TSD) : Addr → Value → Option Addr → TS := fun a cls dx D σ H => ∃ x f C d dd v sd M Dd, cls = .ref C ∧ dx = some dd ∧ PySem.W.nsIn K mainGlobals x = some (some (.ref C)) ∧ SR K M H ∧ Rs K H sd σ ∧ M dd = none ∧ H dd = some (.xd [(f, v)]) ∧ RD K H d v ∧ ts a x f d Dd sd M ∧ CtS K M H Dd D
inductive ClD (X : Cx) : List ExceptHandler → List DCl → List Cl → Prop
  | nil : ClD X [] [] []
  | cons {c n : Str} {Cc : Addr} {i : Nat} {ts : Addr → Str → Str → Dv → TSD} {b₀ : Stmt} {suite : List Stmt} {np hp : Pos} {hds : List ExceptHandler} {ld : List DCl} {l : List Cl} (hi : X.N[i]? = some n) (hln : X.env.kindOf n = some .local)
      (hg : Gl X c) (hdb : (c == ("__debug__" : Str)) = false) (hm : X.mg c = some (.ref Cc)) (hn : PySem.W.nsIn X.K mainGlobals c = some (some (.ref Cc)))
      (hsu : ∀ (a : Addr) (oe : Obj) (x f : Str) (C dd : Addr) (d : Dv) (v : V) (pn : List (Addr × Obj)) (M1 : Mo) (H1 : Hp), Zc (.ref C) (some dd) oe → (∃ vs, oe.data = .fields vs) → PySem.W.nsIn X.K mainGlobals x = some (some (.ref C)) → M1 dd = none → H1 dd = some (.xd [(f, v)]) → RD X.K H1 d v →
        PSsd (X.suite a ((a, oe) :: pn)) M1 H1 (b₀ :: suite) (ts a x f d)) (r : ClD X hds ld l) : ClD X (.ExceptHandler (some (.Name c np)) (some n) (b₀ :: suite) hp :: hds) ((c, i, ts) :: ld) ((.ref Cc, i, tsOf X.K ts) :: l)
  | only {c : Str} {Cc : Addr} {ts : Addr → Str → Str → Dv → TSD} {b₀ : Stmt} {suite : List Stmt} {np hp : Pos} {hds : List ExceptHandler} {ld : List DCl} {l : List Cl}
      (hg : Gl X c) (hdb : (c == ("__debug__" : Str)) = false) (hm : X.mg c = some (.ref Cc)) (hn : PySem.W.nsIn X.K mainGlobals c = some (some (.ref Cc)))
      (hsu : ∀ (a : Addr) (oe : Obj) (x f : Str) (C dd : Addr) (d : Dv) (v : V) (pn : List (Addr × Obj)) (M1 : Mo) (H1 : Hp), Zc (.ref C) (some dd) oe → (∃ vs, oe.data = .fields vs) → PySem.W.nsIn X.K mainGlobals x = some (some (.ref C)) → M1 dd = none → H1 dd = some (.xd [(f, v)]) → RD X.K H1 d v →
        PSsd (X.suite a ((a, oe) :: pn)) M1 H1 (b₀ :: suite) (ts a x f d)) (r : ClD X hds ld l) : ClD X (.ExceptHandler (some (.Name c np)) none (b₀ :: suite) hp :: hds) ((c, X.N.length, ts) :: ld) ((.ref Cc, X.N.length, tsOf X.K ts) :: l)
section
variable {X : Cx} {M0 : Mo} {H0 : Hp}
theorem ClD.ok {hds : List ExceptHandler} {ld : List DCl} {l : List Cl} (h : ClD X hds ld l) : ClOk X hds l := by
  induction h with
  | nil => exact .nil
  | cons hi hln hg hdb hm hn hsu r ih =>
    refine .cons hi hln ⟨hg, hdb, .inl hm⟩ (fun a oe cls dx pn hz hf => ⟨fun pins s σ H D I h => ?_⟩) ih
    obtain ⟨x, f, C, d, dd, v, sd, M, Dd, rfl, rfl, n, sr, rs, md, hd, rd, q, c⟩ := h
    exact (hsu a oe x f C dd d v pn M H hz hf n md hd rd).run pins s σ H D I ⟨sd, M, Dd, ⟨Stp.refl sr, rs⟩, q, c⟩
  | only hg hdb hm hn hsu r ih =>
    refine .only ⟨hg, hdb, .inl hm⟩ (fun a oe cls dx pn hz hf => ⟨fun pins s σ H D I h => ?_⟩) ih
    obtain ⟨x, f, C, d, dd, v, sd, M, Dd, rfl, rfl, n, sr, rs, md, hd, rd, q, c⟩ := h
    exact (hsu a oe x f C dd d v pn M H hz hf n md hd rd).run pins s σ H D I ⟨sd, M, Dd, ⟨Stp.refl sr, rs⟩, q, c⟩
theorem ClD.wish {T : ExT} (E : ExOk X.K T) {hds : List ExceptHandler} {ld : List DCl} {l : List Cl} (h : ClD X hds ld l) {M : Mo} {H : Hp} {Dd : EndsD} {D : Ends} (c : CtS X.K M H Dd D) : CtW X.K M H (wClsD T Dd ld) (wCls X.K (fun _ _ _ _ => False) D l) := by
  induction h with
  | nil => intro x f C d sd M' a v σ H' n s rs m h r q; exact q.elim
  | @cons cn nn Cc i ts b₀ suite np hp hds ld l hi hln hg hdb hm hn hsu r ih =>
    intro x f C d sd M' a v σ H' n s rs m h r q
    unfold wClsD at q
    unfold wCls
    split at q
    · rename_i e
      refine ⟨true, E.sub _ _ _ e _ _ n hn, fun _ ae hae => ?_, fun z => by cases z⟩
      have c' := c.on s
      refine ⟨x, f, C, d, a, v, _, M', goesD i Dd, rfl, rfl, n, s.sr, rs.set RD.ref i, m, h, r, q ae, ⟨fun sd2 M2 σ2 H2 s2 rs2 q2 => ?_, c'.rt, fun sd2 M2 σ2 H2 s2 rs2 q2 => ?_, fun sd2 M2 σ2 H2 s2 rs2 q2 => ?_⟩⟩
      · exact c'.nx _ _ _ _ s2 (rs2.setN none i) q2
      · exact c'.bk _ _ _ _ s2 (rs2.setN none i) q2
      · exact c'.ct _ _ _ _ s2 (rs2.setN none i) q2
    · rename_i e
      exact ⟨false, E.sub _ _ _ e _ _ n hn, fun z => by (cases z), fun _ => ih x f C d sd M' a v σ H' n s rs m h r q⟩
    · exact q.elim
  | @only cn Cc ts b₀ suite np hp hds ld l hg hdb hm hn hsu r ih =>
    intro x f C d sd M' a v σ H' n s rs m h r q
    unfold wClsD at q
    unfold wCls
    split at q
    · rename_i e
      refine ⟨true, E.sub _ _ _ e _ _ n hn, fun _ ae hae => ?_, fun z => by cases z⟩
      have c' := c.on s
      refine ⟨x, f, C, d, a, v, _, M', goesD X.N.length Dd, rfl, rfl, n, s.sr, rs.set RD.ref X.N.length, m, h, r, q ae, ⟨fun sd2 M2 σ2 H2 s2 rs2 q2 => ?_, c'.rt, fun sd2 M2 σ2 H2 s2 rs2 q2 => ?_, fun sd2 M2 σ2 H2 s2 rs2 q2 => ?_⟩⟩
      · exact c'.nx _ _ _ _ s2 (rs2.setN none X.N.length) q2
      · exact c'.bk _ _ _ _ s2 (rs2.setN none X.N.length) q2
      · exact c'.ct _ _ _ _ s2 (rs2.setN none X.N.length) q2
    · rename_i e
      exact ⟨false, E.sub _ _ _ e _ _ n hn, fun z => by (cases z), fun _ => ih x f C d sd M' a v σ H' n s rs m h r q⟩
    · exact q.elim
/-- try: .. / except x as n: .. -/
def dTry (T : ExT) (tb : WXD → TSD) (ld : List DCl) : TSD := fun D sd M => tb (wClsD T D ld) D sd M
theorem takesF : Takes X (fun _ _ _ _ => False) := fun _ _ ⟨_, _, _, _, _, _, _, _, _, _, _, _, _, _, _, _, w⟩ => w.elim
theorem ds_try {T : ExT} {body : List Stmt} {h0 : ExceptHandler} {hds : List ExceptHandler} {ld : List DCl} {l : List Cl} {pos : Pos} {tb : WXD → TSD} (E : ExOk X.K T) (hs : X.stack = X.env :: X.outer) (hf : X.env.frame = some X.env.locals) (hN : X.N.Nodup)
    (hb : ∀ (W : WX) (pn : List (Addr × Obj)) (xe : Value → Shared → Prop) (Wd : WXD) (M1 : Mo) (H1 : Hp), Stp X.K M0 H0 M1 H1 → Takes (X.tr pn xe) W → PassesOwn (model X.prog X.w) X.A X.env xe → CtW X.K M1 H1 Wd W → PSsd (X.tr pn xe) M1 H1 body (tb Wd))
    (hh : ClD X (h0 :: hds) ld l) : PSd X M0 H0 (.Try body (h0 :: hds) [] [] pos) (dTry T tb ld) := by
  refine PS.imp (ps_try_cls (tb := fun W D σ H => ∃ sd M Dd Wd, Stp X.K M0 H0 M H ∧ Rs X.K H sd σ ∧ tb Wd Dd sd M ∧ CtS X.K M H Dd D ∧ CtW X.K M H Wd W) hs hf hN takesF (fun W pn xe tk po => ⟨fun pins s σ H D I h => ?_⟩) hh.ok) fun D σ H ⟨sd, M, Dd, w, q, c⟩ => ?_
  · obtain ⟨sd, M, Dd, Wd, st, rs, q, c, cw⟩ := h
    exact (hb W pn xe Wd M H st tk po cw).run pins s σ H D I ⟨sd, M, Dd, ⟨Stp.refl st.sr, rs⟩, q, c⟩
  · exact ⟨sd, M, Dd, _, w.st, w.rs, q, c, hh.wish E c⟩
/-- e.f in such a suite -/
def dXf (T : ExT) (a : Addr) (n x f : Str) (d : Dv) (te : TED) : TED := fun sd M Q => te sd M fun y M2 => y = .ref a ∧ n = f ∧ (x, f) ∈ T.fld ∧ Q d M2
theorem de_xf {T : ExT} {a C dd : Addr} {oe : Obj} {pn : List (Addr × Obj)} {x n f : Str} {d : Dv} {v : V} {e : Expr} {te : TED} {pos : Pos} (E : ExOk X.K T) (hz : Zc (.ref C) (some dd) oe) (hf : ∃ vs, oe.data = .fields vs) (hn : PySem.W.nsIn X.K mainGlobals x = some (some (.ref C))) (hm : M0 dd = none)
    (hh : H0 dd = some (.xd [(f, v)])) (hr : RD X.K H0 d v) (he : PEd (X.suite a ((a, oe) :: pn)) M0 H0 e te) (hb : attributeBase e n X.env (eval e X.env) = eval e X.env := by rfl) : PEd (X.suite a ((a, oe) :: pn)) M0 H0 (.Attribute e n pos) (dXf T a n x f d te) := by
  refine ⟨fun pins s σ H Q I ⟨sd, M, Qd, w, q, c⟩ => ?_⟩
  by_cases ok : n = f ∧ (x, f) ∈ T.fld
  · obtain ⟨rfl, k⟩ := ok
    obtain ⟨k1, k2⟩ := E.fld _ _ k C hn
    refine (pe_xf k1 k2 hz hf he hb).run pins s σ H Q I ⟨sd, M, _, w, q, fun y M2 u H2 s2 r2 q2 => ?_⟩
    obtain ⟨e1, _, _, q2⟩ := q2
    subst e1
    have s3 := w.st.trans s2
    obtain ⟨h2, _⟩ := s3.same dd _ hh (fun _ z => by cases z) hm
    exact ⟨r2.ref_of, rfl, dd, _, v, rfl, h2, by simp [List.lookup], c _ _ _ _ s2 (hr.keep s3.keep) q2⟩
  · refine attr_of hb (thn (he.run pins s σ H (fun _ _ => False) I ⟨sd, M, _, w, q, fun y M2 u H2 s2 r2 q2 => ok ⟨q2.2.1, q2.2.2.1⟩⟩) fun u s1 hh => ?_)
    obtain ⟨_, _, _, _, z⟩ := hh
    exact z.elim
end
section
variable {X : Cx} {M0 : Mo} {H0 : Hp} {k : Nat} {ps : List Str} {B : FuncData → Prop} {sp : SpD} {x : Str} {p pos : Pos} {e : Expr} {es : List Expr} {t : TAD} {Wd : WXD} {W : WX}
/-- f(..) in a try's body -/
def dCallS (sp : SpD) (Wd : WXD) (t : TAD) : TED := fun sd M Q => t sd M fun ds M1 => sp ds M1 Q (fun x f d M' => Wd x f d sd M')
theorem de_callS {f : Addr} {fd : FuncData} (F : FnOk X.prog X.w X.K X.mg X.base (L2.CX X.prog X.w) k f fd ps (LSp X.K sp)) (hr : Room k X.A) (hg : Gl X x) (hm : X.mg x = some (.ref f)) (hk : PySem.W.keepIn X.K (.ref f) = true) (hb : Binds X.K fd ps []) (tk : Takes X W) (cw : CtW X.K M0 H0 Wd W)
    (ha : PAd X M0 H0 (e :: es) t) (hdb : (x == ("__debug__" : Str)) = false := by decide) (he : starEach (e :: es) X.env = (false, eval e X.env) :: starEach es X.env := by rfl) (hpl : (backTo pos (starEach es X.env)).any (·.1) = false := by rfl) :
    PEd X M0 H0 (.Call (.Name x p) (e :: es) [] pos) (dCallS sp Wd t) :=
  PE.imp (pe_callS F hr hg hm hk hb (fun σ => passAt tk σ) ha hdb he hpl) fun σ H Q ⟨sd, M, Qd, w, q, c⟩ => ⟨sd, M, _, w, q, fun ds M1 vs H1 s1 r1 q1 => ⟨ds, M1, Qd, _, r1, s1.sr, q1, c.on s1, (cw.on (w.st.trans s1)).at (w.rs.keep s1.keep)⟩⟩
end
end DL
namespace DL
open PySem PySem.Spec PyProof.Rows L2 LamX
/-! ### lambdas without parameters, handed to a def -/
abbrev LamD := EXD → Mo → QD → Prop
abbrev SpA := LamD → Mo → QD → Prop
/-- x(), over data -/
def dAct (f : Addr) (tlD : LamD) (Wd : WXD) : TED := fun sd M Q => sd[0]? = some (some (.ref f)) ∧ tlD (fun x f d M' => Wd x f d sd M') M Q
/-- g(lambda: body): P the table of the maker's code -/
def dLam (P : Addr) (q : Str) (spA : SpA) (tD : EXD → TED) : TED := fun sd M Q => M P = some (.tab q) ∧ spA (fun Ed M' Qd' => tD Ed sd M' Qd') M Q
end DL
namespace DL
open PySem PySem.Spec PyProof.Rows L2 LamX
/-! ### defs that hold lambdas: their code object is known -/
structure FunC (K : PySem.W.Frag) (x qual : Str) (st : Stmt) (f : Addr) (fd : FuncData) (c : Addr) : Prop where
  ex : ∃ (oc : Value) (od : Option Addr) (kV doc pm : Value) (an : Option Addr) (ct : Value) (osl : Array (Option Value)),
    fd = PySem.W.fnOf x qual (defArgs st) (defBody st) (defScope st) .none kV doc pm an (.ref c) ct ∧ K.lookup f = some ⟨oc, od, .func fd, osl⟩ ∧ PySem.W.codeIn K (.ref c) qual = true
  kp : PySem.W.keepIn K (.ref f) = true
theorem FunC.fn {K : PySem.W.Frag} {x qual : Str} {st : Stmt} {f : Addr} {fd : FuncData} {c : Addr} (F : FunC K x qual st f fd c) : Fun K x qual st f fd := by
  obtain ⟨oc, od, kV, doc, pm, an, ct, osl, e, l, q⟩ := F.ex
  exact ⟨⟨oc, od, kV, doc, pm, an, .ref c, ct, osl, e, l, q⟩, F.kp⟩
/-- an own exception class, by what the program's text tells -/
theorem exc_mk {P : Program} {w : World} {K : PySem.W.Frag} {mg : Str → Option Value} {base : Heap} {x f : Str} {C fI : Addr} {fd : FuncData} {ps : List Str} (gC : mg x = some (.ref C)) (nC : PySem.W.nsIn K mainGlobals x = some (some (.ref C))) (T : OexC K C) (iC : PySem.W.findIn K (.ref C) "__init__" = some (some (.ref fI))) (tI : PySem.W.typeIn K (.ref fI) = some (.type "function"))
    (hb : L2.Binds K fd ps []) (F : FnOk P w K mg base (L2.CX P w) 1 fI fd ps (spInit C f)) : ExcD P w K mg base x f C := ⟨gC, nC, T, fI, fd, ps, iC, tI, hb, F⟩
/-! ### the end -/
end DL
namespace DL
open PySem PySem.Spec PyProof.Rows L2
/-! ### text * int -/
def repS (x : Str) (n : Nat) : Str := ⟨(List.replicate n x.cps.toList).flatten.toArray⟩
theorem repS_cps (x : Str) (n : Nat) : (repS x n).cps.toList = (List.replicate n x.cps.toList).flatten := rfl
theorem repS_len (x : Str) (n : Nat) : (repS x n).length = n * x.length := by
  rw [str_len, repS_cps, List.length_flatten, List.map_replicate, List.sum_replicate_nat, str_len]
theorem fold_cat (l : List (Array Nat)) (a : Array Nat) : (l.foldl (· ++ ·) a).toList = a.toList ++ (l.map Array.toList).flatten := by
  induction l generalizing a with
  | nil => simp
  | cons b l ih => rw [List.foldl_cons, ih, List.map_cons, List.flatten_cons, Array.toList_append, List.append_assoc]
theorem repS_fold (x : Str) (n : Nat) : (⟨(List.replicate n x.cps).foldl (· ++ ·) #[]⟩ : Str) = repS x n := by
  show (⟨_⟩ : Str) = ⟨_⟩
  congr 1
  apply Array.ext'
  rw [fold_cat, List.map_replicate]
  rfl
section
variable {X : Cx}
theorem op_mulS : OpR X (binaryOp .Mult) (fun x y H Q => ∃ (z : Str) (n : Nat), x = .str z ∧ y = .int (n : Int) ∧ n < 1073741824 ∧ z.length * n ≤ sizeLine ∧ Q (.str (repS z n)) H) := by
  intro pins s σ H x y v u Q I rx ry h
  obtain ⟨z, n, rfl, rfl, hn, hl, q⟩ := h
  obtain ⟨t, rfl⟩ := rx
  obtain ⟨t', rfl⟩ := ry
  have hz : sizeLine = 16777216 := by rw [sizeLine_eq]
  refine P.mul_str ?_ (fun h1 h2 h3 => ?_) (fun h1 h2 => ?_) ?_
  · rw [decide_eq_false (by omega), decide_eq_false (by omega)]
    rfl
  · have hn0 : 0 < (n : Int) := by omega
    have h4 : ((2 : Int) ^ 63 - 1) / n < z.length := h3
    have h5 : (z.length : Int) * n ≤ 16777216 := by rw [← Int.natCast_mul]; omega
    have h6 : (z.length : Int) ≤ ((2 : Int) ^ 63 - 1) / n := (Int.le_ediv_iff_mul_le hn0).mpr (by omega)
    omega
  · rw [Int.toNat_natCast]
    show decide (_ > sizeLine) = false
    first
      | exact decide_eq_false (by omega)
      | simp; omega
  · rw [Int.toNat_natCast]
    by_cases h1 : (n : Int) < 1
    · rw [if_pos h1]
      have e0 : n = 0 := by omega
      subst e0
      exact ⟨by decide, .str _, H, I.tok _, ⟨_, rfl⟩, q⟩
    · rw [if_neg h1]
      by_cases h2 : ((n : Int) == 1 || z.length == 0) = true
      · rw [if_pos h2]
        have e0 : repS z n = z := by
          have : (repS z n).cps = z.cps := by
            apply Array.ext'
            rw [repS_cps]
            rcases Bool.or_eq_true_iff.mp h2 with q1 | q1
            · have : n = 1 := by have := eq_of_beq q1; omega
              subst this
              simp
            · have h0 : z.length = 0 := eq_of_beq q1
              rw [str_len] at h0
              have : z.cps.toList = [] := List.eq_nil_of_length_eq_zero h0
              rw [this]
              simp
          exact congrArg Str.mk this
        rw [e0] at q
        exact ⟨.str _, H, I, ⟨_, rfl⟩, q⟩
      · rw [if_neg h2, repS_fold]
        refine ⟨?_, .str _, H, I.tok _, ⟨_, rfl⟩, q⟩
        first
          | (rw [repS_len]; rw [Nat.mul_comm]; exact hl)
          | (rw [repS_len, Nat.mul_comm]; omega)
          | trace_state
def dMulX : R2d := fun d e M Q => match d, e with
  | .int i, .int j => (CMul i j ∨ CMulW i j) ∧ Q (.int (i * j)) M
  | .str z, .int j => (0 ≤ j ∧ j < 1073741824 ∧ z.length * j.toNat ≤ 16777216) ∧ Q (.str (repS z j.toNat)) M
  | .ref a, .int j => match M a with
    | some (.lst ds) => (-4294967296 ≤ j ∧ j ≤ 4294967296 ∧ ds.length * j.toNat ≤ 16777216) ∧ ∀ p, M p = none → Q (.ref p) (mup M p (.lst (List.replicate j.toNat ds).flatten))
    | _ => False
  | _, _ => False
theorem RDs.rep {K : PySem.W.Frag} {H : Hp} {ds : List Dv} {vs : List V} (r : RDs K H ds vs) : ∀ n, RDs K H (List.replicate n ds).flatten (List.replicate n vs).flatten
  | 0 => RDs.nil
  | n + 1 => by
    rw [List.replicate_succ, List.replicate_succ, List.flatten_cons, List.flatten_cons]
    exact r.app (RDs.rep r n)
theorem od_mulX : OpR X (binaryOp .Mult) (L2op X.K dMulX) := by
  refine opd_I (op_mul.or (op_mulW.or (op_mulS.or op_rep))) fun d e M Qd x y H Q r1 r2 sr q c => ?_
  unfold dMulX at q
  split at q
  · obtain ⟨q1 | q1, q⟩ := q
    · exact .inl ⟨_, _, r1.int_of, r2.int_of, q1, c _ M _ H (.refl sr) .int q⟩
    · exact .inr (.inl ⟨_, _, r1.int_of, r2.int_of, q1, c _ M _ H (.refl sr) .int q⟩)
  · rename_i z j
    obtain ⟨⟨h0, h1, h2⟩, q⟩ := q
    obtain ⟨n, rfl⟩ := Int.eq_ofNat_of_zero_le h0
    rw [Int.toNat_natCast] at h2 q
    exact .inr (.inr (.inl ⟨z, n, r1.str_of, r2.int_of, by omega, by rw [← line_eq]; exact h2, c _ M _ H (.refl sr) .str q⟩))
  · rename_i a j
    split at q
    · rename_i ds e
      obtain ⟨⟨h0, h1, h2⟩, q⟩ := q
      obtain ⟨vs, hv, rr⟩ := own_at sr e
      exact .inr (.inr (.inr ⟨a, j, vs, r1.ref_of, r2.int_of, hv, by omega, by omega, by rw [← line_eq, ← rr.length]; exact h2, fun p hp => c _ _ _ _ (Stp.new sr hp (own_lst hp (rr.rep _))) .ref (q p (sr.free hp))⟩))
    · exact q.elim
  · exact q.elim
end
section
variable {M : Mo} {Q : QD} {E : EXD} {i j : Int} {x y z f n : Str} {d e : Dv} {sd : StD} {a : Addr} {T : ExT} {te : TED} {D : EndsD}
theorem i_mulXI (hc : CMul i j) (h : Q (.int (i * j)) M) : dMulX (.int i) (.int j) M Q := ⟨.inl hc, h⟩
/-! ### data is equal to itself -/
mutual
theorem eqv_self : ∀ p : PyData, p.canLay0 = true → PyData.eqv p p = true
  | .none, _ => rfl
  | .bool b, _ => by simp [PyData.eqv]
  | .int i, _ => by simp [PyData.eqv]
  | .str x, _ => by simp [PyData.eqv]
  | .list xs, h => by rw [PyData.eqv]; exact eqvs_self xs (by rw [PyData.canLay0] at h; exact h)
  | .tuple xs, h => by rw [PyData.eqv]; exact eqvs_self xs (by rw [PyData.canLay0] at h; exact h)
  | .dict kvs, h => by rw [PyData.canLay0] at h; cases h
theorem eqvs_self : ∀ ps : List PyData, PyData.canLayAll0 ps = true → PyData.eqvAll ps ps = true
  | [], _ => rfl
  | p :: ps, h => by
    rw [PyData.canLayAll0, Bool.and_eq_true] at h
    rw [PyData.eqvAll, eqv_self p h.1, eqvs_self ps h.2]
    rfl
end
theorem i_neSame {p : PyData} (h1 : pyM M d = some p) (h2 : pyM M e = some p) (s1 : SeqAt.shaped p = true) (n : ∀ i, p ≠ .int i := by intro i z; cases z) (n2 : ∀ i, p ≠ .str i := by intro i z; cases z) (n3 : ∀ i, p ≠ .bool i := by intro i z; cases z) (h : Q (.bl false) M) : dNe d e M Q :=
  i_neM h1 h2 s1 s1 n n2 n3 (by rw [eqv_self p (SeqAt.canLay_of_shaped s1)]; exact h)
/-! ### raise, try, lambda: step by step -/
instance s_raise : Step (dRaise x f E te D sd M) (te sd M fun d M1 => E x f d M1) := ⟨fun h => h⟩
instance s_try {tb : WXD → TSD} {ld : List DCl} : Step (dTry T tb ld D sd M) (tb (wClsD T D ld) D sd M) := ⟨fun h => h⟩
theorem w_yes {c : Str} {k : Nat} {ts : Addr → Str → Str → Dv → TSD} {r : List DCl} {a b cc : StD → Mo → Prop} {rt : QD} (e : T.sub x c = some true)
    (h : ∀ ad, kSetN k (.ref ad) sd M fun sd' M' => ts ad x f d ⟨fun sd M => a (sd.set k none) M, rt, fun sd M => b (sd.set k none) M, fun sd M => cc (sd.set k none) M⟩ sd' M') : wClsD T ⟨a, rt, b, cc⟩ ((c, k, ts) :: r) x f d sd M := by
  unfold wClsD
  rw [e]
  exact fun ad => h ad
theorem w_no {c : Str} {k : Nat} {ts : Addr → Str → Str → Dv → TSD} {r : List DCl} (e : T.sub x c = some false) (h : wClsD T D r x f d sd M) : wClsD T D ((c, k, ts) :: r) x f d sd M := by
  unfold wClsD
  rw [e]
  exact h
def kXf (T : ExT) (a : Addr) (n x f : Str) (y : Dv) (R : Prop) : Prop := y = .ref a ∧ n = f ∧ (x, f) ∈ T.fld ∧ R
instance s_xf : Step (dXf T a n x f d te sd M Q) (te sd M fun y M2 => kXf T a n x f y (Q d M2)) := ⟨fun h => h⟩
theorem i_kXf {R : Prop} (e : (x, n) ∈ T.fld) (h : R) : kXf T a n x n (.ref a) R := ⟨rfl, rfl, e, h⟩
instance s_act {tl : LamD} {Wd : WXD} [g : GetAt sd 0 (.ref a)] : Step (dAct a tl Wd sd M Q) (tl (fun x f d M' => Wd x f d sd M') M Q) := ⟨fun h => ⟨g.eq, h⟩⟩
theorem i_lam {P : Addr} {q : Str} {spA : SpA} {tD : EXD → TED} (h1 : M P = some (.tab q)) (h2 : spA (fun Ed M' Qd' => tD Ed sd M' Qd') M Q) : dLam P q spA tD sd M Q := ⟨h1, h2⟩
end
end DL
namespace DL
open PySem PySem.Spec PyProof.Rows L2
/-! ### isinstance of an exception with a dict, in its suite (the kit's call_isE, turned to any dict) -/
/-! ### over data: against built-in classes and own ones -/
def dIsX (T : Str → Str → Option Bool) (a : Addr) (x c : Str) (te : TED) : TED := fun sd M Q => te sd M fun y M1 => y = .ref a ∧ match T x c with
  | some b => Q (.bl b) M1
  | none => False
def kIsX (T : Str → Str → Option Bool) (a : Addr) (x c : Str) (y : Dv) (R : Bool → Prop) : Prop := y = .ref a ∧ match T x c with
  | some b => R b
  | none => False
instance s_isX {M : Mo} {Q : QD} {T : Str → Str → Option Bool} {a : Addr} {x c : Str} {te : TED} {sd : StD} : Step (dIsX T a x c te sd M Q) (te sd M fun y M1 => kIsX T a x c y fun b => Q (.bl b) M1) := ⟨fun h => h⟩
end DL
namespace DL
open PySem PySem.Spec PyProof.Rows L2
/-! ### zip(text, text): the kit's zip of lists, turned to texts -/
theorem sit_at {h h' : Heap} {it : Addr} {ty : String} {x : Str} {t : Tok} {i : Nat} (s : h.IsStrIter it ty x t i) (k : ∀ o, h.get? it = some o → h'.get? it = some o) : h'.IsStrIter it ty x t i := by
  obtain ⟨o, e, c⟩ := s
  exact ⟨o, k o e, c⟩
/-! ### over data -/
def zipSD (x y : Str) : List Dv := List.zipWith (fun a b => Dv.tup [.str ⟨#[a]⟩, .str ⟨#[b]⟩]) x.cps.toList y.cps.toList
def iZipSD (ta : TAD) : TID := fun sd M R => ta sd M fun ds M1 => match ds with
  | [.str x, .str y] => R ⟨zipSD x y, fun _ => True⟩ M1
  | _ => False
def kZS (ds : List Dv) (F : Str → Str → Prop) : Prop := match ds with
  | [.str x, .str y] => F x y
  | _ => False
instance s_zipS {sd : StD} {M : Mo} {t : TAD} {R : ItD → Mo → Prop} : Step (iZipSD t sd M R) (t sd M fun ds M1 => kZS ds fun x y => R ⟨zipSD x y, fun _ => True⟩ M1) := ⟨fun h => by
  have : (fun (ds : List Dv) (M1 : Mo) => kZS ds fun x y => R ⟨zipSD x y, fun _ => True⟩ M1) = fun ds M1 => match ds with
      | [.str x, .str y] => R ⟨zipSD x y, fun _ => True⟩ M1
      | _ => False := by
    funext ds M1
    unfold kZS
    split <;> rfl
  rw [this] at h
  exact h⟩
instance s_kZS {x y : Str} {F : Str → Str → Prop} : Step (kZS [.str x, .str y] F) (F x y) := ⟨fun h => h⟩
end DL
namespace DL
open PySem PySem.Spec PyProof.Rows L2
/-! ### turned about: x[::-1] of a text or a list -/
def revS (x : Str) : Str := ⟨x.cps.toList.reverse.toArray⟩
theorem krvS_pick {α : Type} (xs : Array α) : (Builtin.Str.strSliceIndices none none (-1) xs.size).filterMap (xs[·]?) = xs.toList.reverse := by
  unfold Builtin.Str.strSliceIndices
  show ((sliceRange ((xs.size : Int) - 1) (-1) (-1)).filterMap (xs[·]?)) = _
  rw [PySem.W.krv_sliceRange, PySem.W.krv_range, List.filterMap_reverse, PySem.W.krv_all]
section
variable {X : Cx}
def tRev (K : PySem.W.Frag) (te : TE) : TE := fun σ H Q => te σ H fun x H1 => (∃ a xs, x = .ref a ∧ SqL K H1 a xs ∧ ∀ p, H1 p = none → Q (.ref p) (upd H1 p (.lst xs.reverse))) ∨ (∃ z, x = .str z ∧ z.length ≤ sizeLine ∧ Q (.str (revS z)) H1)
theorem pe_rev {e : Expr} {te : TE} {k : Nat} {p1 p2 p3 pos : Pos} (he : PE X e te) : PE X (.Subscript e (.Slice none none (some (.UnaryOp .USub (.Constant (.int 1) k p1) p2)) p3) pos) (tRev X.K te) := by
  refine ⟨fun pins s σ H Q I h => ?_⟩
  refine Subscript_ (thn (he.run pins s σ H _ I h) fun v s1 ⟨x, H1, I1, r1, q1⟩ => ?_)
  have hst : PO X (some (.UnaryOp .USub (.Constant (.int 1) k p1) p2)) (tPart (tUn (rU fun i => .int (-i)) (tC (.int 1)))) := po_some (pe_un un_neg pe_int)
  refine wpAny_Slice (thn (po_none.run pins s1 σ H1 (fun o H2 => o = none ∧ H2 = H1) I1 ⟨rfl, rfl⟩) fun vl s2 ⟨l, H2, I2, pl, el, e2⟩ => ?_)
  subst el e2
  refine thn (po_none.run pins s2 σ H2 (fun o H3 => o = none ∧ H3 = H2) I2 ⟨rfl, rfl⟩) fun vu s3 ⟨u, H3, I3, pu, eu, e3⟩ => ?_
  subst eu e3
  refine thn (hst.run pins s3 σ H3 (fun o H4 => o = some (-1) ∧ H4 = H3) I3 ⟨1, rfl, -1, rfl, rfl, rfl⟩) fun vs s4 ⟨o, H4, I4, ps, eo, e4⟩ => ?_
  subst eo e4
  have I5 : Inv X pins σ H4 { s4 with heap := s4.heap.push { cls := .type "slice", data := .fields #[vl, vu, vs] } } := I4.kept (t' := s4.toks) fun b ob q => Heap.get?_push_of_some _ q
  rcases q1 with ⟨a, xs, ex, hx, q⟩ | ⟨z, ex, hz, q⟩
  · subst ex
    cases r1
    obtain ⟨its, r, ht, hz⟩ := I5.list hx
    have hlen := r.length
    show wpAny (model X.prog X.w) X.A (subscriptTail e (.Slice none none (some (.UnaryOp .USub (.Constant (.int 1) k p1) p2)) p3) (.ref a) (.ref s4.heap.objs.size)) (EP X pins σ Q) X.xe { s4 with heap := s4.heap.push { cls := .type "slice", data := .fields #[vl, vu, vs] } }
    refine tail_any (ops := [.ref a, .ref s4.heap.objs.size]) ht.isList.typeIs (PySem.slot_list_getitem.lookup) ?_ (by with_unfolding_all rfl)
    refine wpAny_getItem_list_slice ht.isList (Heap.IsSliceOf.new _ vl vu vs) pl pu ps (by decide) ?_ (by rw [List.size_toArray]; omega)
    rw [PySem.W.krv_pick]
    refine ⟨.ref _, _, I5.laid (t' := s4.toks) (o := .lst xs.reverse) (fun b ob q => Heap.get?_push_of_some _ q) (Nat.le_refl _) ?_, rfl, q _ (I5.hok.fresh (Nat.le_refl _))⟩
    exact ⟨by rw [List.length_reverse]; exact hz, _, 0, r.reverse, Heap.get?_push_size _ rfl⟩
  · subst ex
    obtain ⟨t, rfl⟩ := r1
    show wpAny (model X.prog X.w) X.A (subscriptTail e (.Slice none none (some (.UnaryOp .USub (.Constant (.int 1) k p1) p2)) p3) (.str z t) (.ref s4.heap.objs.size)) (EP X pins σ Q) X.xe { s4 with heap := s4.heap.push { cls := .type "slice", data := .fields #[vl, vu, vs] } }
    have hs := Heap.IsSliceOf.new s4.heap vl vu vs
    obtain ⟨os, hos, hcs, hds⟩ := hs
    obtain ⟨l, el, hl⟩ := IsPart.raw pl
    obtain ⟨u, eu, hu⟩ := IsPart.raw pu
    obtain ⟨st, est, hst2⟩ := IsPart.raw ps
    subst el eu est
    refine tail_any (ops := [.str z t, .ref s4.heap.objs.size]) (typeIs_str _ z t) F.slot_str_getitem.lookup ?_ (by with_unfolding_all rfl)
    have hst3 : st.map (·.1) = some (-1) := hst2
    have hl3 : l.map (·.1) = none := hl
    have hu3 : u.map (·.1) = none := hu
    refine wpAny_getItem_str_slice (l := l) (u := u) (st := st) ⟨os, hos, hcs, hds⟩ (by rw [hst3]; rfl) ?_
    unfold sliceMade slicePicked
    rw [hst3, hl3, hu3]
    show Made.post (if (((-1 : Int) == 1) && (Builtin.Str.strSliceIndices none none (-1) z.length).length == z.length) = true then Made.val (.str z t)
      else Made.str ⟨((Builtin.Str.strSliceIndices none none (-1) z.length).filterMap (z.cps[·]?)).toArray⟩) (EP X pins σ Q) _
    rw [if_neg (by simp)]
    rw [show (Builtin.Str.strSliceIndices none none (-1) z.length).filterMap (z.cps[·]?) = z.cps.toList.reverse from krvS_pick z.cps]
    refine ⟨?_, .str _, H4, I5.tok _, ⟨_, rfl⟩, q⟩
    show (z.cps.toList.reverse.toArray).size ≤ _
    rw [List.size_toArray, List.length_reverse, Array.length_toList]
    exact hz
end
section
variable {X : Cx} {M0 : Mo} {H0 : Hp} {e : Expr} {te : TED} {k : Nat} {p1 p2 p3 pos : Pos}
theorem RDs.rev {K : PySem.W.Frag} {H : Hp} : ∀ {ds : List Dv} {vs : List V}, RDs K H ds vs → RDs K H ds.reverse vs.reverse
  | [], vs, h => by
    unfold RDs at h
    subst h
    exact .nil
  | d :: ds, vs, h => by
    unfold RDs at h
    obtain ⟨v, r, rfl, h1, h2⟩ := h
    rw [List.reverse_cons, List.reverse_cons]
    exact (RDs.rev h2).app (RDs.cons h1 .nil)
def dRevV (d : Dv) (M : Mo) (Q : QD) : Prop := match d with
  | .str z => z.length ≤ 16777216 ∧ Q (.str (revS z)) M
  | d => match seqL M d with
    | some ds => ∀ p, M p = none → Q (.ref p) (mup M p (.lst ds.reverse))
    | none => False
def dRev (te : TED) : TED := fun sd M Q => te sd M fun d M1 => dRevV d M1 Q
theorem de_rev (he : PEd X M0 H0 e te) : PEd X M0 H0 (.Subscript e (.Slice none none (some (.UnaryOp .USub (.Constant (.int 1) k p1) p2)) p3) pos) (dRev te) :=
  PE.imp (pe_rev he) fun σ H Q ⟨sd, M, Qd, w, q, c⟩ => ⟨sd, M, _, w, q, fun d M1 v H1 s1 r1 q1 => by
    unfold dRevV at q1
    split at q1
    · rw [r1.str_of]
      exact .inr ⟨_, rfl, by rw [← line_eq]; exact q1.1, c _ _ _ _ s1 .str q1.2⟩
    · split at q1
      · rename_i es e
        obtain ⟨a, vs, rfl, sq, rr⟩ := seqL_ok s1.sr r1 e
        exact .inl ⟨a, vs, rfl, sq, fun p hp => c _ _ _ _ (s1.trans (Stp.new s1.sr hp (own_lst hp rr.rev))) .ref (q1 p (s1.sr.free hp))⟩
      · exact q1.elim⟩
/-! ### targets: a list taken apart -/
variable {es : List Expr} {u : TGsD} {n : Nat}
def gLu (n : Nat) (t : TGsD) : TGD := fun d sd M Q => match seqL M d with
  | some ds => ds.length = n ∧ t ds sd M Q
  | none => False
end
section
variable {sd : StD} {M : Mo} {Q : QD} {d : Dv} {ds : List Dv} {x : Str}
theorem i_rev {te : TED} (h : te sd M fun d M1 => dRevV d M1 Q) : dRev te sd M Q := h
theorem i_revS (hl : x.length ≤ 16777216) (h : Q (.str (revS x)) M) : dRevV (.str x) M Q := ⟨hl, h⟩
theorem i_revL (h1 : seqL M d = some ds) (q : ∀ p, M p = none → Q (.ref p) (mup M p (.lst ds.reverse))) : dRevV d M Q := by
  unfold dRevV
  split
  · simp [seqL] at h1
  · simp only [h1]
    exact q
theorem i_gLu {n : Nat} {t : TGsD} {R : StD → Mo → Prop} (h1 : seqL M d = some ds) (hn : ds.length = n) (h : t ds sd M R) : gLu n t d sd M R := by
  unfold gLu
  rw [h1]
  exact ⟨hn, h⟩
instance s_rev {te : TED} : Step (dRev te sd M Q) (te sd M fun d M1 => dRevV d M1 Q) := ⟨i_rev⟩
end
end DL
namespace DL
open PySem PySem.Spec PyProof.Rows L2
/-! ### instances of own classes: owned, or standing still -/
theorem ins_getR {P : Program} {w : World} {H : Hp} {h : Heap} {a C dx : Addr} {fs : List (Str × V)} (hok : HOk P w H h) (e : Rd H a (.ins C dx fs)) : ∃ mA, ObjM h a dx C mA ∧ (∀ f, RelO (fs.lookup f) (mA f)) ∧ PySem.Within mA (fs.map (·.1)) ∧ fs.length ≤ 1000 ∧ H dx = some (.own a) := by
  obtain ⟨d, z, ne, ob, mA, n, r, q⟩ := (show ObjOk P w H h a (.ins C dx fs) from e.ok hok)
  exact ⟨mA, ⟨ob, n, ne⟩, r, q, z, d⟩
section
variable {X : Cx} {pins : List (Addr × Obj)} {σ : L2.St} {H : Hp} {s : Shared} {a C dx : Addr} {fs : List (Str × V)} {f : Str} {v : V} {A : Around} {E : Value → Shared → Prop}
theorem getattr_okR {b : Bool} {Q : Value → Shared → Prop} (I : Inv X pins σ H s) (e : Rd H a (.ins C dx fs)) (c : Cls X.K C) (n : NoAttr X.K C f) (l : fs.lookup f = some v)
    (h : ∀ u s', Inv X pins σ H s' → RelV v u → Q u s') : wpAny (model X.prog X.w) A (getAttr (.ref a) f b) Q E s := by
  obtain ⟨mA, O, r, _, _, _⟩ := ins_getR I.hok e
  have z := r f
  rw [l] at z
  obtain ⟨u, hu, ru⟩ := RelO.some_of (v := v) (o := mA f) z
  exact get_map I.kIn O (c.get f) c.hd n hu (handed_of ru) (h u _ (I.tok _) ru)
theorem getmeth_okR {m : Str} {g : Addr} {pl : Sem Bool} {Q : Value × List Value → Shared → Prop} (I : Inv X pins σ H s) (e : Rd H a (.ins C dx fs)) (c : Cls X.K C) (k : Meth X.K C m g) (l : fs.lookup m = none)
    (h : Q (.ref g, [.ref a]) s) : wpAny (model X.prog X.w) A (getMethod (.ref a) m pl) Q E s := by
  obtain ⟨mA, O, r, _, _, _⟩ := ins_getR I.hok e
  have z := r m
  rw [l] at z
  exact get_meth I.kIn O (c.get m) k.at_ k.fn (RelO.none_of z) h
end
def tFldR (K : PySem.W.Frag) (ta : TE) (f : Str) : TE := fun σ H Q => ta σ H fun x H1 => ∃ a C dx fs v, x = .ref a ∧ Rd H1 a (.ins C dx fs) ∧ Cls K C ∧ NoAttr K C f ∧ fs.lookup f = some v ∧ Q v H1
def tMethR (C : Addr) (m : Str) (sp : Sp) (dvs : List V) (E : XK) (ta : TE) (t : TA) : TE := fun σ H Q => ta σ H fun x H1 => ∃ a dx fs, x = .ref a ∧ Rd H1 a (.ins C dx fs) ∧ fs.lookup m = none ∧ t σ H1 fun vs H2 => sp (x :: (vs ++ dvs)) H2 Q E
section
variable {X : Cx} {e o : Expr} {es : List Expr} {f m : Str} {pos apos : Pos} {ta : TE} {t : TA} {C g : Addr} {k : Nat} {fd : FuncData} {ps : List Str} {sp : Sp} {dvs : List V} {ds : List Value} {E : XK} {CX : CXT}
theorem pe_fldR (he : PE X e ta) (hb : attributeBase e f X.env (eval e X.env) = eval e X.env) : PE X (.Attribute e f pos) (tFldR X.K ta f) := by
  refine ⟨fun pins s σ H Q I h => ?_⟩
  refine attr_of hb (thn (he.run pins s σ H _ I h) fun u s1 ⟨x, H1, I1, rx, a, C, dx, fs, v, ex, ea, c, n, l, q⟩ => ?_)
  subst ex
  have eu : u = Value.ref a := rx
  subst eu
  exact getattr_okR I1 ea c n l fun u' s2 I2 ru => ⟨v, H1, I2, ru, q⟩
theorem pe_methR0 {pl : Sem Bool} (he : PE X o ta) (c : Cls X.K C) (hm : Meth X.K C m g) (F : FnOk X.prog X.w X.K X.mg X.base CX k g fd ps sp) (hr : Room k X.A) (hb : Binds X.K fd ps ds) (hd : Vals dvs ds) (hx : Passes CX X E)
    (ht : eval (.Call (.Attribute o m apos) [] [] pos) X.env = (do
      let ov ← eval o X.env
      standAt apos.atName
      let (f, first) ← holding [ov] (getMethod ov m pl)
      callWith pos f first (backTo pos (starEach [] X.env)) (backToKw pos (keywordEach [] X.env))) := by rfl) :
    PE X (.Call (.Attribute o m apos) [] [] pos) (tMethR C m sp dvs E ta tNil) := by
  refine ⟨fun pins s σ H Q I h => ?_⟩
  refine PySem.W.methodCall_KW (pl := pl) (thn (he.run pins s σ H _ I h) fun u s1 ⟨x, H1, I1, rx, a, dx, fs, ex, ea, l, q⟩ => ?_) ht
  subst ex
  have eu : u = Value.ref a := rx
  subst eu
  refine getmeth_okR I1 ea c hm l ?_
  exact PySem.W.callWith_K0 (first := [.ref a]) I1.kIn hm.kp (run_fn (us := [.ref a]) (vs := [.ref a]) F hr hb hd hx I1 (.cons rfl .nil) q)
end
/-- the fields that may be read and laid: class and name -/
structure FldOk (K : PySem.W.Frag) (T : List (Str × Str)) : Prop where
  ok : ∀ c f, (c, f) ∈ T → ∀ C, PySem.W.nsIn K mainGlobals c = some (some (.ref C)) → Cls K C ∧ NoAttr K C f
theorem RDf.put {K : PySem.W.Frag} {H : Hp} {d : Dv} {v : V} (f : Str) (h : RD K H d v) : ∀ {fs : List (Str × Dv)} {vfs : List (Str × V)}, RDf K H fs vfs → RDf K H (putD f d fs) (putF f v vfs)
  | [], vs, r => by
    unfold RDf at r
    subst r
    unfold putD putF RDf
    exact ⟨v, [], rfl, h, by unfold RDf; rfl⟩
  | (g, u) :: ds, vs, r => by
    unfold RDf at r
    obtain ⟨x, w, rfl, h1, h2⟩ := r
    unfold putD putF
    by_cases e : g = f
    · rw [if_pos e.symm, if_pos e]
      unfold RDf
      exact ⟨v, w, rfl, h, h2⟩
    · rw [if_neg (fun z => e z.symm), if_neg e]
      unfold RDf
      exact ⟨x, _, rfl, h1, RDf.put f h h2⟩
theorem ins_at {K : PySem.W.Frag} {M : Mo} {H : Hp} {a : Addr} {c : Str} {fs : List (Str × Dv)} (s : SR K M H) (h : M a = some (.ins c fs)) : ∃ C dx vfs, PySem.W.nsIn K mainGlobals c = some (some (.ref C)) ∧ H a = some (.ins C dx vfs) ∧ RDf K H fs vfs := by
  have o := s _ _ h
  simp only [Own] at o
  exact o
/-- what an instance holds -/
def insV (M : Mo) : Dv → Option (Str × List (Str × Dv))
  | .obj c fs => some (c, fs)
  | .ref a => match M a with
    | some (.ins c fs) => some (c, fs)
    | _ => none
  | _ => none
theorem insV_ok {K : PySem.W.Frag} {M : Mo} {H : Hp} {d : Dv} {v : V} {c : Str} {fs : List (Str × Dv)} (s : SR K M H) (r : RD K H d v) (h : insV M d = some (c, fs)) : ∃ a C dx vfs, v = .ref a ∧ PySem.W.nsIn K mainGlobals c = some (some (.ref C)) ∧ Rd H a (.ins C dx vfs) ∧ RDf K H fs vfs := by
  unfold insV at h
  split at h
  · cases h
    unfold RD at r
    obtain ⟨a, o, C, dx, vs, e, n, z, r⟩ := r
    exact ⟨a, C, dx, vs, e, n, .inr ⟨o, z⟩, r⟩
  · rename_i a
    split at h
    · rename_i c' fs' e
      cases h
      obtain ⟨C, dx, vs, n, z, q⟩ := ins_at s e
      exact ⟨a, C, dx, vs, r.ref_of, n, .inl z, q⟩
    · cases h
  · cases h
def dFldV (T : List (Str × Str)) (f : Str) (d : Dv) (M : Mo) (Q : QD) : Prop := match insV M d with
  | some (c, fs) => (c, f) ∈ T ∧ match fs.lookup f with
    | some v => Q v M
    | none => False
  | none => False
def dFld (T : List (Str × Str)) (f : Str) (te : TED) : TED := fun sd M Q => te sd M fun d M1 => dFldV T f d M1 Q
/-- o.f = e -/
def dSFldV (T : List (Str × Str)) (f : Str) (D : EndsD) (sd : StD) (d o : Dv) (M : Mo) : Prop := match o with
  | .ref a => match M a with
    | some (.ins c fs) => (c, f) ∈ T ∧ fs.length < 1000 ∧ D.nx sd (mup M a (.ins c (putD f d fs)))
    | _ => False
  | _ => False
def dSFld (T : List (Str × Str)) (f : Str) (to te : TED) : TSD := fun D sd M => te sd M fun d M1 => to sd M1 fun o M2 => dSFldV T f D sd d o M2
section
variable {X : Cx} {M0 : Mo} {H0 : Hp} {T : List (Str × Str)} {e o : Expr} {te to : TED} {f : Str} {pos pos' : Pos}
theorem de_fld (hT : FldOk X.K T) (he : PEd X M0 H0 e te) (hb : attributeBase e f X.env (eval e X.env) = eval e X.env := by rfl) : PEd X M0 H0 (.Attribute e f pos) (dFld T f te) :=
  PE.imp (pe_fldR he hb) fun σ H Q ⟨sd, M, Qd, w, q, c⟩ => ⟨sd, M, _, w, q, fun d M1 v H1 s1 r1 q1 => by
    unfold dFldV at q1
    split at q1
    · rename_i cn fs e
      obtain ⟨m, q1⟩ := q1
      split at q1
      · rename_i dv l
        obtain ⟨a, C, dx, vfs, ev, n, hv, rr⟩ := insV_ok s1.sr r1 e
        obtain ⟨k1, k2⟩ := hT.ok _ _ m C n
        obtain ⟨v', l', r'⟩ := rr.lookup l
        exact ⟨a, C, dx, vfs, v', ev, hv, k1, k2, l', c _ _ _ _ s1 r' q1⟩
      · exact q1.elim
    · exact q1.elim⟩
theorem ds_fld (hT : FldOk X.K T) (ho : PEd X M0 H0 o to) (he : PEd X M0 H0 e te) (hs : swapsWith e (some (.Attribute o f pos')) pos.line X.env = pure false := by rfl) : PSd X M0 H0 (.Assign [.Attribute o f pos'] e pos) (dSFld T f to te) :=
  PS.imp (ps_fld ho he hs) fun Dn σ H ⟨sd, M, Dd, w, q, c⟩ => ⟨sd, M, _, w, q, fun d M1 v H1 s1 r1 q1 => ⟨sd, M1, _, w.on s1, q1, fun od M2 ov H2 s2 r2 q2 => by
    unfold dSFldV at q2
    split at q2
    · rename_i a
      split at q2
      · rename_i cn fs e
        obtain ⟨m, hl, q2⟩ := q2
        obtain ⟨C, dx, vfs, n, hv, rr⟩ := ins_at s2.sr e
        obtain ⟨k1, k2⟩ := hT.ok _ _ m C n
        have mu : Mutd (H2 a) := by rw [hv]; trivial
        have st : Stp X.K M2 H2 (mup M2 a (.ins cn (putD f d fs))) (upd H2 a (.ins C dx (putF f v vfs))) := by
          refine Stp.set s2.sr e mu ?_
          simp only [Own]
          have k : Keep H2 (upd H2 a (.ins C dx (putF f v vfs))) := Keep.mut mu
          exact ⟨C, dx, _, n, upd_same, RDf.put f ((r1.keep s2.keep).keep k) (rr.keep k)⟩
        have s3 := s1.trans (s2.trans st)
        exact ⟨a, C, dx, vfs, r2.ref_of, hv, k1, k2, by rw [← rr.length]; exact hl, c.nx _ _ _ _ s3 (w.rs.keep s3.keep) q2⟩
      · exact q2.elim
    · exact q2.elim⟩⟩
end
/-! ### methods, new instances -/
/-- a method of an own class -/
structure MethD (P : Program) (w : World) (K : PySem.W.Frag) (mg : Str → Option Value) (base : Heap) (c m : Str) (k : Nat) (ps : List Str) (B : FuncData → Prop) (sp : SpD) : Prop where
  ex : ∃ C f fd, PySem.W.nsIn K mainGlobals c = some (some (.ref C)) ∧ Cls K C ∧ Meth K C m f ∧ B fd ∧ FnOk P w K mg base (L2.CX P w) k f fd ps (LSp K sp)
/-- a class that is called: its __init__ -/
structure MakeD (P : Program) (w : World) (K : PySem.W.Frag) (mg : Str → Option Value) (base : Heap) (c : Str) (k : Nat) (ps : List Str) (B : FuncData → Prop) (sp : SpD) : Prop where
  ex : ∃ C f fd, PySem.W.nsIn K mainGlobals c = some (some (.ref C)) ∧ mg c = some (.ref C) ∧ Mk K C f ∧ B fd ∧ FnOk P w K mg base (L2.CX P w) k f fd ps (LSp K sp)
def dMethV (c m : Str) (sp : SpD) (dvs : List Dv) (Ed : EXD) (t : TAD) (sd : StD) (d : Dv) (M : Mo) (Q : QD) : Prop := match insV M d with
  | some (c', fs) => c' = c ∧ fs.lookup m = none ∧ t sd M fun ds M2 => sp (d :: (ds ++ dvs)) M2 Q Ed
  | none => False
def dMeth (c m : Str) (sp : SpD) (dvs : List Dv) (Ed : EXD) (to : TED) (t : TAD) : TED := fun sd M Q => to sd M fun d M1 => dMethV c m sp dvs Ed t sd d M1 Q
def dMkV (c : Str) (sp : SpD) (dvs : List Dv) (Ed : EXD) (Q : QD) (ds : List Dv) (M : Mo) : Prop := ∀ p, M p = none → sp (.ref p :: (ds ++ dvs)) (mup M p (.ins c [])) (fun v M2 => v = .non ∧ Q (.ref p) M2) Ed
def dMake (c : Str) (sp : SpD) (dvs : List Dv) (Ed : EXD) (t : TAD) : TED := fun sd M Q => t sd M fun ds M1 => dMkV c sp dvs Ed Q ds M1
section
variable {X : Cx} {M0 : Mo} {H0 : Hp} {k : Nat} {ps : List Str} {B : FuncData → Prop} {sp : SpD} {ddvs : List Dv} {dvs : List V} {Ed : EXD} {E : XK} {c m : Str} {p pos apos : Pos} {e o : Expr} {es : List Expr} {to : TED} {t tk : TAD}
theorem meth_imp {C : Addr} (n : PySem.W.nsIn X.K mainGlobals c = some (some (.ref C))) (hdd : ∀ H, RDs X.K H ddvs dvs) (hE : CtX X.K M0 H0 Ed E) : ∀ σ H Q, LE X.K M0 H0 (dMeth c m sp ddvs Ed to t) σ H Q → tMethR C m (LSp X.K sp) dvs E (LE X.K M0 H0 to) (LA X.K M0 H0 t) σ H Q := fun σ H Q ⟨sd, M, Qd, w, q, cc⟩ =>
  ⟨sd, M, _, w, q, fun d M1 v H1 s1 r1 q1 => by
    unfold dMethV at q1
    split at q1
    · rename_i c' fs e
      obtain ⟨rfl, l, q1⟩ := q1
      obtain ⟨a, C', dx, vfs, ev, n', hv, rr⟩ := insV_ok s1.sr r1 e
      rw [n] at n'
      cases n'
      exact ⟨a, dx, vfs, ev, hv, rr.lookup_none l, sd, M1, _, w.on s1, q1, fun ds M2 vs H2 s2 r2 q2 =>
        ⟨d :: (ds ++ ddvs), M2, Qd, Ed, RDs.cons (r1.keep s2.keep) (r2.app (hdd H2)), s2.sr, q2, cc.on (s1.trans s2), hE.on (w.st.trans (s1.trans s2))⟩⟩
    · exact q1.elim⟩
theorem de_meth0 {pl : Sem Bool} (F : MethD X.prog X.w X.K X.mg X.base c m k ps B sp) (hr : Room k X.A) (hb : ∀ fd, B fd → ∃ us, Vals dvs us ∧ Binds X.K fd ps us) (hdd : ∀ H, RDs X.K H ddvs dvs) (hx : Passes (L2.CX X.prog X.w) X E) (hE : CtX X.K M0 H0 Ed E)
    (ho : PEd X M0 H0 o to)
    (ht : eval (.Call (.Attribute o m apos) [] [] pos) X.env = (do
      let ov ← eval o X.env
      standAt apos.atName
      let (f, first) ← holding [ov] (getMethod ov m pl)
      callWith pos f first (backTo pos (starEach [] X.env)) (backToKw pos (keywordEach [] X.env))) := by rfl) :
    PEd X M0 H0 (.Call (.Attribute o m apos) [] [] pos) (dMeth c m sp ddvs Ed to dNilA) := by
  obtain ⟨C, f, fd, n, cl, hm, b, F⟩ := F.ex
  obtain ⟨us, hd, b⟩ := hb fd b
  refine PE.imp (pe_methR0 ho cl hm F hr b hd hx ht) fun σ H Q h => ?_
  obtain ⟨sd, M, Q', w, q, cc⟩ := meth_imp (M0 := M0) (H0 := H0) (t := dNilA) n hdd hE σ H Q h
  refine ⟨sd, M, Q', w, q, fun d M1 v H1 s1 r1 q1 => ?_⟩
  obtain ⟨a, dx, fs, e1, e2, e3, q2⟩ := cc d M1 v H1 s1 r1 q1
  exact ⟨a, dx, fs, e1, e2, e3, tnil_imp (M0 := M0) (H0 := H0) σ H1 _ q2⟩
theorem make_go {C : Addr} {M1 : Mo} {H1 : Hp} {Q : VK} {Qd : QD} {ds : List Dv} {vs : List V} {x dx : Addr} (n : PySem.W.nsIn X.K mainGlobals c = some (some (.ref C))) (hE : CtX X.K M0 H0 Ed E) (w : Stp X.K M0 H0 M1 H1) (cc : Ct X.K M1 H1 Qd Q) (r : RDs X.K H1 ds vs)
    (hx : H1 x = none) (hdx : H1 dx = none) (ne : dx ≠ x) (q : sp (.ref x :: ds) (mup M1 x (.ins c [])) (fun v M2 => v = .non ∧ Qd (.ref x) M2) Ed) :
    LSp X.K sp (.ref x :: vs) (upd (upd H1 dx (.own x)) x (.ins C dx [])) (fun v H2 => v = .non ∧ Q (.ref x) H2) E := by
  have s2 : Stp X.K M1 H1 M1 (upd H1 dx (.own x)) := Stp.new0 w.sr hdx
  have hx2 : upd H1 dx (.own x) x = none := by rw [upd_ne (fun z => ne z.symm)]; exact hx
  have s3 : Stp X.K M1 (upd H1 dx (.own x)) (mup M1 x (.ins c [])) (upd (upd H1 dx (.own x)) x (.ins C dx [])) := by
    refine Stp.new s2.sr hx2 ?_
    simp only [Own]
    exact ⟨C, dx, [], n, upd_same, by unfold RDf; rfl⟩
  have s4 := s2.trans s3
  refine ⟨.ref x :: ds, mup M1 x (.ins c []), _, Ed, RDs.cons RD.ref (r.keep s4.keep), s4.sr, q, fun d M' v H' s r ⟨e1, e2⟩ => ?_, hE.on (w.trans s4)⟩
  subst e1
  exact ⟨r.non_of, cc _ _ _ _ (s4.trans s) RD.ref e2⟩
theorem make_imp {C : Addr} (n : PySem.W.nsIn X.K mainGlobals c = some (some (.ref C))) (hdd : ∀ H, RDs X.K H ddvs dvs) (hE : CtX X.K M0 H0 Ed E) : ∀ σ H Q, LE X.K M0 H0 (dMake c sp ddvs Ed t) σ H Q → tMake C (LSp X.K sp) dvs E (LA X.K M0 H0 t) σ H Q := fun σ H Q ⟨sd, M, Qd, w, q, cc⟩ =>
  ⟨sd, M, _, w, q, fun ds M1 vs H1 s1 r1 q1 => fun x dx hx hdx ne => make_go n hE (w.st.trans s1) (cc.on s1) (r1.app (hdd _)) hx hdx ne (q1 x (s1.sr.free hx))⟩
theorem de_make (F : MakeD X.prog X.w X.K X.mg X.base c k ps B sp) (hr : Room (k + 1) X.A) (hg : Gl X c) (hb : ∀ fd, B fd → ∃ us, Vals dvs us ∧ Binds X.K fd ps us) (hdd : ∀ H, RDs X.K H ddvs dvs) (hx : Passes (L2.CX X.prog X.w) X E) (hE : CtX X.K M0 H0 Ed E)
    (ha : PAd X M0 H0 (e :: es) t) (hdb : (c == ("__debug__" : Str)) = false := by decide) (he : starEach (e :: es) X.env = (false, eval e X.env) :: starEach es X.env := by rfl) (hpl : (backTo pos (starEach es X.env)).any (·.1) = false := by rfl) :
    PEd X M0 H0 (.Call (.Name c p) (e :: es) [] pos) (dMake c sp ddvs Ed t) := by
  obtain ⟨C, f, fd, n, hm, mk, b, F⟩ := F.ex
  obtain ⟨us, hd, b⟩ := hb fd b
  exact PE.imp (pe_make mk F hr hg hm b hd hx ha hdb he hpl) (make_imp n hdd hE)
end
/-! ### isinstance against an own class -/
def kIsO (T : List Str) (c : Str) (d : Dv) (M : Mo) (R : Bool → Prop) : Prop := match insV M d with
  | some (x, _) => x ∈ T ∧ R (decide (x = c))
  | none => match tyN M d with
    | some _ => R false
    | none => False
def dIsO (T : List Str) (c : Str) (te : TED) : TED := fun sd M Q => te sd M fun d M1 => kIsO T c d M1 fun b => Q (.bl b) M1
/-- a field laid -/
class PutAt (f : Str) (d : Dv) (fs : List (Str × Dv)) (fs' : outParam (List (Str × Dv))) : Prop where
  eq : putD f d fs = fs'
section
variable {sd : StD} {M : Mo} {Q : QD} {d v : Dv} {a : Addr} {c f m : Str} {fs fs' : List (Str × Dv)} {T : List (Str × Str)} {te to : TED} {t : TAD} {sp : SpD} {dvs ds : List Dv} {Ed : EXD} {D : EndsD} {o : OO} {d' : Dv}
instance s_fld : Step (dFld T f te sd M Q) (te sd M fun d M1 => dFldV T f d M1 Q) := ⟨id⟩
instance s_sfld : Step (dSFld T f to te D sd M) (te sd M fun d M1 => to sd M1 fun o M2 => dSFldV T f D sd d o M2) := ⟨id⟩
instance s_meth : Step (dMeth c m sp dvs Ed to t sd M Q) (to sd M fun d M1 => dMethV c m sp dvs Ed t sd d M1 Q) := ⟨id⟩
instance s_make : Step (dMake c sp dvs Ed t sd M Q) (t sd M fun ds M1 => dMkV c sp dvs Ed Q ds M1) := ⟨id⟩
instance s_frz : Step (dFrz te sd M Q) (te sd M fun d M1 => kFz d M1 Q) := ⟨id⟩
instance s_isO {U : List Str} : Step (dIsO U c te sd M Q) (te sd M fun d M1 => kIsO U c d M1 fun b => Q (.bl b) M1) := ⟨id⟩
instance s_fzS {x : Str} : Step (kFz (.str x) M Q) (Q (.str x) M) := ⟨id⟩
instance s_fzI {i : Int} : Step (kFz (.int i) M Q) (Q (.int i) M) := ⟨id⟩
instance s_fzB {b : Bool} : Step (kFz (.bl b) M Q) (Q (.bl b) M) := ⟨id⟩
instance s_fzN : Step (kFz .non M Q) (Q .non M) := ⟨id⟩
instance s_fzT : Step (kFz (.tup ds) M Q) (Q (.tup ds) M) := ⟨id⟩
instance s_fzL : Step (kFz (.lst ds) M Q) (Q (.lst ds) M) := ⟨id⟩
instance s_fzO : Step (kFz (.obj c fs) M Q) (Q (.obj c fs) M) := ⟨id⟩
theorem i_fzNew (hp : M a = none) (e : frzV o = some d') (q : Q d' M) : kFz (.ref a) (mup M a o) Q := ⟨o, d', mup_same, e, by rw [mdl_mup hp]; exact q⟩
theorem i_fzAt (hp : M a = some o) (e : frzV o = some d') (q : Q d' (mdl M a)) : kFz (.ref a) M Q := ⟨o, d', hp, e, q⟩
/-- a new list that stands still at once -/
theorem i_fzL (q : Q (.lst ds) M) : ∀ p, M p = none → kFz (.ref p) (mup M p (.lst ds)) Q := fun p hp => i_fzNew hp rfl q
theorem i_fldV (h1 : M a = some (.ins c fs)) (h2 : (c, f) ∈ T) (h3 : fs.lookup f = some v) (q : Q v M) : dFldV T f (.ref a) M Q := by
  unfold dFldV insV
  simp only [h1, h3]
  exact ⟨h2, q⟩
theorem i_fldO (h2 : (c, f) ∈ T) (h3 : fs.lookup f = some v) (q : Q v M) : dFldV T f (.obj c fs) M Q := by
  unfold dFldV insV
  simp only [h3]
  exact ⟨h2, q⟩
theorem i_sfldV [p : PutAt f d fs fs'] (h1 : M a = some (.ins c fs)) (h2 : (c, f) ∈ T) (h3 : fs.length < 1000) (q : D.nx sd (mup M a (.ins c fs'))) : dSFldV T f D sd d (.ref a) M := by
  unfold dSFldV
  simp only [h1]
  rw [p.eq]
  exact ⟨h2, h3, q⟩
theorem i_methV (h1 : M a = some (.ins c fs)) (h2 : fs.lookup m = none) (q : t sd M fun ds M2 => sp (.ref a :: (ds ++ dvs)) M2 Q Ed) : dMethV c m sp dvs Ed t sd (.ref a) M Q := by
  unfold dMethV insV
  simp only [h1]
  exact ⟨trivial, h2, q⟩
end
end DL
namespace DL
open PySem PySem.Spec PyProof.Rows L2
/-! ### int(x) of an int, a bool -/
def dIntOf : RNd := fun ds M Q => match ds with
  | [.int i] => Q (.int i) M
  | [.bl b] => Q (.int (if b then 1 else 0)) M
  | _ => False
theorem cd_int : CallR X (.type "int") (LNop X.K dIntOf) := cd_I call_int1 fun ds M Qd xs H Q rs sr q c => by
  unfold dIntOf at q
  split at q
  · obtain ⟨v, rfl, r⟩ := rs.one
    rw [r.int_of]
    exact .inl ⟨_, rfl, c _ M _ H (.refl sr) .int q⟩
  · obtain ⟨v, rfl, r⟩ := rs.one
    rw [r.bl_of]
    exact .inr ⟨_, rfl, c _ M _ H (.refl sr) .int q⟩
  · exact q.elim
section
variable {sd : StD} {M : Mo} {Q : QD} {i : Int} {b : Bool}
instance s_intI : Step (dIntOf [.int i] M Q) (Q (.int i) M) := ⟨id⟩
instance s_intB : Step (dIntOf [.bl b] M Q) (Q (.int (if b then 1 else 0)) M) := ⟨id⟩
end
end DL
namespace DL
open PySem PySem.Spec PyProof.Rows L2
/-! ### a variable's list stands still from a statement on -/
def kFzS (i : Nat) (a : StD → Mo → Prop) (sd : StD) (M : Mo) : Prop := match sd[i]? with
  | some (some d) => kFz d M fun d' M' => a (sd.set i (some d')) M'
  | _ => False
def dFzS (i : Nat) (t : TSD) : TSD := fun D sd M => t ⟨kFzS i D.nx, D.rt, D.bk, D.ct⟩ sd M
theorem kFz_ok {X : Cx} {pins : List (Addr × Obj)} {s : Shared} {σ : L2.St} {H : Hp} {M : Mo} {d : Dv} {v : V} {Q : QD} (I : Inv X pins σ H s) (sr : SR X.K M H) (r : RD X.K H d v) (q : kFz d M Q) : ∃ d' M' H', Inv X pins σ H' s ∧ Stp X.K M H M' H' ∧ RD X.K H' d' v ∧ Q d' M' := by
  unfold kFz at q
  split at q
  · rename_i p
    have ev := r.ref_of
    subst ev
    obtain ⟨o, d', e, ed, q⟩ := q
    obtain ⟨H2, I2, s2, r2⟩ := Inv.frzD I sr e ed
    exact ⟨d', _, H2, I2, s2, r2, q⟩
  · exact ⟨d, M, H, I, .refl sr, r, q⟩
theorem list_set_same {α : Type} : ∀ {l : List α} {i : Nat} {x : α}, l[i]? = some x → l.set i x = l
  | [], _, _, h => by simp at h
  | a :: l, 0, x, h => by simp at h; subst h; rfl
  | a :: l, i + 1, x, h => by
    rw [List.set_cons_succ, list_set_same (by simpa using h)]
theorem ds_fzS {X : Cx} {M0 : Mo} {H0 : Hp} {st : Stmt} {t : TSD} (i : Nat) (h : PSd X M0 H0 st t) : PSd X M0 H0 st (dFzS i t) := by
  refine ⟨fun pins s σ H D I ⟨sd, M, Dd, w, q, c⟩ => ?_⟩
  refine thn (h.run pins s σ H ⟨fun σ' H' => ∃ sd' M', Stp X.K M H M' H' ∧ Rs X.K H' sd' σ' ∧ kFzS i Dd.nx sd' M', D.rt, D.bk, D.ct⟩ I ⟨sd, M, _, w, q, ⟨fun sd' M' σ' H' s1 r1 q1 => ⟨sd', M', s1, r1, q1⟩, c.rt, c.bk, c.ct⟩⟩) fun f s1 q => ?_
  cases f with
  | next =>
    obtain ⟨σ', H', I2, sd', M', s1, r1, q1⟩ := q
    unfold kFzS at q1
    split at q1
    · rename_i d e
      obtain ⟨v, hv, rv⟩ := r1.2 i d e
      obtain ⟨d', M2, H2, I3, s2, r2, q2⟩ := kFz_ok I2 s1.sr rv q1
      refine ⟨σ', H2, I3, ?_⟩
      have r3 := (r1.keep s2.keep).set r2 i
      rw [list_set_same hv] at r3
      exact c.nx _ _ _ _ (s1.trans s2) r3 q2
    · exact q1.elim
  | brk => exact q
  | cont => exact q
  | ret v => exact q
section
variable {sd sd' : StD} {M : Mo} {Q : QD} {d : Dv} {i : Nat} {t : TSD} {a b c : StD → Mo → Prop} {r : QD}
instance s_fzSt : Step (dFzS i t ⟨a, r, b, c⟩ sd M) (t ⟨kFzS i a, r, b, c⟩ sd M) := ⟨id⟩
def kFzS' (i : Nat) (a : StD → Mo → Prop) (sd : StD) (d' : Dv) (M' : Mo) : Prop := a (sd.set i (some d')) M'
instance s_kFzS [g : GetAt sd i d] : Step (kFzS i a sd M) (kFz d M (kFzS' i a sd)) := ⟨fun h => by
  unfold kFzS
  rw [g.eq]
  exact h⟩
instance s_kFzS' [g : SetAt sd i (some d) sd'] : Step (kFzS' i a sd d M) (a sd' M) := ⟨fun h => by unfold kFzS'; rw [g.eq]; exact h⟩
end
end DL
namespace DL
open PySem PySem.Spec PyProof.Rows L2
/-! ### comprehensions whose elements change nothing -/
section
variable {M : Mo} {ds : List Dv} {g : Tgt} {tt : TTD} {te : TED} {sw : StD} {F : List Dv → Mo → Prop} {i : Nat} {d y : Dv}
theorem take_snoc {α β : Type} {ds : List α} {i : Nat} {d : α} (f : α → Option β) (h : ds[i]? = some d) : (ds.take (i + 1)).filterMap f = (ds.take i).filterMap f ++ (f d).toList := by
  rw [List.take_add_one, h, List.filterMap_append]
  cases e : f d <;> simp [e]
theorem lm_ {f : Dv → Dv} (h : ds[i]? = some d) (hf : f d = y) : (ds.take i).map f ++ [y] = (ds.take (i + 1)).map f := by rw [List.take_add_one, h, List.map_append, ← hf]; rfl
theorem lk_map (f : Dv → Dv) (hn : ds.length ≤ 16777216)
    (hs : ∀ i d, ds[i]? = some d → dG g d sw M fun sd2 M2 => tt sd2 M2 fun b M3 => if b = true then te sd2 M3 fun y M4 => M4 = M ∧ (ds.take i).map f ++ [y] = (ds.take (i + 1)).map f else M3 = M ∧ (ds.take i).map f = (ds.take (i + 1)).map f) (hd : F (ds.map f) M) : kLc ⟨ds, fun _ => True⟩ g tt te sw F M := by
  refine ⟨hn, fun i acc M' => M' = M ∧ acc = (ds.take i).map f, ⟨rfl, by simp⟩, fun _ _ _ _ _ => trivial, fun i d acc M' h1 h2 => ?_, fun acc M' h1 h2 => ?_⟩
  · rintro ⟨rfl, rfl⟩
    exact hs i d h1
  · obtain ⟨rfl, rfl⟩ := h2
    rw [List.take_of_length_le (Nat.le_refl _)]
    exact hd
end
/-! ### draws: the list at a goes on, all else stays -/
def Drw (B : Mo) (a : Addr) (M : Mo) : Prop := ∃ x y z : Int, M = mup B a (.lst [.int x, .int y, .int z])
theorem Drw.mk {B : Mo} {a : Addr} {x y z : Int} : Drw B a (mup B a (.lst [.int x, .int y, .int z])) := ⟨x, y, z, rfl⟩
theorem Drw.step {B M : Mo} {a : Addr} {x y z : Int} (h : Drw B a M) : Drw B a (mup M a (.lst [.int x, .int y, .int z])) := by
  obtain ⟨u, v, w, rfl⟩ := h
  exact ⟨x, y, z, mup_mup⟩
/-- the elements of a drawn list -/
def Els (P : Dv → Prop) (n : Nat) (acc : List Dv) : Prop := acc.length = n ∧ ∀ d, d ∈ acc → P d
theorem Els.nil {P : Dv → Prop} : Els P 0 [] := ⟨rfl, fun d h => by cases h⟩
theorem Els.snoc {P : Dv → Prop} {n : Nat} {acc : List Dv} {d : Dv} (h : Els P n acc) (hd : P d) : Els P (n + 1) (acc ++ [d]) := ⟨by rw [List.length_append, h.1]; rfl, fun e he => by
  rcases List.mem_append.mp he with q | q
  · exact h.2 e q
  · rw [List.mem_singleton.mp q]
    exact hd⟩
theorem lk_draw {B M : Mo} {a : Addr} {lo : Int} {n : Nat} {g : Tgt} {tt : TTD} {te : TED} {sw : StD} {F : List Dv → Mo → Prop} (P : Dv → Prop) (hn : n ≤ 16777216) (h0 : Drw B a M)
    (hs : ∀ i acc x y z, i < n → Els P i acc → dG g (.int (lo + (i : Nat))) sw (mup B a (.lst [.int x, .int y, .int z])) fun sd2 M2 => tt sd2 M2 fun b M3 => if b = true then te sd2 M3 fun y M4 => Els P (i + 1) (acc ++ [y]) ∧ Drw B a M4 else Els P (i + 1) acc ∧ Drw B a M3)
    (hd : ∀ acc x y z, Els P n acc → F acc (mup B a (.lst [.int x, .int y, .int z]))) : kLc ⟨rngD lo n, fun _ => True⟩ g tt te sw F M :=
  lk_rng (fun i acc M => Els P i acc ∧ Drw B a M) hn ⟨.nil, h0⟩ (fun i acc M hi _ ⟨h1, x, y, z, e⟩ => by subst e; exact hs i acc x y z hi h1) fun acc M _ ⟨h1, x, y, z, e⟩ => by subst e; exact hd acc x y z h1
/-- texts -/
theorem els_str {P : Str → Prop} : ∀ {n : Nat} {acc : List Dv}, Els (fun d => ∃ x, d = .str x ∧ P x) n acc → ∃ zs : List Str, acc = zs.map .str ∧ zs.length = n ∧ ∀ z ∈ zs, P z
  | n, [], h => ⟨[], rfl, h.1, fun z hz => by cases hz⟩
  | 0, d :: acc, h => by have := h.1; cases this
  | n + 1, d :: acc, h => by
    obtain ⟨x, rfl, px⟩ := h.2 d List.mem_cons_self
    obtain ⟨zs, e, l, p⟩ := els_str (n := n) (acc := acc) ⟨by simpa using h.1, fun e he => h.2 e (List.mem_cons_of_mem _ he)⟩
    refine ⟨x :: zs, by rw [e]; rfl, by rw [List.length_cons, l], fun z hz => ?_⟩
    rcases List.mem_cons.mp hz with rfl | hz
    · exact px
    · exact p z hz
/-! ### bits -/
theorem i_sfldW {sd : StD} {M : Mo} {d : Dv} {a : Addr} {c f : Str} {fs fs' : List (Str × Dv)} {T : List (Str × Str)} {nx b k : StD → Mo → Prop} {r : QD} (h1 : M a = some (.ins c fs)) (hp : PutAt f d fs fs') (h2 : (c, f) ∈ T) (h3 : fs.length < 1000) (q : nx sd (mup M a (.ins c fs'))) : dSFldV T f ⟨nx, r, b, k⟩ sd d (.ref a) M :=
  i_sfldV h1 h2 h3 q
/-! ### a method's arguments -/
def kM (sp : SpD) (d : Dv) (ds dvs : List Dv) (M : Mo) (Q : QD) (E : EXD) : Prop := sp (d :: (ds ++ dvs)) M Q E
theorem i_methK {c m : Str} {fs : List (Str × Dv)} {M : Mo} {Q : QD} {E : EXD} {sd : StD} {t : TAD} {sp : SpD} {dvs : List Dv} (h2 : fs.lookup m = none) (q : t sd M fun ds M2 => kM sp (.obj c fs) ds dvs M2 Q E) : dMethV c m sp dvs E t sd (.obj c fs) M Q := ⟨rfl, h2, q⟩
theorem i_methR {c m : Str} {a : Addr} {fs : List (Str × Dv)} {M : Mo} {Q : QD} {E : EXD} {sd : StD} {t : TAD} {sp : SpD} {dvs : List Dv} (h1 : M a = some (.ins c fs)) (h2 : fs.lookup m = none) (q : t sd M fun ds M2 => kM sp (.ref a) ds dvs M2 Q E) : dMethV c m sp dvs E t sd (.ref a) M Q := i_methV h1 h2 q
section
variable {sp : SpD} {d d1 d2 d3 d4 : Dv} {M : Mo} {Q : QD} {E : EXD}
instance s_kM00 : Step (kM sp d [] [] M Q E) (sp [d] M Q E) := ⟨id⟩
instance s_kM10 : Step (kM sp d [d1] [] M Q E) (sp [d, d1] M Q E) := ⟨id⟩
instance s_kM20 : Step (kM sp d [d1, d2] [] M Q E) (sp [d, d1, d2] M Q E) := ⟨id⟩
instance s_kM30 : Step (kM sp d [d1, d2, d3] [] M Q E) (sp [d, d1, d2, d3] M Q E) := ⟨id⟩
instance s_kM01 : Step (kM sp d [] [d1] M Q E) (sp [d, d1] M Q E) := ⟨id⟩
instance s_kM02 : Step (kM sp d [] [d1, d2] M Q E) (sp [d, d1, d2] M Q E) := ⟨id⟩
instance s_kM11 : Step (kM sp d [d1] [d2] M Q E) (sp [d, d1, d2] M Q E) := ⟨id⟩
end
/-! ### ways that join: what holds behind both -/
end DL
namespace DL
open PySem PySem.Spec PyProof.Rows L2
/-! ### keywords in any order, defaults for what is left out -/
/-- what is bound behind the places: keyword j, or default j -/
def pick {α : Type} (zs ds : List α) : List (Nat ⊕ Nat) → List α
  | [] => []
  | .inl j :: r => (zs[j]?).toList ++ pick zs ds r
  | .inr j :: r => (ds[j]?).toList ++ pick zs ds r
/-- C(e, .., k = v, ..) -/
def kMkS (c : Str) (sp : SpD) (n m : Nat) (sel : List (Nat ⊕ Nat)) (dvs : List Dv) (Ed : EXD) (Q : QD) (ds zs : List Dv) (M : Mo) : Prop := ds.length = n ∧ zs.length = m ∧ dMkV c sp [] Ed Q (ds ++ pick zs dvs sel) M
def dMakeS (c : Str) (sp : SpD) (n m : Nat) (sel : List (Nat ⊕ Nat)) (dvs : List Dv) (Ed : EXD) (t tk : TAD) : TED := fun sd M Q => t sd M fun ds M1 => tk sd M1 fun zs M2 => kMkS c sp n m sel dvs Ed Q ds zs M2
/-- f(e, .., k = v, ..) -/
def kCaS (sp : SpD) (n m : Nat) (sel : List (Nat ⊕ Nat)) (dvs : List Dv) (Ed : EXD) (Q : QD) (ds zs : List Dv) (M : Mo) : Prop := ds.length = n ∧ zs.length = m ∧ sp (ds ++ pick zs dvs sel) M Q Ed
def dCalS (sp : SpD) (n m : Nat) (sel : List (Nat ⊕ Nat)) (dvs : List Dv) (Ed : EXD) (t tk : TAD) : TED := fun sd M Q => t sd M fun ds M1 => tk sd M1 fun zs M2 => kCaS sp n m sel dvs Ed Q ds zs M2
class GetL (l : List Dv) (j : Nat) (d : outParam Dv) : Prop where
  eq : l[j]? = some d
class Pick (zs ds : List Dv) (sel : List (Nat ⊕ Nat)) (r : outParam (List Dv)) : Prop where
  eq : pick zs ds sel = r
class AppL (xs ys : List Dv) (r : outParam (List Dv)) : Prop where
  eq : xs ++ ys = r
section
variable {d d' : Dv} {l zs ds r r' : List Dv} {j : Nat} {sel : List (Nat ⊕ Nat)}
instance gl_0 : GetL (d :: l) 0 d := ⟨rfl⟩
instance gl_s [g : GetL l j d] : GetL (d' :: l) (j + 1) d := ⟨g.eq⟩
instance pk_0 : Pick zs ds [] [] := ⟨rfl⟩
instance pk_l [g : GetL zs j d] [p : Pick zs ds sel r] : Pick zs ds (.inl j :: sel) (d :: r) := ⟨by
  show (zs[j]?).toList ++ pick zs ds sel = _
  rw [g.eq, p.eq]
  rfl⟩
instance pk_r [g : GetL ds j d] [p : Pick zs ds sel r] : Pick zs ds (.inr j :: sel) (d :: r) := ⟨by
  show (ds[j]?).toList ++ pick zs ds sel = _
  rw [g.eq, p.eq]
  rfl⟩
instance al_0 : AppL [] r r := ⟨rfl⟩
instance al_s [a : AppL l r r'] : AppL (d :: l) r (d :: r') := ⟨congrArg (d :: ·) a.eq⟩
end
section
variable {sd : StD} {M : Mo} {Q : QD} {c : Str} {sp : SpD} {n m : Nat} {sel : List (Nat ⊕ Nat)} {dvs ds zs r r' : List Dv} {Ed : EXD} {t tk : TAD}
instance s_makeS : Step (dMakeS c sp n m sel dvs Ed t tk sd M Q) (t sd M fun ds M1 => tk sd M1 fun zs M2 => kMkS c sp n m sel dvs Ed Q ds zs M2) := ⟨id⟩
instance s_calS : Step (dCalS sp n m sel dvs Ed t tk sd M Q) (t sd M fun ds M1 => tk sd M1 fun zs M2 => kCaS sp n m sel dvs Ed Q ds zs M2) := ⟨id⟩
theorem i_kMkS (h1 : ds.length = n) (h2 : zs.length = m) [p : Pick zs dvs sel r] [a : AppL ds r r'] (h : dMkV c sp [] Ed Q r' M) : kMkS c sp n m sel dvs Ed Q ds zs M := ⟨h1, h2, by rw [p.eq, a.eq]; exact h⟩
theorem i_kCaS (h1 : ds.length = n) (h2 : zs.length = m) [p : Pick zs dvs sel r] [a : AppL ds r r'] (h : sp r' M Q Ed) : kCaS sp n m sel dvs Ed Q ds zs M := ⟨h1, h2, by rw [p.eq, a.eq]; exact h⟩
/-- what is no reference stays -/
theorem kFz_no {d : Dv} (hd : ∀ a, d ≠ .ref a) (h : Q d M) : kFz d M Q := by
  cases d with
  | ref a => exact absurd rfl (hd a)
  | _ => exact h
end
instance sa_nil {n : Nat} {v : Option Dv} : SetAt [] n v [] := ⟨rfl⟩
end DL
namespace DL
open PySem PySem.Spec PyProof.Rows L2
/-! ### what is forgotten beside a place -/
def SubA (a : Addr) (M M' : Mo) : Prop := ∀ c o, c ≠ a → M c = some o → M' c = some o
theorem SubA.refl (a : Addr) (M : Mo) : SubA a M M := fun _ _ _ h => h
theorem SubA.at {a : Addr} {M M' : Mo} {o : OO} (h : SubA a M M') : SubA a M (mup M' a o) := fun c u n e => by
  rw [mup_ne n]
  exact h c u n e
theorem SubA.new {a p : Addr} {M M' : Mo} {o : OO} (hp : M' p = none) (h : SubA a M M') : SubA a M (mup M' p o) := fun c u n e => by
  have := h c u n e
  rw [mup_ne (fun z => by subst z; rw [hp] at this; cases this)]
  exact this
end DL
namespace DL
open PySem PySem.Spec PyProof.Rows L2
/-! ### a list that stands still, times a whole number -/
theorem int_rmul_listO (a : Int) (t : Tok) (l : Addr) (items : Array Value) (n : Nat) (dd : Option Addr) (sl : Array (Option Value)) :
    Meets (Builtin.«int.__rmul__» ⟨[.int a t, .ref l], []⟩) (fun _ R s => s.heap.get? l = some { cls := .type "list", dict := dd, data := .seq items n, slots := sl } ∧ R (.ok (.ret Value.notImplemented)) s) :=
  .of_wp fun prog w A R s h => by obtain ⟨hp, g, d, tk, os⟩ := s; obtain ⟨hl, h⟩ := h; wp_walk using wpAny_loadPart' hl; exact ⟨_, rfl, h⟩
theorem list_mulO (l : Addr) (items : Array Value) (n : Nat) (dd : Option Addr) (sl : Array (Option Value)) (x : Int) (u : Tok) (hc0 : ¬(!Builtin.List.listFitsIndex x) = true) (hc1 : ¬items.size * x.toNat > (2 ^ 63 - 1) / 8) (hc2 : ¬Builtin.List.listTooLong (items.size * x.toNat) = true) :
    Meets (Builtin.«list.__mul__» ⟨[.ref l, .int x u], []⟩) (fun _ R s => s.heap.get? l = some { cls := .type "list", dict := dd, data := .seq items n, slots := sl } ∧ R (.ok (.ret (Value.ref s.heap.objs.size))) { s with heap := s.heap.push { cls := Value.type "list", data := Data.seq (List.foldl (fun x1 x2 => x1 ++ x2) #[] (List.replicate (if items.isEmpty = true then 0 else x.toNat) items)) }, toks := s.toks }) :=
  .of_wp fun prog w A R s h => by
    obtain ⟨hp, g, d, tk, os⟩ := s; obtain ⟨hl, h⟩ := h
    have hsz := AutoListH.joined_fits hc2
    wp_walk using wpAny_loadPart' hl; refine wpAny_ite_false (decide_eq_false (Nat.not_lt.mpr hsz)) ?_; wp_walk using wpAny_loadPart' hl; exact ⟨_, rfl, h⟩
def rRepF (K : PySem.W.Frag) : R2 := fun x y H Q => ∃ l k xs, x = .ref l ∧ y = .int k ∧ SqL K H l xs ∧ -(2 ^ 63) ≤ k ∧ k < 2 ^ 63 ∧ xs.length * k.toNat ≤ sizeLine ∧
  ∀ p, H p = none → Q (.ref p) (upd H p (.lst (List.replicate k.toNat xs).flatten))
theorem op_repF {X : Cx} : OpR X (binaryOp .Mult) (rRepF X.K) := by
  intro pins s σ H x y v u Q I rx ry h
  obtain ⟨l, k, xs, rfl, rfl, hH, h1, h2, hz, q⟩ := h
  cases rx
  obtain ⟨t, rfl⟩ := ry
  obtain ⟨its, r, ⟨⟨cls, dd, data, sl⟩, n, e, hc, hdd, hd⟩, hs⟩ := I.list hH
  simp only at hc hdd hd
  subst hc hdd hd
  have hl : xs.length = its.length := r.length
  have hlen : its.toArray.size * k.toNat ≤ sizeLine := by rw [List.size_toArray, ← hl]; exact hz
  have hcap : ¬ its.toArray.size * k.toNat > (2 ^ 63 - 1) / 8 := by
    have : (sizeLine : Nat) ≤ (2 ^ 63 - 1) / 8 := by decide
    omega
  have hfit : ¬ (!Builtin.List.listFitsIndex k) = true := by
    rw [fitsIndex_both h1 h2]
    exact Bool.false_ne_true
  have hlong : ¬ Builtin.List.listTooLong (its.toArray.size * k.toNat) = true := by
    rw [notLongL hlen]
    exact Bool.false_ne_true
  have hnew : List.foldl (fun x1 x2 => x1 ++ x2) #[] (List.replicate (if its.toArray.isEmpty = true then 0 else k.toNat) its.toArray) = (List.replicate k.toNat its).flatten.toArray := by
    have f0 : ∀ m : Nat, List.foldl (fun x1 x2 => x1 ++ x2) #[] (List.replicate m its.toArray) = (List.replicate m its).flatten.toArray := fun m => by
      have := foldl_rep its m []
      rw [List.nil_append] at this
      exact this
    rw [f0]
    cases its with
    | nil => simp
    | cons a r' => rw [if_neg (by simp)]
  refine wpAny_binaryOp_repeat_ref (T := "list") (U := "int") (by decide) ⟨_, e, rfl⟩ (fun s' => typeIs_int s' k t) noFill_list_mul F.fills_int_mul F.slot_int_rmul repeat_list F.slot_int_index.lookup
    (call_meets F.slot_int_rmul (typeIs_int s k t) F.entry_int_rmul (F.args_int_rmul_2 _ _) (int_rmul_listO k t l its.toArray n _ sl)
      ⟨e, rfl, ⟨_, e, rfl⟩, call_meets F.slot_list_mul ⟨_, e, rfl⟩ F.entry_list_mul (F.args_list_mul_2 _ _) (list_mulO l its.toArray n _ sl k t hfit hcap hlong) ⟨e, ?_⟩⟩)
  rw [hnew]
  exact ⟨.ref _, _, I.lnew (t' := s.toks) (r.rep k.toNat) (by first | exact hz | (rw [PyProof.Rows.lm_len_rep_flat, Nat.mul_comm]; exact hz)), rfl, q _ I.fresh⟩
def dMulY : R2d := fun d e M Q => match d, e with
  | .lst ds, .int j => (-4294967296 ≤ j ∧ j ≤ 4294967296 ∧ ds.length * j.toNat ≤ 16777216) ∧ ∀ p, M p = none → Q (.ref p) (mup M p (.lst (List.replicate j.toNat ds).flatten))
  | d, e => dMulX d e M Q
section
variable {X : Cx}
theorem op2_or {f : Value → Value → Sem Value} {r r' : R2d} (h : OpR X f (L2op X.K r)) (h' : OpR X f (L2op X.K r')) (g : R2d) (hg : ∀ d e M Q, g d e M Q → r d e M Q ∨ r' d e M Q) : OpR X f (L2op X.K g) :=
  fun pins s σ H x y v u Q I rx ry ⟨d, e, M, Qd, r1, r2, sr, q, c⟩ => (hg d e M Qd q).elim (fun q => h pins s σ H x y v u Q I rx ry ⟨d, e, M, Qd, r1, r2, sr, q, c⟩) (fun q => h' pins s σ H x y v u Q I rx ry ⟨d, e, M, Qd, r1, r2, sr, q, c⟩)
def dMulZ : R2d := fun d e M Q => match d, e with
  | .lst ds, .int j => (-4294967296 ≤ j ∧ j ≤ 4294967296 ∧ ds.length * j.toNat ≤ 16777216) ∧ ∀ p, M p = none → Q (.ref p) (mup M p (.lst (List.replicate j.toNat ds).flatten))
  | _, _ => False
theorem od_mulZ : OpR X (binaryOp .Mult) (L2op X.K dMulZ) := by
  refine opd_I op_repF fun d e M Qd x y H Q r1 r2 sr q c => ?_
  unfold dMulZ at q
  split at q
  · rename_i ds j
    obtain ⟨⟨h0, h1, h2⟩, q⟩ := q
    obtain ⟨a, vs, rfl, hv, rr⟩ := seqL_ok sr r1 (rfl : seqL M (.lst ds) = some ds)
    exact ⟨a, j, vs, rfl, r2.int_of, hv, by omega, by omega, by rw [← line_eq, ← rr.length]; exact h2, fun p hp => c _ _ _ _ (Stp.new sr hp (own_lst hp (rr.rep _))) .ref (q p (sr.free hp))⟩
  · exact q.elim
theorem od_mulY : OpR X (binaryOp .Mult) (L2op X.K dMulY) := op2_or od_mulZ od_mulX dMulY fun d e M Q q => by
  unfold dMulY at q
  split at q
  · exact .inl q
  · exact .inr q
/-- tuple(x) -/
def dTupOf : RNd := fun ds M Q => match ds with
  | [d] => match seqL M d with
    | some es => Q (.tup es) M
    | none => match seqT d with
      | some es => Q (.tup es) M
      | none => False
  | _ => False
theorem cd_tup : CallR X (.type "tuple") (LNop X.K dTupOf) := cd_I call_tuple_of fun ds M Qd xs H Q rs sr q c => by
  unfold dTupOf at q
  split at q
  · rename_i d
    obtain ⟨v, rfl, r⟩ := rs.one
    split at q
    · rename_i es e
      obtain ⟨a, vs, rfl, sq, rr⟩ := seqL_ok sr r e
      refine ⟨a, vs, rfl, .inl ⟨sq, fun p hp => c _ M _ _ (Stp.new0 sr hp) ?_ q⟩⟩
      unfold RD
      exact ⟨p, vs, rfl, .inl (.inl upd_same), rr.keep (Keep.new hp)⟩
    · split at q
      · rename_i es e
        obtain ⟨a, vs, rfl, sq, rr⟩ := seqT_ok r e
        refine ⟨a, vs, rfl, .inr ⟨sq, c _ M _ _ (.refl sr) ?_ q⟩⟩
        unfold RD
        exact ⟨a, vs, rfl, sq, rr⟩
      · exact q.elim
  · exact q.elim
end
section
variable {M : Mo} {Q : QD} {d e : Dv} {i j : Int} {x z : Str} {a : Addr} {ds : List Dv}
instance s_mulYI : Step (dMulY (.int i) e M Q) (dMulX (.int i) e M Q) := ⟨fun h => by unfold dMulY; exact h⟩
instance s_mulYS : Step (dMulY (.str x) e M Q) (dMulX (.str x) e M Q) := ⟨fun h => by unfold dMulY; exact h⟩
instance s_mulYR : Step (dMulY (.ref a) e M Q) (dMulX (.ref a) e M Q) := ⟨fun h => by unfold dMulY; exact h⟩
theorem i_mulY (hc : -4294967296 ≤ j ∧ j ≤ 4294967296 ∧ ds.length * j.toNat ≤ 16777216) (h : ∀ p, M p = none → Q (.ref p) (mup M p (.lst (List.replicate j.toNat ds).flatten))) : dMulY (.lst ds) (.int j) M Q := ⟨hc, h⟩
theorem i_tupOf (h1 : seqL M d = some ds) (h : Q (.tup ds) M) : dTupOf [d] M Q := by unfold dTupOf; simp only [h1]; exact h
instance s_tupOfT : Step (dTupOf [.tup ds] M Q) (Q (.tup ds) M) := ⟨fun h => h⟩
end
end DL
namespace DL
open PySem PySem.Spec PyProof.Rows L2
theorem mup_comm {M : Mo} {a b : Addr} {x y : OO} (h : a ≠ b) : mup (mup M a x) b y = mup (mup M b y) a x := by
  funext c
  by_cases e1 : c = b
  · subst e1
    rw [mup_same, mup_ne (Ne.symm h), mup_same]
  · by_cases e2 : c = a
    · subst e2
      rw [mup_ne e1, mup_same, mup_same]
    · rw [mup_ne e1, mup_ne e2, mup_ne e2, mup_ne e1]
end DL
namespace DL
open PySem PySem.Spec PyProof.Rows L2
/-! ### len(o), str(o), o == x, o != x by own methods -/
section
variable {X : Cx} {CX : CXT} {pins : List (Addr × Obj)} {σ : L2.St} {H : Hp} {s : Shared} {k : Nat} {f : Addr} {fd : FuncData} {ps : List Str} {sp : Sp} {E : XK} {dvs : List V} {dus : List Value}
theorem run_in {A : Around} {Q : VK} {us : List Value} {vs : List V} (F : FnOk X.prog X.w X.K X.mg X.base CX k f fd ps sp) (hr : Room k A) (e0 : Env0 X.prog X.w X.K X.mg X.base A X.stack s H) (hb : Binds X.K fd ps dus) (hd : Vals dvs dus) (hx : Passes CX X E)
    (I : Inv X pins σ H s) (r : Vals vs us) (h : sp (vs ++ dvs) H Q E) : wpAny (model X.prog X.w) A (call (.ref f) us) (EP X pins σ Q) X.xe s := by
  have r2 : Vals (vs ++ dvs) (us ++ dus) := r.append hd
  have hl : (us ++ dus).length = ps.length := by rw [← r2.length]; exact F.len _ _ _ _ h
  refine wpAny_call (codeAny_mono (F.run A X.stack s H ⟨us, []⟩ (us ++ dus) (vs ++ dvs) Q E hr e0 (hb s us I.kIn hl) r2 h) fun r s' hq => ?_)
  cases r with
  | error e => exact hx pins σ H s e s' I hq
  | ok fl =>
    cases fl with
    | ret u => exact I.after hq
    | next => exact False.elim hq
    | brk => exact False.elim hq
    | cont => exact False.elim hq
end
section
variable {X : Cx} {CX : CXT} {pins : List (Addr × Obj)} {σ : L2.St} {H : Hp} {s : Shared} {k : Nat} {f C : Addr} {fd : FuncData} {ps : List Str} {sp : Sp} {E : XK} {dvs : List V} {dus : List Value}
def rLenOwn (C : Addr) (sp : Sp) (E : XK) : List V → Hp → VK → Prop := fun xs H Q => ∃ a dx fs, xs = [V.ref a] ∧ Rd H a (.ins C dx fs) ∧ sp [.ref a] H (fun z H' => ∃ i : Int, z = .int i ∧ (0 ≤ i ∧ i < 2 ^ 63) ∧ Q (.int i) H') E
theorem call_lenOwn (hm : Meth X.K C "__len__" f) (F : FnOk X.prog X.w X.K X.mg X.base CX k f fd ps sp) (hr : Room (k + 1) X.A) (hb : Binds X.K fd ps []) (hx : Passes CX X E) : CallR X (.builtin "len") (rLenOwn C sp E) := by
  intro pins s σ H xs us Q I r h
  obtain ⟨a, dx, fs, rfl, ha, q⟩ := h
  obtain ⟨u, rfl, ru⟩ := r.one
  cases (show u = Value.ref a from ru)
  obtain ⟨mA, O, _⟩ := ins_getR I.hok ha
  obtain ⟨od, J, _⟩ := O.look
  obtain ⟨m, hF⟩ := I.fr
  refine PySem.W.len_K hF I.ok.mod.kin J hm.at_ hm.fn ?_
  refine wpAny_mono (run_in (us := [.ref a]) (vs := [.ref a]) F hr.in1 I.env0.in1 hb .nil hx I (.cons rfl .nil) (show sp _ H _ E from q)) (fun w s' z => ?_) fun _ _ x => x
  obtain ⟨z', H', I', rz, i, ez, hi, qz⟩ := z
  subst ez
  obtain ⟨t, e⟩ := (show ∃ t, w = Value.int i t from rz)
  subst e
  exact ⟨hi, .int i, H', I'.tok _, ⟨_, rfl⟩, qz⟩
end
/-- what may stand on the other hand -/
def kTy (T : List Str) (e : Dv) (M : Mo) (R : Prop) : Prop := match insV M e with
  | some (x, _) => x ∈ T ∧ R
  | none => match tyN M e with
    | some _ => R
    | none => False
def dEqO (T : List Str) (c : Str) (sp : SpD) (g : Bool → Bool) : R2d := fun d e M Q => match insV M d with
  | some (c', _) => c' = c ∧ kTy T e M (sp [d, e] M (fun z M' => kB z fun b => Q (.bl (g b)) M') Ed0)
  | none => False
section
variable {X : Cx} {M0 : Mo} {H0 : Hp} {k : Nat} {ps : List Str} {B : FuncData → Prop} {sp : SpD} {E : XK} {c m : Str} {T : List Str}
/-- len(o) -/
def dLenO (c : Str) (sp : SpD) : RNd := fun ds M Q => match ds with
  | [d] => match insV M d with
    | some (c', _) => c' = c ∧ sp [d] M (fun z M' => kI z fun i => (0 ≤ i ∧ i < 4611686018427387904) ∧ Q (.int i) M') Ed0
    | none => False
  | _ => False
theorem cd_lenO (F : MethD X.prog X.w X.K X.mg X.base c "__len__" k ps B sp) (hr : Room (k + 1) X.A) (hb : ∀ fd, B fd → Binds X.K fd ps []) (hx : Passes (L2.CX X.prog X.w) X (fun _ _ _ => False)) : CallR X (.builtin "len") (LNop X.K (dLenO c sp)) := by
  obtain ⟨C, f, fd, n, cl, hm, b, F⟩ := F.ex
  refine cd_I (call_lenOwn hm F hr (hb fd b) hx) fun ds M Qd xs H Q rs sr q cc => ?_
  unfold dLenO at q
  split at q
  · rename_i d
    obtain ⟨v, rfl, r⟩ := rs.one
    split at q
    · rename_i c' fs ei
      obtain ⟨rfl, q⟩ := q
      obtain ⟨a, C', dx, vfs, ev, n', hv, rr⟩ := insV_ok sr r ei
      rw [n] at n'
      cases n'
      subst ev
      refine ⟨a, dx, vfs, rfl, hv, [d], M, _, Ed0, RDs.cons r RDs.nil, sr, q, fun z M' v H' s r hz => ?_, ctx0⟩
      dsimp only [kI] at hz
      split at hz
      · exact ⟨_, r.int_of, ⟨hz.1.1, Int.lt_trans hz.1.2 (by decide)⟩, cc _ _ _ _ s .int hz.2⟩
      · exact hz.elim
    · exact q.elim
  · exact q.elim
/-- str(o) -/
def dStrO (c : Str) (sp : SpD) : RNd := fun ds M Q => match ds with
  | [d] => match insV M d with
    | some (c', _) => c' = c ∧ sp [d] M (fun z M' => kStr z fun x => Q (.str x) M') Ed0
    | none => False
  | _ => False
/-- str(i), str(x) -/
def dStrOf : RNd := fun ds M Q => match ds with
  | [.int i] => i.natAbs.log2 < 1920 ∧ Q (.str (toString i)) M
  | _ => False
end
/-! ### f-strings -/
def dFmt (te : TED) : TED := fun sd M Q => te sd M fun d M1 => match d with
  | .str y => y.length ≤ 16777216 ∧ Q (.str y) M1
  | .int i => i.natAbs.log2 < 1920 ∧ Q (.str (toString i)) M1
  | _ => False
def dJs : List TED → Str → StD → Mo → (Str → Mo → Prop) → Prop
  | [], acc, _, M, Q => Q acc M
  | t :: ts, acc, sd, M, Q => t sd M fun d M1 => match d with
    | .str y => acc.length + y.length ≤ 16777216 ∧ dJs ts (acc ++ y) sd M1 Q
    | _ => False
def dJoined (ts : List TED) : TED := fun sd M Q => dJs ts Str.empty sd M fun out M1 => Q (.str out) M1
/-! ### sorted(text) -/
/-- sorted(x) of a text -/
def onesD (cs : List Nat) : List Dv := cs.map fun c => .str ⟨#[c]⟩
def dSortX : RNd := fun ds M Q => match ds with
  | [.str x] => x.length < 64 ∧ ∀ cs : List Nat, cs.Perm x.cps.toList → cs.Pairwise (· ≤ ·) → ∀ p, M p = none → Q (.ref p) (mup M p (.lst (onesD cs)))
  | _ => False
section
variable {X : Cx}
/-- list.clear, list.reverse -/
def dClear : RMd := fun d ds M Q => match d, ds with
  | .ref a, [] => match M a with
    | some (.lst _) => Q .non (mup M a (.lst []))
    | _ => False
  | _, _ => False
def dReverse : RMd := fun d ds M Q => match d, ds with
  | .ref a, [] => match M a with
    | some (.lst xs) => Q .non (mup M a (.lst xs.reverse))
    | _ => False
  | _, _ => False
end
/-! ### steps -/
section
variable {sd : StD} {M : Mo} {Q : QD} {d e : Dv} {a : Addr} {c x : Str} {fs : List (Str × Dv)} {T : List Str} {te : TED} {sp : SpD} {g : Bool → Bool} {i : Int} {ds : List Dv} {ts : List TED} {acc : Str} {t : TED} {R : Prop} {b : Bool} {F : Str → Mo → Prop}
instance s_eqOO : Step (dEqO T c sp g (.obj c fs) e M Q) (kTy T e M (sp [.obj c fs, e] M (fun z M' => kB z fun b => Q (.bl (g b)) M') Ed0)) := ⟨fun h => ⟨rfl, h⟩⟩
theorem i_eqOR (h1 : M a = some (.ins c fs)) (h : kTy T e M (sp [.ref a, e] M (fun z M' => kB z fun b => Q (.bl (g b)) M') Ed0)) : dEqO T c sp g (.ref a) e M Q := by
  unfold dEqO insV
  simp only [h1]
  exact ⟨trivial, h⟩
instance s_tyN : Step (kTy T .non M R) R := ⟨fun h => h⟩
instance s_tyI : Step (kTy T (.int i) M R) R := ⟨fun h => h⟩
instance s_tyS : Step (kTy T (.str x) M R) R := ⟨fun h => h⟩
instance s_tyL : Step (kTy T (.lst ds) M R) R := ⟨fun h => h⟩
instance s_tyT : Step (kTy T (.tup ds) M R) R := ⟨fun h => h⟩
instance s_tyB : Step (kTy T (.bl b) M R) R := ⟨fun h => h⟩
theorem i_tyO (h1 : x ∈ T) (h : R) : kTy T (.obj x fs) M R := ⟨h1, h⟩
theorem i_tyRL (h1 : M a = some (.lst ds)) (h : R) : kTy T (.ref a) M R := by
  unfold kTy insV tyN
  simp only [h1]
  exact h
theorem i_tyRO (h1 : M a = some (.ins x fs)) (h2 : x ∈ T) (h : R) : kTy T (.ref a) M R := by
  unfold kTy insV
  simp only [h1]
  exact ⟨h2, h⟩
section
variable {R : Bool → Prop}
instance s_isoN : Step (kIsO T c .non M R) (R false) := ⟨fun h => h⟩
instance s_isoI : Step (kIsO T c (.int i) M R) (R false) := ⟨fun h => h⟩
instance s_isoS : Step (kIsO T c (.str x) M R) (R false) := ⟨fun h => h⟩
instance s_isoL : Step (kIsO T c (.lst ds) M R) (R false) := ⟨fun h => h⟩
instance s_isoT : Step (kIsO T c (.tup ds) M R) (R false) := ⟨fun h => h⟩
instance s_isoB : Step (kIsO T c (.bl b) M R) (R false) := ⟨fun h => h⟩
theorem i_isoY (h1 : c ∈ T) (h : R true) : kIsO T c (.obj c fs) M R := ⟨h1, by rw [decide_eq_true rfl]; exact h⟩
theorem i_isoNo (h1 : x ∈ T) (h2 : x ≠ c) (h : R false) : kIsO T c (.obj x fs) M R := ⟨h1, by rw [decide_eq_false h2]; exact h⟩
theorem i_isoRL (h1 : M a = some (.lst ds)) (h : R false) : kIsO T c (.ref a) M R := by
  unfold kIsO insV tyN
  simp only [h1]
  exact h
theorem i_isoRY (h1 : M a = some (.ins c fs)) (h2 : c ∈ T) (h : R true) : kIsO T c (.ref a) M R := by
  unfold kIsO insV
  simp only [h1]
  exact ⟨h2, by simpa using h⟩
end
instance s_lenOO : Step (dLenO c sp [.obj c fs] M Q) (sp [.obj c fs] M (fun z M' => kI z fun i => (0 ≤ i ∧ i < 4611686018427387904) ∧ Q (.int i) M') Ed0) := ⟨fun h => ⟨rfl, h⟩⟩
theorem i_lenOR (h1 : M a = some (.ins c fs)) (h : sp [.ref a] M (fun z M' => kI z fun i => (0 ≤ i ∧ i < 4611686018427387904) ∧ Q (.int i) M') Ed0) : dLenO c sp [.ref a] M Q := by
  unfold dLenO insV
  simp only [h1]
  exact ⟨trivial, h⟩
instance s_strOO : Step (dStrO c sp [.obj c fs] M Q) (sp [.obj c fs] M (fun z M' => kStr z fun x => Q (.str x) M') Ed0) := ⟨fun h => ⟨rfl, h⟩⟩
theorem i_strOR (h1 : M a = some (.ins c fs)) (h : sp [.ref a] M (fun z M' => kStr z fun x => Q (.str x) M') Ed0) : dStrO c sp [.ref a] M Q := by
  unfold dStrO insV
  simp only [h1]
  exact ⟨trivial, h⟩
theorem log_ok (h : -4611686018427387904 ≤ i ∧ i ≤ 4611686018427387904) : i.natAbs.log2 < 1920 := by
  have h1 : i.natAbs < 2 ^ 63 := by omega
  rcases Nat.eq_zero_or_pos i.natAbs with e | e
  · rw [e]; decide
  · have := (Nat.log2_lt (by omega)).mpr h1
    omega
theorem i_strOfI (hl : -4611686018427387904 ≤ i ∧ i ≤ 4611686018427387904) (h : Q (.str (toString i)) M) : dStrOf [.int i] M Q := ⟨log_ok hl, h⟩
def kFmt (d : Dv) (M : Mo) (Q : QD) : Prop := match d with
  | .str y => y.length ≤ 16777216 ∧ Q (.str y) M
  | .int i => i.natAbs.log2 < 1920 ∧ Q (.str (toString i)) M
  | _ => False
instance s_fmt : Step (dFmt te sd M Q) (te sd M fun d M1 => kFmt d M1 Q) := ⟨id⟩
theorem i_fmtS (hl : x.length ≤ 16777216) (h : Q (.str x) M) : kFmt (.str x) M Q := ⟨hl, h⟩
theorem i_fmtI (hl : -4611686018427387904 ≤ i ∧ i ≤ 4611686018427387904) (h : Q (.str (toString i)) M) : kFmt (.int i) M Q := ⟨log_ok hl, h⟩
def kJs (ts : List TED) (acc : Str) (sd : StD) (d : Dv) (M : Mo) (F : Str → Mo → Prop) : Prop := match d with
  | .str y => acc.length + y.length ≤ 16777216 ∧ dJs ts (acc ++ y) sd M F
  | _ => False
instance s_joined : Step (dJoined ts sd M Q) (dJs ts Str.empty sd M fun out M1 => Q (.str out) M1) := ⟨id⟩
instance s_js : Step (dJs (t :: ts) acc sd M F) (t sd M fun d M1 => kJs ts acc sd d M1 F) := ⟨id⟩
instance s_js0 : Step (dJs [] acc sd M F) (F acc M) := ⟨id⟩
theorem i_kJs (hl : acc.length + x.length ≤ 16777216) (h : dJs ts (acc ++ x) sd M F) : kJs ts acc sd (.str x) M F := ⟨hl, h⟩
theorem i_sortX (hl : x.length < 64) (h : ∀ cs : List Nat, cs.Perm x.cps.toList → cs.Pairwise (· ≤ ·) → ∀ p, M p = none → Q (.ref p) (mup M p (.lst (onesD cs)))) : dSortX [.str x] M Q := ⟨hl, h⟩
theorem i_clear (h1 : M a = some (.lst ds)) (h : Q .non (mup M a (.lst []))) : dClear (.ref a) [] M Q := by unfold dClear; simp only [h1]; exact h
theorem i_reverse (h1 : M a = some (.lst ds)) (h : Q .non (mup M a (.lst ds.reverse))) : dReverse (.ref a) [] M Q := by unfold dReverse; simp only [h1]; exact h
end
end DL
namespace DL
open PySem PySem.Spec PyProof.Rows L2
/-! ### what an owned list shows: a tree -/
inductive Vw (M : Mo) : Dv → Dv → Prop where
  | non : Vw M .non .non
  | bl (b : Bool) : Vw M (.bl b) (.bl b)
  | int (i : Int) : Vw M (.int i) (.int i)
  | str (x : Str) : Vw M (.str x) (.str x)
  | tup {ds es : List Dv} (l : ds.length = es.length) (h : ∀ (i : Nat) (d e : Dv), ds[i]? = some d → es[i]? = some e → Vw M d e) : Vw M (.tup ds) (.tup es)
  | lst {ds es : List Dv} (l : ds.length = es.length) (h : ∀ (i : Nat) (d e : Dv), ds[i]? = some d → es[i]? = some e → Vw M d e) : Vw M (.lst ds) (.lst es)
  | own {a : Addr} {ds es : List Dv} (m : M a = some (.lst ds)) (l : ds.length = es.length) (h : ∀ (i : Nat) (d e : Dv), ds[i]? = some d → es[i]? = some e → Vw M d e) : Vw M (.ref a) (.lst es)
/-- plain trees: no truths, good texts, so deep at most -/
def Pln : Nat → Dv → Prop
  | _, .non => True
  | _, .int _ => True
  | _, .str x => GoodS x
  | n + 1, .tup ds => ∀ d, d ∈ ds → Pln n d
  | n + 1, .lst ds => ∀ d, d ∈ ds → Pln n d
  | _, _ => False
noncomputable def dq (d e : Dv) : Bool := by classical exact decide (d = e)
theorem dq_iff {d e : Dv} : dq d e = true ↔ d = e := by unfold dq; simp
theorem dq_of {d e : Dv} (h : d = e) : dq d e = true := dq_iff.mpr h
theorem Pln.mono : ∀ {n m : Nat} {d : Dv}, Pln n d → n ≤ m → Pln m d
  | n, m, .non, _, _ => by cases m <;> trivial
  | n, m, .int _, _, _ => by cases m <;> trivial
  | n, m, .str x, h, _ => by
    have h' : GoodS x := by cases n <;> exact h
    cases m <;> exact h'
  | n + 1, m + 1, .tup ds, h, hm => fun d hd => (h d hd).mono (by omega)
  | n + 1, m + 1, .lst ds, h, hm => fun d hd => (h d hd).mono (by omega)
  | 0, m, .tup ds, h, _ => h.elim
  | 0, m, .lst ds, h, _ => h.elim
  | n + 1, 0, .tup ds, _, hm => by omega
  | n + 1, 0, .lst ds, _, hm => by omega
  | 0, m, .bl _, h, _ => h.elim
  | n + 1, m, .bl _, h, _ => h.elim
  | 0, m, .ty _, h, _ => h.elim
  | n + 1, m, .ty _, h, _ => h.elim
  | 0, m, .ref _, h, _ => h.elim
  | n + 1, m, .ref _, h, _ => h.elim
  | 0, m, .obj _ _, h, _ => h.elim
  | n + 1, m, .obj _ _, h, _ => h.elim
  | 0, m, .dct _, h, _ => h.elim
  | n + 1, m, .dct _, h, _ => h.elim
  | 0, m, .dctT _ _, h, _ => h.elim
  | n + 1, m, .dctT _ _, h, _ => h.elim
theorem Pln.vw {M : Mo} : ∀ {n : Nat} {d : Dv}, Pln n d → Vw M d d
  | n, .non, _ => .non
  | n, .int _, _ => .int _
  | n, .str x, _ => .str _
  | n + 1, .tup ds, h => .tup rfl fun i d e h1 h2 => by
    rw [h1] at h2
    cases h2
    exact (h d (List.mem_of_getElem? h1)).vw
  | n + 1, .lst ds, h => .lst rfl fun i d e h1 h2 => by
    rw [h1] at h2
    cases h2
    exact (h d (List.mem_of_getElem? h1)).vw
  | 0, .tup ds, h => h.elim
  | 0, .lst ds, h => h.elim
  | 0, .bl _, h => h.elim
  | n + 1, .bl _, h => h.elim
  | 0, .ty _, h => h.elim
  | n + 1, .ty _, h => h.elim
  | 0, .ref _, h => h.elim
  | n + 1, .ref _, h => h.elim
  | 0, .obj _ _, h => h.elim
  | n + 1, .obj _ _, h => h.elim
  | 0, .dct _, h => h.elim
  | n + 1, .dct _, h => h.elim
  | 0, .dctT _ _, h => h.elim
  | n + 1, .dctT _ _, h => h.elim
mutual
theorem pln_py : ∀ {n : Nat} {d : Dv}, Pln n d → ∃ p, pyD d = some p ∧ p.canLay0 = true ∧ p.depth ≤ n
  | n, .non, _ => ⟨.none, by unfold pyD; rfl, rfl, by show 0 ≤ n; omega⟩
  | n, .int i, _ => ⟨.int i, by unfold pyD; rfl, rfl, by show 0 ≤ n; omega⟩
  | n, .str x, h => ⟨.str x, by unfold pyD; rfl, goodS_ok (by cases n <;> exact h), by show 0 ≤ n; omega⟩
  | n + 1, .tup ds, h => by
    obtain ⟨ps, e, h1, h2⟩ := plns_py (n := n) (ds := ds) h
    exact ⟨.tuple ps, by unfold pyD; rw [e]; rfl, by unfold PyData.canLay0; exact h1, by unfold PyData.depth; omega⟩
  | n + 1, .lst ds, h => by
    obtain ⟨ps, e, h1, h2⟩ := plns_py (n := n) (ds := ds) h
    exact ⟨.list ps, by unfold pyD; rw [e]; rfl, by unfold PyData.canLay0; exact h1, by unfold PyData.depth; omega⟩
  | 0, .tup ds, h => h.elim
  | 0, .lst ds, h => h.elim
  | 0, .bl _, h => h.elim
  | n + 1, .bl _, h => h.elim
  | 0, .ty _, h => h.elim
  | n + 1, .ty _, h => h.elim
  | 0, .ref _, h => h.elim
  | n + 1, .ref _, h => h.elim
  | 0, .obj _ _, h => h.elim
  | n + 1, .obj _ _, h => h.elim
  | 0, .dct _, h => h.elim
  | n + 1, .dct _, h => h.elim
  | 0, .dctT _ _, h => h.elim
  | n + 1, .dctT _ _, h => h.elim
theorem plns_py : ∀ {n : Nat} {ds : List Dv}, (∀ d, d ∈ ds → Pln n d) → ∃ ps, pyDs ds = some ps ∧ PyData.canLayAll0 ps = true ∧ PyData.depthAll ps ≤ n
  | n, [], _ => ⟨[], by unfold pyDs; rfl, rfl, by show 0 ≤ n; omega⟩
  | n, d :: ds, h => by
    obtain ⟨p, e1, h1, h2⟩ := pln_py (h d List.mem_cons_self)
    obtain ⟨ps, e2, h3, h4⟩ := plns_py (n := n) (ds := ds) fun e he => h e (List.mem_cons_of_mem _ he)
    exact ⟨p :: ps, by unfold pyDs; rw [e1, e2], by unfold PyData.canLayAll0; rw [h1, h3]; rfl, by unfold PyData.depthAll; omega⟩
end
theorem pyD_atom : pyD .non = some .none ∧ (∀ i, pyD (.int i) = some (.int i)) ∧ (∀ x, pyD (.str x) = some (.str x)) := ⟨by unfold pyD; rfl, fun i => by unfold pyD; rfl, fun x => by unfold pyD; rfl⟩
theorem pyD_tup {ds : List Dv} {p : PyData} (h : pyD (.tup ds) = some p) : ∃ ps, pyDs ds = some ps ∧ p = .tuple ps := by
  unfold pyD at h
  cases e : pyDs ds with
  | none => rw [e] at h; cases h
  | some ps => rw [e] at h; cases h; exact ⟨ps, rfl, rfl⟩
theorem pyD_lst {ds : List Dv} {p : PyData} (h : pyD (.lst ds) = some p) : ∃ ps, pyDs ds = some ps ∧ p = .list ps := by
  unfold pyD at h
  cases e : pyDs ds with
  | none => rw [e] at h; cases h
  | some ps => rw [e] at h; cases h; exact ⟨ps, rfl, rfl⟩
/-- the kind of a plain thing -/
inductive PK : Nat → Dv → PyData → Prop where
  | non {n : Nat} : PK n .non .none
  | int {n : Nat} (i : Int) : PK n (.int i) (.int i)
  | str {n : Nat} (x : Str) : PK n (.str x) (.str x)
  | tup {n : Nat} {ds : List Dv} {ps : List PyData} (h : ∀ d, d ∈ ds → Pln n d) (e : pyDs ds = some ps) : PK (n + 1) (.tup ds) (.tuple ps)
  | lst {n : Nat} {ds : List Dv} {ps : List PyData} (h : ∀ d, d ∈ ds → Pln n d) (e : pyDs ds = some ps) : PK (n + 1) (.lst ds) (.list ps)
theorem Pln.kind {n : Nat} {d : Dv} {p : PyData} (h : Pln n d) (e : pyD d = some p) : PK n d p := by
  cases d with
  | non => rw [pyD_atom.1] at e; cases e; exact .non
  | int i => rw [pyD_atom.2.1] at e; cases e; exact .int i
  | str i => rw [pyD_atom.2.2] at e; cases e; exact .str i
  | tup ds =>
    obtain ⟨ps, e1, rfl⟩ := pyD_tup e
    cases n with
    | zero => exact h.elim
    | succ n => exact .tup h e1
  | lst ds =>
    obtain ⟨ps, e1, rfl⟩ := pyD_lst e
    cases n with
    | zero => exact h.elim
    | succ n => exact .lst h e1
  | _ => cases n <;> exact h.elim
theorem plns_eqv {P : Dv → Prop} (ih : ∀ d e p q, P d → pyD d = some p → pyD e = some q → (∃ m, Pln m e) → (PyData.eqv p q = true ↔ d = e)) : ∀ (ds es : List Dv) (ps qs : List PyData), (∀ d, d ∈ ds → P d) → (∀ e, e ∈ es → ∃ m, Pln m e) → pyDs ds = some ps → pyDs es = some qs → (PyData.eqvAll ps qs = true ↔ ds = es)
  | [], [], ps, qs, _, _, h1, h2 => by
    unfold pyDs at h1 h2
    cases h1; cases h2
    exact ⟨fun _ => rfl, fun _ => rfl⟩
  | [], e :: es, ps, qs, _, _, h1, h2 => by
    unfold pyDs at h1 h2
    cases h1
    split at h2
    · cases h2
      exact ⟨fun z => by simp [PyData.eqvAll] at z, fun z => by cases z⟩
    · cases h2
  | d :: ds, [], ps, qs, _, _, h1, h2 => by
    unfold pyDs at h1 h2
    cases h2
    split at h1
    · cases h1
      exact ⟨fun z => by simp [PyData.eqvAll] at z, fun z => by cases z⟩
    · cases h1
  | d :: ds, e :: es, ps, qs, hd, he, h1, h2 => by
    unfold pyDs at h1 h2
    split at h1
    · rename_i p ps' a1 a2
      cases h1
      split at h2
      · rename_i q qs' b1 b2
        cases h2
        have r1 := ih d e p q (hd d List.mem_cons_self) a1 b1 (he e List.mem_cons_self)
        have r2 := plns_eqv ih ds es ps' qs' (fun x hx => hd x (List.mem_cons_of_mem _ hx)) (fun x hx => he x (List.mem_cons_of_mem _ hx)) a2 b2
        simp only [PyData.eqvAll, Bool.and_eq_true, List.cons.injEq]
        rw [r1, r2]
      · cases h2
    · cases h1
theorem pln_eqv : ∀ (n : Nat) (d e : Dv) (p q : PyData), Pln n d → pyD d = some p → pyD e = some q → (∃ m, Pln m e) → (PyData.eqv p q = true ↔ d = e)
  | n, d, e, p, q, h1, a1, a2, ⟨m, h2⟩ => by
    have k1 := h1.kind a1
    have k2 := h2.kind a2
    clear h1 h2 a1 a2
    cases k1 with
    | non => cases k2 <;> simp [PyData.eqv]
    | int i => cases k2 <;> simp [PyData.eqv]
    | str x => cases k2 <;> simp [PyData.eqv]
    | tup hd e1 =>
      cases k2 with
      | tup he e2 =>
        rename_i n ds ps m es qs
        have := plns_eqv (P := Pln n) (fun d e p q h a1 a2 h2 => pln_eqv n d e p q h a1 a2 h2) ds es ps qs hd (fun e h => ⟨_, he e h⟩) e1 e2
        simp only [PyData.eqv, Dv.tup.injEq]
        exact this
      | _ => simp [PyData.eqv]
    | lst hd e1 =>
      cases k2 with
      | lst he e2 =>
        rename_i n ds ps m es qs
        have := plns_eqv (P := Pln n) (fun d e p q h a1 a2 h2 => pln_eqv n d e p q h a1 a2 h2) ds es ps qs hd (fun e h => ⟨_, he e h⟩) e1 e2
        simp only [PyData.eqv, Dv.lst.injEq]
        exact this
      | _ => simp [PyData.eqv]
theorem Pln.shp {n : Nat} {d : Dv} (h : Pln n d) (hn : n ≤ 64) : ∃ p, pyD d = some p ∧ SeqAt.shaped p = true := by
  obtain ⟨p, e, h1, h2⟩ := pln_py h
  exact ⟨p, e, by unfold SeqAt.shaped; rw [h1, decide_eq_true (by omega)]; rfl⟩
theorem pln_dq {n m : Nat} {d e : Dv} {p q : PyData} (h1 : Pln n d) (h2 : Pln m e) (a1 : pyD d = some p) (a2 : pyD e = some q) : PyData.eqv p q = dq d e := by
  have := pln_eqv n d e p q h1 a1 a2 ⟨m, h2⟩
  rw [Bool.eq_iff_iff, this, dq_iff]
/-- what is seen of a thing, as the library's data -/
theorem vw_py {K : PySem.W.Frag} {M : Mo} {H : Hp} (s : SR K M H) {d e : Dv} (w : Vw M d e) : ∀ {v : V} {p : PyData}, RD K H d v → pyD e = some p → Dp K H v p := by
  have all : ∀ (ds es : List Dv) (vs : List V) (ps : List PyData), ds.length = es.length → (∀ (i : Nat) (d e : Dv), ds[i]? = some d → es[i]? = some e → ∀ {v : V} {p : PyData}, RD K H d v → pyD e = some p → Dp K H v p) → RDs K H ds vs → pyDs es = some ps → DpAll K H vs ps := by
    intro ds
    induction ds with
    | nil =>
      intro es vs ps l _ r e
      cases es with
      | nil =>
        unfold RDs at r
        unfold pyDs at e
        subst r
        cases e
        exact .nil
      | cons _ _ => simp at l
    | cons d ds ih =>
      intro es vs ps l h r e
      cases es with
      | nil => simp at l
      | cons x es =>
        unfold RDs at r
        obtain ⟨v, w, rfl, r1, r2⟩ := r
        unfold pyDs at e
        split at e
        · rename_i p ps' a1 a2
          cases e
          exact .cons (h 0 d x rfl rfl r1 a1) (ih es w ps' (by simpa using l) (fun i d e h1 h2 => h (i + 1) d e (by simpa using h1) (by simpa using h2)) r2 a2)
        · cases e
  induction w with
  | non => intro v p r h; unfold pyD at h; cases h; rw [r.non_of]; exact .non
  | bl b => intro v p r h; unfold pyD at h; cases h; rw [r.bl_of]; exact .bl b
  | int i => intro v p r h; unfold pyD at h; cases h; rw [r.int_of]; exact .int i
  | str x => intro v p r h; unfold pyD at h; cases h; rw [r.str_of]; exact .str x
  | tup l h ih =>
    intro v p r e
    obtain ⟨ps, e1, rfl⟩ := pyD_tup e
    unfold RD at r
    obtain ⟨a, vs, rfl, sq, q⟩ := r
    exact .tup sq (all _ _ _ _ l ih q e1)
  | lst l h ih =>
    intro v p r e
    obtain ⟨ps, e1, rfl⟩ := pyD_lst e
    unfold RD at r
    obtain ⟨a, vs, rfl, sq, q⟩ := r
    exact .lst sq.seq (all _ _ _ _ l ih q e1)
  | own m l h ih =>
    intro v p r e
    obtain ⟨ps, e1, rfl⟩ := pyD_lst e
    have o := s _ _ m
    simp only [Own] at o
    obtain ⟨vs, hv, q⟩ := o
    rw [r.ref_of]
    exact .lst (.inl (.inl hv)) (all _ _ _ _ l ih q e1)
section
variable {M : Mo} {Q : QD} {d e d' e' : Dv} {a p : Addr} {ds es : List Dv} {o : OO}
/-- shown trees, piece by piece -/
inductive VwL (M : Mo) : List Dv → List Dv → Prop where
  | nil : VwL M [] []
  | cons {d e : Dv} {ds es : List Dv} (h : Vw M d e) (r : VwL M ds es) : VwL M (d :: ds) (e :: es)
theorem VwL.len {M : Mo} {ds es : List Dv} (h : VwL M ds es) : ds.length = es.length := by
  induction h with
  | nil => rfl
  | cons h r ih => simp [ih]
theorem VwL.at {M : Mo} {ds es : List Dv} (h : VwL M ds es) : ∀ (i : Nat) (d e : Dv), ds[i]? = some d → es[i]? = some e → Vw M d e := by
  induction h with
  | nil => intro i d e h; simp at h
  | cons h r ih =>
    intro i d e h1 h2
    cases i with
    | zero => simp at h1 h2; subst h1; subst h2; exact h
    | succ i => exact ih i d e (by simpa using h1) (by simpa using h2)
theorem VwL.lst {M : Mo} {ds es : List Dv} (h : VwL M ds es) : Vw M (.lst ds) (.lst es) := .lst h.len h.at
theorem VwL.tup {M : Mo} {ds es : List Dv} (h : VwL M ds es) : Vw M (.tup ds) (.tup es) := .tup h.len h.at
theorem VwL.own {M : Mo} {a : Addr} {ds es : List Dv} (m : M a = some (.lst ds)) (h : VwL M ds es) : Vw M (.ref a) (.lst es) := .own m h.len h.at
theorem pln_nil {n : Nat} : ∀ d, d ∈ ([] : List Dv) → Pln n d := fun d hd => by cases hd
theorem pln_cons {n : Nat} {e : Dv} {ds : List Dv} (h : Pln n e) (r : ∀ d, d ∈ ds → Pln n d) : ∀ d, d ∈ e :: ds → Pln n d := fun d hd => by
  rcases List.mem_cons.mp hd with rfl | hd
  · exact h
  · exact r d hd
/-- what is seen, later on -/
theorem Vw.to {M M' : Mo} {d e : Dv} (h : Vw M d e) (s : ∀ a ds, M a = some (.lst ds) → M' a = some (.lst ds)) : Vw M' d e := by
  induction h with
  | non => exact .non
  | bl b => exact .bl b
  | int i => exact .int i
  | str x => exact .str x
  | tup l h ih => exact .tup l ih
  | lst l h ih => exact .lst l ih
  | own m l h ih => exact .own (s _ _ m) l ih
theorem Vw.new (h : Vw M d e) (hp : M p = none) : Vw (mup M p o) d e := h.to fun a ds q => by rw [mup_ne (mne2 hp q)]; exact q
theorem Vw.ins {c : Str} {fs : List (Str × Dv)} (h : Vw M d e) (hp : M p = some (.ins c fs)) : Vw (mup M p o) d e := h.to fun a ds q => by
  have : a ≠ p := fun z => by subst z; rw [hp] at q; cases q
  rw [mup_ne this]; exact q
end
/-! comprehensions over a list that may be owned -/
section
variable {M : Mo} {ds : List Dv} {g : Tgt} {tt : TTD} {te : TED} {sw : StD} {F : List Dv → Mo → Prop} {i : Nat} {d y : Dv} {ok : Mo → Prop}
theorem lk_mapO (f : Dv → Dv) (hn : ds.length ≤ 16777216) (hok : ok M)
    (hs : ∀ i d, ds[i]? = some d → dG g d sw M fun sd2 M2 => tt sd2 M2 fun b M3 => if b = true then te sd2 M3 fun y M4 => M4 = M ∧ (ds.take i).map f ++ [y] = (ds.take (i + 1)).map f else M3 = M ∧ (ds.take i).map f = (ds.take (i + 1)).map f) (hd : F (ds.map f) M) : kLc ⟨ds, ok⟩ g tt te sw F M := by
  refine ⟨hn, fun i acc M' => M' = M ∧ acc = (ds.take i).map f, ⟨rfl, by simp⟩, fun _ _ _ _ h => by rw [h.1]; exact hok, fun i d acc M' h1 h2 => ?_, fun acc M' h1 h2 => ?_⟩
  · rintro ⟨rfl, rfl⟩
    exact hs i d h1
  · obtain ⟨rfl, rfl⟩ := h2
    rw [List.take_of_length_le (Nat.le_refl _)]
    exact hd
theorem lt_ {es : List Dv} {e : Dv} (h : es[i]? = some e) : es.take i ++ [e] = es.take (i + 1) := by rw [List.take_add_one, h]; rfl
/-- the list that comes of it is told -/
theorem lk_toO (es : List Dv) (hl : ds.length = es.length) (hn : ds.length ≤ 16777216) (hok : ok M)
    (hs : ∀ i d e, ds[i]? = some d → es[i]? = some e → dG g d sw M fun sd2 M2 => tt sd2 M2 fun b M3 => if b = true then te sd2 M3 fun y M4 => M4 = M ∧ es.take i ++ [y] = es.take (i + 1) else M3 = M ∧ es.take i = es.take (i + 1)) (hd : F es M) : kLc ⟨ds, ok⟩ g tt te sw F M := by
  refine ⟨hn, fun i acc M' => M' = M ∧ acc = es.take i, ⟨rfl, by simp⟩, fun _ _ _ _ h => by rw [h.1]; exact hok, fun i d acc M' h1 h2 => ?_, fun acc M' h1 h2 => ?_⟩
  · rintro ⟨rfl, rfl⟩
    have hi : i < ds.length := (List.getElem?_eq_some_iff.mp h1).1
    exact hs i d _ h1 (List.getElem?_eq_getElem (by omega))
  · obtain ⟨rfl, rfl⟩ := h2
    have e : es.take (ItD.mk ds ok).ds.length = es := List.take_of_length_le (by show es.length ≤ ds.length; omega)
    rw [e]
    exact hd
end
theorem idx_get {l : List Nat} {c : Nat} (h : c ∈ l) : l[l.idxOf c]? = some c := by
  have hi := List.idxOf_lt_length_of_mem h
  rw [List.getElem?_eq_getElem hi, List.getElem_idxOf]
theorem idx_first {l : List Nat} {c j : Nat} (hj : j < l.idxOf c) : l[j]? ≠ some c := fun e => by
  have := List.not_of_lt_findIdx hj
  obtain ⟨hj2, e2⟩ := List.getElem?_eq_some_iff.mp e
  simp [e2] at this
/-! loops that keep the store -/
section
variable {ds : List Dv} {g : TGD} {tb : TSD} {a : StD → Mo → Prop} {r : QD} {sd : StD} {M : Mo} {ok : Mo → Prop}
theorem fo_anyK (W : Nat → StD → Prop) (hok : ok M) (h0 : W 0 sd)
    (hs : ∀ i d sd, ds[i]? = some d → W i sd → g d sd M fun sd2 M2 => tb ⟨fun sd M' => W (i + 1) sd ∧ M' = M, r, a, fun sd M' => W (i + 1) sd ∧ M' = M⟩ sd2 M2) (hd : ∀ sd, W ds.length sd → a sd M) :
    kFor ⟨ds, ok⟩ g tb a r sd M :=
  ⟨fun i sd M' => W i sd ∧ M' = M, ⟨h0, rfl⟩, fun _ _ _ _ h => by rw [h.2]; exact hok, fun i d sd M' he hw => by obtain ⟨hw, rfl⟩ := hw; exact hs i d sd he hw, fun sd M' hw => by obtain ⟨hw, rfl⟩ := hw; exact hd sd hw⟩
end
theorem tyN_seq {M : Mo} {d : Dv} {ds : List Dv} (h : seqL M d = some ds) : tyN M d = some "list" := by
  cases d with
  | lst xs => rfl
  | ref a =>
    unfold seqL at h
    dsimp only at h
    split at h
    · rename_i e
      unfold tyN
      simp only [e]
    · cases h
  | _ => cases h
theorem kSqG {M : Mo} {d : Dv} {ds : List Dv} {F : List Dv → (Mo → Prop) → Prop} (h : seqL M d = some ds) (q : ∀ ok, ok M → F ds ok) : kSq M d F := by
  cases d with
  | lst xs => cases h; exact q _ trivial
  | ref a =>
    unfold seqL at h
    dsimp only at h
    split at h
    · rename_i e
      cases h
      unfold kSq
      simp only [e]
      exact q _ e
    · cases h
  | _ => cases h
theorem seq_ins {M : Mo} {d : Dv} {ds : List Dv} {p : Addr} {o : OO} {c : Str} {fs : List (Str × Dv)} (h : seqL M d = some ds) (hp : M p = some (.ins c fs)) : seqL (mup M p o) d = some ds := by
  cases d with
  | lst xs => exact h
  | ref a =>
    unfold seqL at h ⊢
    dsimp only at h ⊢
    split at h
    · rename_i e
      have : a ≠ p := fun z => by subst z; rw [hp] at e; cases e
      rw [mup_ne this, e]
      exact h
    · cases h
  | _ => cases h
theorem vw_str {M : Mo} {d : Dv} {x : Str} (h : Vw M d (.str x)) : d = .str x := by cases h; rfl
theorem vw_int {M : Mo} {d : Dv} {i : Int} (h : Vw M d (.int i)) : d = .int i := by cases h; rfl
theorem vw_tup {M : Mo} {d : Dv} {es : List Dv} (h : Vw M d (.tup es)) : ∃ ds, d = .tup ds ∧ VwL M ds es := by
  cases h with
  | @tup ds _ l h =>
    refine ⟨ds, rfl, ?_⟩
    have go : ∀ (ds es : List Dv), ds.length = es.length → (∀ (i : Nat) d e, ds[i]? = some d → es[i]? = some e → Vw M d e) → VwL M ds es := by
      intro ds
      induction ds with
      | nil => intro es l h; cases es with
        | nil => exact .nil
        | cons _ _ => simp at l
      | cons d ds ih => intro es l h; cases es with
        | nil => simp at l
        | cons e es => exact .cons (h 0 d e rfl rfl) (ih es (by simpa using l) fun i d e h1 h2 => h (i + 1) d e (by simpa using h1) (by simpa using h2))
    exact go ds es l h
theorem vw_lst {M : Mo} {d : Dv} {es : List Dv} (h : Vw M d (.lst es)) : ∃ ds, seqL M d = some ds ∧ VwL M ds es := by
  have go : ∀ (ds es : List Dv), ds.length = es.length → (∀ (i : Nat) d e, ds[i]? = some d → es[i]? = some e → Vw M d e) → VwL M ds es := by
    intro ds
    induction ds with
    | nil => intro es l h; cases es with
      | nil => exact .nil
      | cons _ _ => simp at l
    | cons d ds ih => intro es l h; cases es with
      | nil => simp at l
      | cons e es => exact .cons (h 0 d e rfl rfl) (ih es (by simpa using l) fun i d e h1 h2 => h (i + 1) d e (by simpa using h1) (by simpa using h2))
  cases h with
  | @lst ds _ l h => exact ⟨ds, rfl, go ds es l h⟩
  | @own a ds _ m l h => exact ⟨ds, e_seqR m, go ds es l h⟩
theorem vwl_two {M : Mo} {ds : List Dv} {a b : Dv} (h : VwL M ds [a, b]) : ∃ x y, ds = [x, y] ∧ Vw M x a ∧ Vw M y b := by
  cases h with
  | cons h r => cases r with
    | cons h2 r => cases r; exact ⟨_, _, rfl, h, h2⟩
theorem VwL.get {M : Mo} {ds es : List Dv} (h : VwL M ds es) {i : Nat} {d : Dv} (hd : ds[i]? = some d) : ∃ e, es[i]? = some e ∧ Vw M d e := by
  have hi := (List.getElem?_eq_some_iff.mp hd).1
  have l := h.len
  exact ⟨es[i], List.getElem?_eq_getElem (by omega), h.at i d _ hd (List.getElem?_eq_getElem (by omega))⟩
/-- trees without lists are seen as they are -/
theorem vwl_eq {M : Mo} {ds es : List Dv} (h : VwL M ds es) (he : ∀ d e, e ∈ es → Vw M d e → d = e) : ds = es := by
  induction h with
  | nil => rfl
  | cons h r ih =>
    rw [he _ _ List.mem_cons_self h, ih fun d e hm hv => he d e (List.mem_cons_of_mem _ hm) hv]
theorem VwL.to {M M' : Mo} {ds es : List Dv} (h : VwL M ds es) (s : ∀ a ds, M a = some (.lst ds) → M' a = some (.lst ds)) : VwL M' ds es := by
  induction h with
  | nil => exact .nil
  | cons h r ih => exact .cons (h.to s) ih
theorem VwL.new {M : Mo} {p : Addr} {o : OO} {ds es : List Dv} (h : VwL M ds es) (hp : M p = none) : VwL (mup M p o) ds es := h.to fun a ds q => by rw [mup_ne (mne2 hp q)]; exact q
theorem VwL.snoc {M : Mo} {ds es : List Dv} {d e : Dv} (h : VwL M ds es) (h2 : Vw M d e) : VwL M (ds ++ [d]) (es ++ [e]) := by
  induction h with
  | nil => exact .cons h2 .nil
  | cons h r ih => exact .cons h ih
end DL
namespace DL
open PySem PySem.Spec PyProof.Rows L2
/-! ### a list of ints -/
def intsOf : List Dv → Option (List Int)
  | [] => some []
  | .int i :: ds => (intsOf ds).map (i :: ·)
  | _ => none
/-! ### max(xs, default=d) -/
/-! ### set(xs) of ints -/
/-! ### xs.extend(ys), ys a list of any sort -/
def dExtL : RMd := fun d ds M Q => match d, ds with
  | .ref a, [e] => match M a, seqL M e with
    | some (.lst xs), some ys => xs.length + ys.length ≤ 16777216 ∧ Q .non (mup M a (.lst (xs ++ ys)))
    | _, _ => False
  | _, _ => False
theorem i_extL {M : Mo} {Q : QD} {a : Addr} {d : Dv} {xs ys : List Dv} (h1 : M a = some (.lst xs)) (h2 : seqL M d = some ys) (h3 : xs.length + ys.length ≤ 16777216) (q : Q .non (mup M a (.lst (xs ++ ys)))) : dExtL (.ref a) [d] M Q := by
  unfold dExtL
  simp only [h1, h2]
  exact ⟨h3, q⟩
/-! ### the data layer's rules -/
section
variable {X : Cx} {M0 : Mo} {H0 : Hp} {x : Str} {p pos : Pos} {e : Expr} {es : List Expr} {kws : List Keyword} {t tk : TAD} {ks : List Str} {id : String}
/-- a built-in called with keywords -/
abbrev RKd := List Dv → List Dv → Mo → QD → Prop
def dCK (rd : RKd) (t tk : TAD) : TED := fun sd M Q => t sd M fun ds M1 => tk sd M1 fun es M2 => rd ds es M2 Q
/-- sorted(set(xs)) of ints -/
def kSortSet (d : Dv) (M : Mo) (Q : QD) : Prop := match (seqL M d).bind intsOf with
  | some ns => ns.length < 64 ∧ ∀ ms : List Int, ms.Pairwise (· < ·) → (∀ k, k ∈ ms ↔ k ∈ ns) → ∀ p, M p = none → Q (.ref p) (mup M p (.lst (ms.map .int)))
  | none => False
def dSortSet (t : TED) : TED := fun sd M Q => t sd M fun d M1 => kSortSet d M1 Q
/-- list(range(n)) -/
def kListRg (d : Dv) (M : Mo) (Q : QD) : Prop := match d with
  | .int n => 0 ≤ n ∧ n ≤ 16777216 ∧ ∀ p, M p = none → Q (.ref p) (mup M p (.lst ((List.range n.toNat).map fun i => Dv.int (i : Nat))))
  | _ => False
def dListRg (t : TED) : TED := fun sd M Q => t sd M fun d M1 => kListRg d M1 Q
end
section
variable {sd : StD} {M : Mo} {Q : QD} {d : Dv} {ds : List Dv} {ns : List Int} {t : TED} {ta tk : TAD}
instance s_sortSet : Step (dSortSet t sd M Q) (t sd M fun d M1 => kSortSet d M1 Q) := ⟨id⟩
instance s_listRg : Step (dListRg t sd M Q) (t sd M fun d M1 => kListRg d M1 Q) := ⟨id⟩
instance s_ck {rd : RKd} : Step (dCK rd ta tk sd M Q) (ta sd M fun ds M1 => tk sd M1 fun es M2 => rd ds es M2 Q) := ⟨id⟩
end
end DL
namespace DL
open PySem PySem.Spec PyProof.Rows L2
/-! ### xs == ys of two lists, item by item, by any ==; the first unlike ones end it -/
/-! ### the same value shows the same tree -/
theorem relV_inj {x y : V} {u : Value} (a : RelV x u) (b : RelV y u) : x = y := by
  cases x <;> cases y <;> (unfold L2.RelV at a b) <;> first
    | rfl
    | (obtain ⟨t, a⟩ := a; obtain ⟨t', b⟩ := b; rw [a] at b; cases b <;> rfl)
    | (obtain ⟨t, a⟩ := a; rw [a] at b; cases b)
    | (obtain ⟨t', b⟩ := b; rw [a] at b; cases b)
    | (rw [a] at b; cases b <;> rfl)
theorem vals_inj : ∀ {xs ys : List V} {us : List Value}, Vals xs us → Vals ys us → xs = ys
  | _, _, _, .nil, .nil => rfl
  | _, _, _, .cons a r, .cons b t => by rw [relV_inj a b, vals_inj r t]
/-- trees of one shape -/
inductive Shp : Dv → Dv → Prop where
  | non : Shp .non .non
  | bl (a b : Bool) : Shp (.bl a) (.bl b)
  | int (i j : Int) : Shp (.int i) (.int j)
  | str (x y : Str) : Shp (.str x) (.str y)
  | lst {ds es : List Dv} (h : ∀ (i : Nat) d e, ds[i]? = some d → es[i]? = some e → Shp d e) : Shp (.lst ds) (.lst es)
  | obj {c : Str} {fs gs : List (Str × Dv)} (h : ∀ (i : Nat) (x y : Str × Dv), fs[i]? = some x → gs[i]? = some y → Shp x.2 y.2) : Shp (.obj c fs) (.obj c gs)
theorem rds_inj {K : PySem.W.Frag} {H : Hp} : ∀ {ds es : List Dv} {vs : List V}, (∀ (i : Nat) d e, ds[i]? = some d → es[i]? = some e → ∀ v, RD K H d v → RD K H e v → d = e) → RDs K H ds vs → RDs K H es vs → ds = es
  | [], [], _, _, _, _ => rfl
  | [], e :: es, vs, _, r, r' => by
    rw [r.zero] at r'
    unfold RDs at r'
    obtain ⟨v, w, z, _⟩ := r'
    cases z
  | d :: ds, [], vs, _, r, r' => by
    rw [r'.zero] at r
    unfold RDs at r
    obtain ⟨v, w, z, _⟩ := r
    cases z
  | d :: ds, e :: es, vs, h, r, r' => by
    unfold RDs at r r'
    obtain ⟨v, w, rfl, r1, r2⟩ := r
    obtain ⟨v', w', z, r1', r2'⟩ := r'
    cases z
    rw [h 0 d e rfl rfl v r1 r1', rds_inj (fun i d e h1 h2 => h (i + 1) d e (by simpa using h1) (by simpa using h2)) r2 r2']
theorem rdf_inj {K : PySem.W.Frag} {H : Hp} : ∀ {fs gs : List (Str × Dv)} {vs : List (Str × V)}, (∀ (i : Nat) x y, fs[i]? = some x → gs[i]? = some y → ∀ v, RD K H x.2 v → RD K H y.2 v → x.2 = y.2) → RDf K H fs vs → RDf K H gs vs → fs = gs
  | [], [], _, _, _, _ => rfl
  | [], (f, e) :: es, vs, _, r, r' => by
    unfold RDf at r r'
    subst r
    obtain ⟨v, w, z, _⟩ := r'
    cases z
  | (f, d) :: ds, [], vs, _, r, r' => by
    unfold RDf at r r'
    subst r'
    obtain ⟨v, w, z, _⟩ := r
    cases z
  | (f, d) :: ds, (g, e) :: es, vs, h, r, r' => by
    unfold RDf at r r'
    obtain ⟨v, w, rfl, r1, r2⟩ := r
    obtain ⟨v', w', z, r1', r2'⟩ := r'
    cases z
    have e1 : d = e := h 0 (f, d) (f, e) rfl rfl v r1 r1'
    rw [e1, rdf_inj (fun i x y h1 h2 => h (i + 1) x y (by simpa using h1) (by simpa using h2)) r2 r2']
theorem RD.inj {X : Cx} {pins : List (Addr × Obj)} {σ : L2.St} {H : Hp} {s : Shared} (I : Inv X pins σ H s) {d e : Dv} (h : Shp d e) : ∀ v, RD X.K H d v → RD X.K H e v → d = e := by
  induction h with
  | non => intro v _ _; rfl
  | bl a b => intro v r r'; have z := r.bl_of.symm.trans r'.bl_of; cases z; rfl
  | int i j => intro v r r'; have z := r.int_of.symm.trans r'.int_of; cases z; rfl
  | str x y => intro v r r'; have z := r.str_of.symm.trans r'.str_of; cases z; rfl
  | lst h ih =>
    intro v r r'
    unfold RD at r r'
    obtain ⟨a, vs, rfl, q, rr⟩ := r
    obtain ⟨b, ws, z, q', rr'⟩ := r'
    cases z
    obtain ⟨its, w1, ⟨o, n, g, c1, c2, c3⟩, _⟩ := I.list q.seq
    obtain ⟨its', w1', ⟨o', n', g', c1', c2', c3'⟩, _⟩ := I.list q'.seq
    rw [g] at g'
    cases g'
    rw [c3] at c3'
    cases c3'
    have e := vals_inj w1 w1'
    subst e
    rw [rds_inj ih rr rr']
  | obj h ih =>
    intro v r r'
    unfold RD at r r'
    obtain ⟨a, o, C, dx, vfs, rfl, n, g, rr⟩ := r
    obtain ⟨b, o', C', dx', vfs', z, n', g', rr'⟩ := r'
    cases z
    rw [g] at g'
    cases g'
    rw [rdf_inj ih rr rr']
/-! ### == of two lists of instances of one own class with its own == -/
end DL
namespace DL
open PySem PySem.Spec PyProof.Rows L2
/-! ### a, b = x, y with plain local names -/
def kTwo (ds : List Dv) (R : Dv → Dv → Prop) : Prop := match ds with
  | [d, e] => R d e
  | _ => False
def kThree (ds : List Dv) (R : Dv → Dv → Dv → Prop) : Prop := match ds with
  | [d, e, f] => R d e f
  | _ => False
def dPar2 (i j : Nat) (ta : TAD) : TSD := fun D sd M => ta sd M fun ds M1 => kTwo ds fun d e => gN i d sd M1 fun sd1 M2 => gN j e sd1 M2 D.nx
def dPar3 (i j l : Nat) (ta : TAD) : TSD := fun D sd M => ta sd M fun ds M1 => kThree ds fun d e f => gN i d sd M1 fun sd1 M2 => gN j e sd1 M2 fun sd2 M3 => gN l f sd2 M3 D.nx
section
variable {sd : StD} {M : Mo} {D : EndsD} {i j l : Nat} {ta : TAD} {d e f : Dv} {R : Dv → Dv → Prop} {R3 : Dv → Dv → Dv → Prop}
instance s_par2 {a b : StD → Mo → Prop} {r : QD} {c : StD → Mo → Prop} : Step (dPar2 i j ta ⟨a, r, b, c⟩ sd M) (ta sd M fun ds M1 => kTwo ds fun d e => gN i d sd M1 fun sd1 M2 => gN j e sd1 M2 a) := ⟨id⟩
instance s_par3 {a b : StD → Mo → Prop} {r : QD} {c : StD → Mo → Prop} : Step (dPar3 i j l ta ⟨a, r, b, c⟩ sd M) (ta sd M fun ds M1 => kThree ds fun d e f => gN i d sd M1 fun sd1 M2 => gN j e sd1 M2 fun sd2 M3 => gN l f sd2 M3 a) := ⟨id⟩
instance s_kTwo : Step (kTwo [d, e] R) (R d e) := ⟨id⟩
instance s_kThree : Step (kThree [d, e, f] R3) (R3 d e f) := ⟨id⟩
end
/-! ### o.f += e, of ints -/
def kAugS (c f : Str) (i : Int) (nx : StD → Mo → Prop) (sd : StD) (a : Addr) (M : Mo) : Prop := match M a with
  | some (.ins c2 fs) => c2 = c ∧ fs.length < 1000 ∧ nx sd (mup M a (.ins c (putD f (.int i) fs)))
  | _ => False
def kAugF (T : List (Str × Str)) (f : Str) (te : TED) (nx : StD → Mo → Prop) (sd : StD) (o : Dv) (M : Mo) : Prop := match o with
  | .ref a => match M a with
    | some (.ins c fs) => (c, f) ∈ T ∧ match fs.lookup f with
      | some (.int i) => te sd M fun y M2 => match y with
        | .int j => kAugS c f (i + j) nx sd a M2
        | _ => False
      | _ => False
    | _ => False
  | _ => False
def dSFldAdd (T : List (Str × Str)) (f : Str) (to te : TED) : TSD := fun D sd M => to sd M fun o M1 => kAugF T f te D.nx sd o M1
section
variable {sd : StD} {M : Mo} {Q : QD} {d v : Dv} {a : Addr} {c f m : Str} {fs fs' : List (Str × Dv)} {T : List (Str × Str)} {te to : TED} {i j : Int} {nx : StD → Mo → Prop}
instance s_sfldadd {b k : StD → Mo → Prop} {r : QD} : Step (dSFldAdd T f to te ⟨nx, r, b, k⟩ sd M) (to sd M fun o M1 => kAugF T f te nx sd o M1) := ⟨id⟩
def kJ (y : Dv) (F : Int → Prop) : Prop := match y with
  | .int j => F j
  | _ => False
instance s_kJ {F : Int → Prop} : Step (kJ (.int j) F) (F j) := ⟨id⟩
theorem i_augF (h1 : M a = some (.ins c fs)) (h2 : (c, f) ∈ T) (h3 : fs.lookup f = some (.int i)) (q : te sd M fun y M2 => kJ y fun j => kAugS c f (i + j) nx sd a M2) : kAugF T f te nx sd (.ref a) M := by
  unfold kAugF
  simp only [h1, h3]
  exact ⟨h2, q⟩
theorem i_augS (h1 : M a = some (.ins c fs)) (hp : PutAt f (.int i) fs fs') (h3 : fs.length < 1000) (q : nx sd (mup M a (.ins c fs'))) : kAugS c f i nx sd a M := by
  unfold kAugS
  simp only [h1]
  rw [hp.eq]
  exact ⟨trivial, h3, q⟩
end
end DL
namespace DL
open PySem PySem.Spec PyProof.Rows L2
/-! ### texts compared -/
def dGtS : R2d := fun d e M Q => match d, e with
  | .str x, .str y => Q (.bl (decide (y.cps.toList < x.cps.toList))) M
  | _, _ => False
def dLtS : R2d := fun d e M Q => match d, e with
  | .str x, .str y => Q (.bl (decide (x.cps.toList < y.cps.toList))) M
  | _, _ => False
section
variable {M : Mo} {Q : QD} {x y : Str}
instance s_gtS : Step (dGtS (.str x) (.str y) M Q) (Q (.bl (decide (y.cps.toList < x.cps.toList))) M) := ⟨id⟩
instance s_ltS : Step (dLtS (.str x) (.str y) M Q) (Q (.bl (decide (x.cps.toList < y.cps.toList))) M) := ⟨id⟩
end
section
variable {X : Cx} {M0 : Mo} {H0 : Hp} {k : Nat} {ps : List Str} {B : FuncData → Prop} {sp : SpD} {x : Str} {p pos : Pos} {e : Expr} {es : List Expr} {t : TAD} {Wd : WXD} {W : WX}
/-- f(..) in a try's suite -/
theorem de_callFS (F : FnD X.prog X.w X.K X.mg X.base x k ps B sp) (hr : Room k X.A) (hg : Gl X x) (hb : ∀ fd, B fd → Binds X.K fd ps []) (tk : L2.Takes X W) (cw : CtW X.K M0 H0 Wd W)
    (ha : PAd X M0 H0 (e :: es) t) (hdb : (x == ("__debug__" : Str)) = false := by decide) (he : starEach (e :: es) X.env = (false, eval e X.env) :: starEach es X.env := by rfl) (hpl : (backTo pos (starEach es X.env)).any (·.1) = false := by rfl) :
    PEd X M0 H0 (.Call (.Name x p) (e :: es) [] pos) (dCallS sp Wd t) := by
  obtain ⟨f, fd, hm, hk, b, F⟩ := F.ex
  exact de_callS F hr hg hm hk (hb fd b) tk cw ha hdb he hpl
end
instance s_callS {sp : SpD} {Wd : WXD} {t : TAD} {sd : StD} {M : Mo} {Q : QD} : Step (dCallS sp Wd t sd M Q) (t sd M fun ds M1 => sp ds M1 Q fun x f d M' => Wd x f d sd M') := ⟨id⟩
end DL
namespace DL
open PySem PySem.Spec PyProof.Rows L2
/-! ### zip of any two, strict -/
abbrev IsZipS (h : Heap) (z TI TO : Addr) (f0 : Value) : Prop :=
  h.get? z = some { cls := .type "zip", dict := none, data := .fields #[f0, .bool false, .bool true, .ref TI, .ref TO], slots := #[] }
section
variable {prog : Program} {w : World} {A : Around} {E : Value → Shared → Prop} {s : Shared} {z TI TO i1 i2 : Addr} {fp1 fp2 fp : List Addr} {it : Addr} {n n1 n2 i : Nat} {P P1 P2 : Nat → Value → Prop} {St St1 St2 : Nat → Heap → Prop} {a1 a2 : Value}
theorem noe_item {Q : Option Value → Shared → Prop} (D : Draws prog w A it fp n P St) (hi : i < n) (st : St i s.heap) (hQ : ∀ x h' tk, P i x → St (i + 1) h' → Heap.SameBut it s.heap h' → Q (some x) { s with heap := h', toks := tk }) :
    wpAny (model prog w) A (Builtin.SmallTypes.nextOrEnd (.ref it)) Q E s := by
  unfold Builtin.SmallTypes.nextOrEnd
  exact wpAny_bind (wpAny_attempt (D.item i s _ _ hi st fun x h' tk a b c => wpAny_pure (hQ x h' tk a b c)))
theorem noe_end {Q : Option Value → Shared → Prop} (D : Draws prog w A it fp n P St) (st : St n s.heap) (hQ : ∀ h', Heap.ExtBut it s.heap h' → Q none { s with heap := h' }) :
    wpAny (model prog w) A (Builtin.SmallTypes.nextOrEnd (.ref it)) Q E s := by
  unfold Builtin.SmallTypes.nextOrEnd
  refine wpAny_bind (wpAny_attempt (D.done s _ _ st fun h' e hk he => ?_))
  obtain ⟨o, ho, hc⟩ := he
  refine wpAny_bind (wpAny_isInstance (T := "StopIteration") (b := true) ⟨o, ho, hc⟩ isSubtype_stop ?_)
  exact wpAny_pure (hQ _ hk)
theorem zipSt_item {Q : Value → Shared → Prop} (S : ZipSep2 z TI TO i1 i2 fp1 fp2) (D1 : Draws prog w A i1 fp1 n1 P1 St1) (D2 : Draws prog w A i2 fp2 n2 P2 St2)
    (hz : IsZipS s.heap z TI TO .none) (hTI : IsTupOf2 s.heap TI (.ref i1) (.ref i2)) (hTO : IsTupOf2 s.heap TO a1 a2) (st1 : St1 i s.heap) (st2 : St2 i s.heap) (hlt1 : i < n1) (hlt2 : i < n2)
    (hQ : ∀ x1 x2 h' tk, P1 i x1 → P2 i x2 → IsZipS h' z TI TO (rawInt s.heap.objs.size) → IsTupOf2 h' TO x1 x2 → St1 (i + 1) h' → St2 (i + 1) h' → IsTupOf2 h' s.heap.objs.size x1 x2 → h'.objs.size = s.heap.objs.size + 1 →
      (∀ c o, c ≠ z → c ≠ TO → c ≠ i1 → c ≠ i2 → s.heap.get? c = some o → h'.get? c = some o) → Q (.ref s.heap.objs.size) { s with heap := h', toks := tk }) :
    wpAny (model prog w) A (Builtin.«zip.__next__» ⟨[.ref z], []⟩) (fun fin s' => ∃ v, fin = .done (.ret v) ∧ Q v s') E s := by
  obtain ⟨hp, g, d, tk0, os⟩ := s
  show wpAny _ _ (field (.ref z) 2 >>= _) _ _ _
  refine wpAny_bind (wpAny_field hz rfl (x := .bool true) rfl ?_)
  show wpAny _ _ (field (.ref z) 3 >>= _) _ _ _
  refine wpAny_bind (wpAny_field hz rfl (x := .ref TI) rfl ?_)
  refine wpAny_bind (wpAny_seqItems hTI rfl ?_)
  show wpAny _ _ (Builtin.SmallTypes.ownedTupleIsFree (.ref z) >>= _) _ _ _
  refine wpAny_bind ?_
  unfold Builtin.SmallTypes.ownedTupleIsFree
  refine wpAny_bind (wpAny_field hz rfl (x := .none) rfl (wpAny_pure ?_))
  simp only [if_true]
  refine wpAny_bind (wpAny_rule ?_)
  refine wpAny_bind (wpAny_field hz rfl (x := .ref TO) rfl ?_)
  refine wpAny_bind (wpAny_setField_rec hz (by simp) fun g0 hz0 hs0 => ?_)
  replace hz0 : IsZipS g0 z TI TO .ellipsis := hz0
  replace hs0 : Heap.SameBut z hp g0 := hs0
  refine wpAny_bind ?_
  simp only [List.zipIdx_cons, List.zipIdx_nil, List.forIn_cons, List.forIn_nil]
  refine wpAny_bind (wpAny_bind (wpAny_onRaise ?_))
  show wpAny _ _ (Builtin.SmallTypes.nextOrEnd (.ref i1)) _ _ ⟨g0, g, d, tk0, os⟩
  refine noe_item D1 hlt1 (D1.over st1 hs0 S.zf1) fun x1 p1 tk1 hx1 sn1 hp1 => ?_
  replace hp1 : Heap.SameBut i1 g0 p1 := hp1
  have hU1 : IsTupOf2 p1 TO a1 a2 := hp1.extBut _ _ S.Ti1 (hs0.extBut _ _ S.TOz hTO)
  refine wpAny_bind (wpAny_seqItems (s := ⟨p1, g, d, tk1, os⟩) hU1 rfl ?_)
  refine wpAny_bind (updateSeq_IsTupOf2 (s := ⟨p1, g, d, tk1, os⟩) hU1 fun g1 hT1 hs1 => ?_)
  replace hT1 : IsTupOf2 g1 TO x1 a2 := hT1
  replace hs1 : Heap.SameBut TO p1 g1 := hs1
  refine wpAny_bind (wpAny_letGo (wpAny_pure ?_))
  refine wpAny_bind (wpAny_bind (wpAny_onRaise ?_))
  show wpAny _ _ (Builtin.SmallTypes.nextOrEnd (.ref i2)) _ _ ⟨g1, g, d, tk1, os⟩
  refine noe_item D2 hlt2 (D2.over (D2.over (D2.over st2 hs0 S.zf2) hp1 S.sep1_2) hs1 S.Tf2) fun x2 p2 tk2 hx2 sn2 hp2 => ?_
  replace hp2 : Heap.SameBut i2 g1 p2 := hp2
  have hU2 : IsTupOf2 p2 TO x1 a2 := hp2.extBut _ _ S.Ti2 hT1
  refine wpAny_bind (wpAny_seqItems (s := ⟨p2, g, d, tk2, os⟩) hU2 rfl ?_)
  refine wpAny_bind (updateSeq_IsTupOf2 (s := ⟨p2, g, d, tk2, os⟩) hU2 fun g2 hT2 hs2 => ?_)
  replace hT2 : IsTupOf2 g2 TO x1 x2 := hT2
  replace hs2 : Heap.SameBut TO p2 g2 := hs2
  refine wpAny_bind (wpAny_letGo (wpAny_pure (wpAny_pure ?_)))
  refine wpAny_bind (wpAny_seqItems (s := ⟨g2, g, d, tk2, os⟩) hT2 rfl ?_)
  refine wpAny_bind (wpAny_newTuple ?_)
  have hsz : g2.objs.size = hp.objs.size := by rw [hs2.1, hp2.1, hs1.1, hp1.1, hs0.1]
  have hzz : IsZipS g2 z TI TO .ellipsis := (hs2.extBut _ _ S.TOz.symm (hp2.extBut _ _ S.zi2 (hs1.extBut _ _ S.TOz.symm (hp1.extBut _ _ S.zi1 hz0))))
  have hkk : ∀ c o, c ≠ z → c ≠ TO → c ≠ i1 → c ≠ i2 → hp.get? c = some o → g2.get? c = some o := fun c o cz cT c1 c2 e =>
    (hs2.extBut _ _ cT (hp2.extBut _ _ c2 (hs1.extBut _ _ cT (hp1.extBut _ _ c1 (hs0.extBut _ _ cz e)))))
  have hj1 : St1 (i + 1) g2 := (D1.over (D1.over (D1.over sn1 hs1 S.Tf1) hp2 S.sep2_1) hs2 S.Tf1)
  have hj2 : St2 (i + 1) g2 := (D2.over sn2 hs2 S.Tf2)
  have hzlt : z < g2.objs.size := Heap.lt_size hzz
  show wpAny _ _ (Builtin.SmallTypes.ownedTupleHandOut (.ref z) (.ref g2.objs.size) >>= _) _ _ ⟨g2.push { cls := .type "tuple", data := .seq #[x1, x2] }, g, d, tk2, os⟩
  refine wpAny_bind ?_
  unfold Builtin.SmallTypes.ownedTupleHandOut
  have hz₆ : IsZipS (g2.push { cls := .type "tuple", data := .seq #[x1, x2] }) z TI TO .ellipsis := Heap.get?_push_of_some _ hzz
  refine wpAny_bind (wpAny_setField_rec hz₆ (by simp) fun h₇ hz₇ hs₇ => ?_)
  replace hz₇ : IsZipS h₇ z TI TO (rawInt g2.objs.size) := hz₇
  refine wpAny_setField_rec hz₇ (by simp) fun h₈ hz₈ hs₈ => ?_
  replace hz₈ : IsZipS h₈ z TI TO (rawInt g2.objs.size) := hz₈
  replace hs₇ : Heap.SameBut z (g2.push { cls := .type "tuple", data := .seq #[x1, x2] }) h₇ := hs₇
  replace hs₈ : Heap.SameBut z h₇ h₈ := hs₈
  have up : ∀ c o, c ≠ z → g2.get? c = some o → h₈.get? c = some o := fun c o c1 e => hs₈.extBut _ _ c1 (hs₇.extBut _ _ c1 (Heap.get?_push_of_some _ e))
  have hT₈ : IsTupOf2 h₈ g2.objs.size x1 x2 := hs₈.extBut _ _ (Nat.ne_of_gt hzlt) (hs₇.extBut _ _ (Nat.ne_of_gt hzlt) (Heap.get?_push_size _ rfl))
  have hz8 : h₈.objs.size = g2.objs.size + 1 := by rw [hs₈.1, hs₇.1, Heap.size_push]
  rw [hsz] at hz₈ hT₈ hz8
  refine wpAny_pure ⟨_, rfl, ?_⟩
  show Q (.ref g2.objs.size) ⟨h₈, g, d, tk2, os⟩
  rw [hsz]
  exact hQ x1 x2 h₈ tk2 hx1 hx2 hz₈ (up _ _ S.TOz hT2) (D1.frame _ _ _ hj1 fun b hb o e => up b o (fun q => S.zf1 (q ▸ hb)) e) (D2.frame _ _ _ hj2 fun b hb o e => up b o (fun q => S.zf2 (q ▸ hb)) e) hT₈ hz8 fun c o cz cT c1 c2 e => up c o cz (hkk c o cz cT c1 c2 e)
theorem zipSt_end {Q : Fin → Shared → Prop} (hh : A.handled = none) (S : ZipSep2 z TI TO i1 i2 fp1 fp2) (D1 : Draws prog w A i1 fp1 n P1 St1) (D2 : Draws prog w A i2 fp2 n P2 St2)
    (hz : IsZipS s.heap z TI TO .none) (hTI : IsTupOf2 s.heap TI (.ref i1) (.ref i2)) (hTO : IsTupOf2 s.heap TO a1 a2) (st1 : St1 n s.heap) (st2 : St2 n s.heap)
    (hE : ∀ h' tk e, (∀ c o, c ≠ z → c ≠ TO → c ≠ i1 → c ≠ i2 → s.heap.get? c = some o → h'.get? c = some o) → (∃ o, h'.get? e = some o ∧ o.cls = .type "StopIteration") → E (.ref e) { s with heap := h', toks := tk }) :
    wpAny (model prog w) A (Builtin.«zip.__next__» ⟨[.ref z], []⟩) Q E s := by
  obtain ⟨hp, g, d, tk0, os⟩ := s
  show wpAny _ _ (field (.ref z) 2 >>= _) _ _ _
  refine wpAny_bind (wpAny_field hz rfl (x := .bool true) rfl ?_)
  show wpAny _ _ (field (.ref z) 3 >>= _) _ _ _
  refine wpAny_bind (wpAny_field hz rfl (x := .ref TI) rfl ?_)
  refine wpAny_bind (wpAny_seqItems hTI rfl ?_)
  show wpAny _ _ (Builtin.SmallTypes.ownedTupleIsFree (.ref z) >>= _) _ _ _
  refine wpAny_bind ?_
  unfold Builtin.SmallTypes.ownedTupleIsFree
  refine wpAny_bind (wpAny_field hz rfl (x := .none) rfl (wpAny_pure ?_))
  simp only [if_true]
  refine wpAny_bind (wpAny_rule ?_)
  refine wpAny_bind (wpAny_field hz rfl (x := .ref TO) rfl ?_)
  refine wpAny_bind (wpAny_setField_rec hz (by simp) fun g0 hz0 hs0 => ?_)
  replace hz0 : IsZipS g0 z TI TO .ellipsis := hz0
  replace hs0 : Heap.SameBut z hp g0 := hs0
  refine wpAny_bind ?_
  simp only [List.zipIdx_cons, List.zipIdx_nil, List.forIn_cons, List.forIn_nil]
  refine wpAny_bind (wpAny_bind (wpAny_onRaise ?_))
  show wpAny _ _ (Builtin.SmallTypes.nextOrEnd (.ref i1)) _ _ ⟨g0, g, d, tk0, os⟩
  refine noe_end D1 (D1.over st1 hs0 S.zf1) fun q1 hq1 => ?_
  replace hq1 : Heap.ExtBut i1 g0 q1 := hq1
  have z1 : IsZipS q1 z TI TO .ellipsis := hq1 _ _ S.zi1 hz0
  show wpAny _ _ (setField (.ref z) 0 .none >>= _) _ _ _
  refine wpAny_bind (wpAny_setField_rec z1 (by simp) fun q2 z2 hs2 => ?_)
  replace hs2 : Heap.SameBut z q1 q2 := hs2
  refine wpAny_bind ?_
  show wpAny _ _ (((Builtin.SmallTypes.nextOrEnd (.ref i2) >>= _) >>= _) >>= _) _ _ ⟨q2, g, d, tk0, os⟩
  refine wpAny_bind (wpAny_bind (wpAny_bind (noe_end D2 ?_ fun q3 hq3 => ?_)))
  · refine D2.frame _ _ _ (D2.over st2 hs0 S.zf2) fun b hb o e => hs2.extBut b o (fun q => S.zf2 (q ▸ hb)) (hq1 b o (fun q => S.sep1_2 (q ▸ hb)) e)
  replace hq3 : Heap.ExtBut i2 q2 q3 := hq3
  show wpAny _ _ (pure _) _ _ _
  refine wpAny_pure ?_
  show wpAny _ _ (pure _) _ _ _
  refine wpAny_pure ?_
  refine wpAny_bind (wpAny_rule ?_)
  show wpAny _ _ (newExc (.type "StopIteration") [] >>= _) _ _ _
  refine wpAny_bind ?_
  simp only [newExc, newTuple]
  refine wpAny_bind (wpAny_newObj_type ?_ (by size_fits))
  refine wpAny_bind (m := firstArgMember _ _) (wpAny_of_eq (a := Value.none) (by first | rfl | (simp only [firstArgMember]; rfl)) ?_)
  refine wpAny_newObj_type ?_ (by size_fits)
  simp only [raiseNew]
  refine wpAny_bind (wpAny_handled ?_)
  rw [hh]
  refine wpAny_bind (wpAny_pure (wpAny_throw ?_))
  refine hE _ _ _ (fun c o cz cT c1 c2 x => Heap.get?_push_of_some _ (Heap.get?_push_of_some _ (hq3 _ _ c2 (hs2.extBut _ _ cz (hq1 _ _ c1 (hs0.extBut _ _ cz x)))))) ⟨_, Heap.get?_push_size _ rfl, rfl⟩
theorem pyNext_zipSt_item {Q : Option Value → Shared → Prop} (S : ZipSep2 z TI TO i1 i2 fp1 fp2) (D1 : Draws prog w A.in1 i1 fp1 n1 P1 St1) (D2 : Draws prog w A.in1 i2 fp2 n2 P2 St2)
    (hz : IsZipS s.heap z TI TO .none) (hTI : IsTupOf2 s.heap TI (.ref i1) (.ref i2)) (hTO : IsTupOf2 s.heap TO a1 a2) (st1 : St1 i s.heap) (st2 : St2 i s.heap) (hlt1 : i < n1) (hlt2 : i < n2)
    (hQ : ∀ x1 x2 h' tk, P1 i x1 → P2 i x2 → IsZipS h' z TI TO (rawInt s.heap.objs.size) → IsTupOf2 h' TO x1 x2 → St1 (i + 1) h' → St2 (i + 1) h' → IsTupOf2 h' s.heap.objs.size x1 x2 → h'.objs.size = s.heap.objs.size + 1 →
      (∀ c o, c ≠ z → c ≠ TO → c ≠ i1 → c ≠ i2 → s.heap.get? c = some o → h'.get? c = some o) → Q (some (.ref s.heap.objs.size)) { s with heap := h', toks := tk }) :
    wpAny (model prog w) A (pyNext (.ref z)) Q E s := by
  have hT : s.TypeIs (.ref z) "zip" := ⟨_, hz, rfl⟩
  unfold pyNext
  exact wpAny_bind (wpAny_attempt (wpAny_callSpecial?_slot (name := Str.ofString "__next__") hT F.slot_zip_next
    (wpAny_call_entry F.slot_zip_next hT F.entry_zip_next
      (zipSt_item S D1 D2 hz hTI hTO st1 st2 hlt1 hlt2 fun x1 x2 h' tk y1 y2 b1 b2 d1 d2 b5 b6 b7 => wpAny_pure (hQ x1 x2 h' tk y1 y2 b1 b2 d1 d2 b5 b6 b7)) (F.args_zip_next_1 _))))
theorem pyNext_zipSt_end {Q : Option Value → Shared → Prop} (hh : A.handled = none) (S : ZipSep2 z TI TO i1 i2 fp1 fp2) (D1 : Draws prog w A.in1 i1 fp1 n P1 St1) (D2 : Draws prog w A.in1 i2 fp2 n P2 St2)
    (hz : IsZipS s.heap z TI TO .none) (hTI : IsTupOf2 s.heap TI (.ref i1) (.ref i2)) (hTO : IsTupOf2 s.heap TO a1 a2) (st1 : St1 n s.heap) (st2 : St2 n s.heap)
    (hQ : ∀ h' tk, (∀ c o, c ≠ z → c ≠ TO → c ≠ i1 → c ≠ i2 → s.heap.get? c = some o → h'.get? c = some o) → Q none { s with heap := h', toks := tk }) : wpAny (model prog w) A (pyNext (.ref z)) Q E s := by
  have hT : s.TypeIs (.ref z) "zip" := ⟨_, hz, rfl⟩
  unfold pyNext
  refine wpAny_bind (wpAny_attempt (wpAny_callSpecial?_slot (name := Str.ofString "__next__") hT F.slot_zip_next
    (wpAny_call_entry F.slot_zip_next hT F.entry_zip_next (zipSt_end (by simpa using hh) S D1 D2 hz hTI hTO st1 st2 fun h' tk e hk he => ?_) (F.args_zip_next_1 _))))
  obtain ⟨o, ho, hc⟩ := he
  refine wpAny_bind (wpAny_isInstance (T := "StopIteration") (b := true) ⟨o, ho, hc⟩ isSubtype_stop ?_)
  exact wpAny_pure (hQ _ _ hk)
theorem letGo_zipSt {elts : List Expr} {x1} {pos : Pos} {z TI TO T : Addr} {Q : Unit → Shared → Prop} (hz : IsZipS s.heap z TI TO (rawInt T))
    (hQ : ∀ h', IsZipS h' z TI TO .none → Heap.SameBut z s.heap h' → Q () { s with heap := h' }) :
    wpAny (model prog w) A (letOwnedTupleGo (.Tuple elts x1 pos) (.ref z) (.ref T)) Q E s := by
  unfold letOwnedTupleGo
  refine wpAny_bind (wpAny_load hz ?_)
  show wpAny _ _ (if (["enumerate", "zip", "dict_itemiterator", "dict_reverseitemiterator", "odict_iterator", "itertools.zip_longest", "itertools.pairwise"].contains "zip" &&
      (#[rawInt T, .bool false, .bool true, .ref TI, .ref TO] : Array Value)[0]? == some (rawInt T)) = true then _ else _) Q E s
  rw [if_pos (by simp)]
  refine wpAny_bind (wpAny_rule ?_)
  show wpAny _ _ (setField (.ref z) 0 .none) Q E s
  exact wpAny_setField_rec hz (by simp) fun h' hz' hs' => hQ h' hz' hs'
theorem pyIter_zipSt {z TI TO : Addr} {f0 : Value} {Q : Value → Shared → Prop} (hz : IsZipS s.heap z TI TO f0) (h : Q (.ref z) s) : wpAny (model prog w) A (pyIter (.ref z)) Q E s := by
  have hT : s.TypeIs (.ref z) "zip" := ⟨_, hz, rfl⟩
  refine wpAny_pyIter_slot hT F.slot_zip_iter (wpAny_call_entry F.slot_zip_iter hT F.entry_zip_iter ?_ (F.args_zip_iter_1 _))
  show wpAny _ _ (ret (.ref z)) _ _ s
  exact wpAny_pure ⟨_, rfl, "zip", _, hT, F.slot_zip_next.lookup, h⟩
end
theorem vals_back : ∀ {xs : List V} {us : List Value} {i : Nat} {u : Value}, Vals xs us → us[i]? = some u → ∃ x, xs[i]? = some x ∧ RelV x u
  | [], _, i, u, h, e => by cases h; simp at e
  | x :: xs, _, i, u, h, e => by
    cases h with
    | cons r rr =>
      cases i with
      | zero => simp at e; subst e; exact ⟨x, rfl, r⟩
      | succ i => exact vals_back (i := i) rr (by simpa using e)
/-- what zip draws from: a list, a tuple, a text -/
structure ZSrc (P : Program) (w : World) (K : PySem.W.Frag) (it : Addr) (fp : List Addr) (St : Nat → Heap → Prop) (G : Hp → List V → Prop) : Prop where
  obj : ∀ i h, St i h → ∃ o, h.get? it = some o ∧ ∀ v, o.data ≠ .cell v
  keep : ∀ i h h', St i h → (∀ o, h.get? it = some o → h'.get? it = some o) → St i h'
  inj : ∀ (X : Cx), X.prog = P → X.w = w → X.K = K → ∀ (pins : List (Addr × Obj)) (s : Shared) (σ : L2.St) (H : Hp), Inv X pins σ H s → ∀ f g, G H f → G H g → f = g
  draws : ∀ (X : Cx), X.prog = P → X.w = w → X.K = K → ∀ (pins : List (Addr × Obj)) (s : Shared) (σ : L2.St) (H : Hp), Inv X pins σ H s → ∀ f, G H f → ∃ (Pv : Nat → Value → Prop) (S2 : Nat → Heap → Prop),
    (∀ A : Around, A.handled = none → Draws P w A it fp f.length Pv S2) ∧ (∀ i, St i s.heap → S2 i s.heap) ∧ (∀ i h, S2 i h → St i h) ∧ ∀ i v, Pv i v → ∃ x, f[i]? = some x ∧ RelV x v
theorem zsrc_list {P : Program} {w : World} {K : PySem.W.Frag} {it a : Addr} (hne : a ≠ it) : ZSrc P w K it [it, a] (fun i h => h.IsListIter it a i) (fun H xs => SqL K H a xs) where
  obj := fun i h ⟨o, e, _, d⟩ => ⟨o, e, fun v q => by rw [d] at q; cases q⟩
  keep := fun i h h' st k => st.at k
  inj := fun X hP hw hK pins s σ H I f g h1 h2 => by subst hP hw hK; exact I.list_inj h1 h2
  draws := fun X hP hw hK pins s σ H I xs g => by
    subst hP hw hK
    obtain ⟨its, rv, pl, hz⟩ := I.list g
    refine ⟨fun i v => its.toArray[i]? = some v, fun i h => h.IsListIter it a i ∧ h.IsList a its.toArray, fun A hh => ?_, fun i st => ⟨st, pl.isList⟩, fun i h st => st.1, fun i v hv => ?_⟩
    · have e : its.toArray.size = xs.length := by rw [List.size_toArray, rv.length]
      rw [← e]
      exact Draws.list hh it a hne its.toArray
    · have hv : its.toArray[i]? = some v := hv
      rw [List.getElem?_toArray] at hv
      exact vals_back rv hv
theorem zsrc_tup {P : Program} {w : World} {K : PySem.W.Frag} {it a : Addr} (hne : a ≠ it) : ZSrc P w K it [it, a] (fun i h => h.IsTupleIter it a i) (fun H xs => SqT K H a xs) where
  obj := fun i h ⟨o, e, _, d⟩ => ⟨o, e, fun v q => by rw [d] at q; cases q⟩
  keep := fun i h h' st k => st.at k
  inj := fun X hP hw hK pins s σ H I f g h1 h2 => by subst hP hw hK; exact I.tuple_inj h1 h2
  draws := fun X hP hw hK pins s σ H I xs g => by
    subst hP hw hK
    obtain ⟨its, rv, pl, hz⟩ := I.tuple g
    refine ⟨fun i v => its.toArray[i]? = some v, fun i h => h.IsTupleIter it a i ∧ h.IsTuple a its.toArray, fun A hh => ?_, fun i st => ⟨st, pl⟩, fun i h st => st.1, fun i v hv => ?_⟩
    · have e : its.toArray.size = xs.length := by rw [List.size_toArray, rv.length]
      rw [← e]
      exact Draws.tuple hh it a hne its.toArray
    · have hv : its.toArray[i]? = some v := hv
      rw [List.getElem?_toArray] at hv
      exact vals_back rv hv
theorem zsrc_str {P : Program} {w : World} {K : PySem.W.Frag} {it : Addr} {x : Str} {t : Tok} : ZSrc P w K it [it] (fun i h => h.IsStrIter it (strIterType x) x t i) (fun _ f => f = x.cps.toList.map fun c => V.str ⟨#[c]⟩) where
  obj := fun i h ⟨o, e, _, d⟩ => ⟨o, e, fun v q => by rw [d] at q; cases q⟩
  keep := fun i h h' st k => sit_at st k
  inj := fun X hP hw hK pins s σ H I f g h1 h2 => h1.trans h2.symm
  draws := fun X hP hw hK pins s σ H I xs g => by
    subst g
    refine ⟨fun i v => ∃ c u, x.cps[i]? = some c ∧ v = .str ⟨#[c]⟩ u, fun i h => h.IsStrIter it (strIterType x) x t i, fun A hh => ?_, fun i st => st, fun i h st => st, fun i v ⟨c, u, h1, h2⟩ => ⟨.str ⟨#[c]⟩, ?_, ?_⟩⟩
    · rw [List.length_map, Array.length_toList]
      exact Draws.text hh it x t
    · rw [List.getElem?_map, Array.getElem?_toList, h1]; rfl
    · subst h2; exact ⟨_, rfl⟩
/-- pairs of two sources -/
def ItZ2 (G1 G2 : Hp → List V → Prop) : It :=
  ⟨fun i H => ∃ xs ys, i < xs.length ∧ i < ys.length ∧ G1 H xs ∧ G2 H ys, fun i H v H' => ∃ T a b, v = .ref T ∧ H T = none ∧ H' = upd H T (.tup [a, b]) ∧ ∀ xs ys, G1 H xs → G2 H ys → xs[i]? = some a ∧ ys[i]? = some b, fun i H => ∃ xs ys, (i ≤ xs.length ∧ i ≤ ys.length ∧ (i = xs.length ∨ i = ys.length)) ∧ G1 H xs ∧ G2 H ys⟩
theorem turn_zip2 {P : Program} {w : World} {K : PySem.W.Frag} {elts : List Expr} {kk : Nat} {tpos : Pos} {z TI TO i1 i2 : Addr} {fp1 fp2 : List Addr} {St1 St2 : Nat → Heap → Prop} {G1 G2 : Hp → List V → Prop} (D : ZipSep2 z TI TO i1 i2 fp1 fp2) (Z1 : ZSrc P w K i1 fp1 St1 G1) (Z2 : ZSrc P w K i2 fp2 St2 G2) :
    Turn P w K (.Tuple elts kk tpos) (ItZ2 G1 G2) [z, TI, TO, i1, i2] z (fun i h => IsZip h z TI TO .none ∧ IsTupOf2 h TI (.ref i1) (.ref i2) ∧ (∃ a b, IsTupOf2 h TO a b) ∧ St1 i h ∧ St2 i h) where
  mem := by simp
  obj := fun i h st c hc => by
    obtain ⟨hz, hTI, ⟨a, b, hTO⟩, st1, st2⟩ := st
    have e' : c = z ∨ c = TI ∨ c = TO ∨ c = i1 ∨ c = i2 := by simpa using hc
    rcases e' with q | q | q | q | q
    · rw [q]; exact ⟨_, hz, fun v q => nomatch q⟩
    · rw [q]; exact ⟨_, hTI, fun v q => nomatch q⟩
    · rw [q]; exact ⟨_, hTO, fun v q => nomatch q⟩
    · rw [q]; exact Z1.obj _ _ st1
    · rw [q]; exact Z2.obj _ _ st2
  keep := fun i h h' st k => by
    obtain ⟨hz, hTI, ⟨a, b, hTO⟩, h1, h2⟩ := st
    exact ⟨k z (by simp) _ hz, k TI (by simp) _ hTI, ⟨a, b, k TO (by simp) _ hTO⟩, Z1.keep _ _ _ h1 fun o q => k i1 (by simp) o q, Z2.keep _ _ _ h2 fun o q => k i2 (by simp) o q⟩
  item := by
    intro X hP hw hK hc i pins s σ H E I hf st hg
    obtain ⟨hz, hTI, ⟨x0, y0, hTO⟩, h1, h2⟩ := st
    obtain ⟨xs, ys, g1, g2, g3, g4⟩ := hg
    obtain ⟨P1, S1, d1, d2, d3, d4⟩ := Z1.draws X hP hw hK pins s σ H I xs g3
    obtain ⟨P2, S2, e1, e2, e3, e4⟩ := Z2.draws X hP hw hK pins s σ H I ys g4
    subst hP hw hK
    have zl : z < s.heap.objs.size := Heap.lt_size hz
    have hh : X.A.in1.handled = none := by have := I.ok.hd hc; simpa using this
    refine wpAny_pyNext_zipD2_item D (d1 _ hh) (e1 _ hh) hz hTI hTO (d2 _ h1) (e2 _ h2) g1 g2 fun u1 u2 h' tk p1 p2 z' o' a1 a2 hT hsz hk => ?_
    obtain ⟨x, hx, rx⟩ := d4 _ _ p1
    obtain ⟨y, hy, ry⟩ := e4 _ _ p2
    refine ⟨_, rfl, wpAny_letOwnedTupleGo_zip (s := { s with heap := h', toks := tk }) z' fun h'' z'' sb => ?_⟩
    have T2 : h''.get? s.heap.objs.size = some { cls := .type "tuple", data := .seq #[u1, u2] } := (sb.2 _ (Nat.ne_of_gt zl)).trans hT
    have new : ObjOk X.prog X.w (upd H s.heap.objs.size (.tup [x, y])) h'' s.heap.objs.size (.tup [x, y]) :=
      ⟨by show 2 ≤ sizeLine; decide, [u1, u2], .cons rx (.cons ry .nil), ⟨_, T2, rfl, _, rfl⟩⟩
    have I1 : Inv X pins σ (upd H s.heap.objs.size (.tup [x, y])) { s with heap := h'', toks := tk } :=
      I.turnedNew (ch := [z, TI, TO, i1, i2]) (fun c o hb q => (sb.2 c (fun q' => hb (by simp [q']))).trans (hk c o (fun q' => hb (by simp [q'])) (fun q' => hb (by simp [q'])) (fun q' => hb (by simp [q'])) (fun q' => hb (by simp [q'])) q)) hf (Nat.le_refl _) new
    have hf1 : fp1 = fp1 := rfl
    refine ⟨.ref s.heap.objs.size, _, I1, rfl, ⟨_, _, _, rfl, I.hok.fresh (Nat.le_refl _), rfl, fun xs' ys' k1 k2 => by rw [Z1.inj X rfl rfl rfl pins s σ H I _ _ k1 g3, Z2.inj X rfl rfl rfl pins s σ H I _ _ k2 g4]; exact ⟨hx, hy⟩⟩, ⟨z'', ?_, ⟨_, _, (sb.2 _ D.TOz).trans o'⟩, Z1.keep _ _ _ (d3 _ _ a1) fun o q => (sb.2 _ D.zi1.symm).trans q, Z2.keep _ _ _ (e3 _ _ a2) fun o q => (sb.2 _ D.zi2.symm).trans q⟩, fun c hcm => ?_⟩
    · exact (sb.2 _ D.TIz).trans (hk _ _ D.TIz D.TITO D.TIi1 D.TIi2 hTI)
    · have lt : c < s.heap.objs.size := by
        have e' : c = z ∨ c = TI ∨ c = TO ∨ c = i1 ∨ c = i2 := by simpa using hcm
        rcases e' with q | q | q | q | q
        · rw [q]; exact zl
        · rw [q]; exact Heap.lt_size hTI
        · rw [q]; exact Heap.lt_size hTO
        · rw [q]; obtain ⟨_, e1, _⟩ := Z1.obj _ _ h1; exact Heap.lt_size e1
        · rw [q]; obtain ⟨_, e2, _⟩ := Z2.obj _ _ h2; exact Heap.lt_size e2
      rw [upd_ne (Nat.ne_of_lt lt)]
      exact (hf c hcm).1
  done := by
    intro X hP hw hK hc i pins s σ H E I hf st hg
    obtain ⟨hz, hTI, ⟨x0, y0, hTO⟩, h1, h2⟩ := st
    obtain ⟨xs, ys, g1, g3, g4⟩ := hg
    obtain ⟨P1, S1, d1, d2, d3, d4⟩ := Z1.draws X hP hw hK pins s σ H I xs g3
    obtain ⟨P2, S2, e1, e2, e3, e4⟩ := Z2.draws X hP hw hK pins s σ H I ys g4
    subst hP hw hK
    have hh : X.A.in1.handled = none := by have := I.ok.hd hc; simpa using this
    obtain ⟨g1, g2, g5⟩ := g1
    exact wpAny_pyNext_zipD2_end D (d1 _ hh) (e1 _ hh) hz hTI hTO (d2 _ h1) (e2 _ h2) g1 g2 g5 fun h' tk hk => ⟨rfl, I.turnedL (t' := tk) (ch := [z, TI, TO, i1, i2]) (fun c o hb q =>
      hk c o (fun q' => hb (by simp [q'])) (fun q' => hb (by simp [q'])) (fun q' => hb (by simp [q'])) (fun q' => hb (by simp [q'])) q) hf⟩
  self := fun A i s Q E st h => wpAny_pyIter_zip st.1 h
/-- pairs of two sources -/
def ItZs (G1 G2 : Hp → List V → Prop) : It :=
  ⟨fun i H => ∃ xs ys, i < xs.length ∧ i < ys.length ∧ G1 H xs ∧ G2 H ys, fun i H v H' => ∃ T a b, v = .ref T ∧ H T = none ∧ H' = upd H T (.tup [a, b]) ∧ ∀ xs ys, G1 H xs → G2 H ys → xs[i]? = some a ∧ ys[i]? = some b, fun i H => ∃ xs ys, (i = xs.length ∧ i = ys.length) ∧ G1 H xs ∧ G2 H ys⟩
theorem turn_zips {P : Program} {w : World} {K : PySem.W.Frag} {elts : List Expr} {kk : Nat} {tpos : Pos} {z TI TO i1 i2 : Addr} {fp1 fp2 : List Addr} {St1 St2 : Nat → Heap → Prop} {G1 G2 : Hp → List V → Prop} (D : ZipSep2 z TI TO i1 i2 fp1 fp2) (Z1 : ZSrc P w K i1 fp1 St1 G1) (Z2 : ZSrc P w K i2 fp2 St2 G2) :
    Turn P w K (.Tuple elts kk tpos) (ItZs G1 G2) [z, TI, TO, i1, i2] z (fun i h => IsZipS h z TI TO .none ∧ IsTupOf2 h TI (.ref i1) (.ref i2) ∧ (∃ a b, IsTupOf2 h TO a b) ∧ St1 i h ∧ St2 i h) where
  mem := by simp
  obj := fun i h st c hc => by
    obtain ⟨hz, hTI, ⟨a, b, hTO⟩, st1, st2⟩ := st
    have e' : c = z ∨ c = TI ∨ c = TO ∨ c = i1 ∨ c = i2 := by simpa using hc
    rcases e' with q | q | q | q | q
    · rw [q]; exact ⟨_, hz, fun v q => nomatch q⟩
    · rw [q]; exact ⟨_, hTI, fun v q => nomatch q⟩
    · rw [q]; exact ⟨_, hTO, fun v q => nomatch q⟩
    · rw [q]; exact Z1.obj _ _ st1
    · rw [q]; exact Z2.obj _ _ st2
  keep := fun i h h' st k => by
    obtain ⟨hz, hTI, ⟨a, b, hTO⟩, h1, h2⟩ := st
    exact ⟨k z (by simp) _ hz, k TI (by simp) _ hTI, ⟨a, b, k TO (by simp) _ hTO⟩, Z1.keep _ _ _ h1 fun o q => k i1 (by simp) o q, Z2.keep _ _ _ h2 fun o q => k i2 (by simp) o q⟩
  item := by
    intro X hP hw hK hc i pins s σ H E I hf st hg
    obtain ⟨hz, hTI, ⟨x0, y0, hTO⟩, h1, h2⟩ := st
    obtain ⟨xs, ys, g1, g2, g3, g4⟩ := hg
    obtain ⟨P1, S1, d1, d2, d3, d4⟩ := Z1.draws X hP hw hK pins s σ H I xs g3
    obtain ⟨P2, S2, e1, e2, e3, e4⟩ := Z2.draws X hP hw hK pins s σ H I ys g4
    subst hP hw hK
    have zl : z < s.heap.objs.size := Heap.lt_size hz
    have hh : X.A.in1.handled = none := by have := I.ok.hd hc; simpa using this
    refine pyNext_zipSt_item D (d1 _ hh) (e1 _ hh) hz hTI hTO (d2 _ h1) (e2 _ h2) g1 g2 fun u1 u2 h' tk p1 p2 z' o' a1 a2 hT hsz hk => ?_
    obtain ⟨x, hx, rx⟩ := d4 _ _ p1
    obtain ⟨y, hy, ry⟩ := e4 _ _ p2
    refine ⟨_, rfl, letGo_zipSt (s := { s with heap := h', toks := tk }) z' fun h'' z'' sb => ?_⟩
    have T2 : h''.get? s.heap.objs.size = some { cls := .type "tuple", data := .seq #[u1, u2] } := (sb.2 _ (Nat.ne_of_gt zl)).trans hT
    have new : ObjOk X.prog X.w (upd H s.heap.objs.size (.tup [x, y])) h'' s.heap.objs.size (.tup [x, y]) :=
      ⟨by show 2 ≤ sizeLine; decide, [u1, u2], .cons rx (.cons ry .nil), ⟨_, T2, rfl, _, rfl⟩⟩
    have I1 : Inv X pins σ (upd H s.heap.objs.size (.tup [x, y])) { s with heap := h'', toks := tk } :=
      I.turnedNew (ch := [z, TI, TO, i1, i2]) (fun c o hb q => (sb.2 c (fun q' => hb (by simp [q']))).trans (hk c o (fun q' => hb (by simp [q'])) (fun q' => hb (by simp [q'])) (fun q' => hb (by simp [q'])) (fun q' => hb (by simp [q'])) q)) hf (Nat.le_refl _) new
    have hf1 : fp1 = fp1 := rfl
    refine ⟨.ref s.heap.objs.size, _, I1, rfl, ⟨_, _, _, rfl, I.hok.fresh (Nat.le_refl _), rfl, fun xs' ys' k1 k2 => by rw [Z1.inj X rfl rfl rfl pins s σ H I _ _ k1 g3, Z2.inj X rfl rfl rfl pins s σ H I _ _ k2 g4]; exact ⟨hx, hy⟩⟩, ⟨z'', ?_, ⟨_, _, (sb.2 _ D.TOz).trans o'⟩, Z1.keep _ _ _ (d3 _ _ a1) fun o q => (sb.2 _ D.zi1.symm).trans q, Z2.keep _ _ _ (e3 _ _ a2) fun o q => (sb.2 _ D.zi2.symm).trans q⟩, fun c hcm => ?_⟩
    · exact (sb.2 _ D.TIz).trans (hk _ _ D.TIz D.TITO D.TIi1 D.TIi2 hTI)
    · have lt : c < s.heap.objs.size := by
        have e' : c = z ∨ c = TI ∨ c = TO ∨ c = i1 ∨ c = i2 := by simpa using hcm
        rcases e' with q | q | q | q | q
        · rw [q]; exact zl
        · rw [q]; exact Heap.lt_size hTI
        · rw [q]; exact Heap.lt_size hTO
        · rw [q]; obtain ⟨_, e1, _⟩ := Z1.obj _ _ h1; exact Heap.lt_size e1
        · rw [q]; obtain ⟨_, e2, _⟩ := Z2.obj _ _ h2; exact Heap.lt_size e2
      rw [upd_ne (Nat.ne_of_lt lt)]
      exact (hf c hcm).1
  done := by
    intro X hP hw hK hc i pins s σ H E I hf st hg
    obtain ⟨hz, hTI, ⟨x0, y0, hTO⟩, h1, h2⟩ := st
    obtain ⟨xs, ys, g1, g3, g4⟩ := hg
    obtain ⟨P1, S1, d1, d2, d3, d4⟩ := Z1.draws X hP hw hK pins s σ H I xs g3
    obtain ⟨P2, S2, e1, e2, e3, e4⟩ := Z2.draws X hP hw hK pins s σ H I ys g4
    subst hP hw hK
    have hh : X.A.in1.handled = none := by have := I.ok.hd hc; simpa using this
    obtain ⟨g1, g2⟩ := g1
    have w1 := d2 _ h1
    have w2 := e2 _ h2
    have D1 := d1 _ hh
    have D2 := e1 _ hh
    rw [← g1] at D1
    rw [← g2] at D2
    exact pyNext_zipSt_end (by simpa using hh) D D1 D2 hz hTI hTO w1 w2 fun h' tk hk => ⟨rfl, I.turnedL (t' := tk) (ch := [z, TI, TO, i1, i2]) (fun c o hb q =>
      hk c o (fun q' => hb (by simp [q'])) (fun q' => hb (by simp [q'])) (fun q' => hb (by simp [q'])) (fun q' => hb (by simp [q'])) q) hf⟩
  self := fun A i s Q E st h => pyIter_zipSt st.1 h
def IsSrc (h : Heap) (u : Value) (ty : String) : Prop := (∃ x t, u = .str x t ∧ ty = strIterType x) ∨ (∃ l items, u = .ref l ∧ h.IsList l items ∧ ty = "list_iterator") ∨ (∃ l items, u = .ref l ∧ h.IsTuple l items ∧ ty = "tuple_iterator")
theorem IsSrc.push {h : Heap} {u : Value} {ty : String} (o : Obj) (s : IsSrc h u ty) : IsSrc (h.push o) u ty := by
  rcases s with s | ⟨l, its, e, s, t⟩ | ⟨l, its, e, ⟨ol, e1, e2⟩, t⟩
  · exact .inl s
  · exact .inr (.inl ⟨l, its, e, s.push o, t⟩)
  · exact .inr (.inr ⟨l, its, e, ⟨ol, Heap.get?_push_of_some _ e1, e2⟩, t⟩)
theorem pyIter_src {prog : Program} {w : World} {A : Around} {E : Value → Shared → Prop} {s : Shared} {u : Value} {ty : String} {Q : Value → Shared → Prop} (h : IsSrc s.heap u ty)
    (hQ : Q (.ref s.heap.objs.size) { s with heap := s.heap.push { cls := .type ty, data := .fields #[u, .int 0 0] } }) : wpAny (model prog w) A (pyIter u) Q E s := by
  rcases h with ⟨x, t, rfl, rfl⟩ | ⟨l, its, rfl, h, rfl⟩ | ⟨l, its, rfl, h, rfl⟩
  · exact wpAny_pyIter_strU hQ
  · exact wpAny_pyIter_list h hQ
  · exact wpAny_pyIter_tuple h hQ
abbrev zg1 (h : Heap) (u : Value) (t : String) : Heap := h.push { cls := .type t, data := .fields #[u, .int 0 0] }
abbrev zg2 (h : Heap) (u v : Value) (t r : String) : Heap := zg1 (zg1 h u t) v r
abbrev zg3 (h : Heap) (u v : Value) (t r : String) : Heap := (zg2 h u v t r).push { cls := .type "tuple", data := .seq #[.ref h.objs.size, .ref (zg1 h u t).objs.size] }
abbrev zg4 (h : Heap) (u v : Value) (t r : String) : Heap := (zg3 h u v t r).push { cls := .type "tuple", data := .seq #[.none, .none] }
abbrev zg5 (h : Heap) (u v : Value) (t r : String) (b : Bool) : Heap := (zg4 h u v t r).push { cls := .type "zip", data := .fields #[.none, .bool false, .bool b, .ref (zg2 h u v t r).objs.size, .ref (zg3 h u v t r).objs.size] }
set_option maxHeartbeats 1000000 in
theorem meets_zipG (u v : Value) (t r : String) :
    Meets (Builtin.«zip.__new__» ⟨[.type "zip", u, v], []⟩) (fun _ R s => IsSrc s.heap u t ∧ IsSrc s.heap v r ∧ R (.ok (.ret (.ref (zg4 s.heap u v t r).objs.size))) { s with heap := zg5 s.heap u v t r false }) :=
  .of_wp fun prog w A R s h => by
    obtain ⟨hp, g, d, tk, os⟩ := s
    obtain ⟨h1, h2, h⟩ := h
    have hsub := sub_zip
    wp_walk using (pyIter_src h1), (pyIter_src (h2.push _))
    exact ⟨_, rfl, h⟩
set_option maxHeartbeats 1000000 in
theorem meets_zipGs (u v : Value) (t r : String) :
    Meets (Builtin.«zip.__new__» ⟨[.type "zip", u, v], [("strict", .bool true)]⟩) (fun _ R s => IsSrc s.heap u t ∧ IsSrc s.heap v r ∧ R (.ok (.ret (.ref (zg4 s.heap u v t r).objs.size))) { s with heap := zg5 s.heap u v t r true }) :=
  .of_wp fun prog w A R s h => by
    obtain ⟨hp, g, d, tk, os⟩ := s
    obtain ⟨h1, h2, h⟩ := h
    have hsub := sub_zip
    wp_walk using (pyIter_src h1), (pyIter_src (h2.push _))
    exact ⟨_, rfl, h⟩
section
variable {prog : Program} {w : World} {A : Around} {E : Value → Shared → Prop} {s : Shared}
theorem zg_facts (h : Heap) (u v : Value) (t r : String) (b : Bool) : let h' := zg5 h u v t r b
    (zg4 h u v t r).objs.size = h.objs.size + 4 ∧ h'.get? (h.objs.size + 4) = some { cls := .type "zip", dict := none, data := .fields #[.none, .bool false, .bool b, .ref (h.objs.size + 2), .ref (h.objs.size + 3)], slots := #[] } ∧
      IsTupOf2 h' (h.objs.size + 2) (.ref h.objs.size) (.ref (h.objs.size + 1)) ∧ IsTupOf2 h' (h.objs.size + 3) .none .none ∧ h'.get? h.objs.size = some { cls := .type t, data := .fields #[u, .int 0 0] } ∧ h'.get? (h.objs.size + 1) = some { cls := .type r, data := .fields #[v, .int 0 0] } ∧
      (∀ c o, h.get? c = some o → h'.get? c = some o) := by
  have z1 : (zg1 h u t).objs.size = h.objs.size + 1 := Heap.size_push ..
  have z2 : (zg2 h u v t r).objs.size = h.objs.size + 2 := by rw [Heap.size_push, z1]
  have z3 : (zg3 h u v t r).objs.size = h.objs.size + 3 := by rw [Heap.size_push, z2]
  have z4 : (zg4 h u v t r).objs.size = h.objs.size + 4 := by rw [Heap.size_push, z3]
  have g5 : (zg5 h u v t r b).get? (zg4 h u v t r).objs.size = some _ := Heap.get?_push_size _ rfl
  have g4 : (zg5 h u v t r b).get? (zg3 h u v t r).objs.size = some _ := Heap.get?_push_of_some _ (Heap.get?_push_size _ rfl)
  have g3 : (zg5 h u v t r b).get? (zg2 h u v t r).objs.size = some _ := Heap.get?_push_of_some _ (Heap.get?_push_of_some _ (Heap.get?_push_size _ rfl))
  have g2 : (zg5 h u v t r b).get? (zg1 h u t).objs.size = some _ := Heap.get?_push_of_some _ (Heap.get?_push_of_some _ (Heap.get?_push_of_some _ (Heap.get?_push_size _ rfl)))
  have g1 : (zg5 h u v t r b).get? h.objs.size = some _ := Heap.get?_push_of_some _ (Heap.get?_push_of_some _ (Heap.get?_push_of_some _ (Heap.get?_push_of_some _ (Heap.get?_push_size _ rfl))))
  rw [z2, z3, z4] at g5
  rw [z1, z2] at g3
  rw [z3] at g4
  rw [z1] at g2
  exact ⟨z4, g5, g3, g4, g1, g2, fun c o q => Heap.get?_push_of_some _ (Heap.get?_push_of_some _ (Heap.get?_push_of_some _ (Heap.get?_push_of_some _ (Heap.get?_push_of_some _ q))))⟩
theorem call_zipG {u v : Value} {t r : String} {Q : Value → Shared → Prop} (h1 : IsSrc s.heap u t) (h2 : IsSrc s.heap v r) (h : Q (.ref (s.heap.objs.size + 4)) { s with heap := zg5 s.heap u v t r false }) :
    wpAny (model prog w) A (call (.type "zip") [u, v]) Q E s := by
  refine callType_new F.called_zip (by decide) (F.typeCall_zip_2 _ _) (F.newCall_zip_2 _ _) (fun obj => F.args_object_init_3 obj _ _) F.entry_zip_new (meets_zipG u v t r) ?_
  obtain ⟨z4, g5, _⟩ := zg_facts s.heap u v t r false
  refine ⟨h1, h2, ?_⟩
  show _ ∧ _
  rw [z4]
  exact ⟨⟨_, g5, rfl⟩, h⟩
theorem typeCall_zipS (a b : Value) : checkTypeCall "zip" ⟨[a, b], [(Str.ofString "strict", .bool true)]⟩ = pure () := by kernel_rfl
theorem newCall_zipS (a b : Value) : checkBuiltinCall "zip.__new__" ⟨[.type "zip", a, b], [(Str.ofString "strict", .bool true)]⟩ = pure () := by kernel_rfl
theorem args_zipS (a b c : Value) : argsOk "object.__init__" ⟨[a, b, c], [(Str.ofString "strict", .bool true)]⟩ := by unfold argsOk; kernel_rfl
theorem call_zipGs {u v : Value} {t r : String} {Q : Value → Shared → Prop} (h1 : IsSrc s.heap u t) (h2 : IsSrc s.heap v r) (h : Q (.ref (s.heap.objs.size + 4)) { s with heap := zg5 s.heap u v t r true }) :
    wpAny (model prog w) A (call (.type "zip") [u, v] [(Str.ofString "strict", .bool true)]) Q E s := by
  refine callType_newKw F.called_zip (by decide) (typeCall_zipS _ _) (newCall_zipS _ _) (fun obj => args_zipS obj _ _) F.entry_zip_new (meets_zipGs u v t r) ?_
  obtain ⟨z4, g5, _⟩ := zg_facts s.heap u v t r true
  refine ⟨h1, h2, ?_⟩
  show _ ∧ _
  rw [z4]
  exact ⟨⟨_, g5, rfl⟩, h⟩
end
/-- what may be zipped -/
inductive ZArg (K : PySem.W.Frag) (H : Hp) : V → (Hp → List V → Prop) → Prop
  | str (x : Str) : ZArg K H (.str x) (fun _ f => f = x.cps.toList.map fun c => V.str ⟨#[c]⟩)
  | lst {a : Addr} {xs : List V} (h : SqL K H a xs) : ZArg K H (.ref a) (fun H xs => SqL K H a xs)
  | tup {a : Addr} {xs : List V} (h : SqT K H a xs) : ZArg K H (.ref a) (fun H xs => SqT K H a xs)
theorem ZArg.mk {X : Cx} {pins : List (Addr × Obj)} {s : Shared} {σ : L2.St} {H : Hp} {v : V} {G : Hp → List V → Prop} {u : Value} (I : Inv X pins σ H s) (z : ZArg X.K H v G) (r : RelV v u) :
    ∃ ty, IsSrc s.heap u ty ∧ ∀ it, s.heap.objs.size ≤ it → ∃ fp St, ZSrc X.prog X.w X.K it fp St G ∧ (∀ h : Heap, h.get? it = some { cls := .type ty, data := .fields #[u, .int 0 0] } → St 0 h) ∧ it ∈ fp ∧ ∀ b ∈ fp, b = it ∨ b < s.heap.objs.size := by
  cases z with
  | str x =>
    obtain ⟨t, rfl⟩ := r
    exact ⟨_, .inl ⟨x, t, rfl, rfl⟩, fun it _ => ⟨_, _, zsrc_str (t := t), fun h e => ⟨_, e, rfl, rfl⟩, by simp, fun b hb => .inl (by simpa using hb)⟩⟩
  | lst h =>
    cases r
    obtain ⟨its, rv, pl, hz⟩ := I.list h
    exact ⟨_, .inr (.inl ⟨_, _, rfl, pl.isList, rfl⟩), fun it hi => ⟨_, _, zsrc_list (fun e => by have := pl.lt; rw [e] at this; exact absurd (Nat.lt_of_lt_of_le this hi) (Nat.lt_irrefl _)), fun h e => ⟨_, e, rfl, rfl⟩, by simp, fun b hb => by
      rcases List.mem_cons.mp hb with q | q
      · exact .inl q
      · rw [List.mem_singleton.mp q]; exact .inr pl.lt⟩⟩
  | tup h =>
    cases r
    obtain ⟨its, rv, pl, hz⟩ := I.tuple h
    obtain ⟨o1, ho1, _⟩ := id pl
    have lt := Heap.lt_size ho1
    exact ⟨_, .inr (.inr ⟨_, _, rfl, pl, rfl⟩), fun it hi => ⟨_, _, zsrc_tup (fun e => by rw [e] at lt; exact absurd (Nat.lt_of_lt_of_le lt hi) (Nat.lt_irrefl _)), fun h e => ⟨_, e, rfl, rfl⟩, by simp, fun b hb => by
      rcases List.mem_cons.mp hb with q | q
      · exact .inl q
      · rw [List.mem_singleton.mp q]; exact .inr lt⟩⟩
theorem zle {a I : Nat} (h : a = I ∨ a < I) : a ≤ I := by omega
theorem zle1 {a I : Nat} (h : a = I + 1 ∨ a < I) : a ≤ I + 1 := by omega
theorem zne {I j k : Nat} (h : j ≠ k) : I + j ≠ I + k := by omega
theorem zne0 {I j : Nat} (h : j ≠ 0) : I + j ≠ I := by omega
theorem znle {I j k : Nat} (h : k < j) : ¬ I + j ≤ I + k := by omega
theorem znle0 {I j : Nat} (h : 0 < j) : ¬ I + j ≤ I := by omega
theorem zn1 {I : Nat} : ¬ (I = I + 1 ∨ I < I) := by omega
theorem zn2 {I : Nat} : ¬ (I + 1 = I ∨ I + 1 < I) := by omega
theorem zip_sep (I : Nat) {fp1 fp2 : List Addr} (m1 : I ∈ fp1) (m2 : I + 1 ∈ fp2) (l1 : ∀ b ∈ fp1, b = I ∨ b < I) (l2 : ∀ b ∈ fp2, b = I + 1 ∨ b < I) : ZipSep2 (I + 4) (I + 2) (I + 3) I (I + 1) fp1 fp2 :=
  ⟨zne (by decide), zne (by decide), zne (by decide), zne0 (by decide), m1, fun q => znle0 (by decide) (zle (l1 _ q)), fun q => znle0 (by decide) (zle (l1 _ q)), zne (by decide), m2, fun q => znle (by decide) (zle1 (l2 _ q)), fun q => znle (by decide) (zle1 (l2 _ q)), fun q => zn1 (l2 _ q), fun q => zn2 (l1 _ q)⟩
theorem zip_fp {X : Cx} {pins : List (Addr × Obj)} {s : Shared} {σ : L2.St} {H : Hp} (I : Inv X pins σ H s) : ∀ c, c ∈ [s.heap.objs.size + 4, s.heap.objs.size + 2, s.heap.objs.size + 3, s.heap.objs.size, s.heap.objs.size + 1] → FpOk X pins H c := fun c hcm => by
  have e' : c = s.heap.objs.size + 4 ∨ c = s.heap.objs.size + 2 ∨ c = s.heap.objs.size + 3 ∨ c = s.heap.objs.size ∨ c = s.heap.objs.size + 1 := by simpa using hcm
  have hle : s.heap.objs.size ≤ c := by
    rcases e' with z | z | z | z | z
    · rw [z]; exact Nat.le_add_right _ _
    · rw [z]; exact Nat.le_add_right _ _
    · rw [z]; exact Nat.le_add_right _ _
    · rw [z]; exact Nat.le_refl _
    · rw [z]; exact Nat.le_add_right _ _
  exact I.fpOk hle (I.hok.fresh hle)
def iZipG (K : PySem.W.Frag) (ta : TA) : TI := fun σ H R => ta σ H fun vs H1 => ∃ v1 v2 G1 G2, vs = [v1, v2] ∧ ZArg K H1 v1 G1 ∧ ZArg K H1 v2 G2 ∧ R (ItZ2 G1 G2) H1
def iZipGs (K : PySem.W.Frag) (ta tk : TA) : TI := fun σ H R => ta σ H fun vs H1 => tk σ H1 fun zs H2 => ∃ v1 v2 G1 G2, vs = [v1, v2] ∧ zs = [.bl true] ∧ ZArg K H2 v1 G1 ∧ ZArg K H2 v2 G2 ∧ R (ItZs G1 G2) H2
theorem pi_zipG {X : Cx} {e e2 : Expr} {ta : TA} {p pos tpos : Pos} {elts : List Expr} {kk : Nat} (hg : Gl X "zip") (hm : X.mg "zip" = none) (ha : PA X [e, e2] ta)
    (hs : starEach [e, e2] X.env = (false, eval e X.env) :: starEach [e2] X.env := by rfl) (hpl : (backTo pos (starEach [e2] X.env)).any (·.1) = false := by rfl) :
    PI X (.Tuple elts kk tpos) (.Call (.Name "zip" p) [e, e2] [] pos) (iZipG X.K ta) := by
  refine ⟨fun pins s σ H R I h => ?_⟩
  refine Call_ (ld_blt I hg hm PyProof.Rows.boot_zip (PyProof.Rows.callWith_type1 (thn (ha.run pos pins s σ H _ I h) fun us s1 ⟨vs, H1, I1, r1, q1⟩ => ?_) hs hpl))
  obtain ⟨v1, v2, G1, G2, rfl, a1, a2, q⟩ := q1
  cases r1 with
  | cons r rr =>
    cases rr with
    | cons r' rr =>
      cases rr
      obtain ⟨t1, s1', m1⟩ := a1.mk I1 r
      obtain ⟨t2, s2', m2⟩ := a2.mk I1 r'
      obtain ⟨fp1, St1, Z1, b1, c1, d1⟩ := m1 s1.heap.objs.size (Nat.le_refl _)
      obtain ⟨fp2, St2, Z2, b2, c2, d2⟩ := m2 (s1.heap.objs.size + 1) (Nat.le_add_right _ _)
      refine call_zipG s1' s2' ?_
      obtain ⟨_, g5, g3, g4, g1, g2, hk⟩ := zg_facts s1.heap _ _ t1 t2 false
      refine wpAny_pyIter_zip g5 ?_
      have I2 : Inv X pins σ H1 { s1 with heap := zg5 s1.heap _ _ t1 t2 false } := I1.kept (t' := s1.toks) hk
      exact ⟨s1.heap.objs.size + 4, [s1.heap.objs.size + 4, s1.heap.objs.size + 2, s1.heap.objs.size + 3, s1.heap.objs.size, s1.heap.objs.size + 1], _, _, H1, rfl, I2, turn_zip2 (zip_sep _ c1 c2 d1 d2) Z1 Z2, ⟨g5, g3, ⟨_, _, g4⟩, b1 _ g1, b2 _ g2⟩, zip_fp I1, q⟩
section
variable {M : Model} {A : Around} {E : Value → Shared → Prop} {s : Shared} {env : Env}
theorem callWith_typeK {pos : Pos} {T : String} {first : List Value} {args : List (Bool × Sem Value)} {keywords : List (Option Str × Sem Value)} {Q : Value → Shared → Prop}
    (hplain : args.any (·.1) = false) (hkw : keywords.any (·.1.isNone) = false)
    (h : wpAny M A (evalArgs (.type T) true args keywords) (fun a s₁ => wpAny M A (call (.type T) (first ++ a.pos) a.kw) Q E s₁) E s) :
    wpAny M A (callWith pos (.type T) first args keywords) Q E s := by
  unfold callWith
  refine wpAny_bind (wpAny_holding (wpAny_mono h (fun a s₁ h₁ => wpAny_bind (wpAny_standAt ?_)) fun _ _ x => x))
  simp only [hplain, hkw, Bool.or_false]
  refine wpAny_bind (wpAny_pure ?_)
  exact wpAny_bind (wpAny_mono h₁ (fun r s₂ hr => wpAny_bind (wpAny_holding (wpAny_point (wpAny_pure hr)))) fun _ _ x => x)
theorem callWith_kwT {pos : Pos} {T : String} {e : Expr} {rest : List Expr} {kws : List Keyword} {Q : Value → Shared → Prop}
    (h : wpAny M A (spliced (backTo pos (starEach (e :: rest) env))) (fun vs s₁ => wpAny M A (evalAll ((backToKw pos (keywordEach kws env)).map (·.2)))
      (fun kvs s₂ => wpAny M A (call (.type T) vs (((backToKw pos (keywordEach kws env)).filterMap (·.1)).zip kvs)) Q E s₂) E s₁) E s)
    (he : backTo pos (starEach (e :: rest) env) = (false, eval e env) :: backTo pos (starEach rest env) := by rfl)
    (hplain : (backTo pos (starEach (e :: rest) env)).any (·.1) = false := by rfl)
    (hall : (backToKw pos (keywordEach kws env)).all (·.1.isSome) = true := by rfl)
    (hkw : (backToKw pos (keywordEach kws env)).any (·.1.isNone) = false := by rfl) :
    wpAny M A (callWith pos (.type T) [] (backTo pos (starEach (e :: rest) env)) (backToKw pos (keywordEach kws env))) Q E s := by
  refine callWith_typeK hplain hkw ?_
  rw [he] at h ⊢
  exact PyProof.Rows.evalArgs_kwB hall h
end
theorem pi_zipGs {X : Cx} {e e2 : Expr} {ta tk : TA} {p pos tpos : Pos} {elts : List Expr} {kk : Nat} {kws : List Keyword} (hg : Gl X "zip") (hm : X.mg "zip" = none) (ha : PA X [e, e2] ta) (hk : L2.PK X kws tk)
    (he : backTo pos (starEach [e, e2] X.env) = (false, eval e X.env) :: backTo pos (starEach [e2] X.env) := by rfl) (hpl : (backTo pos (starEach [e, e2] X.env)).any (·.1) = false := by rfl)
    (hall : (backToKw pos (keywordEach kws X.env)).all (·.1.isSome) = true := by rfl) (hnone : (backToKw pos (keywordEach kws X.env)).any (·.1.isNone) = false := by rfl) (hks : (backToKw pos (keywordEach kws X.env)).filterMap (·.1) = [Str.ofString "strict"] := by rfl) :
    PI X (.Tuple elts kk tpos) (.Call (.Name "zip" p) [e, e2] kws pos) (iZipGs X.K ta tk) := by
  refine ⟨fun pins s σ H R I h => ?_⟩
  refine wpAny_Call_Name_kw (ld_blt I hg hm PyProof.Rows.boot_zip ?_ (by decide) (by decide))
  refine callWith_kwT (thn (ha.run pos pins s σ H _ I h) fun us s1 ⟨vs, H1, I1, r1, q1⟩ => thn (hk.run pos pins s1 σ H1 _ I1 q1) fun ws s2 ⟨zs, H2, I2, r2, q2⟩ => ?_) he hpl hall hnone
  rw [hks]
  obtain ⟨v1, v2, G1, G2, rfl, rfl, a1, a2, q⟩ := q2
  obtain ⟨w1, rfl, e1⟩ := vals1 r2
  cases e1
  cases r1 with
  | cons r rr =>
    cases rr with
    | cons r' rr =>
      cases rr
      obtain ⟨t1, s1', m1⟩ := a1.mk I2 r
      obtain ⟨t2, s2', m2⟩ := a2.mk I2 r'
      obtain ⟨fp1, St1, Z1, b1, c1, d1⟩ := m1 s2.heap.objs.size (Nat.le_refl _)
      obtain ⟨fp2, St2, Z2, b2, c2, d2⟩ := m2 (s2.heap.objs.size + 1) (Nat.le_add_right _ _)
      refine call_zipGs s1' s2' ?_
      obtain ⟨_, g5, g3, g4, g1, g2, hk⟩ := zg_facts s2.heap _ _ t1 t2 true
      refine pyIter_zipSt g5 ?_
      have I3 : Inv X pins σ H2 { s2 with heap := zg5 s2.heap _ _ t1 t2 true } := I2.kept (t' := s2.toks) hk
      exact ⟨s2.heap.objs.size + 4, [s2.heap.objs.size + 4, s2.heap.objs.size + 2, s2.heap.objs.size + 3, s2.heap.objs.size, s2.heap.objs.size + 1], _, _, H2, rfl, I3, turn_zips (zip_sep _ c1 c2 d1 d2) Z1 Z2, ⟨g5, g3, ⟨_, _, g4⟩, b1 _ g1, b2 _ g2⟩, zip_fp I2, q⟩
/-! ### zip over data -/
def zSeq (M : Mo) : Dv → Option (List Dv × Option (Addr × List Dv))
  | .str x => some (signsD x, none)
  | .lst ds => some (ds, none)
  | .tup ds => some (ds, none)
  | .ref a => match M a with
    | some (.lst ds) => some (ds, some (a, ds))
    | _ => none
  | _ => none
def okOf : Option (Addr × List Dv) → Option (Addr × List Dv) → Mo → Prop
  | none, none => fun _ => True
  | some p, none => fun M => M p.1 = some (.lst p.2)
  | none, some p => fun M => M p.1 = some (.lst p.2)
  | some p, some q => fun M => M p.1 = some (.lst p.2) ∧ M q.1 = some (.lst q.2)
def okO : Option (Addr × List Dv) → Mo → Prop
  | none => fun _ => True
  | some p => fun M => M p.1 = some (.lst p.2)
theorem okOf_ok {o1 o2 : Option (Addr × List Dv)} {M : Mo} (h : okOf o1 o2 M) : okO o1 M ∧ okO o2 M := by
  cases o1 <;> cases o2
  · exact ⟨trivial, trivial⟩
  · exact ⟨trivial, h⟩
  · exact ⟨h, trivial⟩
  · exact h
theorem rds_signs {K : PySem.W.Frag} {H : Hp} (x : Str) : RDs K H (signsD x) (x.cps.toList.map fun c => V.str ⟨#[c]⟩) := by
  unfold signsD
  induction x.cps.toList with
  | nil => exact RDs.nil
  | cons c cs ih => exact RDs.cons .str ih
theorem zSeq_ok {K : PySem.W.Frag} {M : Mo} {H : Hp} {d : Dv} {v : V} {ds : List Dv} {o : Option (Addr × List Dv)} (s : SR K M H) (r : RD K H d v) (h : zSeq M d = some (ds, o)) :
    ∃ G, ZArg K H v G ∧ ∀ M1 H1, Stp K M H M1 H1 → okO o M1 → ∃ vs, G H1 vs ∧ RDs K H1 ds vs := by
  unfold zSeq at h
  split at h
  · rename_i x
    cases h
    rw [r.str_of]
    exact ⟨_, .str x, fun M1 H1 _ _ => ⟨_, rfl, rds_signs x⟩⟩
  · cases h
    unfold RD at r
    obtain ⟨a, vs, rfl, f, q⟩ := r
    exact ⟨_, .lst f.seq, fun M1 H1 st _ => ⟨vs, (st.keep.fz f).seq, q.keep st.keep⟩⟩
  · cases h
    unfold RD at r
    obtain ⟨a, vs, rfl, f, q⟩ := r
    exact ⟨_, .tup f, fun M1 H1 st _ => ⟨vs, st.keep.seqT f, q.keep st.keep⟩⟩
  · rename_i a
    split at h
    · rename_i ds' e
      cases h
      obtain ⟨vs, hv, q⟩ := own_at s e
      rw [r.ref_of]
      exact ⟨_, .lst (.inl (.inl hv)), fun M1 H1 st ho => by
        obtain ⟨vs1, hv1, q1⟩ := own_at st.sr ho
        exact ⟨vs1, .inl (.inl hv1), q1⟩⟩
    · cases h
  · cases h
def pairD (xs ys : List Dv) : List Dv := List.zipWith (fun a b => Dv.tup [a, b]) xs ys
theorem pairD_len (xs ys : List Dv) : (pairD xs ys).length = min xs.length ys.length := List.length_zipWith
theorem pairD_get {xs ys : List Dv} {i : Nat} {d : Dv} (h : (pairD xs ys)[i]? = some d) : ∃ a b, xs[i]? = some a ∧ ys[i]? = some b ∧ d = .tup [a, b] := by
  unfold pairD at h
  rw [List.getElem?_zipWith] at h
  split at h
  · rename_i a b e1 e2
    exact ⟨a, b, e1, e2, (Option.some.inj h).symm⟩
  · cases h
def kZip (M : Mo) (ds : List Dv) (F : List Dv → List Dv → (Mo → Prop) → Prop) : Prop := match ds with
  | [d, e] => match zSeq M d, zSeq M e with
    | some (xs, o1), some (ys, o2) => F xs ys (okOf o1 o2)
    | _, _ => False
  | _ => False
theorem i_kZip {M : Mo} {d e : Dv} {xs ys : List Dv} {o1 o2 : Option (Addr × List Dv)} {F : List Dv → List Dv → (Mo → Prop) → Prop} (h1 : zSeq M d = some (xs, o1)) (h2 : zSeq M e = some (ys, o2)) (h : F xs ys (okOf o1 o2)) : kZip M [d, e] F := by
  unfold kZip
  simp only [h1, h2]
  exact h
theorem zSeq_ref {M : Mo} {a : Addr} {ds : List Dv} (h : M a = some (.lst ds)) : zSeq M (.ref a) = some (ds, some (a, ds)) := by
  unfold zSeq
  simp only [h]
theorem zSeq_str {M : Mo} {x : Str} : zSeq M (.str x) = some (signsD x, none) := rfl
theorem zSeq_lst {M : Mo} {ds : List Dv} : zSeq M (.lst ds) = some (ds, none) := rfl
theorem zSeq_tup {M : Mo} {ds : List Dv} : zSeq M (.tup ds) = some (ds, none) := rfl
def iZipD (ta : TAD) : TID := fun sd M R => ta sd M fun ds M1 => kZip M1 ds fun xs ys ok => R ⟨pairD xs ys, ok⟩ M1
def iZipDs (ta tk : TAD) : TID := fun sd M R => ta sd M fun ds M1 => tk sd M1 fun es M2 => es = [.bl true] ∧ kZip M2 ds fun xs ys ok => xs.length = ys.length ∧ R ⟨pairD xs ys, ok⟩ M2
instance s_izip {ta : TAD} {sd : StD} {M : Mo} {R : ItD → Mo → Prop} : Step (iZipD ta sd M R) (ta sd M fun ds M1 => kZip M1 ds fun xs ys ok => R ⟨pairD xs ys, ok⟩ M1) := ⟨id⟩
instance s_izips {ta tk : TAD} {sd : StD} {M : Mo} {R : ItD → Mo → Prop} : Step (iZipDs ta tk sd M R) (ta sd M fun ds M1 => tk sd M1 fun es M2 => es = [.bl true] ∧ kZip M2 ds fun xs ys ok => xs.length = ys.length ∧ R ⟨pairD xs ys, ok⟩ M2) := ⟨id⟩
instance s_isTrue {p : Prop} : Step ([Dv.bl true] = [Dv.bl true] ∧ p) p := ⟨fun h => ⟨rfl, h⟩⟩
theorem itz_rel {K : PySem.W.Frag} {M : Mo} {H : Hp} {xs ys : List Dv} {o1 o2 : Option (Addr × List Dv)} {G1 G2 : Hp → List V → Prop} (k1 : ∀ M1 H1, Stp K M H M1 H1 → okO o1 M1 → ∃ vs, G1 H1 vs ∧ RDs K H1 xs vs) (k2 : ∀ M1 H1, Stp K M H M1 H1 → okO o2 M1 → ∃ vs, G2 H1 vs ∧ RDs K H1 ys vs) : ItRel K ⟨pairD xs ys, okOf o1 o2⟩ M H (ItZ2 G1 G2) :=
  ⟨fun i d M1 H1 s o e => by
    obtain ⟨a, b, e1, e2, rfl⟩ := pairD_get e
    obtain ⟨p1, p2⟩ := okOf_ok o
    obtain ⟨vs, g1, r1⟩ := k1 M1 H1 s p1
    obtain ⟨ws, g2, r2⟩ := k2 M1 H1 s p2
    obtain ⟨x, hx, rx⟩ := r1.get e1
    obtain ⟨y, hy, ry⟩ := r2.get e2
    refine ⟨⟨vs, ws, (List.getElem?_eq_some_iff.mp hx).1, (List.getElem?_eq_some_iff.mp hy).1, g1, g2⟩, fun v H2 z => ?_⟩
    obtain ⟨T, c1, c2, rfl, hT, rfl, h1⟩ := z
    obtain ⟨h2, h3⟩ := h1 vs ws g1 g2
    rw [hx] at h2
    rw [hy] at h3
    cases h2
    cases h3
    exact ⟨Stp.new0 s.sr hT, RD.pair rx ry hT⟩, fun M1 H1 s o => by
    obtain ⟨p1, p2⟩ := okOf_ok o
    obtain ⟨vs, g1, r1⟩ := k1 M1 H1 s p1
    obtain ⟨ws, g2, r2⟩ := k2 M1 H1 s p2
    refine ⟨vs, ws, ?_, g1, g2⟩
    show (pairD xs ys).length ≤ _ ∧ (pairD xs ys).length ≤ _ ∧ ((pairD xs ys).length = _ ∨ (pairD xs ys).length = _)
    rw [pairD_len, ← r1.length, ← r2.length]
    omega⟩
theorem itzs_rel2 {K : PySem.W.Frag} {M : Mo} {H : Hp} {xs ys : List Dv} {o1 o2 : Option (Addr × List Dv)} {G1 G2 : Hp → List V → Prop} (hl : xs.length = ys.length) (k1 : ∀ M1 H1, Stp K M H M1 H1 → okO o1 M1 → ∃ vs, G1 H1 vs ∧ RDs K H1 xs vs) (k2 : ∀ M1 H1, Stp K M H M1 H1 → okO o2 M1 → ∃ vs, G2 H1 vs ∧ RDs K H1 ys vs) : ItRel K ⟨pairD xs ys, okOf o1 o2⟩ M H (ItZs G1 G2) :=
  ⟨fun i d M1 H1 s o e => (itz_rel k1 k2).go i d M1 H1 s o e, fun M1 H1 s o => by
    obtain ⟨vs, ws, h1, h2, h3⟩ := (itz_rel k1 k2).stop M1 H1 s o
    obtain ⟨p1, p2⟩ := okOf_ok o
    obtain ⟨vs, g1, r1⟩ := k1 M1 H1 s p1
    obtain ⟨ws, g2, r2⟩ := k2 M1 H1 s p2
    refine ⟨vs, ws, ?_, g1, g2⟩
    show (pairD xs ys).length = _ ∧ (pairD xs ys).length = _
    rw [pairD_len, ← r1.length, ← r2.length]
    omega⟩
section
variable {X : Cx} {M0 : Mo} {H0 : Hp}
theorem di_zip {e e2 : Expr} {ta : TAD} {p pos tpos : Pos} {elts : List Expr} {kk : Nat} (hg : Gl X "zip") (hm : X.mg "zip" = none) (ha : PAd X M0 H0 [e, e2] ta) (hs : starEach [e, e2] X.env = (false, eval e X.env) :: starEach [e2] X.env := by rfl) (hpl : (backTo pos (starEach [e2] X.env)).any (·.1) = false := by rfl) :
    PId X M0 H0 (.Tuple elts kk tpos) (.Call (.Name "zip" p) [e, e2] [] pos) (iZipD ta) :=
  PI.imp (pi_zipG hg hm ha hs hpl) fun σ H R ⟨sd, M, Rd, w, q, c⟩ => ⟨sd, M, _, w, q, fun ds M1 vs H1 s1 r1 q1 => by
    unfold kZip at q1
    split at q1
    · rename_i d e
      obtain ⟨v, v2, rfl, ra, rb⟩ := r1.two
      split at q1
      · rename_i xs o1 ys o2 e1 e2
        obtain ⟨G1, z1, k1⟩ := zSeq_ok s1.sr ra e1
        obtain ⟨G2, z2, k2⟩ := zSeq_ok s1.sr rb e2
        exact ⟨v, v2, G1, G2, rfl, z1, z2, c _ _ _ _ s1 (itz_rel k1 k2) q1⟩
      · exact q1.elim
    · exact q1.elim⟩
theorem di_zips {e e2 : Expr} {ta tk : TAD} {p pos tpos : Pos} {elts : List Expr} {kk : Nat} {kws : List Keyword} (hg : Gl X "zip") (hm : X.mg "zip" = none) (ha : PAd X M0 H0 [e, e2] ta) (hk : PKd X M0 H0 kws tk)
    (he : backTo pos (starEach [e, e2] X.env) = (false, eval e X.env) :: backTo pos (starEach [e2] X.env) := by rfl) (hpl : (backTo pos (starEach [e, e2] X.env)).any (·.1) = false := by rfl)
    (hall : (backToKw pos (keywordEach kws X.env)).all (·.1.isSome) = true := by rfl) (hnone : (backToKw pos (keywordEach kws X.env)).any (·.1.isNone) = false := by rfl) (hks : (backToKw pos (keywordEach kws X.env)).filterMap (·.1) = [Str.ofString "strict"] := by rfl) :
    PId X M0 H0 (.Tuple elts kk tpos) (.Call (.Name "zip" p) [e, e2] kws pos) (iZipDs ta tk) :=
  PI.imp (pi_zipGs hg hm ha hk he hpl hall hnone hks) fun σ H R ⟨sd, M, Rd, w, q, c⟩ => ⟨sd, M, _, w, q, fun ds M1 vs H1 s1 r1 q1 => ⟨sd, M1, _, w.on s1, q1, fun es M2 zs H2 s2 r2 q2 => by
    obtain ⟨rfl, q2⟩ := q2
    obtain ⟨z, rfl, rz⟩ := r2.one
    rw [rz.bl_of]
    unfold kZip at q2
    split at q2
    · rename_i d e
      obtain ⟨v, v2, rfl, ra, rb⟩ := r1.two
      split at q2
      · rename_i xs o1 ys o2 e1 e2
        obtain ⟨hl, q2⟩ := q2
        obtain ⟨G1, z1, k1⟩ := zSeq_ok s2.sr (ra.keep s2.keep) e1
        obtain ⟨G2, z2, k2⟩ := zSeq_ok s2.sr (rb.keep s2.keep) e2
        exact ⟨v, v2, G1, G2, rfl, rfl, z1, z2, c _ _ _ _ (s1.trans s2) (itzs_rel2 hl k1 k2) q2⟩
      · exact q2.elim
    · exact q2.elim⟩⟩
end
end DL
namespace DL
open PySem PySem.Spec PyProof.Rows L2
/-! ### sorted(xs) of texts -/
end DL
namespace DL
open PySem PySem.Spec PyProof.Rows L2
/-! ### {True: e}.get(c) -/
def kTr (k : Dv) (p : Prop) : Prop := match k with
  | .bl true => p
  | _ => False
def kBl (c : Dv) (F : Bool → Prop) : Prop := match c with
  | .bl b => F b
  | _ => False
def dPick (tk tv tc : TED) : TED := fun sd M Q => tk sd M fun k M1 => kTr k (tv sd M1 fun v M2 => tc sd M2 fun c M3 => kBl c fun b => Q (if b = true then v else .non) M3)
section
variable {sd : StD} {M : Mo} {Q : QD} {tk tv tc : TED} {p : Prop} {b : Bool} {F : Bool → Prop}
instance s_pick : Step (dPick tk tv tc sd M Q) (tk sd M fun k M1 => kTr k (tv sd M1 fun v M2 => tc sd M2 fun c M3 => kBl c fun b => Q (if b = true then v else .non) M3)) := ⟨id⟩
instance s_kTr : Step (kTr (.bl true) p) p := ⟨id⟩
instance s_kBl : Step (kBl (.bl b) F) (F b) := ⟨id⟩
end
end DL
namespace DL
open PySem PySem.Spec PyProof.Rows L2 PySem.Froz
/-! ### sorted(set(text)) -/
/-- the set of texts at a, its table rises and can be walked -/
def TS (P : Program) (w : World) (h : Heap) (a : Addr) (l : List Str) : Prop :=
  ∃ D : SD, h.get? a = some (sObj "set" D) ∧ TxOk P w D l ∧ l.Nodup ∧ Ris D.2.2.place.toList ∧ (w.params.followText "set-order" = true ∨ D.2.2.led = true)
section
variable {P : Program} {w : World} {A : Around} {E : Value → Shared → Prop} {s : Shared}
theorem TS.at {h h' : Heap} {a : Addr} {l : List Str} (R : TS P w h a l) (k : ∀ o, h.get? a = some o → h'.get? a = some o) : TS P w h' a l := by
  obtain ⟨D, ho, r⟩ := R
  exact ⟨D, k _ ho, r⟩
end
/-! unlike ones, counted -/
/-- sorted(set(text)): the text's signs, each once, rising -/
def kSortTx (d : Dv) (M : Mo) (Q : QD) : Prop := match d with
  | .str x => x.length < 4096 ∧ (∀ l : List Nat, l.Nodup → (∀ c, c ∈ l → c ∈ x.cps.toList) → l.length < 64) ∧ ∀ ds : List Nat, ds.Pairwise (· < ·) → (∀ c, c ∈ ds ↔ c ∈ x.cps.toList) → ∀ p, M p = none → Q (.ref p) (mup M p (.lst (onesD ds)))
  | _ => False
def dSortTx (t : TED) : TED := fun sd M Q => t sd M fun d M1 => kSortTx d M1 Q
section
variable {sd : StD} {M : Mo} {Q : QD} {t : TED} {x : Str}
instance s_sortTx : Step (dSortTx t sd M Q) (t sd M fun d M1 => kSortTx d M1 Q) := ⟨id⟩
end
end DL
namespace DL
open PySem PySem.Spec PyProof.Rows L2
/-! ### o.m(k = v, ..) -/
def dMeSV (c m : Str) (sp : SpD) (nk : Nat) (sel : List (Nat ⊕ Nat)) (dvs : List Dv) (Ed : EXD) (tk : TAD) (sd : StD) (d : Dv) (M : Mo) (Q : QD) : Prop := match insV M d with
  | some (c', fs) => c' = c ∧ fs.lookup m = none ∧ tk sd M fun zs M2 => zs.length = nk ∧ sp (d :: pick zs dvs sel) M2 Q Ed
  | none => False
def dMeS (c m : Str) (sp : SpD) (nk : Nat) (sel : List (Nat ⊕ Nat)) (dvs : List Dv) (Ed : EXD) (to : TED) (tk : TAD) : TED := fun sd M Q => to sd M fun d M1 => dMeSV c m sp nk sel dvs Ed tk sd d M1 Q
def kMeS (sp : SpD) (nk : Nat) (sel : List (Nat ⊕ Nat)) (dvs : List Dv) (Ed : EXD) (d : Dv) (zs : List Dv) (M : Mo) (Q : QD) : Prop := zs.length = nk ∧ sp (d :: pick zs dvs sel) M Q Ed
section
variable {c m : Str} {a : Addr} {fs : List (Str × Dv)} {sp : SpD} {nk : Nat} {sel : List (Nat ⊕ Nat)} {dvs zs r : List Dv} {Ed : EXD} {to : TED} {tk : TAD} {sd : StD} {d : Dv} {M : Mo} {Q : QD}
instance s_meS : Step (dMeS c m sp nk sel dvs Ed to tk sd M Q) (to sd M fun d M1 => dMeSV c m sp nk sel dvs Ed tk sd d M1 Q) := ⟨id⟩
theorem i_meSK (h2 : fs.lookup m = none) (q : tk sd M fun zs M2 => kMeS sp nk sel dvs Ed (.obj c fs) zs M2 Q) : dMeSV c m sp nk sel dvs Ed tk sd (.obj c fs) M Q := ⟨rfl, h2, q⟩
theorem i_meSR (h1 : M a = some (.ins c fs)) (h2 : fs.lookup m = none) (q : tk sd M fun zs M2 => kMeS sp nk sel dvs Ed (.ref a) zs M2 Q) : dMeSV c m sp nk sel dvs Ed tk sd (.ref a) M Q := by
  unfold dMeSV insV
  simp only [h1]
  exact ⟨trivial, h2, q⟩
theorem i_kMeS (h2 : zs.length = nk) [p : Pick zs dvs sel r] (h : sp (d :: r) M Q Ed) : kMeS sp nk sel dvs Ed d zs M Q := ⟨h2, by rw [p.eq]; exact h⟩
end
/-! ### f(k = v, ..), nothing by place -/
end DL
/-! ### list(zip(x, y)) -/
namespace DL
open PySem PySem.Spec PyProof.Rows L2
end DL
namespace DL
open PySem PySem.Spec PyProof.Rows L2
section
open PySem.W
variable {prog : Program} {w : World} {A : Around} {E : Value → Shared → Prop} {s : Shared} {z TI TO i1 i2 : Addr} {fp1 fp2 : List Addr} {n1 n2 : Nat} {P1 P2 : Nat → Value → Prop} {St1 St2 : Nat → Heap → Prop} {R : Result → Shared → Prop}
/-- the pairs told so far -/
def ZIt (P1 P2 : Nat → Value → Prop) (N : Nat) (wr : List Addr) (h : Heap) (acc : Array Value) (i : Nat) : Prop := acc.size = i ∧ ∀ j v, acc[j]? = some v → ∃ T x y, v = .ref T ∧ IsTupOf2 h T x y ∧ P1 j x ∧ P2 j y ∧ T ∉ wr ∧ N ≤ T
theorem ZIt.keep {N : Nat} {wr : List Addr} {h h' : Heap} {acc : Array Value} {i : Nat} (q : ZIt P1 P2 N wr h acc i) (k : ∀ b o, b ∉ wr → h.get? b = some o → h'.get? b = some o) : ZIt P1 P2 N wr h' acc i :=
  ⟨q.1, fun j v e => by
    obtain ⟨T, x, y, rfl, h1, h2, h3, h4, h5⟩ := q.2 j v e
    exact ⟨T, x, y, rfl, k _ _ h4 h1, h2, h3, h4, h5⟩⟩
theorem ZIt.push {N : Nat} {wr : List Addr} {h : Heap} {acc : Array Value} {i : Nat} {T : Addr} {x y : Value} (q : ZIt P1 P2 N wr h acc i) (h1 : IsTupOf2 h T x y) (h2 : P1 i x) (h3 : P2 i y) (h4 : T ∉ wr) (h5 : N ≤ T) : ZIt P1 P2 N wr h (acc.push (.ref T)) (i + 1) := by
  refine ⟨by rw [Array.size_push, q.1], fun j v hj => ?_⟩
  rw [Array.getElem?_push] at hj
  split at hj
  · rename_i e; rw [q.1] at e; cases hj; rw [e]; exact ⟨T, x, y, rfl, h1, h2, h3, h4, h5⟩
  · exact q.2 j v hj
end
end DL
namespace DL
open PySem PySem.Spec PyProof.Rows L2
end DL
namespace DL
open PySem PySem.Spec PyProof.Rows L2
theorem vals_refs {Ts : List Addr} : Vals (Ts.map V.ref) (Ts.map Value.ref) := by
  induction Ts with
  | nil => exact .nil
  | cons t ts ih => exact .cons rfl ih
/-! over data -/
def kListZip (ds : List Dv) (M : Mo) (Q : QD) : Prop := match ds with
  | [d, e] => match zSeq M d, zSeq M e with
    | some (xs, _), some (ys, _) => min xs.length ys.length ≤ 16777216 ∧ ∀ p, M p = none → Q (.ref p) (mup M p (.lst (pairD xs ys)))
    | _, _ => False
  | _ => False
def dListZip (ta : TAD) : TED := fun sd M Q => ta sd M fun ds M1 => kListZip ds M1 Q
instance s_listZip {ta : TAD} {sd : StD} {M : Mo} {Q : QD} : Step (dListZip ta sd M Q) (ta sd M fun ds M1 => kListZip ds M1 Q) := ⟨id⟩
theorem i_listZip {M : Mo} {d e : Dv} {xs ys : List Dv} {o1 o2 : Option (Addr × List Dv)} {Q : QD} (h1 : zSeq M d = some (xs, o1)) (h2 : zSeq M e = some (ys, o2)) (hl : min xs.length ys.length ≤ 16777216) (h : ∀ p, M p = none → Q (.ref p) (mup M p (.lst (pairD xs ys)))) : kListZip [d, e] M Q := by
  unfold kListZip
  simp only [h1, h2]
  exact ⟨hl, h⟩
end DL
/-! ### sorted(set(xs)) of ints of few values -/
namespace DL
open PySem PySem.Spec PyProof.Rows L2
/-- few unlike ones -/
def FewI (ns : List Int) : Prop := ns.length + 1 < 4096 ∧ ∀ l : List Int, l.Nodup → (∀ k, k ∈ l → k ∈ ns) → l.length < 64
theorem FewI.range {ns : List Int} {n : Nat} (h : ns.length + 1 < 4096) (hn : n < 64) (h2 : ∀ k, k ∈ ns → 0 ≤ k ∧ k < (n : Int)) : FewI ns := ⟨h, fun l h1 h3 => by
  have : l ⊆ (List.range n).map fun i => ((i : Nat) : Int) := fun k hk => by
    obtain ⟨a, b⟩ := h2 k (h3 k hk)
    exact List.mem_map.mpr ⟨k.toNat, List.mem_range.mpr (by omega), by omega⟩
  have := List.Nodup.length_le_of_subset h1 this
  rw [List.length_map, List.length_range] at this
  omega⟩
def kSortSetF (d : Dv) (M : Mo) (Q : QD) : Prop := match (seqL M d).bind intsOf with
  | some ns => FewI ns ∧ ∀ ms : List Int, ms.Pairwise (· < ·) → (∀ k, k ∈ ms ↔ k ∈ ns) → ∀ p, M p = none → Q (.ref p) (mup M p (.lst (ms.map .int)))
  | none => False
def dSortSetF (t : TED) : TED := fun sd M Q => t sd M fun d M1 => kSortSetF d M1 Q
instance s_sortSetF {t : TED} {sd : StD} {M : Mo} {Q : QD} : Step (dSortSetF t sd M Q) (t sd M fun d M1 => kSortSetF d M1 Q) := ⟨id⟩
end DL
namespace DL
open PySem PySem.Spec PyProof.Rows L2
theorem signsD_len (x : Str) : (signsD x).length = x.length := by
  unfold signsD
  rw [List.length_map, str_len]
end DL
/-! dicts: keys that are ints or texts -/
namespace DL
open PySem PySem.Spec PyProof.Rows L2
abbrev KvD := List (Key × Dv)
/-- the entries of a dict, owned or not -/
def dctM (M : Mo) : Dv → Option KvD
  | .dct kvs => some kvs
  | .ref a => match M a with
    | some (.dK kvs) => some kvs
    | _ => none
  | _ => none
def keyD : Dv → Option Key
  | .int i => some (.inl i)
  | .str x => some (.inr x)
  | _ => none
def valD (kvs : KvD) (k : Key) : Option Dv := (kvs.find? fun kv => decide (kv.1 = k)).map (·.2)
def putDk (kvs : KvD) (k : Key) (v : Dv) : KvD := if (kvs.any fun kv => decide (kv.1 = k)) = true then kvs.map fun kv => if kv.1 = k then (kv.1, v) else kv else kvs ++ [(k, v)]
/-! ### look up -/
def kDict (M : Mo) (d : Dv) (F : KvD → Prop) : Prop := match dctM M d with
  | some kvs => F kvs
  | none => False
def kKey (d : Dv) (F : Key → Prop) : Prop := match keyD d with
  | some k => F k
  | none => False
def kSome (o : Option Dv) (F : Dv → Prop) : Prop := match o with
  | some d => F d
  | none => False
def dGetI (td ty : TED) : TED := fun sd M Q => td sd M fun d M1 => ty sd M1 fun y M2 => kDict M2 d fun kvs => kKey y fun k => kSome (valD kvs k) fun v => Q v M2
def dInD (ty td : TED) : TED := fun sd M Q => ty sd M fun y M1 => td sd M1 fun d M2 => kDict M2 d fun kvs => kKey y fun k => Q (.bl (valD kvs k).isSome) M2
def dNotInD (ty td : TED) : TED := fun sd M Q => ty sd M fun y M1 => td sd M1 fun d M2 => kDict M2 d fun kvs => kKey y fun k => Q (.bl (!(valD kvs k).isSome)) M2
def dGet1 (td ty : TED) : TED := fun sd M Q => td sd M fun d M1 => (∃ kvs, dctM M1 d = some kvs) ∧ ty sd M1 fun y M2 => kDict M2 d fun kvs => kKey y fun k => Q ((valD kvs k).getD .non) M2
def dGet2 (td ty tx : TED) : TED := fun sd M Q => td sd M fun d M1 => (∃ kvs, dctM M1 d = some kvs) ∧ ty sd M1 fun y M2 => tx sd M2 fun z M3 => kDict M3 d fun kvs => kKey y fun k => Q ((valD kvs k).getD z) M3
section
variable {X : Cx} {M0 : Mo} {H0 : Hp} {o i value : Expr} {td ty tv : TED} {pos : Pos}
/-! ### d[k] = v -/
def kPutD (M : Mo) (d y : Dv) (v : Dv) (nx : Mo → Prop) : Prop := match d with
  | .ref a => match M a with
    | some (.dK kvs) => kKey y fun k => kvs.length < 16777216 ∧ nx (mup M a (.dK (putDk kvs k v)))
    | _ => False
  | _ => False
def dSetD (td ty tv : TED) : TSD := fun D sd M => tv sd M fun v M1 => td sd M1 fun d M2 => ty sd M2 fun y M3 => kPutD M3 d y v fun M4 => D.nx sd M4
/-! ### {} and dict(d) -/
def dNewD : TED := fun sd M Q => ∀ p, M p = none → Q (.ref p) (mup M p (.dK []))
/-! ### walks of a dict that stands still -/
def kFzD (d : Dv) (F : KvD → Prop) : Prop := match d with
  | .dct kvs => F kvs
  | _ => False
def kD : Key → Dv
  | .inl i => .int i
  | .inr x => .str x
def iItemsD (td : TED) : TID := fun sd M R => td sd M fun d M1 => kFzD d fun kvs => R ⟨kvs.map fun p => .tup [kD p.1, p.2], fun _ => True⟩ M1
def iValsD (td : TED) : TID := fun sd M R => td sd M fun d M1 => kFzD d fun kvs => R ⟨kvs.map (·.2), fun _ => True⟩ M1
def iKeysD (td : TED) : TID := fun sd M R => td sd M fun d M1 => kFzD d fun kvs => R ⟨kvs.map fun p => kD p.1, fun _ => True⟩ M1
end
/-! ### steps -/
section
variable {M : Mo} {Q : QD} {sd : StD} {td ty tx tv : TED} {k : Key} {kvs : KvD} {nx : Mo → Prop}
instance s_getI : Step (dGetI td ty sd M Q) (td sd M fun d M1 => ty sd M1 fun y M2 => kDict M2 d fun kvs => kKey y fun k => kSome (valD kvs k) fun v => Q v M2) := ⟨id⟩
instance s_inD : Step (dInD ty td sd M Q) (ty sd M fun y M1 => td sd M1 fun d M2 => kDict M2 d fun kvs => kKey y fun k => Q (.bl (valD kvs k).isSome) M2) := ⟨id⟩
instance s_ninD : Step (dNotInD ty td sd M Q) (ty sd M fun y M1 => td sd M1 fun d M2 => kDict M2 d fun kvs => kKey y fun k => Q (.bl (!(valD kvs k).isSome)) M2) := ⟨id⟩
instance s_get1 : Step (dGet1 td ty sd M Q) (td sd M fun d M1 => (∃ kvs, dctM M1 d = some kvs) ∧ ty sd M1 fun y M2 => kDict M2 d fun kvs => kKey y fun k => Q ((valD kvs k).getD .non) M2) := ⟨id⟩
instance s_get2 : Step (dGet2 td ty tx sd M Q) (td sd M fun d M1 => (∃ kvs, dctM M1 d = some kvs) ∧ ty sd M1 fun y M2 => tx sd M2 fun z M3 => kDict M3 d fun kvs => kKey y fun k => Q ((valD kvs k).getD z) M3) := ⟨id⟩
instance s_setD {a b c : StD → Mo → Prop} {r : QD} : Step (dSetD td ty tv ⟨a, r, b, c⟩ sd M) (tv sd M fun v M1 => td sd M1 fun d M2 => ty sd M2 fun y M3 => kPutD M3 d y v fun M4 => a sd M4) := ⟨id⟩
instance s_newD : Step (dNewD sd M Q) (∀ p, M p = none → Q (.ref p) (mup M p (.dK []))) := ⟨id⟩
instance s_kDct {F : KvD → Prop} : Step (kDict M (.dct kvs) F) (F kvs) := ⟨id⟩
instance s_kKi {i : Int} {F : Key → Prop} : Step (kKey (.int i) F) (F (.inl i)) := ⟨id⟩
instance s_kKs {x : Str} {F : Key → Prop} : Step (kKey (.str x) F) (F (.inr x)) := ⟨id⟩
instance s_kSome {d : Dv} {F : Dv → Prop} : Step (kSome (some d) F) (F d) := ⟨id⟩
instance s_iItems {R : ItD → Mo → Prop} : Step (iItemsD td sd M R) (td sd M fun d M1 => kFzD d fun kvs => R ⟨kvs.map fun p => .tup [kD p.1, p.2], fun _ => True⟩ M1) := ⟨id⟩
instance s_iVals {R : ItD → Mo → Prop} : Step (iValsD td sd M R) (td sd M fun d M1 => kFzD d fun kvs => R ⟨kvs.map (·.2), fun _ => True⟩ M1) := ⟨id⟩
instance s_iKeys {R : ItD → Mo → Prop} : Step (iKeysD td sd M R) (td sd M fun d M1 => kFzD d fun kvs => R ⟨kvs.map fun p => kD p.1, fun _ => True⟩ M1) := ⟨id⟩
instance s_kFzD {F : KvD → Prop} : Step (kFzD (.dct kvs) F) (F kvs) := ⟨id⟩
instance s_exD {P : Prop} : Step ((∃ kvs', dctM M (.dct kvs) = some kvs') ∧ P) P := ⟨fun h => ⟨⟨kvs, rfl⟩, h⟩⟩
end
end DL
/-! a lambda of one parameter, called by a built-in; sorted(range(..), key=lambda ..) -/
namespace DL
open PySem PySem.Spec PyProof.Rows L2 LamX
end DL
namespace DL
open PySem PySem.Spec PyProof.Rows L2 LamX
/-! ### list.sort(key=f), f's calls under a standing of one's own -/
end DL
namespace DL
open PySem PySem.Spec PyProof.Rows L2 LamX
def rgI (lo hi : Int) : List Int := (List.range (hi - lo).toNat).map fun i => lo + (i : Nat)
/-- lo .. hi - 1 by their keys, those of one key as they are -/
def sortK (key : Int → Int) (lo hi : Int) : List Int := (rgI lo hi).mergeSort fun p q => decide (key p < key q ∨ (key p = key q ∧ p ≤ q))
end DL
namespace DL
open PySem PySem.Spec PyProof.Rows L2 LamX
/-! ### sorted(range(a, b), key=lambda x: ..) over data -/
def kSortK (P : Addr) (q : Str) (tl : TED) (j : Nat) (sd : StD) (ds : List Dv) (M : Mo) (Q : QD) : Prop := match ds with
  | [.int lo, .int hi] => 0 ≤ lo ∧ lo ≤ 16777216 ∧ 0 ≤ hi ∧ hi ≤ 16777216 ∧ M P = some (.tab q) ∧ ∃ key : Int → Int, (∀ i, lo ≤ i → i < hi → tl (sd.set j (some (.int i))) M fun d M' => d = .tup [.int (key i), .int i] ∧ M' = M) ∧
      ∀ p, M p = none → Q (.ref p) (mup M p (.lst ((sortK key lo hi).map .int)))
  | _ => False
def dSortK (P : Addr) (q : Str) (ta : TAD) (tl : TED) (j : Nat) : TED := fun sd M Q => ta sd M fun ds M1 => kSortK P q tl j sd ds M1 Q
instance s_sortK {P : Addr} {q : Str} {ta : TAD} {tl : TED} {j : Nat} {sd : StD} {M : Mo} {Q : QD} : Step (dSortK P q ta tl j sd M Q) (ta sd M fun ds M1 => kSortK P q tl j sd ds M1 Q) := ⟨id⟩
end DL
namespace DL
end DL
namespace DL
open PySem PySem.Spec PyProof.Rows L2
/-! isinstance of a dict that stands still -/
def dIsiD : RNd := fun ds M Q => match ds with
  | [.dct _, .ty b] => knownT b = true ∧ Q (.bl (isiB "dict" b)) M
  | _ => dIsi ds M Q
instance s_isiD {kvs : KvD} {b : String} {M : Mo} {Q : QD} : Step (dIsiD [.dct kvs, .ty b] M Q) (knownT b = true ∧ Q (.bl (isiB "dict" b)) M) := ⟨id⟩
end DL
/-! ### xs[a:c] = a new list -/
namespace DL
open PySem PySem.Spec PyProof.Rows L2
section
variable {X : Cx}
variable {M0 : Mo} {H0 : Hp}
/-- o[a:c] = a list of its own, which is given up -/
def kSlS (o : Dv) (i j : Int) (d : Dv) (M : Mo) (Q : Mo → Prop) : Prop := match o, d with
  | .ref l, .ref b => l ≠ b ∧ ∃ xs ys, M l = some (.lst xs) ∧ M b = some (.lst ys) ∧ 0 ≤ i ∧ i ≤ j ∧ j ≤ xs.length ∧ xs.length + ys.length ≤ 16777216 ∧ Q (mup (mdl M b) l (.lst (xs.take i.toNat ++ ys ++ xs.drop j.toNat)))
  | _, _ => False
def gSlS (to tl th : TED) : TGD := fun d sd M Q => to sd M fun o M1 => tl sd M1 fun a M2 => kI a fun i => th sd M2 fun c M3 => kI c fun j => kSlS o i j d M3 fun M4 => Q sd M4
end
instance s_gSlS {to tl th : TED} {d : Dv} {sd : StD} {M : Mo} {Q : StD → Mo → Prop} : Step (gSlS to tl th d sd M Q) (to sd M fun o M1 => tl sd M1 fun a M2 => kI a fun i => th sd M2 fun c M3 => kI c fun j => kSlS o i j d M3 fun M4 => Q sd M4) := ⟨id⟩
end DL
namespace DL
open PySem PySem.Spec PyProof.Rows L2
/-! ### list(text) -/
theorem vals_atX : ∀ {xs : List V} {us : List Value}, xs.length = us.length → (∀ (j : Nat) x u, xs[j]? = some x → us[j]? = some u → RelV x u) → Vals xs us
  | [], [], _, _ => .nil
  | [], _ :: _, h, _ => by simp at h
  | _ :: _, [], h, _ => by simp at h
  | x :: xs, u :: us, h, f => .cons (f 0 x u rfl rfl) (vals_atX (by simpa using h) fun j y w h1 h2 => f (j + 1) y w (by simpa using h1) (by simpa using h2))
section
variable {X : Cx}
theorem cr_listStr (hc : X.calm = true) : CallR X (.type "list") (fun xs H Q => ∃ x : Str, xs = [.str x] ∧ x.cps.size ≤ sizeLine ∧ ∀ p, H p = none → Q (.ref p) (upd H p (.lst (x.cps.toList.map fun c => V.str ⟨#[c]⟩)))) := by
  intro pins s σ H xs us Q I r h
  obtain ⟨x, rfl, hz, q⟩ := h
  obtain ⟨u, rfl, rx⟩ := vals1 r
  obtain ⟨t, rfl⟩ := rx
  refine call_list_str (I.ok.hd hc) x t (fun h' tk acc' c' hk hS hacc => ?_) hz
  refine ⟨.ref s.heap.objs.size, upd H s.heap.objs.size (.lst (x.cps.toList.map fun c => V.str ⟨#[c]⟩)), I.laid hk (Nat.le_refl _) (show ObjOk X.prog X.w _ _ _ (.lst (x.cps.toList.map fun c => V.str ⟨#[c]⟩)) from ⟨?_, acc'.toList, c', ?_, ?_⟩), rfl, q _ (I.hok.fresh (Nat.le_refl _))⟩
  · rw [List.length_map, Array.length_toList]; exact hz
  · refine vals_atX (by rw [List.length_map, Array.length_toList, Array.length_toList, hacc.1]) fun j y v h1 h2 => ?_
    rw [Array.getElem?_toList] at h2
    obtain ⟨c, t2, hcx, rfl⟩ := hacc.2 j v h2
    rw [List.getElem?_map, Array.getElem?_toList, hcx] at h1
    cases h1
    exact ⟨t2, rfl⟩
  · rw [Array.toArray_toList]; exact hS
def dListX : RNd := fun ds M Q => match ds with
  | [.str x] => x.length ≤ 16777216 ∧ ∀ p, M p = none → Q (.ref p) (mup M p (.lst (signsD x)))
  | _ => False
theorem rds_signsX {K : PySem.W.Frag} {H : Hp} : ∀ cs : List Nat, RDs K H (cs.map fun c => Dv.str ⟨#[c]⟩) (cs.map fun c => V.str ⟨#[c]⟩)
  | [] => .nil
  | _ :: cs => .cons (by unfold RD; rfl) (rds_signsX cs)
theorem cd_listX (hc : X.calm = true) : CallR X (.type "list") (LNop X.K dListX) := cd_I (cr_listStr hc) fun ds M Qd xs H Q rs sr q c => by
  unfold dListX at q
  split at q
  · rename_i x
    obtain ⟨v, rfl, r1⟩ := rs.one
    rw [r1.str_of]
    refine ⟨x, rfl, by have := q.1; rw [sizeLine_eq]; exact this, fun p hp => c _ _ _ _ (Stp.new sr hp (own_lst hp ?_)) .ref (q.2 p (sr.free hp))⟩
    exact rds_signsX _
  · exact q.elim
end
theorem i_listX {x : Str} {M : Mo} {Q : QD} (h1 : x.length ≤ 16777216) (h : ∀ p, M p = none → Q (.ref p) (mup M p (.lst (signsD x)))) : dListX [.str x] M Q := ⟨h1, h⟩
end DL
/-! ### sum(xs) of ints -/
namespace DL
open PySem PySem.Spec PyProof.Rows L2
end DL
/-! dicts whose keys are tuples of any depth -/
namespace DL
open PySem PySem.Spec PyProof.Rows L2
abbrev KvT := List (NestedKey × Dv)
theorem Stp.setK {K : PySem.W.Frag} {M : Mo} {H : Hp} (s : SR K M H) {p : Addr} {u : HO} {oo o1 : OO} (hp : M p = some o1) (k : Keep H (upd H p u)) (h : Own K (upd H p u) p oo) : Stp K M H (mup M p oo) (upd H p u) := by
  refine ⟨k, fun a o e => ?_, fun a o h => ?_, fun a o h _ n => ?_⟩
  · by_cases q : a = p
    · subst q
      rw [mup_same] at e
      cases e
      exact h
    · rw [mup_ne q] at e
      exact (s a o e).keep k (upd_ne q)
  · by_cases q : a = p
    · subst q
      rw [upd_same]
      intro z
      cases z
    · rw [upd_ne q, h]
      intro z
      cases z
  · have q : a ≠ p := fun z => by subst z; rw [hp] at n; cases n
    exact ⟨by rw [upd_ne q]; exact h, by rw [mup_ne q]; exact n⟩
/-! ### keys in the heap -/
section
variable {X : Cx} {pins : List (Addr × Obj)} {σ : L2.St} {H : Hp} {s : Shared}
mutual
theorem nk_is (I : Inv X pins σ H s) : ∀ (k : NestedKey) (v : V) (u : Value), RD X.K H (nkD k) v → RelV v u → NestedIs s.heap k u
  | .none, v, u, r, q => by
    unfold nkD at r
    rw [r.non_of] at q
    rw [show u = Value.none from q]
    exact .none
  | .num i, v, u, r, q => by
    unfold nkD at r
    rw [r.int_of] at q
    obtain ⟨t, rfl⟩ := q
    exact .int i t
  | .text x, v, u, r, q => by
    unfold nkD at r
    rw [r.str_of] at q
    obtain ⟨t, rfl⟩ := q
    exact .text x t
  | .tup ks, v, u, r, q => by
    unfold nkD RD at r
    obtain ⟨a, vs, rfl, sq, rr⟩ := r
    obtain rfl : u = Value.ref a := q
    obtain ⟨its, hv, ⟨o, ho, hc, n, hd⟩, _⟩ := I.tuple sq
    exact .tup ho hc hd (nk_all I ks vs its rr hv)
theorem nk_all (I : Inv X pins σ H s) : ∀ (ks : List NestedKey) (vs : List V) (us : List Value), RDs X.K H (nkDs ks) vs → Vals vs us → NestedAll s.heap ks us
  | [], vs, us, r, q => by
    unfold nkDs RDs at r
    subst r
    cases q
    exact .nil
  | k :: ks, vs, us, r, q => by
    unfold nkDs RDs at r
    obtain ⟨v, w, rfl, h1, h2⟩ := r
    cases q with
    | cons a b => exact .cons (nk_is I k v _ h1 a) (nk_all I ks w _ h2 b)
end
/-- the keys of the entries stand -/
def KOk (K : PySem.W.Frag) (H : Hp) (xs : List Ent) : Prop := ∀ x ∈ xs, x.1.depth ≤ 8 ∧ RD K H (nkD x.1) (.ref x.2.1)
theorem t_dict {a : Addr} {xs : List Ent} (I : Inv X pins σ H s) (e : H a = some (dictO X.w a xs)) (hk : KOk X.K H xs) : (a == sysModules) = false ∧ xs.length ≤ sizeLine ∧ s.heap.DictOfH (nestedKind X.prog X.w) a xs ∧ ∀ q, H a ≠ some (LamX.CodeO a q) := by
  obtain ⟨⟨h1, h2, h3, o, es, ep, ho, hc, hd, he⟩, _, _⟩ := (show ObjOk X.prog X.w H s.heap a (dictO X.w a xs) from I.hok a _ e)
  refine ⟨h1, h2, ⟨o, es, ep, ho, hc, hd, he, fun x hx => ⟨nk_is I x.1 (.ref x.2.1) (.ref x.2.1) (hk x hx).2 rfl, (hk x hx).1⟩, h3⟩, fun q z => ?_⟩
  obtain ⟨⟨oc, vs, t, hoc, hdc, _⟩, _, _⟩ := (show ObjOk X.prog X.w H s.heap a (LamX.CodeO a q) from I.hok a _ z)
  rw [ho] at hoc
  cases hoc
  rw [hd] at hdc
  cases hdc
/-- a dict that is read: owned, or it stands still -/
def RdT (w : World) (H : Hp) (a : Addr) (xs : List Ent) : Prop := H a = some (dictO w a xs) ∨ ∃ o, H a = some (.frz o (dictO w a xs))
theorem t_dictR {a : Addr} {xs : List Ent} (I : Inv X pins σ H s) (e : RdT X.w H a xs) (hk : KOk X.K H xs) : (a == sysModules) = false ∧ xs.length ≤ sizeLine ∧ s.heap.DictOfH (nestedKind X.prog X.w) a xs := by
  have e2 : ObjOk X.prog X.w H s.heap a (dictO X.w a xs) := by
    rcases e with e | ⟨o, e⟩
    · exact I.hok a _ e
    · exact (show ObjOk X.prog X.w H s.heap a (.frz o (dictO X.w a xs)) from I.hok a _ e).2
  obtain ⟨⟨h1, h2, h3, o, es, ep, ho, hc, hd, he⟩, _, _⟩ := e2
  exact ⟨h1, h2, ⟨o, es, ep, ho, hc, hd, he, fun x hx => ⟨nk_is I x.1 (.ref x.2.1) (.ref x.2.1) (hk x hx).2 rfl, (hk x hx).1⟩, h3⟩⟩
theorem dictO_ok {P : Program} {w : World} {h : Heap} {a : Addr} {xs : List Ent} (h1 : (a == sysModules) = false) (h2 : xs.length ≤ sizeLine) (hm : h.DictOfH (nestedKind P w) a xs) : ObjOk P w H h a (dictO w a xs) := by
  obtain ⟨o, es, ep, ho, hc, hd, he, _, hn⟩ := hm
  exact ⟨⟨h1, h2, hn, o, es, ep, ho, hc, hd, he⟩, ⟨o, ho⟩, fun _ _ ⟨x1, x2, x3, y, z1, z2, z3, z4, z5, z6⟩ k => ⟨x1, x2, x3, y, z1, z2, k y z3, z4, z5, z6⟩⟩
/-- a key told -/
def DTk (K : PySem.W.Frag) (H : Hp) (y : V) (b : Addr) (k : NestedKey) : Prop := y = .ref b ∧ RD K H (nkD k) y ∧ k.depth ≤ 8
theorem DTk.is {y : V} {b : Addr} {k : NestedKey} {u : Value} (I : Inv X pins σ H s) (h : DTk X.K H y b k) (r : RelV y u) : u = .ref b ∧ (nestedKind X.prog X.w).is s.heap k b := by
  obtain ⟨rfl, h2, h3⟩ := h
  obtain rfl : u = Value.ref b := r
  exact ⟨rfl, nk_is I k _ _ h2 rfl, h3⟩
theorem room9 {A : Around} (hu : A.units + 16 < cLine) : (nestedKind X.prog X.w).room A.in1 := by
  show A.in1.units + 8 < cLine
  have : A.in1.units ≤ A.units + 1 := by show (A.in1).units ≤ _; unfold Around.in1; simp
  omega
end
/-! ### the hand layer's rules -/
section
variable {X : Cx} {o i e value : Expr} {pos pos' : Pos} {td ty tv : TE}
def tTGet (K : PySem.W.Frag) (w : World) (td ty : TE) : TE := fun σ H Q => td σ H fun x H1 => ty σ H1 fun y H2 => ∃ a xs b k v v0, x = .ref a ∧ RdT w H2 a xs ∧ KOk K H2 xs ∧ DTk K H2 y b k ∧ (atKey xs k).map (·.2) = some v0 ∧ RelV v v0 ∧ Q v H2
theorem pe_tget (hu : X.A.units + 16 < cLine) (ho : PE X o td) (hi : PE X i ty) (hs : NoSl i) : PE X (.Subscript o i pos) (tTGet X.K X.w td ty) := by
  refine ⟨fun pins s σ H Q I h => ?_⟩
  refine subD_of PySem.F.slot_dict_getitem.lookup hs (thn (ho.run pins s σ H _ I h) fun u s1 ⟨x, H1, I1, rx, q1⟩ => thn (hi.run pins s1 σ H1 _ I1 q1) fun iv s2 ⟨y, H2, I2, ry, a, xs, b, k, v, v0, ex, he, hk, hb, hv, rv, q2⟩ => ?_)
  subst ex
  obtain rfl : u = Value.ref a := rx
  obtain ⟨_, _, hm⟩ := t_dictR I2 he hk
  obtain ⟨rfl, his⟩ := hb.is I2 ry
  refine ⟨hm.typeIs, ?_⟩
  obtain ⟨p, hp, rfl⟩ := Option.map_eq_some_iff.mp hv
  exact wpAny_getItem_heap (room9 (X := X) hu) his hm hp ⟨v, H2, I2.tok _, rv, q2⟩
def tTIn (K : PySem.W.Frag) (w : World) (f : Bool → Bool) (ty td : TE) : TE := fun σ H Q => ty σ H fun y H1 => td σ H1 fun x H2 => ∃ a xs b k, x = .ref a ∧ RdT w H2 a xs ∧ KOk K H2 xs ∧ DTk K H2 y b k ∧ Q (.bl (f (atKey xs k).isSome)) H2
theorem pc_tin (hu : X.A.units + 16 < cLine) (hi : PE X i ty) (ho : PE X o td) : PC X .In i o (tTIn X.K X.w id ty td) := by
  refine ⟨fun pins s σ H Q I h => ?_⟩
  refine thn (hi.run pins s σ H _ I h) fun iv s1 ⟨y, H1, I1, ry, q1⟩ => thn (ho.run pins s1 σ H1 _ I1 q1) fun u s2 ⟨x, H2, I2, rx, a, xs, b, k, ex, he, hk, hb, q2⟩ => ?_
  subst ex
  obtain rfl : u = Value.ref a := rx
  obtain ⟨h1, _, hm⟩ := t_dictR I2 he hk
  have hb2 : DTk X.K H2 y b k := hb
  obtain ⟨rfl, his⟩ := hb2.is I2 ry
  exact wpAny_in_heap (room9 (X := X) hu) his h1 hm ⟨.bl (atKey xs k).isSome, H2, I2.tok _, rfl, q2⟩
theorem pc_tnotin (hu : X.A.units + 16 < cLine) (hi : PE X i ty) (ho : PE X o td) : PC X .NotIn i o (tTIn X.K X.w not ty td) := by
  refine ⟨fun pins s σ H Q I h => ?_⟩
  refine thn (hi.run pins s σ H _ I h) fun iv s1 ⟨y, H1, I1, ry, q1⟩ => thn (ho.run pins s1 σ H1 _ I1 q1) fun u s2 ⟨x, H2, I2, rx, a, xs, b, k, ex, he, hk, hb, q2⟩ => ?_
  subst ex
  obtain rfl : u = Value.ref a := rx
  obtain ⟨h1, _, hm⟩ := t_dictR I2 he hk
  have hb2 : DTk X.K H2 y b k := hb
  obtain ⟨rfl, his⟩ := hb2.is I2 ry
  exact wpAny_notIn_heap (room9 (X := X) hu) his h1 hm ⟨.bl (!(atKey xs k).isSome), H2, I2.tok _, rfl, q2⟩
def sTPut (K : PySem.W.Frag) (w : World) (td ty tv : TE) : L2.TS := fun D σ H => tv σ H fun v H1 => td σ H1 fun x H2 => ty σ H2 fun y H3 => ∃ a xs b k, x = .ref a ∧ H3 a = some (dictO w a xs) ∧ KOk K H3 xs ∧ DTk K H3 y b k ∧ xs.length < sizeLine ∧
  ((∀ q, H3 a ≠ some (LamX.CodeO a q)) → ∀ r, RelV v r → D.nx σ (upd H3 a (dictO w a (storedH xs k b r))))
theorem storedH_le {xs : List Ent} {k : NestedKey} {b : Addr} {r : Value} (h : xs.length < sizeLine) : (storedH xs k b r).length ≤ sizeLine := by
  unfold storedH
  split
  · rw [List.length_map]; omega
  · rw [List.length_append]; exact h
theorem ps_tput (hu : X.A.units + 16 < cLine) (ho : PE X o td) (hi : PE X i ty) (hv : PE X value tv) (hs : swapsWith value (some (.Subscript o i pos')) pos.line X.env = pure false) :
    PS X (.Assign [.Subscript o i pos'] value pos) (sTPut X.K X.w td ty tv) := by
  refine ⟨fun pins s σ H D I h => ?_⟩
  refine wpAny_Assign_Subscript (thn (hv.run pins s σ H _ I h) fun r s1 ⟨v, H1, I1, rv, q1⟩ => thn (ho.run pins s1 σ H1 _ I1 q1) fun u s2 ⟨x, H2, I2, rx, q2⟩ => thn (hi.run pins s2 σ H2 _ I2 q2) fun iv s3 ⟨y, H3, I3, ry, a, xs, b, k, ex, he, hk, hb, hl, q3⟩ => ?_) hs
  subst ex
  obtain rfl : u = Value.ref a := rx
  obtain ⟨h1, h2, hm, hc⟩ := t_dict I3 he hk
  obtain ⟨rfl, his⟩ := hb.is I3 ry
  refine wpAny_setItem_heap (hsz := h2) (room9 (X := X) hu) his hm fun h' hm' hs' => ⟨σ, _, ?_, q3 hc r rv⟩
  have ho' : ∃ q, h'.get? a = some q := let ⟨q, _, _, hq, _⟩ := hm'; ⟨q, hq⟩
  exact d_write I3 (by rw [he]; exact trivial) hs' ho' (dictO_ok h1 (storedH_le hl) hm')
theorem dt_empty2 {P : Program} {w : World} {H : Hp} (h : Heap) (hb : sysModules < h.objs.size) : ObjOk P w H (h.push { cls := .type "dict", data := .dict #[] }) h.objs.size (dictO w h.objs.size []) :=
  dictO_ok (beq_eq_false_iff_ne.mpr (Ne.symm (Nat.ne_of_lt hb))) (Nat.zero_le _) (Heap.DictOfH.new h)
def tTNew (w : World) : TE := fun _ H Q => ∀ p, H p = none → Q (.ref p) (upd H p (dictO w p []))
theorem pe_tnew : PE X (.Dict [] [] pos) (tTNew X.w) := ⟨fun pins s σ H Q I h =>
  wpAny_Dict_empty ⟨.ref s.heap.objs.size, _, I.laid (a := s.heap.objs.size) (o := dictO X.w s.heap.objs.size []) (t' := s.toks) (fun _ _ q => Heap.get?_push_of_some _ q) (Nat.le_refl _) (dt_empty2 s.heap I.big), rfl, h _ (I.hok.fresh (Nat.le_refl _))⟩⟩
end
theorem room16 {n m : Nat} (h : n + 64 < m) : n + 16 < m := by omega
/-! ### data -/
def valT (kvs : KvT) (k : NestedKey) : Option Dv := (kvs.find? fun p => decide (p.1 = k)).map (·.2)
def putT (kvs : KvT) (k : NestedKey) (v : Dv) : KvT := if (valT kvs k).isSome = true then kvs.map fun p => if p.1 = k then (p.1, v) else p else kvs ++ [(k, v)]
section
variable {K : PySem.W.Frag} {H : Hp}
theorem es_find {kvs : KvT} {xs : List Ent} (r : REs K H kvs xs) (k : NestedKey) : (valT kvs k = none ∧ atKey xs k = none) ∨ ∃ d b v0 v, valT kvs k = some d ∧ atKey xs k = some (b, v0) ∧ RelV v v0 ∧ RD K H d v := by
  induction r with
  | nil => exact .inl ⟨rfl, rfl⟩
  | @cons p x ps ys h t ih =>
    obtain ⟨h1, h2, h3, v, h4, h5⟩ := h
    by_cases e : p.1 = k
    · refine .inr ⟨p.2, x.2.1, x.2.2, v, ?_, ?_, h4, h5⟩
      · unfold valT
        rw [List.find?_cons_of_pos (by simp [e])]
        rfl
      · unfold atKey
        rw [List.find?_cons_of_pos (by simp [← h1, e])]
        rfl
    · rw [show valT (p :: ps) k = valT ps k by unfold valT; rw [List.find?_cons_of_neg (by simp [e])], show atKey (x :: ys) k = atKey ys k by unfold atKey; rw [List.find?_cons_of_neg (by simp [← h1, e])]]
      exact ih
theorem es_kok {kvs : KvT} {xs : List Ent} (r : REs K H kvs xs) : KOk K H xs := by
  induction r with
  | nil => exact fun x hx => by cases hx
  | cons h t ih =>
    intro x hx
    rcases List.mem_cons.mp hx with rfl | hx
    · exact ⟨h.2.1, h.2.2.1⟩
    · exact ih x hx
theorem es_len {kvs : KvT} {xs : List Ent} (r : REs K H kvs xs) : kvs.length = xs.length := Paired.length r
theorem es_put {kvs : KvT} {xs : List Ent} (rr : REs K H kvs xs) {y v : V} {b : Addr} {k : NestedKey} {d : Dv} {r : Value} (hb : DTk K H y b k) (rv : RelV v r) (rd : RD K H d v) : REs K H (putT kvs k d) (storedH xs k b r) := by
  obtain ⟨rfl, hb1, hb2⟩ := hb
  have e : (valT kvs k).isSome = (atKey xs k).isSome := by
    rcases es_find rr k with ⟨a, c⟩ | ⟨_, _, _, _, a, c, _⟩ <;> rw [a, c] <;> rfl
  unfold putT storedH
  rw [e]
  split
  · rename_i hq
    clear e hq
    induction rr with
    | nil => exact .nil
    | @cons p x ps ys h t ih =>
      refine .cons ?_ ih
      obtain ⟨h1, h2, h3, u, h4, h5⟩ := h
      show REn K H (if p.1 = k then (p.1, d) else p) (if x.1 = k then (x.1, x.2.1, r) else x)
      by_cases q : p.1 = k
      · rw [if_pos q, if_pos (h1 ▸ q)]
        exact ⟨h1, h2, h3, v, rv, rd⟩
      · rw [if_neg q, if_neg (h1 ▸ q)]
        exact ⟨h1, h2, h3, u, h4, h5⟩
  · rename_i hq
    clear e hq
    induction rr with
    | nil => exact .cons ⟨rfl, hb2, hb1, v, rv, rd⟩ .nil
    | cons h t ih => exact .cons h ih
theorem keyT_ok {d : Dv} {v : V} {k : NestedKey} {ks : List NestedKey} (r : RD K H d v) (h : d = nkD k) (hk : k = .tup ks) (h8 : k.depth ≤ 8) : ∃ b, DTk K H v b k := by
  subst h hk
  have r0 := r
  unfold nkD RD at r0
  obtain ⟨a, vs, rfl, _⟩ := r0
  exact ⟨a, rfl, r, h8⟩
end
def kDctT (w : World) (M : Mo) (d : Dv) (F : Addr → KvT → Prop) : Prop := ∃ a kvs, d = .ref a ∧ M a = some (.dT w kvs) ∧ F a kvs
def kDctR (w : World) (M : Mo) (d : Dv) (F : Addr → KvT → Prop) : Prop := (∃ a kvs, d = .ref a ∧ M a = some (.dT w kvs) ∧ F a kvs) ∨ ∃ kvs, d = .dctT w kvs ∧ F default kvs
class KDc (k : World → Mo → Dv → (Addr → KvT → Prop) → Prop) : Prop where
  kd : ∀ {w : World} {M : Mo} {a : Addr} {kvs : KvT} {F : Addr → KvT → Prop}, M a = some (.dT w kvs) → F a kvs → k w M (.ref a) F
instance kdc_T : KDc kDctT := ⟨fun h q => ⟨_, _, rfl, h, q⟩⟩
instance kdc_R : KDc kDctR := ⟨fun h q => .inl ⟨_, _, rfl, h, q⟩⟩
def kKyT (d : Dv) (F : NestedKey → Prop) : Prop := ∃ k ks, d = nkD k ∧ k = .tup ks ∧ k.depth ≤ 8 ∧ F k
theorem own_dT {K : PySem.W.Frag} {M : Mo} {H : Hp} (s : SR K M H) {a : Addr} {w : World} {kvs : KvT} (e : M a = some (.dT w kvs)) : ∃ xs, H a = some (dictO w a xs) ∧ REs K H kvs xs := by
  have ow := s a _ e
  simp only [Own] at ow
  exact ow
theorem kDctR_of {K : PySem.W.Frag} {w : World} {M : Mo} {H : Hp} {d : Dv} {v : V} {F : Addr → KvT → Prop} (s : SR K M H) (r : RD K H d v) (h : kDctR w M d F) : ∃ a b xs kvs, v = .ref a ∧ RdT w H a xs ∧ REs K H kvs xs ∧ F b kvs := by
  rcases h with ⟨a, kvs, rfl, e, h⟩ | ⟨kvs, rfl, h⟩
  · obtain ⟨xs, hx, rr⟩ := own_dT s e
    exact ⟨a, a, xs, kvs, r.ref_of, .inl hx, rr, h⟩
  · unfold RD at r
    obtain ⟨a, o, xs, rfl, e, rr⟩ := r
    exact ⟨a, _, xs, kvs, rfl, .inr ⟨o, e⟩, rdk2.mp rr, h⟩
def dTGet (w : World) (td ty : TED) : TED := fun sd M Q => td sd M fun d M1 => ty sd M1 fun y M2 => kDctR w M2 d fun _ kvs => kKyT y fun k => kSome (valT kvs k) fun v => Q v M2
def dTIn (w : World) (f : Bool → Bool) (ty td : TED) : TED := fun sd M Q => ty sd M fun y M1 => td sd M1 fun d M2 => kDctR w M2 d fun _ kvs => kKyT y fun k => Q (.bl (f (valT kvs k).isSome)) M2
def dTPut (w : World) (td ty tv : TED) : TSD := fun D sd M => tv sd M fun v M1 => td sd M1 fun d M2 => ty sd M2 fun y M3 => kDctT w M3 d fun a kvs => kKyT y fun k => kvs.length < 16777216 ∧ D.nx sd (mup M3 a (.dT w (putT kvs k v)))
def dTNew (w : World) : TED := fun sd M Q => ∀ p, M p = none → Q (.ref p) (mup M p (.dT w []))
def dTOne (w : World) (tk tv : TED) : TED := fun sd M Q => ∀ p, M p = none → tk sd (mup M p (.dT w [])) fun y M1 => tv sd M1 fun v M2 => M2 p = some (.dT w []) ∧ kKyT y fun k => Q (.ref p) (mup M2 p (.dT w [(k, v)]))
section
variable {X : Cx} {M0 : Mo} {H0 : Hp} {o i value : Expr} {td ty tv : TED} {pos : Pos}
theorem de_tget0 (hu : X.A.units + 16 < cLine) (ho : PEd X M0 H0 o td) (hi : PEd X M0 H0 i ty) (hs : NoSl i := by exact (fun _ _ => rfl)) : PEd X M0 H0 (.Subscript o i pos) (dTGet X.w td ty) :=
  PE.imp (pe_tget hu ho hi hs) fun σ H Q ⟨sd, M, Qd, w, q, c⟩ => ⟨sd, M, _, w, q, fun d M1 x H1 s1 r1 q1 => ⟨sd, M1, _, w.on s1, q1, fun y M2 v H2 s2 r2 q2 => by
    obtain ⟨a, _, xs, kvs, ea, hx, rr, k, ks, e2, e3, e4, q2⟩ := kDctR_of s2.sr (r1.keep s2.keep) q2
    obtain ⟨b, hb⟩ := keyT_ok r2 e2 e3 e4
    unfold kSome at q2
    rcases es_find rr k with ⟨z, _⟩ | ⟨dv, b2, v0, u, z1, z2, z3, z4⟩
    · rw [z] at q2; exact q2.elim
    · rw [z1] at q2
      exact ⟨a, xs, b, k, u, v0, ea, hx, es_kok rr, hb, by rw [z2]; rfl, z3, c _ _ _ _ (s1.trans s2) z4 q2⟩⟩⟩
theorem es_some {K : PySem.W.Frag} {H : Hp} {kvs : KvT} {xs : List Ent} (rr : REs K H kvs xs) (k : NestedKey) : (valT kvs k).isSome = (atKey xs k).isSome := by
  rcases es_find rr k with ⟨a, c⟩ | ⟨_, _, _, _, a, c, _⟩ <;> rw [a, c] <;> rfl
theorem de_tin0 (hu : X.A.units + 16 < cLine) (hi : PEd X M0 H0 i ty) (ho : PEd X M0 H0 o td) (h1 : behindInMarks .In o = false := by rfl) : PEd X M0 H0 (.Compare i [.In] [o] pos) (dTIn X.w id ty td) :=
  PE.imp (pe_cmp (pc_tin hu hi ho) h1) fun σ H Q ⟨sd, M, Qd, w, q, c⟩ => ⟨sd, M, _, w, q, fun y M1 v H1 s1 r1 q1 => ⟨sd, M1, _, w.on s1, q1, fun d M2 x H2 s2 r2 q2 => by
    obtain ⟨a, _, xs, kvs, ea, hx, rr, k, ks, e2, e3, e4, q2⟩ := kDctR_of s2.sr r2 q2
    obtain ⟨b, hb⟩ := keyT_ok (r1.keep s2.keep) e2 e3 e4
    rw [es_some rr k] at q2
    exact ⟨a, xs, b, k, ea, hx, es_kok rr, hb, c _ _ _ _ (s1.trans s2) .bl q2⟩⟩⟩
theorem dt_tnotin0 (hu : X.A.units + 16 < cLine) (hi : PEd X M0 H0 i ty) (ho : PEd X M0 H0 o td) (h1 : behindInMarks .NotIn o = false := by rfl) : PTd X M0 H0 (.Compare i [.NotIn] [o] pos) (dTest (dTIn X.w not ty td)) :=
  PT.imp (pt_cmp (pc_tnotin hu hi ho) h1) fun σ H Q ⟨sd, M, Qd, w, q, c⟩ => ⟨sd, M, _, w, q, fun y M1 v H1 s1 r1 q1 => ⟨sd, M1, _, w.on s1, q1, fun d M2 x H2 s2 r2 q2 => by
    obtain ⟨a, _, xs, kvs, ea, hx, rr, k, ks, e2, e3, e4, q2⟩ := kDctR_of s2.sr r2 q2
    obtain ⟨b, hb⟩ := keyT_ok (r1.keep s2.keep) e2 e3 e4
    rw [es_some rr k] at q2
    exact ⟨a, xs, b, k, ea, hx, es_kok rr, hb, _, rfl, c _ _ _ (s1.trans s2) q2⟩⟩⟩
theorem ds_tput0 {pos' : Pos} (hu : X.A.units + 16 < cLine) (ho : PEd X M0 H0 o td) (hi : PEd X M0 H0 i ty) (hv : PEd X M0 H0 value tv) (hs : swapsWith value (some (.Subscript o i pos')) pos.line X.env = pure false := by rfl) : PSd X M0 H0 (.Assign [.Subscript o i pos'] value pos) (dTPut X.w td ty tv) :=
  PS.imp (ps_tput hu ho hi hv hs) fun D σ H ⟨sd, M, Dd, w, q, c⟩ => ⟨sd, M, _, w, q, fun v M1 xv H1 s1 r1 q1 => ⟨sd, M1, _, w.on s1, q1, fun d M2 x H2 s2 r2 q2 => ⟨sd, M2, _, (w.on s1).on s2, q2, fun y M3 yv H3 s3 r3 q3 => by
    obtain ⟨a, kvs, rfl, e1, k, ks, e2, e3, e4, hl, q3⟩ := q3
    obtain ⟨xs, hx, rr⟩ := own_dT s3.sr e1
    obtain ⟨b, hb⟩ := keyT_ok r3 e2 e3 e4
    have rv := r1.keep (s2.trans s3).keep
    refine ⟨a, xs, b, k, (r2.keep s3.keep).ref_of, hx, es_kok rr, hb, by rw [← es_len rr, sizeLine_eq]; exact hl, fun hc r rr' => ?_⟩
    have kp : Keep H3 (upd H3 a (dictO X.w a (storedH xs k b r))) := Keep.at' hx hc
    have st : Stp X.K M3 H3 (mup M3 a (.dT X.w (putT kvs k v))) (upd H3 a (dictO X.w a (storedH xs k b r))) := by
      refine Stp.setK s3.sr e1 kp ?_
      simp only [Own]
      exact ⟨_, upd_same, (es_put rr hb rr' rv).keep kp⟩
    exact c.nx _ _ _ _ (((s1.trans s2).trans s3).trans st) (w.rs.keep (((s1.trans s2).trans s3).trans st).keep) q3⟩⟩⟩
theorem de_tnew0 : PEd X M0 H0 (.Dict [] [] pos) (dTNew X.w) :=
  PE.imp pe_tnew fun σ H Q ⟨sd, M, Qd, w, q, c⟩ p hp => by
    have st : Stp X.K M H (mup M p (.dT X.w [])) (upd H p (dictO X.w p [])) := Stp.new w.st.sr hp (by
      simp only [Own]
      exact ⟨[], upd_same, .nil⟩)
    exact c _ _ _ _ st .ref (q p (w.st.sr.free hp))
end
section
variable {X : Cx} {M0 : Mo} {H0 : Hp} {o i value : Expr} {td ty tv : TED} {pos : Pos} {w : World}
theorem de_tget (hw : X.w = w) (hu : X.A.units + 16 < cLine) (ho : PEd X M0 H0 o td) (hi : PEd X M0 H0 i ty) (hs : NoSl i := by exact (fun _ _ => rfl)) : PEd X M0 H0 (.Subscript o i pos) (dTGet w td ty) := by subst hw; exact de_tget0 hu ho hi hs
theorem de_tin (hw : X.w = w) (hu : X.A.units + 16 < cLine) (hi : PEd X M0 H0 i ty) (ho : PEd X M0 H0 o td) (h1 : behindInMarks .In o = false := by rfl) : PEd X M0 H0 (.Compare i [.In] [o] pos) (dTIn w id ty td) := by subst hw; exact de_tin0 hu hi ho h1
theorem dt_tnotin (hw : X.w = w) (hu : X.A.units + 16 < cLine) (hi : PEd X M0 H0 i ty) (ho : PEd X M0 H0 o td) (h1 : behindInMarks .NotIn o = false := by rfl) : PTd X M0 H0 (.Compare i [.NotIn] [o] pos) (dTest (dTIn w not ty td)) := by subst hw; exact dt_tnotin0 hu hi ho h1
theorem ds_tput {pos' : Pos} (hw : X.w = w) (hu : X.A.units + 16 < cLine) (ho : PEd X M0 H0 o td) (hi : PEd X M0 H0 i ty) (hv : PEd X M0 H0 value tv) (hs : swapsWith value (some (.Subscript o i pos')) pos.line X.env = pure false := by rfl) : PSd X M0 H0 (.Assign [.Subscript o i pos'] value pos) (dTPut w td ty tv) := by subst hw; exact ds_tput0 hu ho hi hv hs
theorem de_tnew (hw : X.w = w) : PEd X M0 H0 (.Dict [] [] pos) (dTNew w) := by subst hw; exact de_tnew0
end
/-! ### steps -/
section
variable {M : Mo} {Q : QD} {sd : StD} {td ty tv : TED} {w : World} {f : Bool → Bool}
instance s_tGet : Step (dTGet w td ty sd M Q) (td sd M fun d M1 => ty sd M1 fun y M2 => kDctR w M2 d fun _ kvs => kKyT y fun k => kSome (valT kvs k) fun v => Q v M2) := ⟨id⟩
instance s_tIn : Step (dTIn w f ty td sd M Q) (ty sd M fun y M1 => td sd M1 fun d M2 => kDctR w M2 d fun _ kvs => kKyT y fun k => Q (.bl (f (valT kvs k).isSome)) M2) := ⟨id⟩
instance s_tPut {a b c : StD → Mo → Prop} {r : QD} : Step (dTPut w td ty tv ⟨a, r, b, c⟩ sd M) (tv sd M fun v M1 => td sd M1 fun d M2 => ty sd M2 fun y M3 => kDctT w M3 d fun e kvs => kKyT y fun k => kvs.length < 16777216 ∧ a sd (mup M3 e (.dT w (putT kvs k v)))) := ⟨id⟩
instance s_tNew : Step (dTNew w sd M Q) (∀ p, M p = none → Q (.ref p) (mup M p (.dT w []))) := ⟨id⟩
instance s_tOne {tk : TED} : Step (dTOne w tk tv sd M Q) (∀ p, M p = none → tk sd (mup M p (.dT w [])) fun y M1 => tv sd M1 fun v M2 => M2 p = some (.dT w []) ∧ kKyT y fun k => Q (.ref p) (mup M2 p (.dT w [(k, v)]))) := ⟨id⟩
theorem i_kDctT {k : World → Mo → Dv → (Addr → KvT → Prop) → Prop} [KDc k] {a : Addr} {kvs : KvT} {F : Addr → KvT → Prop} (h : M a = some (.dT w kvs)) (q : F a kvs) : k w M (.ref a) F := KDc.kd h q
instance s_kDctR {kvs : KvT} {F : Addr → KvT → Prop} : Step (kDctR w M (.dctT w kvs) F) (F default kvs) := ⟨fun h => .inr ⟨kvs, rfl, h⟩⟩
theorem i_kKyT {d : Dv} {ks : List NestedKey} {F : NestedKey → Prop} (e : d = nkD (.tup ks)) (h : (NestedKey.tup ks).depth ≤ 8) (q : F (.tup ks)) : kKyT d F := ⟨_, _, e, rfl, h, q⟩
end
theorem valT_put {kvs : KvT} {k j : NestedKey} {v : Dv} : valT (putT kvs k v) j = if j = k then some v else valT kvs j := by
  unfold putT
  split
  · rename_i h
    by_cases e : j = k
    · subst e
      rw [if_pos rfl]
      unfold valT at h ⊢
      induction kvs with
      | nil => simp at h
      | cons p kvs ih =>
        rw [List.map_cons]
        by_cases q : p.1 = j
        · rw [if_pos q, List.find?_cons_of_pos (by simp [q])]
          rfl
        · rw [if_neg q, List.find?_cons_of_neg (by simp [q])]
          rw [List.find?_cons_of_neg (by simp [q])] at h
          exact ih h
    · rw [if_neg e]
      unfold valT
      clear h
      induction kvs with
      | nil => rfl
      | cons p kvs ih =>
        rw [List.map_cons]
        by_cases q : p.1 = k
        · rw [if_pos q, List.find?_cons_of_neg (by simp [q]; exact fun z => e z.symm), List.find?_cons_of_neg (by simp [q]; exact fun z => e z.symm)]
          exact ih
        · rw [if_neg q]
          by_cases q2 : p.1 = j
          · rw [List.find?_cons_of_pos (by simp [q2]), List.find?_cons_of_pos (by simp [q2])]
          · rw [List.find?_cons_of_neg (by simp [q2]), List.find?_cons_of_neg (by simp [q2])]
            exact ih
  · rename_i h
    unfold valT at h ⊢
    rw [List.find?_append]
    by_cases e : j = k
    · subst e
      rw [if_pos rfl]
      cases q : kvs.find? fun p => decide (p.1 = j) with
      | none => simp
      | some x => rw [q] at h; simp at h
    · rw [if_neg e]
      have : ([(k, v)] : KvT).find? (fun p => decide (p.1 = j)) = none := by
        simp
        exact fun z => e z.symm
      rw [this]
      simp
end DL
/-! tuple + tuple -/
namespace DL
open PySem PySem.Spec PyProof.Rows L2
/-! xs.index(y), flat items -/
theorem RDs.at_ {K : PySem.W.Frag} {H : Hp} : ∀ {ds : List Dv} {vs : List V} {j : Nat} {z : Dv}, RDs K H ds vs → ds[j]? = some z → ∃ v, vs[j]? = some v ∧ RD K H z v
  | [], _, _, _, _, e => by simp at e
  | d :: ds, vs, j, z, h, e => by
    unfold RDs at h
    obtain ⟨v, r, rfl, h1, h2⟩ := h
    cases j with
    | zero => cases e; exact ⟨v, rfl, h1⟩
    | succ j => exact RDs.at_ (j := j) h2 (by simpa using e)
/-! a walk over a text or a list -/
end DL
/-! a text's start; a range from its end; setdefault of a dict with tuple keys; {k: v} -/
namespace DL
open PySem PySem.Spec PyProof.Rows L2
def dStarts : RMd := fun d ds M Q => match d, ds with
  | .str a, [.str b] => Q (.bl (Txt.startswith a b)) M
  | _, _ => False
theorem md_starts {X : Cx} : MtR X "str.startswith" (LMop X.K dStarts) := md_I mt_startswith fun d ds M Qd x xs H Q r1 r2 sr q c => by
  unfold dStarts at q
  split at q
  · rename_i a b
    obtain ⟨u, rfl, ru⟩ := r2.one
    exact ⟨a, b, r1.str_of, by rw [ru.str_of], c _ _ _ _ (.refl sr) .bl q⟩
  · exact q.elim
/-! reversed(range(n)) -/
def kRv (d : Dv) (F : Int → Prop) : Prop := match d with
  | .int n => F n
  | _ => False
def iRevRgD (ta : TED) : TID := fun sd M R => ta sd M fun d M1 => kRv d fun n => n < 4611686018427387904 ∧ -4611686018427387904 ≤ n ∧ R ⟨(rngD 0 n.toNat).reverse, fun _ => True⟩ M1
/-! d.setdefault(y, z), its keys tuples -/
def kSd (o : Option Dv) (F : Dv → Prop) (N : Prop) : Prop := match o with
  | some v => F v
  | none => N
def kIsT (w : World) (M : Mo) (d : Dv) (N : Prop) : Prop := (∃ a kvs, d = .ref a ∧ M a = some (.dT w kvs)) ∧ N
def dTSetd (w : World) (td ty tx : TED) : TED := fun sd M Q => td sd M fun d M1 => kIsT w M1 d (ty sd M1 fun y M2 => tx sd M2 fun z M3 => kDctT w M3 d fun a kvs => kKyT y fun k => kvs.length < 16777216 ∧ kSd (valT kvs k) (fun v => Q v M3) (Q z (mup M3 a (.dT w (putT kvs k z)))))
instance s_tSetd {w : World} {td ty tx : TED} {sd : StD} {M : Mo} {Q : QD} : Step (dTSetd w td ty tx sd M Q) (td sd M fun d M1 => kIsT w M1 d (ty sd M1 fun y M2 => tx sd M2 fun z M3 => kDctT w M3 d fun a kvs => kKyT y fun k => kvs.length < 16777216 ∧ kSd (valT kvs k) (fun v => Q v M3) (Q z (mup M3 a (.dT w (putT kvs k z)))))) := ⟨id⟩
instance s_revRg {ta : TED} {sd : StD} {M : Mo} {R : ItD → Mo → Prop} : Step (iRevRgD ta sd M R) (ta sd M fun d M1 => kRv d fun n => n < 4611686018427387904 ∧ -4611686018427387904 ≤ n ∧ R ⟨(rngD 0 n.toNat).reverse, fun _ => True⟩ M1) := ⟨id⟩
instance s_kRv {n : Int} {F : Int → Prop} : Step (kRv (.int n) F) (F n) := ⟨id⟩
instance s_starts {M : Mo} {a b : Str} {Q : QD} : Step (dStarts (.str a) [.str b] M Q) (Q (.bl (Txt.startswith a b)) M) := ⟨id⟩
end DL
/-! {k: v}, one pair, its key an int or a text -/
namespace DL
open PySem PySem.Spec PyProof.Rows L2
def kEmD (M : Mo) (p : Addr) (N : Prop) : Prop := M p = some (.dK []) ∧ N
def dDisp1 (tk tv : TED) : TED := fun sd M Q => ∀ p, M p = none → tk sd (mup M p (.dK [])) fun y M1 => tv sd M1 fun v M2 => kEmD M2 p (kKey y fun k => Q (.ref p) (mup M2 p (.dK [(k, v)])))
instance s_disp1 {tk tv : TED} {sd : StD} {M : Mo} {Q : QD} : Step (dDisp1 tk tv sd M Q) (∀ p, M p = none → tk sd (mup M p (.dK [])) fun y M1 => tv sd M1 fun v M2 => kEmD M2 p (kKey y fun k => Q (.ref p) (mup M2 p (.dK [(k, v)])))) := ⟨id⟩
end DL
/-! a new list of pairs whose second items are new lists: all of it stands still from here -/
namespace DL
open PySem PySem.Spec PyProof.Rows L2
inductive Gf : Mo → Dv → Mo → Dv → Prop
  | here {M : Mo} {p : Addr} {o : OO} {d' : Dv} (e : M p = some o) (ed : frzV o = some d') : Gf M (.ref p) (mdl M p) d'
  | inn {M M' : Mo} {p q : Addr} {ds ws : List Dv} {i : Nat} {x d' : Dv} (hp : M p = some (.lst ds)) (hi : ds[i]? = some (.tup [x, .ref q])) (hn : q ≠ p) (hq : M q = some (.lst ws))
      (t : Gf (mup (mdl M q) p (.lst (ds.set i (.tup [x, .lst ws])))) (.ref p) M' d') : Gf M (.ref p) M' d'
  | inn3 {M M' : Mo} {p q : Addr} {ds ws : List Dv} {i : Nat} {x y d' : Dv} (hp : M p = some (.lst ds)) (hi : ds[i]? = some (.tup [x, y, .ref q])) (hn : q ≠ p) (hq : M q = some (.lst ws))
      (t : Gf (mup (mdl M q) p (.lst (ds.set i (.tup [x, y, .lst ws])))) (.ref p) M' d') : Gf M (.ref p) M' d'
theorem RDs.set_ {K : PySem.W.Frag} {H : Hp} : ∀ {ds : List Dv} {vs : List V} {i : Nat} {z : Dv}, RDs K H ds vs → (∀ v, vs[i]? = some v → RD K H z v) → RDs K H (ds.set i z) vs
  | [], _, _, _, h, _ => h
  | d :: ds, vs, i, z, h, e => by
    unfold RDs at h
    obtain ⟨v, r, rfl, h1, h2⟩ := h
    cases i with
    | zero =>
      show RDs K H (z :: ds) _
      unfold RDs
      exact ⟨v, r, rfl, e v rfl, h2⟩
    | succ i =>
      show RDs K H (d :: ds.set i z) _
      unfold RDs
      exact ⟨v, r, rfl, h1, h2.set_ fun u hu => e u (by simpa using hu)⟩
theorem Gf.ok {X : Cx} {pins : List (Addr × Obj)} {s : Shared} {σ : L2.St} {M M' : Mo} {d d' : Dv} (g : Gf M d M' d') : ∀ {H : Hp} {v : V}, Inv X pins σ H s → SR X.K M H → RD X.K H d v → ∃ H', Inv X pins σ H' s ∧ Stp X.K M H M' H' ∧ RD X.K H' d' v := by
  induction g with
  | here e ed =>
    intro H v I sr r
    have ev := r.ref_of
    subst ev
    exact Inv.frzD I sr e ed
  | @inn M M' p q ds ws i x d' hp hi hn hq t ih =>
    intro H v I sr r
    have ev := r.ref_of
    subst ev
    obtain ⟨H1, I1, s1, r1⟩ := Inv.frzD I sr hq rfl
    have hp1 : mdl M q p = some (.lst ds) := by rw [mdl_ne (Ne.symm hn)]; exact hp
    have ow := s1.sr p _ hp1
    simp only [Own] at ow
    obtain ⟨vs, hv, rr⟩ := ow
    have eu : upd H1 p (.lst vs) = H1 := by
      funext a
      by_cases z : a = p
      · subst z; rw [upd_same, hv]
      · rw [upd_ne z]
    have rs : RDs X.K H1 (ds.set i (.tup [x, .lst ws])) vs := rr.set_ fun u hu => by
      obtain ⟨u2, hu2, ru⟩ := rr.at_ hi
      rw [hu] at hu2
      cases hu2
      unfold RD at ru ⊢
      obtain ⟨a, ws2, rfl, st, r2⟩ := ru
      refine ⟨a, ws2, rfl, st, ?_⟩
      obtain ⟨a1, a2, rfl, ra, rb⟩ := r2.two
      have := rb.ref_of
      subst this
      unfold RDs
      refine ⟨_, _, rfl, ra, ?_⟩
      unfold RDs
      refine ⟨_, _, rfl, r1, ?_⟩
      unfold RDs
      rfl
    have st2 : Stp X.K (mdl M q) H1 (mup (mdl M q) p (.lst (ds.set i (.tup [x, .lst ws])))) (upd H1 p (.lst vs)) := Stp.set s1.sr hp1 (by rw [hv]; exact trivial) (by
      simp only [Own]
      rw [eu]
      exact ⟨vs, hv, rs⟩)
    rw [eu] at st2
    obtain ⟨H2, I2, s2, r2⟩ := ih I1 st2.sr (r.keep s1.keep)
    exact ⟨H2, I2, (s1.trans st2).trans s2, r2⟩
  | @inn3 M M' p q ds ws i x y d' hp hi hn hq t ih =>
    intro H v I sr r
    have ev := r.ref_of
    subst ev
    obtain ⟨H1, I1, s1, r1⟩ := Inv.frzD I sr hq rfl
    have hp1 : mdl M q p = some (.lst ds) := by rw [mdl_ne (Ne.symm hn)]; exact hp
    have ow := s1.sr p _ hp1
    simp only [Own] at ow
    obtain ⟨vs, hv, rr⟩ := ow
    have eu : upd H1 p (.lst vs) = H1 := by
      funext a
      by_cases z : a = p
      · subst z; rw [upd_same, hv]
      · rw [upd_ne z]
    have rs : RDs X.K H1 (ds.set i (.tup [x, y, .lst ws])) vs := rr.set_ fun u hu => by
      obtain ⟨u2, hu2, ru⟩ := rr.at_ hi
      rw [hu] at hu2
      cases hu2
      unfold RD at ru ⊢
      obtain ⟨a, ws2, rfl, st, r2⟩ := ru
      refine ⟨a, ws2, rfl, st, ?_⟩
      unfold RDs at r2
      obtain ⟨a1, w1, rfl, ra, r2⟩ := r2
      obtain ⟨a2, a3, rfl, rb, rc⟩ := r2.two
      have := rc.ref_of
      subst this
      unfold RDs
      refine ⟨_, _, rfl, ra, ?_⟩
      unfold RDs
      refine ⟨_, _, rfl, rb, ?_⟩
      unfold RDs
      refine ⟨_, _, rfl, r1, ?_⟩
      unfold RDs
      rfl
    have st2 : Stp X.K (mdl M q) H1 (mup (mdl M q) p (.lst (ds.set i (.tup [x, y, .lst ws])))) (upd H1 p (.lst vs)) := Stp.set s1.sr hp1 (by rw [hv]; exact trivial) (by
      simp only [Own]
      rw [eu]
      exact ⟨vs, hv, rs⟩)
    rw [eu] at st2
    obtain ⟨H2, I2, s2, r2⟩ := ih I1 st2.sr (r.keep s1.keep)
    exact ⟨H2, I2, (s1.trans st2).trans s2, r2⟩
def dFrzN (te : TED) : TED := fun sd M Q => te sd M fun d M1 => ∃ M2 d2, Gf M1 d M2 d2 ∧ Q d2 M2
instance s_frzN {te : TED} {sd : StD} {M : Mo} {Q : QD} : Step (dFrzN te sd M Q) (te sd M fun d M1 => ∃ M2 d2, Gf M1 d M2 d2 ∧ Q d2 M2) := ⟨id⟩
end DL
/-! len of a dict whose keys are tuples -/
namespace DL
open PySem PySem.Spec PyProof.Rows L2
def dLenTT (w : World) : RNd := fun ds M Q => ∃ d, ds = [d] ∧ kDctR w M d fun _ kvs => Q (.int ((kvs.length : Nat) : Int)) M
instance s_lenTT {w : World} {M : Mo} {kvs : KvT} {Q : QD} : Step (dLenTT w [.dctT w kvs] M Q) (Q (.int ((kvs.length : Nat) : Int)) M) := ⟨fun h => ⟨_, rfl, .inr ⟨kvs, rfl, h⟩⟩⟩
end DL
/-! ### min(xs) of ints -/
namespace DL
open PySem PySem.Spec PyProof.Rows L2
end DL
/-! ### len(set(xs)) of a list of texts -/
namespace DL
open PySem PySem.Spec PyProof.Rows
end DL
namespace DL
open PySem PySem.Spec PyProof.Rows L2
section
variable {X : Cx} {M0 : Mo} {H0 : Hp}
def kLSs (d : Dv) (M : Mo) (Q : QD) : Prop := ∃ ts : List Str, seqL M d = some (ts.map .str) ∧ ts.length < 4096 ∧ Q (.int (dctN ts ts.length : Nat)) M
def dLenStrs (t : TED) : TED := fun sd M Q => t sd M fun d M1 => kLSs d M1 Q
instance s_lenStrs {t : TED} {sd : StD} {M : Mo} {Q : QD} : Step (dLenStrs t sd M Q) (t sd M fun d M1 => kLSs d M1 Q) := ⟨id⟩
end
end DL
/-! ### xs.pop(i) -/
namespace DL
open PySem PySem.Spec PyProof.Rows L2
theorem RDs.erase {K : PySem.W.Frag} {H : Hp} {ds : List Dv} {vs : List V} (k : Nat) (r : RDs K H ds vs) : RDs K H (ds.eraseIdx k) (vs.eraseIdx k) := by
  rw [List.eraseIdx_eq_take_drop_succ, List.eraseIdx_eq_take_drop_succ]
  exact (r.take k).app (r.drop (k + 1))
def dPopAt : RMd := fun d ds M Q => match d, ds with
  | .ref a, [.int i] => match M a with
    | some (.lst xs) => 0 ≤ i ∧ i < 1073741824 ∧ match xs[i.toNat]? with
      | some y => Q y (mup M a (.lst (xs.eraseIdx i.toNat)))
      | none => False
    | _ => False
  | _, _ => False
theorem md_popAt {X : Cx} : MtR X "list.pop" (LMop X.K dPopAt) := md_I mt_popAt fun d ds M Qd x xs H Q r1 r2 sr q c => by
  unfold dPopAt at q
  split at q
  · rename_i a i
    split at q
    · rename_i zs e
      obtain ⟨q0, q1, q⟩ := q
      split at q
      · rename_i y hy
        obtain ⟨vs, hv, rr⟩ := own_at sr e
        obtain ⟨u, rfl, ru⟩ := r2.one
        obtain ⟨v, hy2, ry⟩ := rr.get hy
        rw [r1.ref_of, ru.int_of]
        have hlt := (List.getElem?_eq_some_iff.mp hy2).1
        have hk : seqIndex? i vs.length = some i.toNat := by
          unfold seqIndex?
          have h1 : ¬ i < 0 := by omega
          have h2 : i < (vs.length : Int) := by omega
          simp [h1, q0, h2]
        refine ⟨a, vs, i, i.toNat, v, rfl, rfl, hv, by omega, by omega, hk, hy2, ?_⟩
        have st := stp_lst sr e hv fun H' k => (rr.keep k).erase i.toNat
        exact c _ _ _ _ st (ry.keep st.keep) q
      · exact q.elim
    · exact q.elim
  · exact q.elim
theorem i_popAt {M : Mo} {Q : QD} {a : Addr} {i : Nat} {xs : List Dv} {y : Dv} (h1 : M a = some (.lst xs)) (h2 : i < 1073741824) (h3 : xs[i]? = some y) (q : Q y (mup M a (.lst (xs.eraseIdx i)))) : dPopAt (.ref a) [.int (i : Nat)] M Q := by
  unfold dPopAt
  simp only [h1, Int.toNat_natCast, h3]
  exact ⟨by omega, by omega, q⟩
end DL
/-! ### enumerate(text, start=n) -/
namespace DL
open PySem PySem.Spec PyProof.Rows L2
def kEnK (d z : Dv) (R : ItD → Prop) : Prop := match d, z with
  | .str x, .int k => 0 ≤ k ∧ k < 1073741824 ∧ R ⟨enumD k.toNat (signsD x), fun _ => True⟩
  | _, _ => False
def iEnumKD (ta tk : TAD) : TID := fun sd M R => ta sd M fun ds M1 => tk sd M1 fun es M2 => match ds, es with
  | [d], [z] => kEnK d z fun J => R J M2
  | _, _ => False
variable {sd : StD} {M : Mo} {ta tk : TAD}
instance s_enumK {R : ItD → Mo → Prop} : Step (iEnumKD ta tk sd M R) (ta sd M fun ds M1 => tk sd M1 fun es M2 => match ds, es with
  | [d], [z] => kEnK d z fun J => R J M2
  | _, _ => False) := ⟨id⟩
instance s_kEnK {x : Str} {n : Nat} {R : ItD → Prop} : Step (kEnK (.str x) (.int (n : Nat)) R) (n < 1073741824 ∧ R ⟨enumD n (signsD x), fun _ => True⟩) := ⟨fun h => ⟨Int.natCast_nonneg n, by omega, by rw [Int.toNat_natCast]; exact h.2⟩⟩
end DL
/-! walks of a dict whose keys are tuples, and that stands still -/
namespace DL
open PySem PySem.Spec PyProof.Rows L2
section
variable {X : Cx} {pins : List (Addr × Obj)} {σ : L2.St} {H : Hp} {s : Shared} {d : Addr} {o : Obj} {w : World} {xs : List Ent}
theorem frzN (I : Inv X pins σ H s) (h : H d = some (.frz o (dictO w d xs))) : (d == sysModules) = false ∧ s.heap.get? d = some o ∧ o.ExactDict ∧ ∃ es ep, o.data = .dict es ep ∧ es.size = xs.length ∧
    ∀ i x, xs[i]? = some x → ∃ hi : i < es.size, es[i].key = .ref x.2.1 ∧ es[i].val = x.2.2 := by
  obtain ⟨hg, ⟨h1, h2, h3, o', es, ep, ho, hc, hd, he⟩, _, _⟩ := (show ObjOk X.prog X.w H s.heap d (.frz o (dictO w d xs)) from I.hok d _ h)
  rw [hg] at ho
  cases ho
  have hs : es.size = xs.length := by rw [← Array.length_toList, he, List.length_map]
  refine ⟨h1, hg, hc, es, ep, hd, hs, fun i x hx => ?_⟩
  have hi : i < es.size := by rw [hs]; exact (List.getElem?_eq_some_iff.mp hx).1
  refine ⟨hi, ?_⟩
  have e : es.toList[i]? = some (entN w x) := by rw [he, List.getElem?_map, hx]; rfl
  rw [Array.getElem?_toList, Array.getElem?_eq_getElem hi] at e
  have e2 : es[i] = entN w x := Option.some.inj e
  rw [e2]
  exact ⟨rfl, rfl⟩
end
def ItkN (w : World) (d : Addr) (o : Obj) (xs : List Ent) : It :=
  ⟨fun i H => H d = some (.frz o (dictO w d xs)) ∧ i < xs.length, fun i H x H' => H' = H ∧ ∃ e, xs[i]? = some e ∧ x = .ref e.2.1, fun i H => H d = some (.frz o (dictO w d xs)) ∧ xs.length ≤ i⟩
section
variable {P : Program} {w0 w : World} {K : PySem.W.Frag} {tg : Expr} {d : Addr} {o : Obj} {es : Array DictEntry} {ep : Nat} {xs : List Ent}
theorem turn_keysN (it : Addr) (hod : o.data = .dict es ep) : Turn P w0 K tg (ItkN w d o xs) [it] it (fun i h => h.IsKeyIter it d i xs.length ep) where
  mem := by simp
  obj := fun i h st b hb => by
    have e : b = it := by simpa using hb
    subst e
    obtain ⟨oi, e, c, dd⟩ := st
    exact ⟨oi, e, fun v z => by rw [dd] at z; cases z⟩
  keep := fun i h h' st k => st.at fun oi e => k it (by simp) oi e
  item := by
    intro X hP hw hK hc i pins s σ H E I hf st hg
    subst hP hw hK
    obtain ⟨hd, hi⟩ := hg
    obtain ⟨f0, f1, f2, f3, f4, f5⟩ := hf it (by simp)
    obtain ⟨hs, hgd, hx, es', ep', hdt, hsz, ent⟩ := frzN I hd
    obtain ⟨rfl, rfl⟩ := dict_ep hod hdt
    have hx2 : xs[i]? = some xs[i] := List.getElem?_eq_getElem hi
    obtain ⟨hi2, hkey, _⟩ := ent i _ hx2
    refine next_key_item st hgd hdt hsz (Array.getElem?_eq_getElem hi2) fun h' st' sb => ?_
    have I1 : Inv X pins σ H { s with heap := h' } := I.turned (t' := s.toks) (fun b ob hb e => (sb.2 b hb).trans e) f0 f1 f3 f4 f5
    obtain ⟨oi, e, c, dd⟩ := id st'
    exact ⟨es'[i].key, rfl, go_of (s := { s with heap := h' }) e c dd (by decide) ⟨.ref xs[i].2.1, H, I1, hkey, ⟨rfl, _, hx2, rfl⟩, st', fun b hb => (hf b hb).1⟩⟩
  done := by
    intro X hP hw hK hc i pins s σ H E I hf st hg
    subst hP hw hK
    obtain ⟨hd, hi⟩ := hg
    obtain ⟨f0, f1, f2, f3, f4, f5⟩ := hf it (by simp)
    obtain ⟨hs, hgd, hx, es', ep', hdt, hsz, ent⟩ := frzN I hd
    obtain ⟨rfl, rfl⟩ := dict_ep hod hdt
    exact next_key_end (I.ok.hd hc) st hgd hdt hsz hi fun h' eb => ⟨rfl, I.turned (t' := s.toks) (fun b ob hb e => eb b ob hb e) f0 f1 f3 f4 f5⟩
  self := fun A i s Q E st h => by
    refine wpAny_pyIter_slot st.typeIs F.slot_dict_keyiterator_iter (wpAny_call_entry F.slot_dict_keyiterator_iter st.typeIs F.entry_dict_keyiterator_iter ?_ (F.args_dict_keyiterator_iter_1 _))
    show wpAny _ _ (ret (.ref it)) _ _ s
    exact wpAny_pure ⟨_, rfl, "dict_keyiterator", _, st.typeIs, F.slot_dict_keyiterator_next.lookup, h⟩
end
def hKeysN (w : World) (td : TE) : TI := fun σ H R => td σ H fun x H1 => ∃ d o xs, x = .ref d ∧ H1 d = some (.frz o (dictO w d xs)) ∧ R (ItkN w d o xs) H1
section
variable {X : Cx} {tg e : Expr} {td : TE} {apos cpos : Pos} {w : World}
theorem pi_keysN (he : PE X e td) : PI X tg e (hKeysN w td) := by
  refine ⟨fun pins s σ H R I h => ?_⟩
  refine thn (he.run pins s σ H _ I h) fun u s1 ⟨x, H1, I1, rx, d, o, xs, ex, hd, q⟩ => ?_
  subst ex
  obtain rfl : u = Value.ref d := rx
  obtain ⟨hs, hgd, hx, es, ep, hdt, hsz, ent⟩ := frzN I1 hd
  refine iter_keys hs hgd hx hdt (pi_one (tk := s1.toks) I1 _ (turn_keysN _ hdt) ⟨_, Heap.get?_push_size _ rfl, rfl, ?_⟩ q)
  rw [hsz] <;> rfl
end
/-! ### data -/
def kFzN (w : World) (d : Dv) (F : KvT → Prop) : Prop := ∃ kvs, d = .dctT w kvs ∧ F kvs
instance s_kFzN {w : World} {kvs : KvT} {F : KvT → Prop} : Step (kFzN w (.dctT w kvs) F) (F kvs) := ⟨fun h => ⟨kvs, rfl, h⟩⟩
def iKeysN (w : World) (td : TED) : TID := fun sd M R => td sd M fun d M1 => kFzN w d fun kvs => R ⟨kvs.map fun p => nkD p.1, fun _ => True⟩ M1
def iItemsN (w : World) (td : TED) : TID := fun sd M R => td sd M fun d M1 => kFzN w d fun kvs => R ⟨kvs.map fun p => .tup [nkD p.1, p.2], fun _ => True⟩ M1
instance s_iKeysN {w : World} {td : TED} {sd : StD} {M : Mo} {R : ItD → Mo → Prop} : Step (iKeysN w td sd M R) (td sd M fun d M1 => kFzN w d fun kvs => R ⟨kvs.map fun p => nkD p.1, fun _ => True⟩ M1) := ⟨id⟩
instance s_iItemsN {w : World} {td : TED} {sd : StD} {M : Mo} {R : ItD → Mo → Prop} : Step (iItemsN w td sd M R) (td sd M fun d M1 => kFzN w d fun kvs => R ⟨kvs.map fun p => .tup [nkD p.1, p.2], fun _ => True⟩ M1) := ⟨id⟩
section
variable {K : PySem.W.Frag} {H : Hp}
theorem es_get {kvs : KvT} {xs : List Ent} (r : REs K H kvs xs) {i : Nat} {p : NestedKey × Dv} (h : kvs[i]? = some p) : ∃ x, xs[i]? = some x ∧ REn K H p x := by
  induction r generalizing i with
  | nil => simp at h
  | @cons q x ps ys a t ih =>
    cases i with
    | zero => simp at h; subst h; exact ⟨x, rfl, a⟩
    | succ i => exact ih (by simpa using h)
end
section
variable {X : Cx} {M0 : Mo} {H0 : Hp} {o : Expr} {td : TED} {w : World}
theorem di_keysN {tg : Expr} (he : PEd X M0 H0 o td) : PId X M0 H0 tg o (iKeysN w td) :=
  PI.imp (pi_keysN (w := w) he) fun σ H R ⟨sd, M, Rd, w', q, c⟩ => ⟨sd, M, _, w', q, fun d M1 v H1 s1 r1 q1 => by
    obtain ⟨kvs, rfl, q1⟩ := q1
    unfold RD at r1
    obtain ⟨a, ob, xs, rfl, e, rr⟩ := r1
    have rr := rdk2.mp rr
    refine ⟨a, ob, xs, rfl, e, c _ _ _ _ s1 ⟨fun i d M2 H2 s2 _ h => ?_, fun M2 H2 s2 _ => ?_⟩ q1⟩
    · rw [List.getElem?_map] at h
      cases e1 : kvs[i]? with
      | none => rw [e1] at h; cases h
      | some p =>
        rw [e1] at h
        cases h
        obtain ⟨x, hx, rx⟩ := es_get rr e1
        refine ⟨⟨s2.keep.frzs _ _ _ e, (List.getElem?_eq_some_iff.mp hx).1⟩, fun y H3 z => ?_⟩
        obtain ⟨rfl, en, hen, rfl⟩ := z
        rw [hx] at hen
        cases hen
        obtain ⟨k1, _, k2, _⟩ := rx.keep s2.keep
        exact ⟨Stp.refl s2.sr, by show RD X.K _ (nkD p.1) _; rw [k1]; exact k2⟩
    · refine ⟨s2.keep.frzs _ _ _ e, ?_⟩
      show xs.length ≤ (kvs.map _).length
      rw [List.length_map, es_len rr]
      exact Nat.le_refl _⟩
end
end DL
/-! dict(list of pairs) -/
namespace DL
open PySem PySem.Spec PyProof.Rows L2
/-! ### keys that are ints or texts -/
def prD (p : Key × Dv) : Dv := .tup [kD p.1, p.2]
/-! ### keys that are tuples -/
def mergeT (kvs ps : KvT) : KvT := ps.foldl (fun a p => putT a p.1 p.2) kvs
def prT (p : NestedKey × Dv) : Dv := .tup [nkD p.1, p.2]
abbrev Tp := Addr × NestedKey × Addr × V
def rDictT (K : PySem.W.Frag) (w : World) : List V → Hp → VK → Prop := fun xs H Q => ∃ (a : Addr) (ts : List Tp), xs = [.ref a] ∧ SqL K H a (ts.map fun t => .ref t.1) ∧
  (∀ t ∈ ts, SqT K H t.1 [.ref t.2.2.1, t.2.2.2] ∧ RD K H (nkD t.2.1) (.ref t.2.2.1) ∧ t.2.1.depth ≤ 8) ∧
  ∀ es : List Ent, Paired (fun (t : Tp) (e : Ent) => e.1 = t.2.1 ∧ e.2.1 = t.2.2.1 ∧ RelV t.2.2.2 e.2.2) ts es → ∀ p, H p = none → Q (.ref p) (upd H p (dictO w p (storedAllH [] es)))
theorem tup_es {X : Cx} {pins : List (Addr × Obj)} {σ : L2.St} {H : Hp} {s : Shared} (I : Inv X pins σ H s) : ∀ {ts : List Tp}, (∀ t ∈ ts, SqT X.K H t.1 [.ref t.2.2.1, t.2.2.2] ∧ RD X.K H (nkD t.2.1) (.ref t.2.2.1) ∧ t.2.1.depth ≤ 8) →
    ∃ es : List Ent, Paired (fun (t : Tp) (e : Ent) => e.1 = t.2.1 ∧ e.2.1 = t.2.2.1 ∧ RelV t.2.2.2 e.2.2) ts es ∧ (∀ e ∈ es, (nestedKind X.prog X.w).is s.heap e.1 e.2.1) ∧ es.length = ts.length ∧ ∀ (j : Nat) (e : Ent), es[j]? = some e → ∃ t, ts[j]? = some t ∧ PairAt s.heap t.1 (.ref e.2.1) e.2.2
  | [], _ => ⟨[], .nil, fun e he => (by cases he), rfl, fun j e h => by simp at h⟩
  | t :: ts, h => by
    obtain ⟨h1, h2, h3⟩ := h t List.mem_cons_self
    obtain ⟨es, g1, g2, g3, g4⟩ := tup_es I (ts := ts) fun t ht => h t (List.mem_cons_of_mem _ ht)
    obtain ⟨its, rv, ht, _⟩ := I.tuple h1
    obtain ⟨u, y, rfl, ru, ry⟩ := vals2 rv
    obtain rfl : u = Value.ref t.2.2.1 := ru
    refine ⟨(t.2.1, t.2.2.1, y) :: es, .cons ⟨rfl, rfl, ry⟩ g1, fun e he => ?_, by rw [List.length_cons, List.length_cons, g3], fun j e he => ?_⟩
    · rcases List.mem_cons.mp he with rfl | he
      · exact ⟨nk_is I _ _ _ h2 rfl, h3⟩
      · exact g2 e he
    · cases j with
      | zero =>
        cases he
        exact ⟨t, rfl, .inl ht⟩
      | succ j =>
        obtain ⟨t', h5, h6⟩ := g4 j e (by simpa using he)
        exact ⟨t', by simpa using h5, h6⟩
theorem call_dictT {X : Cx} (hcalm : X.calm = true) (hu : X.A.units + 16 < cLine) : CallR X (.type "dict") (rDictT X.K X.w) := by
  intro pins s σ H xs us Q I r q
  obtain ⟨a, ts, rfl, hq, hts, q⟩ := q
  obtain ⟨u, rfl, rx⟩ := vals1 r
  obtain rfl : u = Value.ref a := rx
  obtain ⟨its, rv, pl, hz⟩ := I.list hq
  obtain ⟨es, g1, g2, g3, g4⟩ := tup_es I hts
  rw [List.length_map] at hz
  have hits : its = ts.map fun t => Value.ref t.1 := by
    have := refs_at (ps := ts.map (·.1)) (us := its) (by rw [List.map_map]; exact rv)
    rw [this, List.map_map]
    rfl
  obtain ⟨o, n, ho, hc, hd, hdat⟩ := pl
  have hroom : (nestedKind X.prog X.w).room X.A.in1.in1 := by
    show X.A.in1.in1.units + 8 < cLine
    have : X.A.in1.in1.units ≤ X.A.units + 2 := by unfold Around.in1; simp
    omega
  refine call_dict_pairsH (knd := nestedKind X.prog X.w) (ps := es) (PairArg.list a its.toArray (fun j => (ts.getD j (a, .none, a, .non)).1) (es.map fun e => (Value.ref e.2.1, e.2.2))) (I.ok.hd hcalm) hroom ⟨⟨o, n, ho, hc, hd, hdat⟩, ?_, ?_⟩ ⟨by rw [List.length_map], ?_⟩ ?_ (by rw [List.length_map, g3]; exact hz) fun h' tk hd' k => ?_
  · rw [List.length_map, g3, hits]
    simp
  · intro j key v hj
    rw [List.getElem?_map] at hj
    cases he : es[j]? with
    | none => rw [he] at hj; cases hj
    | some e =>
      rw [he] at hj
      cases hj
      obtain ⟨t, ht, hp⟩ := g4 j e he
      dsimp only
      rw [show ts.getD j (a, .none, a, .non) = t by rw [List.getD_eq_getElem?_getD, ht]; rfl]
      refine ⟨?_, hp⟩
      rw [hits]
      simp [ht]
  · intro i key v hj
    unfold PairRel at hj
    rw [List.getElem?_map] at hj
    cases he : es[i]? with
    | none => rw [he] at hj; cases hj
    | some e =>
      rw [he] at hj
      cases hj
      exact ⟨e.1, e.2.1, rfl, rfl⟩
  · intro h2 hk x hx
    refine nestedKind_stays.stays (fun b o vs m e _ => hk b o (Nat.ne_of_lt (Heap.lt_size e)) (fun z => nomatch z) e) (g2 x hx)
  · have hm : (s.heap.objs.size == sysModules) = false := beq_eq_false_iff_ne.mpr (Nat.ne_of_gt I.big)
    have hlen : (storedAllH [] es).length ≤ sizeLine := by
      refine Nat.le_trans (storedAllH_length es []) ?_
      rw [List.length_nil, Nat.zero_add, g3]
      exact hz
    exact ⟨.ref s.heap.objs.size, upd H s.heap.objs.size (dictO X.w s.heap.objs.size (storedAllH [] es)), I.laid (t' := tk) (fun b o e => k b o (fun z => nomatch z) e) (Nat.le_refl _) (dictO_ok hm hlen hd'), rfl, q es g1 _ (I.hok.fresh (Nat.le_refl _))⟩
section
variable {K : PySem.W.Frag} {H : Hp}
theorem es_merge {ps : KvT} {ts : List Tp} {es : List Ent} (h1 : Paired (fun (p : NestedKey × Dv) (t : Tp) => p.1 = t.2.1 ∧ RD K H (nkD t.2.1) (.ref t.2.2.1) ∧ t.2.1.depth ≤ 8 ∧ RD K H p.2 t.2.2.2) ps ts)
    (h2 : Paired (fun (t : Tp) (e : Ent) => e.1 = t.2.1 ∧ e.2.1 = t.2.2.1 ∧ RelV t.2.2.2 e.2.2) ts es) : ∀ {kvs : KvT} {xs : List Ent}, REs K H kvs xs → REs K H (mergeT kvs ps) (storedAllH xs es) := by
  induction h1 generalizing es with
  | nil => cases h2; exact fun r => r
  | @cons p t ps ts a b ih =>
    intro kvs xs r
    cases h2 with
    | @cons _ e _ es c d =>
      obtain ⟨a1, a2, a3, a4⟩ := a
      obtain ⟨c1, c2, c3⟩ := c
      obtain ⟨e1, e2, e3⟩ := e
      subst c1 c2
      have := es_put r (y := .ref t.2.2.1) (b := t.2.2.1) (k := t.2.1) ⟨rfl, a2, a3⟩ c3 a4
      rw [← a1] at this
      have z := ih d this
      rw [← a1]
      exact z
theorem prt_of : ∀ {ps : KvT} {vs : List V}, (∀ p ∈ ps, (∃ ks, p.1 = .tup ks) ∧ p.1.depth ≤ 8) → RDs K H (ps.map prT) vs → ∃ ts : List Tp, vs = ts.map (fun t => V.ref t.1) ∧ (∀ t ∈ ts, SqT K H t.1 [.ref t.2.2.1, t.2.2.2] ∧ RD K H (nkD t.2.1) (.ref t.2.2.1) ∧ t.2.1.depth ≤ 8) ∧
    Paired (fun (p : NestedKey × Dv) (t : Tp) => p.1 = t.2.1 ∧ RD K H (nkD t.2.1) (.ref t.2.2.1) ∧ t.2.1.depth ≤ 8 ∧ RD K H p.2 t.2.2.2) ps ts
  | [], vs, _, r => by
    unfold List.map RDs at r
    subst r
    exact ⟨[], rfl, fun t ht => (by cases ht), .nil⟩
  | p :: ps, vs, hk, r => by
    rw [List.map_cons] at r
    unfold RDs at r
    obtain ⟨v, w, rfl, h1, h2⟩ := r
    obtain ⟨ts, rfl, h3, h4⟩ := prt_of (fun p hp => hk p (List.mem_cons_of_mem _ hp)) h2
    obtain ⟨⟨ks, ek⟩, hd⟩ := hk p List.mem_cons_self
    unfold prT RD at h1
    obtain ⟨a, us, rfl, sq, rr⟩ := h1
    obtain ⟨x, y, rfl, r1, r2⟩ := rr.two
    obtain ⟨b, hb⟩ := keyT_ok r1 rfl ek hd
    obtain ⟨rfl, hb2, _⟩ := hb
    refine ⟨(a, p.1, b, y) :: ts, rfl, fun t ht => ?_, .cons ⟨rfl, r1, hd, r2⟩ h4⟩
    rcases List.mem_cons.mp ht with rfl | ht
    · exact ⟨sq, r1, hd⟩
    · exact h3 t ht
end
def kPrt (M : Mo) (d : Dv) (F : KvT → Prop) : Prop := ∃ ps : KvT, seqL M d = some (ps.map prT) ∧ (∀ p ∈ ps, (∃ ks, p.1 = .tup ks) ∧ p.1.depth ≤ 8) ∧ F ps
def dDictT (w : World) : RNd := fun ds M Q => match ds with
  | [d] => kPrt M d fun ps => ∀ p, M p = none → Q (.ref p) (mup M p (.dT w (mergeT [] ps)))
  | _ => False
theorem cd_dictT {X : Cx} {w : World} (hc : X.calm = true) (hw : X.w = w) (hu : X.A.units + 16 < cLine) : CallR X (.type "dict") (LNop X.K (dDictT w)) := by
  subst hw
  refine cd_I (call_dictT hc hu) fun ds M Qd xs H Q rs sr q c => ?_
  unfold dDictT at q
  split at q
  · rename_i d
    obtain ⟨v, rfl, rv⟩ := rs.one
    obtain ⟨ps, e, hk, q⟩ := q
    obtain ⟨a, vs, rfl, hq, rr⟩ := seqL_ok sr rv e
    obtain ⟨ts, rfl, h3, h4⟩ := prt_of hk rr
    refine ⟨a, ts, rfl, hq, h3, fun es he p hp => ?_⟩
    have st : Stp X.K M H (mup M p (.dT X.w (mergeT [] ps))) (upd H p (dictO X.w p (storedAllH [] es))) := Stp.new sr hp (by
      simp only [Own]
      exact ⟨_, upd_same, REs.keep (Keep.new hp) (es_merge h4 he .nil)⟩)
    exact c _ _ _ _ st .ref (q p (sr.free hp))
  · exact q.elim
theorem i_dictT {w : World} {M : Mo} {d : Dv} {Q : QD} {ps : KvT} (h : seqL M d = some (ps.map prT)) (hk : ∀ p ∈ ps, (∃ ks, p.1 = .tup ks) ∧ p.1.depth ≤ 8) (q : ∀ p, M p = none → Q (.ref p) (mup M p (.dT w (mergeT [] ps)))) : dDictT w [d] M Q := ⟨ps, h, hk, q⟩
/-! ### d.get(k), d.get(k, z), keys that are tuples -/
def kIsR (w : World) (M : Mo) (d : Dv) (N : Prop) : Prop := kDctR w M d (fun _ _ => True) ∧ N
instance s_kIsR {w : World} {M : Mo} {kvs : KvT} {N : Prop} : Step (kIsR w M (.dctT w kvs) N) N := ⟨fun h => ⟨.inr ⟨kvs, rfl, trivial⟩, h⟩⟩
def dTGet1 (w : World) (td ty : TED) : TED := fun sd M Q => td sd M fun d M1 => kIsR w M1 d (ty sd M1 fun y M2 => kDctR w M2 d fun _ kvs => kKyT y fun k => Q ((valT kvs k).getD .non) M2)
def dTGet2 (w : World) (td ty tx : TED) : TED := fun sd M Q => td sd M fun d M1 => kIsR w M1 d (ty sd M1 fun y M2 => tx sd M2 fun z M3 => kDctR w M3 d fun _ kvs => kKyT y fun k => Q ((valT kvs k).getD z) M3)
section
variable {w : World} {td ty tx : TED} {sd : StD} {M : Mo} {Q : QD}
instance s_tGet1 : Step (dTGet1 w td ty sd M Q) (td sd M fun d M1 => kIsR w M1 d (ty sd M1 fun y M2 => kDctR w M2 d fun _ kvs => kKyT y fun k => Q ((valT kvs k).getD .non) M2)) := ⟨id⟩
instance s_tGet2 : Step (dTGet2 w td ty tx sd M Q) (td sd M fun d M1 => kIsR w M1 d (ty sd M1 fun y M2 => tx sd M2 fun z M3 => kDctR w M3 d fun _ kvs => kKyT y fun k => Q ((valT kvs k).getD z) M3)) := ⟨id⟩
end
end DL
/-! t[lo:hi] of a tuple -/
namespace DL
open PySem PySem.Spec PyProof.Rows L2
def dSlT (te : TED) (tl th : TOD) : TED := fun sd M Q => te sd M fun d M1 => tl sd M1 fun lo M2 => th sd M2 fun hi M3 => kTup d fun ds => Q (.tup (cutD ds lo hi)) M3
instance s_slT {te : TED} {tl th : TOD} {sd : StD} {M : Mo} {Q : QD} : Step (dSlT te tl th sd M Q) (te sd M fun d M1 => tl sd M1 fun lo M2 => th sd M2 fun hi M3 => kTup d fun ds => Q (.tup (cutD ds lo hi)) M3) := ⟨id⟩
end DL
/-! xs.count(y), xs.index(y), y in xs: deep things -/
namespace DL
open PySem PySem.Spec PyProof.Rows L2
end DL
/-! ### xs.insert(i, y) -/
namespace DL
open PySem PySem.Spec PyProof.Rows L2
end DL
/-! y in xs, deep things -/
namespace DL
open PySem PySem.Spec PyProof.Rows L2
theorem units65 {k : Nat} {A : Around} (r : Room k A) : A.units + 65 < cLine := by have := r.un; omega
def dInV (g : Bool → Bool) : R2d := fun d e M Q => ∃ d' xs, Vw M d d' ∧ Vw M e (.lst xs) ∧ Pln 60 d' ∧ Pln 60 (.lst xs) ∧ Q (.bl (g (xs.any fun x => dq x d'))) M
theorem any_py : ∀ {xs : List Dv} {ps : List PyData} {y : Dv} {p : PyData}, (∀ x, x ∈ xs → Pln 59 x) → Pln 60 y → pyDs xs = some ps → pyD y = some p → (ps.any fun e => PyData.eqv e p) = xs.any fun x => dq x y
  | [], ps, y, p, _, _, e, _ => by
    unfold pyDs at e
    cases e
    rfl
  | x :: xs, ps, y, p, h, hy, e, ey => by
    unfold pyDs at e
    split at e
    · rename_i q qs a1 a2
      cases e
      rw [List.any_cons, List.any_cons, any_py (fun x hx => h x (List.mem_cons_of_mem _ hx)) hy a2 ey, pln_dq (h x List.mem_cons_self) hy a1 ey]
    · cases e
section
variable {X : Cx}
theorem od_ninV (hu : X.A.units + 65 < cLine) : OpR X (compareOp .NotIn) (L2op X.K (dInV (!·))) := by
  refine opd_I (op_notInD hu) fun d e M Qd x y H Q r1 r2 sr q c => ?_
  obtain ⟨d', xs, w1, w2, p1, p2, q⟩ := q
  obtain ⟨p, a1, s1⟩ := p1.shp (by omega)
  obtain ⟨p', a2, s2⟩ := p2.shp (by omega)
  obtain ⟨ps, e3, rfl⟩ := pyD_lst a2
  refine ⟨p, ps, vw_py sr w1 r1 a1, vw_py sr w2 r2 a2, s1, s2, c _ M _ H (.refl sr) .bl ?_⟩
  rw [any_py p2 p1 e3 a1]
  exact q
end
theorem i_inV {M : Mo} {Q : QD} {d e d' : Dv} {xs : List Dv} {g : Bool → Bool} (w1 : Vw M d d') (w2 : Vw M e (.lst xs)) (p1 : Pln 60 d') (p2 : Pln 60 (.lst xs)) (h : Q (.bl (g (xs.any fun x => dq x d'))) M) : dInV g d e M Q := ⟨d', xs, w1, w2, p1, p2, h⟩
end DL
/-! a text in a text; a text's end; a range downwards -/
namespace DL
open PySem PySem.Spec PyProof.Rows L2
def hasX (z x : Str) : Bool := !(Builtin.Str.occurrences z x 0 z.length 1).isEmpty
def dInX : R2d := fun d e M Q => match d, e with
  | .str x, .str z => Q (.bl (hasX z x)) M
  | _, _ => False
def dNotInX : R2d := fun d e M Q => match d, e with
  | .str x, .str z => Q (.bl (!hasX z x)) M
  | _, _ => False
instance s_inX {M : Mo} {x z : Str} {Q : QD} : Step (dInX (.str x) (.str z) M Q) (Q (.bl (hasX z x)) M) := ⟨id⟩
instance s_ninX {M : Mo} {x z : Str} {Q : QD} : Step (dNotInX (.str x) (.str z) M Q) (Q (.bl (!hasX z x)) M) := ⟨id⟩
def dEnds : RMd := fun d ds M Q => match d, ds with
  | .str a, [.str b] => Q (.bl (Txt.endswith a b)) M
  | _, _ => False
instance s_ends {M : Mo} {a b : Str} {Q : QD} : Step (dEnds (.str a) [.str b] M Q) (Q (.bl (Txt.endswith a b)) M) := ⟨id⟩
/-! range(i, j, -1) -/
def rdnD (lo : Int) (n : Nat) : List Dv := (List.range n).map fun i => .int (lo - (i : Nat))
def kR3 (ds : List Dv) (F : Int → Int → Prop) : Prop := match ds with
  | [.int i, .int j, .int c] => c = -1 ∧ F i j
  | _ => False
def iRngNegD (ta : TAD) : TID := fun sd M R => ta sd M fun ds M1 => kR3 ds fun i j => (i < 4611686018427387904 ∧ -4611686018427387904 ≤ i ∧ j < 4611686018427387904 ∧ -4611686018427387904 ≤ j) ∧ R ⟨rdnD i (i - j).toNat, fun _ => True⟩ M1
instance s_rngN {ta : TAD} {sd : StD} {M : Mo} {R : ItD → Mo → Prop} : Step (iRngNegD ta sd M R) (ta sd M fun ds M1 => kR3 ds fun i j => (i < 4611686018427387904 ∧ -4611686018427387904 ≤ i ∧ j < 4611686018427387904 ∧ -4611686018427387904 ≤ j) ∧ R ⟨rdnD i (i - j).toNat, fun _ => True⟩ M1) := ⟨id⟩
instance s_kR3 {i j : Int} {F : Int → Int → Prop} : Step (kR3 [.int i, .int j, .int (-1)] F) (F i j) := ⟨fun h => ⟨rfl, h⟩⟩
end DL
/-! the end over one run of the top: what the head's Hook tells, turned to the layer -/
namespace DL
open PySem PySem.Spec PyProof.Rows L2
/-- an own exception class's object -/
def oexIn (K : PySem.W.Frag) (C : Addr) : Bool := match K.lookup C with
  | some ⟨.type "type", _, .cls cd, sl⟩ => (match cd.mro, sl.toList with
    | .ref C' :: bm, [_, _, _, _, some (.builtin n), _] => C' == C && n == "ValueError.__new__" && !cd.hasDel && cd.hasDict && PySem.HandSPX.refsVE bm
    | _, _ => false)
  | _ => false
theorem oexIn_ok {K : PySem.W.Frag} {C : Addr} (q : oexIn K C = true) : ∃ nm qn N bs bm sn sub ab col dd k0 k1 k2 k3 k5, K.lookup C = some (excClassObj nm qn C N bs bm true sn sub ab col dd k0 k1 k2 k3 k5 "ValueError.__new__") ∧ PySem.HandSPX.refsVE bm = true := by
  unfold oexIn at q
  split at q
  · rename_i dd cd sl ho
    split at q
    · rename_i C' bm k0 k1 k2 k3 n k5 hm hs
      simp only [Bool.and_eq_true, beq_iff_eq, Bool.not_eq_true'] at q
      obtain ⟨⟨⟨⟨rfl, rfl⟩, hdel⟩, hdict⟩, hr⟩ := q
      obtain ⟨nm, bs, mro, ns, qn, hd, sn, sub, ab, col, del⟩ := cd
      dsimp only at hm hdel hdict hr
      subst hm hdel hdict
      have hsl : sl = #[k0, k1, k2, k3, some (.builtin "ValueError.__new__"), k5] := by
        obtain ⟨l⟩ := sl
        simp only at hs
        rw [hs]
      subst hsl
      exact ⟨nm, qn, ns, bs, bm, sn, sub, ab, col, dd, k0, k1, k2, k3, k5, ho, hr⟩
    · cases q
  · cases q
theorem fun_of {K : PySem.W.Frag} {x qual : Str} {st : Stmt} {f : Addr} {fd : FuncData} (F : FunD K x qual (defArgs st) (defBody st) (defScope st) [] [] f fd) : Fun K x qual st f fd := by
  obtain ⟨oc, od, dV, kV, doc, pm, an, cdv, ct, osl, e, l, c, d, _⟩ := F.ex
  rcases d with ⟨_, rfl⟩ | ⟨z, _⟩
  · exact ⟨⟨oc, od, kV, doc, pm, an, cdv, ct, osl, e, l, c⟩, F.kp⟩
  · exact absurd rfl z
/-- how the law's argument binds -/
theorem bind1 {K : PySem.W.Frag} {x qual : Str} {st : Stmt} {f : Addr} {fd : FuncData} {ps : List Str} (F : Fun K x qual st f fd)
    (h : ∀ (kV doc pm : Value) (an : Option Addr) (cdv ct : Value) (us : List Value), us.length = ps.length → bindArgs (PySem.W.fnOf x qual (defArgs st) (defBody st) (defScope st) .none kV doc pm an cdv ct) ⟨us, []⟩ = pure (ps.zip us)) (s : Shared) (us : List Value) (hl : us.length = ps.length) : BindsTo s fd ⟨us, []⟩ (ps.zip us) := by
  obtain ⟨oc, od, kV, doc, pm, an, cdv, ct, osl, rfl, lk, hcd⟩ := F.ex
  exact .of_eq (h kV doc pm an cdv ct us hl)
def fcB (K : PySem.W.Frag) (C : Addr) : Bool := match PySem.W.findCls K (.ref C) (.type "type") "__init__" with
  | some (.val (.builtin s)) => decide (s = "ValueError.__init__")
  | _ => false
theorem fcB_ok {K : PySem.W.Frag} {C : Addr} (h : fcB K C = true) : PySem.W.findCls K (.ref C) (.type "type") "__init__" = some (.val (.builtin "ValueError.__init__")) := by
  unfold fcB at h
  split at h
  · rename_i s e
    rw [e, of_decide_eq_true h]
  · cases h
/-- facts by number -/
def allK (fs : List (PySem.W.Frag → Bool)) (K : PySem.W.Frag) : Bool := fs.all fun f => f K
theorem fact_at {fs : List (PySem.W.Frag → Bool)} {K : PySem.W.Frag} (h : allK fs K = true) (i : Nat) {f : PySem.W.Frag → Bool} (e : fs[i]? = some f) : f K = true := List.all_eq_true.mp h f (List.mem_of_getElem? e)
end DL
namespace DL
open PySem PySem.Spec PyProof.Rows L2
/-- a law's end over a head by facts, whatever the world -/
theorem walk_ofEW {l : PySem.W.OpenLaw} {n k : Nat} {q : Program} {loose : List Str} {XP : (Str → Option Value) → Heap → Prop} {YP : World → Heap → Prop} {d : DefRec} {CX : World → CXT} {x : Str}
    (hn : l.most = some n) (hn2 : n ≤ sizeLine) (hdf : d.params.defaults = []) (hr : L2.Room k callerA)
    (F : ∀ (w : World) (mg : Str → Option Value) (fa : Addr) (h : Heap), YP w h → h.Ns mainGlobals mg → mg d.name = some (.ref fa) →
      ∃ (K : PySem.W.Frag) (fd : FuncData) (sp : Sp), K.In h ∧ (∀ (s : Shared) (u : Value), BindsTo s fd ⟨[u], []⟩ [(x, u)]) ∧
        (∀ (H : Hp) (a : Addr) (ns : List Int), ns.length ≤ n → Only H → SqL K H a (ns.map V.int) → sp [.ref a] H (fun v _ => v = .bl true) fun _ _ _ => False) ∧
        ∀ base : Heap, K.In base → base.Ns mainGlobals mg → FnOk l.prog w K mg base (CX w) k fa fd [x] sp)
    (hCX : ∀ (w : World) (H : Hp) (s : Shared) (e : Value) (s' : Shared), CX w [] H s (fun _ _ _ => False) e s' → False) :
    PySem.W.WalkO q loose XP YP l.row.toRowW d [] (fun f vs => PySem.call f vs) := by
  refine Att.attach_call hn hdf fun w s₀ s₁ mg mb fa o pm cd doc a vs ns G Y ho hd hcd hmg hobj hints hlen hg => ?_
  obtain ⟨K, fd, sp, KX, hb, hsp, hF⟩ := F w mg fa _ Y G.T.g hmg
  exact law_call KX G.T.g G.T.b G.T.builtins G.T.nolimit hg hobj hints (Nat.le_trans hlen hn2) hr hF hb (fun H hO hS => hsp H a ns hlen hO hS) fun H e s' => hCX w H s₁ e s'
end DL
namespace DL
open PySem PySem.Spec PyProof.Rows L2
/-! ### a Hook from two roots; its facts looked at in several runs -/
def asR (g : Addr → Option Obj) : Nat → List Addr
  | 0 => [mainGlobals, cStatics]
  | n + 1 => He.growD g (asR g n)
/-- what is looked at -/
def kR (n : Nat) (g : Addr → Option Obj) : PySem.W.Frag := He.frT g (asR g n)
def obsY (n : Nat) (fn : List He.DefD) (tf : List He.Defn) (ex : PySem.W.Frag → Bool) (g : Addr → Option Obj) : He.AlX := (He.obsT [] fn [] (kR n g), ex (kR n g) && He.tabsB g tf (kR n g))
theorem saysY_of {n : Nat} {fn : List He.DefD} {tf : List He.Defn} {ex : PySem.W.Frag → Bool} {w : World} {h : Heap} (e : obsY n fn tf ex h.get? = He.valX fn [] w) : He.SaysX [] fn [] tf ex w h (kR n h.get?) := by
  have e1 : He.obsT [] fn [] (kR n h.get?) = He.valT fn [] w := congrArg (fun z : He.AlX => z.1) e
  have e2 : (ex (kR n h.get?) && He.tabsB h.get? tf (kR n h.get?)) = true := congrArg (fun z : He.AlX => z.2) e
  obtain ⟨h1, h2⟩ := He.ba e2
  have key : ∀ p ∈ tf, PySem.W.codeHdIn (kR n h.get?) (He.cT (kR n h.get?) p).1 (He.cT (kR n h.get?) p).2 = true ∧ ∃ o, h.get? (He.cT (kR n h.get?) p).2 = some o ∧ He.emptyTab o = true := fun p hp => by
    obtain ⟨h3, h4⟩ := He.ba (List.all_eq_true.mp h2 p hp)
    refine ⟨h3, ?_⟩
    cases q : h.get? (He.cT (kR n h.get?) p).2 with
    | none =>
      rw [q] at h4
      cases h4
    | some o =>
      rw [q] at h4
      exact ⟨o, rfl, h4⟩
  exact ⟨e1, h1, fun p hp => (key p hp).1, fun p hp => by
    obtain ⟨_, o, q, z⟩ := key p hp
    exact He.frT_none q z, fun p hp => by
    obtain ⟨_, o, q, z⟩ := key p hp
    rw [q, He.emptyTab_eq z]⟩
def hookY (n : Nat) (fn : List He.DefD) (tf : List He.Defn) (ex : PySem.W.Frag → Bool) : PySem.W.Hook where
  α := He.AlX
  obs := fun s => obsY n fn tf ex s.heap.get?
  val := fun w => He.valX fn [] w
  says := fun w h => ∃ K : PySem.W.Frag, K.In h ∧ He.SaysX [] fn [] tf ex w h K
  of := fun _ _ e => ⟨_, He.frT_in, saysY_of e⟩
  keeps := fun _ _ _ ⟨K, hK, c⟩ k => ⟨K, PySem.W.Frag.In.keeps hK k, ⟨c.t, c.more, c.hd, c.out, fun p hp => k _ _ (c.empty p hp)⟩⟩
theorem obsY_eq {n : Nat} {fn : List He.DefD} {tf : List He.Defn} {ex : PySem.W.Frag → Bool} {g : Addr → Option Obj} {s : Shared} (h : ∀ a, g a = s.heap.get? a) : obsY n fn tf ex g = (hookY n fn tf ex).obs s := by
  have e : g = s.heap.get? := funext h
  rw [e] <;> rfl
open HandSHeadRun in
/-- some facts alone, by a run of their own -/
def RunB (r : PySem.W.OpenRow) (n : Nat) (M : Nat) (ex : PySem.W.Frag → Bool) (w : World) : Prop :=
  ∀ os : OsState, (endF (stepQ (denQ tabQ) r.prog w) M r.prog w os).map (fun s => ex (kR n (getT s))) = some true
open HandSHeadRun in
theorem run_and {r : PySem.W.OpenRow} {q : Program} {n M : Nat} {fn : List He.DefD} {tf : List He.Defn} {e1 e2 : PySem.W.Frag → Bool} {loose : List PySem.Str} {w : World}
    (h1 : RunEq r q (hookY n fn tf e1) (fun s => obsY n fn tf e1 (getT s)) M loose w) (h2 : RunB r n M e2 w) : RunEq r q (hookY n fn tf fun K => e1 K && e2 K) (fun s => obsY n fn tf (fun K => e1 K && e2 K) (getT s)) M loose w := fun os => by
  have a := h1 os
  have b := h2 os
  cases z : endF (stepQ (denQ tabQ) r.prog w) M r.prog w os with
  | none =>
    rw [z] at a
    cases a
  | some s =>
    rw [z] at a b
    have b : e2 (kR n (getT s)) = true := Option.some.inj b
    have a := Option.some.inj a
    obtain ⟨a1, a2⟩ := Prod.mk.inj a
    obtain ⟨a2, a3⟩ := Prod.mk.inj a2
    refine congrArg some (Prod.ext a1 (Prod.ext a2 ?_))
    obtain ⟨a4, a5⟩ := Prod.mk.inj a3
    obtain ⟨a6, a7⟩ := He.ba a5
    refine Prod.ext a4 ?_
    show ((e1 (kR n (getT s)) && e2 (kR n (getT s))) && _) = true
    rw [a6, show e2 (kR n (getT s)) = true from b]
    exact a7
end DL
/-! list(d), d's keys tuples; a dict of new lists stands still as a whole -/
namespace DL
open PySem PySem.Spec PyProof.Rows L2
theorem call_listN {X : Cx} (hc : X.calm = true) : CallR X (.type "list") (fun xs H Q => ∃ (d : Addr) (es : List Ent), xs = [V.ref d] ∧ RdT X.w H d es ∧ ∀ p, H p = none → Q (.ref p) (upd H p (.lst ((es.map fun e => e.2.1).map V.ref)))) := by
  intro pins s σ H xs us Q I r h
  obtain ⟨d, ents, rfl, hd, q⟩ := h
  obtain ⟨u, rfl, rx⟩ := r.one
  cases rx
  have e2 : ObjOk X.prog X.w H s.heap d (dictO X.w d ents) := by
    rcases hd with e | ⟨o, e⟩
    · exact I.hok d _ e
    · exact (show ObjOk X.prog X.w H s.heap d (.frz o (dictO X.w d ents)) from I.hok d _ e).2
  obtain ⟨⟨h1, h2, h3, o, es, ep, ho, hx, hdt, he⟩, _, _⟩ := e2
  have l1 : es.size = ents.length := by rw [← Array.length_toList, he, List.length_map]
  refine PySem.W.kdl_call (kdl_raw h1 hx hdt) (I.ok.hd hc) ho (by omega) fun h' tk acc' c' kp e it => ?_
  have eb : acc'.toList = (ents.map fun x => x.2.1).map Value.ref := by
    have hl : acc'.toList.length = ents.length := by rw [Array.length_toList, it.1]; exact l1
    apply List.ext_getElem?
    intro j
    rw [List.getElem?_map, List.getElem?_map]
    cases hj : acc'.toList[j]? with
    | none =>
      have h1 := List.getElem?_eq_none_iff.mp hj
      rw [List.getElem?_eq_none (by omega)]
      all_goals rfl
    | some v =>
      obtain ⟨en, hen, hv⟩ := it.2 j v (by rw [← Array.getElem?_toList]; exact hj)
      have qe : es.toList[j]? = (ents.map (entN X.w))[j]? := by rw [he]
      rw [Array.getElem?_toList, hen, List.getElem?_map] at qe
      cases hb : ents[j]? with
      | none =>
        rw [hb] at qe
        exact nomatch (show some en = none from qe)
      | some b =>
        rw [hb] at qe
        have e2 : en = entN X.w b := Option.some.inj qe
        rw [hv, e2]
        all_goals rfl
  have rv : Vals ((ents.map fun x => x.2.1).map V.ref) acc'.toList := by rw [eb]; exact vals_refs
  have hz : ((ents.map fun x => x.2.1).map V.ref).length ≤ sizeLine := by rw [List.length_map, List.length_map]; omega
  refine ⟨.ref s.heap.objs.size, _, I.laid (t' := tk) (o := .lst ((ents.map fun x => x.2.1).map V.ref)) kp (Nat.le_refl _) ?_, rfl, q _ (I.hok.fresh (Nat.le_refl _))⟩
  exact ⟨hz, acc'.toList, c', rv, by rw [Array.toArray_toList]; exact e⟩
theorem es_refs {K : PySem.W.Frag} {H : Hp} {kvs : KvT} {xs : List Ent} (r : REs K H kvs xs) : RDs K H (kvs.map fun kv => nkD kv.1) ((xs.map fun e => e.2.1).map V.ref) := by
  induction r with
  | nil => exact .nil
  | cons h t ih =>
    obtain ⟨h1, h2, h3, _⟩ := h
    rw [← h1] at h3
    exact .cons h3 ih
def dListT (w : World) : RNd := fun ds M Q => match ds with
  | [d] => kDctR w M d fun _ kvs => ∀ p, M p = none → Q (.ref p) (mup M p (.lst (kvs.map fun kv => nkD kv.1)))
  | _ => False
theorem cd_listT {X : Cx} {w : World} (hc : X.calm = true) (hw : X.w = w) : CallR X (.type "list") (LNop X.K (dListT w)) := by
  subst hw
  refine cd_I (call_listN hc) fun ds M Qd xs H Q rs sr q c => ?_
  unfold dListT at q
  split at q
  · rename_i d
    obtain ⟨v, rfl, rv⟩ := rs.one
    obtain ⟨a, b, ents, kvs, rfl, hR, rr, q⟩ := kDctR_of sr rv q
    refine ⟨a, ents, rfl, hR, fun p hp => ?_⟩
    have st : Stp X.K M H (mup M p (.lst (kvs.map fun kv => nkD kv.1))) (upd H p (.lst ((ents.map fun e => e.2.1).map V.ref))) := Stp.new sr hp (by
      simp only [Own]
      exact ⟨_, upd_same, RDs.keep (Keep.new hp) (es_refs rr)⟩)
    exact c _ _ _ _ st .ref (q p (sr.free hp))
  · exact q.elim
instance s_listT {w : World} {d : Dv} {M : Mo} {Q : QD} : Step (dListT w [d] M Q) (kDctR w M d fun _ kvs => ∀ p, M p = none → Q (.ref p) (mup M p (.lst (kvs.map fun kv => nkD kv.1)))) := ⟨id⟩
/-! a dict of new lists -/
inductive GfD : Mo → Dv → Mo → Dv → Prop
  | here {M : Mo} {p : Addr} {o : OO} {d' : Dv} (e : M p = some o) (ed : frzV o = some d') : GfD M (.ref p) (mdl M p) d'
  | inn {M M' : Mo} {p q : Addr} {w : World} {kvs : KvT} {ws : List Dv} {i : Nat} {k : NestedKey} {d' : Dv} (hp : M p = some (.dT w kvs)) (hi : kvs[i]? = some (k, .ref q)) (hn : q ≠ p) (hq : M q = some (.lst ws))
      (t : GfD (mup (mdl M q) p (.dT w (kvs.set i (k, .lst ws)))) (.ref p) M' d') : GfD M (.ref p) M' d'
theorem REs.set_ {K : PySem.W.Frag} {H : Hp} {d z : Dv} {k : NestedKey} : ∀ {kvs : KvT} {xs : List Ent} {i : Nat}, REs K H kvs xs → kvs[i]? = some (k, d) → (∀ v, RD K H d v → RD K H z v) → REs K H (kvs.set i (k, z)) xs
  | _, _, _, .nil, h, _ => by cases h
  | p :: kvs, x :: xs, 0, .cons h1 h2, e, f => by
    cases e
    obtain ⟨a1, a2, a3, v, a4, a5⟩ := h1
    exact .cons ⟨a1, a2, a3, v, a4, f v a5⟩ h2
  | p :: kvs, x :: xs, i + 1, .cons h1 h2, e, f => .cons h1 (REs.set_ h2 e f)
theorem GfD.ok {X : Cx} {pins : List (Addr × Obj)} {s : Shared} {σ : L2.St} {M M' : Mo} {d d' : Dv} (g : GfD M d M' d') : ∀ {H : Hp} {v : V}, Inv X pins σ H s → SR X.K M H → RD X.K H d v → ∃ H', Inv X pins σ H' s ∧ Stp X.K M H M' H' ∧ RD X.K H' d' v := by
  induction g with
  | here e ed =>
    intro H v I sr r
    have ev := r.ref_of
    subst ev
    exact Inv.frzD I sr e ed
  | @inn M M' p q w kvs ws i k d' hp hi hn hq t ih =>
    intro H v I sr r
    have ev := r.ref_of
    subst ev
    obtain ⟨H1, I1, s1, r1⟩ := Inv.frzD I sr hq rfl
    have hp1 : mdl M q p = some (.dT w kvs) := by rw [mdl_ne (Ne.symm hn)]; exact hp
    obtain ⟨xs, hv, rr⟩ := own_dT s1.sr hp1
    have eu : upd H1 p (dictO w p xs) = H1 := by
      funext a
      by_cases z : a = p
      · subst z; rw [upd_same, hv]
      · rw [upd_ne z]
    have rs : REs X.K H1 (kvs.set i (k, .lst ws)) xs := REs.set_ rr hi fun u hu => by
      have := hu.ref_of
      subst this
      exact r1
    have st2 : Stp X.K (mdl M q) H1 (mup (mdl M q) p (.dT w (kvs.set i (k, .lst ws)))) (upd H1 p (dictO w p xs)) := Stp.setK s1.sr hp1 (by rw [eu]; exact .refl _) (by
      simp only [Own]
      rw [eu]
      exact ⟨xs, hv, rs⟩)
    rw [eu] at st2
    obtain ⟨H2, I2, s2, r2⟩ := ih I1 st2.sr (r.keep s1.keep)
    exact ⟨H2, I2, (s1.trans st2).trans s2, r2⟩
def dFrzD (te : TED) : TED := fun sd M Q => te sd M fun d M1 => ∃ M2 d2, GfD M1 d M2 d2 ∧ Q d2 M2
theorem de_frzD {X : Cx} {M0 : Mo} {H0 : Hp} {e : Expr} {te : TED} (h : PEd X M0 H0 e te) : PEd X M0 H0 e (dFrzD te) := by
  refine ⟨fun pins s σ H Q I ⟨sd, M, Qd, w, q, c⟩ => ?_⟩
  refine thn (h.run pins s σ H (fun v H1 => ∃ d M1, Stp X.K M H M1 H1 ∧ RD X.K H1 d v ∧ ∃ M2 d2, GfD M1 d M2 d2 ∧ Qd d2 M2) I ⟨sd, M, _, w, q, fun d M1 v H1 s1 r1 q1 => ⟨d, M1, s1, r1, q1⟩⟩) fun u s1 ⟨v, H1, I1, rv, d, M1, s1', r1, M2, d2, g, q1⟩ => ?_
  obtain ⟨H2, I2, s2, r2⟩ := g.ok I1 s1'.sr r1
  exact ⟨v, H2, I2, rv, c _ _ _ _ (s1'.trans s2) r2 q1⟩
instance s_frzDD {te : TED} {sd : StD} {M : Mo} {Q : QD} : Step (dFrzD te sd M Q) (te sd M fun d M1 => ∃ M2 d2, GfD M1 d M2 d2 ∧ Q d2 M2) := ⟨id⟩
end DL
/-! sorted(d), d's keys pairs of ints -/
namespace DL
open PySem PySem.Spec PyProof.Rows L2
open Classical in
noncomputable def pairK (K : PySem.W.Frag) (H : Hp) (v : V) : Int × Int := match v with
  | .ref a => if h : ∃ q : Int × Int, SqT K H a [.int q.1, .int q.2] then h.choose else (0, 0)
  | _ => (0, 0)
theorem pairK_at {X : Cx} {pins : List (Addr × Obj)} {s : Shared} {σ : L2.St} {H : Hp} (I : Inv X pins σ H s) {a : Addr} {q : Int × Int} (h : SqT X.K H a [.int q.1, .int q.2]) : pairK X.K H (.ref a) = q := by
  have hx : ∃ q : Int × Int, SqT X.K H a [.int q.1, .int q.2] := ⟨q, h⟩
  have e : pairK X.K H (.ref a) = hx.choose := by
    unfold pairK
    simp only [dif_pos hx]
  rw [e]
  have := I.tuple_inj hx.choose_spec h
  injection this with h1 h2
  injection h2 with h2 _
  injection h1 with h1
  injection h2 with h2
  exact Prod.ext h1 h2
theorem call_sortedN {X : Cx} (hc : X.calm = true) : CallR X (.builtin "sorted") (fun xs H Q => ∃ (d : Addr) (es : List Ent) (f : Ent → Int × Int), xs = [V.ref d] ∧ RdT X.w H d es ∧ (∀ e, e ∈ es → SqT X.K H e.2.1 [.int (f e).1, .int (f e).2]) ∧
    ∀ (k : V → Int × Int) (ys : List V) p, (∀ e, e ∈ es → k (.ref e.2.1) = f e) → SrtO.Srtd (ltP k) ys → ys.Perm ((es.map fun e => e.2.1).map V.ref) → H p = none → Q (.ref p) (upd H p (.lst ys))) := by
  intro pins s σ H xs us Q I r h
  obtain ⟨d, ents, f, rfl, hd, hf, q⟩ := h
  obtain ⟨u, rfl, rx⟩ := r.one
  cases rx
  have e2 : ObjOk X.prog X.w H s.heap d (dictO X.w d ents) := by
    rcases hd with e | ⟨o, e⟩
    · exact I.hok d _ e
    · exact (show ObjOk X.prog X.w H s.heap d (.frz o (dictO X.w d ents)) from I.hok d _ e).2
  obtain ⟨⟨h1, h2, h3, o, es, ep, ho, hx, hdt, he⟩, _, _⟩ := e2
  have l1 : es.size = ents.length := by rw [← Array.length_toList, he, List.length_map]
  refine Calls.call_function_entry PyProof.Rows.kind_sorted PyProof.Rows.plain_sorted PyProof.Rows.entry_sorted (PyProof.Rows.args_sorted1 _) ?_
  unfold Builtin.«sorted»
  refine wpAny_bind (m := checkCount "sorted" 1 1 _) (wpAny_pure ?_)
  refine wpAny_bind (PySem.W.kdu_collect (A := X.A.in1) (kdl_raw h1 hx hdt) (I.ok.hd hc) ho (by omega) fun h' tk acc hk it => ?_)
  have eb : acc.toList = (ents.map fun x => x.2.1).map Value.ref := by
    have hl : acc.toList.length = ents.length := by rw [Array.length_toList, it.1]; exact l1
    apply List.ext_getElem?
    intro j
    rw [List.getElem?_map, List.getElem?_map]
    cases hj : acc.toList[j]? with
    | none =>
      have h1 := List.getElem?_eq_none_iff.mp hj
      rw [List.getElem?_eq_none (by omega)]
      all_goals rfl
    | some v =>
      obtain ⟨en, hen, hv⟩ := it.2 j v (by rw [← Array.getElem?_toList]; exact hj)
      have qe : es.toList[j]? = (ents.map (entN X.w))[j]? := by rw [he]
      rw [Array.getElem?_toList, hen, List.getElem?_map] at qe
      cases hb : ents[j]? with
      | none =>
        rw [hb] at qe
        exact nomatch (show some en = none from qe)
      | some b =>
        rw [hb] at qe
        have e2 : en = entN X.w b := Option.some.inj qe
        rw [hv, e2]
        all_goals rfl
  have hal : acc.toList.length = ents.length := by rw [eb, List.length_map, List.length_map]
  have I1 : Inv X pins σ H { s with heap := h', toks := tk } := I.kept hk
  refine wpAny_bind (wpAny_newList ?_ (by rw [hal]; omega))
  have hoL : (h'.push (seqObj "list" acc.toList.toArray 0)).get? h'.objs.size = some (seqObj "list" acc.toList.toArray 0) := Heap.get?_push_size _ rfl
  show wpAny _ _ _ _ _ { s with heap := h'.push (seqObj "list" acc.toList.toArray 0), toks := tk }
  have hpr : ∀ v, v ∈ acc.toList → Srt.IsPair h' v (pairK X.K H (backV v)).1 (pairK X.K H (backV v)).2 := fun v hv => by
    rw [eb, List.map_map] at hv
    obtain ⟨e, hem, rfl⟩ := List.mem_map.mp hv
    have hs := hf e hem
    have ek : pairK X.K H (backV (Value.ref e.2.1)) = f e := pairK_at I hs
    obtain ⟨its, rv, ht, _⟩ := I1.tuple hs
    obtain ⟨u1, u2, rfl, ri, rj⟩ := vals2 rv
    obtain ⟨t1, rfl⟩ := ri
    obtain ⟨t2, rfl⟩ := rj
    show Srt.IsPair h' (Value.ref e.2.1) (pairK X.K H (backV (Value.ref e.2.1))).1 (pairK X.K H (backV (Value.ref e.2.1))).2
    rw [ek]
    obtain ⟨ob, ho2, hc2, n, hd2⟩ := ht
    exact ⟨e.2.1, ob, t1, t2, n, rfl, ho2, hc2, hd2⟩
  refine wpAny_bind (wpAny_holding (wpAny_call_entry PyProof.Rows.slot_list_sort ⟨_, hoL, rfl⟩ PyProof.Rows.entry_list_sort
    (SrtO.list_sort_ord (s := { s with heap := h'.push (seqObj "list" acc.toList.toArray 0), toks := tk }) (SrtO.swo_lex fun u => pairK X.K H (backV u)) hoL (by rw [hal]; omega) (fun h2 => ?_) fun out hs hb => ⟨_, rfl, ?_⟩)
    (PyProof.Rows.args_list_sort _)))
  · refine SrtO.pairs_sortableO (by omega) (fun v hv => (hpr v hv).keeps fun b o e _ => Heap.get?_push_of_some _ e) fun o e => ?_
    have e' : some o = some (seqObj "list" acc.toList.toArray 0) := e.symm.trans hoL
    cases e'
    intro c
    exact absurd (Value.type.inj c) (by decide)
  · have hp : out.Perm ((ents.map fun x => x.2.1).map Value.ref) := by rw [← eb]; exact hb.perm
    have h3 : ∀ u ∈ out, ∃ a, u = Value.ref a := fun u hu => by
      obtain ⟨a, _, rfl⟩ := List.mem_map.mp (hp.mem_iff.mp hu)
      exact ⟨a, rfl⟩
    have hp2 : (out.map backV).Perm ((ents.map fun e => e.2.1).map V.ref) := by
      have := hp.map backV
      rw [List.map_map] at this
      exact this
    obtain ⟨e', he'⟩ := PyProof.Rows.sortedHeap_at (vs := acc.toList) (out := out.toArray) hoL
    have hlen : (out.map backV).length ≤ sizeLine := by
      rw [List.length_map, hp.length_eq, List.length_map, List.length_map]
      omega
    refine wpAny_pure ⟨_, rfl, .ref h'.objs.size, upd H h'.objs.size (.lst (out.map backV)), I1.laid (t' := tk) (fun b u e => ?_) (Nat.le_refl _)
      (show ObjOk X.prog X.w _ _ _ (.lst (out.map backV)) from ⟨hlen, out, e', L2.vals_back h3, he'⟩), rfl, q (pairK X.K H) _ _ (fun e hem => pairK_at I (hf e hem)) (SrtO.srtd_map hs) hp2 (I1.hok.fresh (Nat.le_refl _))⟩
    have hb : b < h'.objs.size := Heap.lt_size e
    rw [PyProof.Rows.sortedHeap_old (Nat.ne_of_lt hb) (by rw [size_push']; exact Nat.lt_succ_of_lt hb)]
    exact Heap.get?_push_of_some _ e
/-- the two ints of a key -/
def nkI : NestedKey → Int × Int
  | .tup [.num i, .num j] => (i, j)
  | _ => (0, 0)
theorem nk_sq {K : PySem.W.Frag} {H : Hp} {i j : Int} {a : Addr} (h : NkV K H (.tup [.num i, .num j]) (.ref a)) : SqT K H a [.int i, .int j] := by
  simp only [NkV, NkVs] at h
  obtain ⟨b, vs, e, hs, v, r, rfl, rfl, v2, r2, rfl, rfl, rfl⟩ := h
  cases e
  exact hs
theorem rds_map {K : PySem.W.Frag} {H : Hp} {g : V → Dv} : ∀ {ys : List V}, (∀ y, y ∈ ys → RD K H (g y) y) → RDs K H (ys.map g) ys
  | [], _ => .nil
  | y :: ys, h => .cons (h y List.mem_cons_self) (rds_map fun x hx => h x (List.mem_cons_of_mem _ hx))
def dSortT (w : World) : RNd := fun ds M Q => match ds with
  | [d] => kDctR w M d fun _ kvs => ∃ ps : List (Int × Int), kvs.map (·.1) = ps.map (fun p => NestedKey.tup [.num p.1, .num p.2]) ∧
      ∀ qs : List (Int × Int), qs.Perm ps → qs.Pairwise (fun a b => SrtO.lexB b a = false) → ∀ p, M p = none → Q (.ref p) (mup M p (.lst (qs.map fun q => .tup [.int q.1, .int q.2])))
  | _ => False
theorem es_keys {K : PySem.W.Frag} {H : Hp} {kvs : KvT} {xs : List Ent} (r : REs K H kvs xs) : xs.map (·.1) = kvs.map (·.1) ∧ ∀ e, e ∈ xs → NkV K H e.1 (.ref e.2.1) := by
  induction r with
  | nil => exact ⟨rfl, fun e h => by cases h⟩
  | cons h t ih =>
    obtain ⟨h1, h2, h3, _⟩ := h
    refine ⟨by rw [List.map_cons, List.map_cons, ih.1, h1], fun e he => ?_⟩
    rcases List.mem_cons.mp he with rfl | he
    · exact nkv_rd.mpr h3
    · exact ih.2 e he
theorem cd_sortT {X : Cx} {w : World} (hc : X.calm = true) (hw : X.w = w) : CallR X (.builtin "sorted") (LNop X.K (dSortT w)) := by
  subst hw
  refine cd_I (call_sortedN hc) fun ds M Qd xs H Q rs sr q c => ?_
  unfold dSortT at q
  split at q
  · rename_i d
    obtain ⟨v, rfl, rv⟩ := rs.one
    obtain ⟨a, b, ents, kvs, rfl, hR, rr, ps, hps, q⟩ := kDctR_of sr rv q
    obtain ⟨k1, k2⟩ := es_keys rr
    have hk : ∀ e, e ∈ ents → e.1 = .tup [.num (nkI e.1).1, .num (nkI e.1).2] := fun e he => by
      have hm : e.1 ∈ ps.map (fun p => NestedKey.tup [.num p.1, .num p.2]) := by
        rw [← hps, ← k1]
        exact List.mem_map.mpr ⟨e, he, rfl⟩
      obtain ⟨p, _, hp⟩ := List.mem_map.mp hm
      rw [← hp]
      rfl
    have hsq : ∀ e, e ∈ ents → SqT X.K H e.2.1 [.int (nkI e.1).1, .int (nkI e.1).2] := fun e he => nk_sq (by rw [← hk e he]; exact k2 e he)
    refine ⟨a, ents, fun e => nkI e.1, rfl, hR, hsq, fun k ys p hke hso hpm hp => ?_⟩
    have st : Stp X.K M H (mup M p (.lst ((ys.map k).map fun q => .tup [.int q.1, .int q.2]))) (upd H p (.lst ys)) := Stp.new sr hp (by
      simp only [Own]
      rw [List.map_map]
      refine ⟨_, upd_same, RDs.keep (Keep.new hp) (rds_map fun y hy => ?_)⟩
      have hy2 := hpm.mem_iff.mp hy
      rw [List.map_map] at hy2
      obtain ⟨e, he, rfl⟩ := List.mem_map.mp hy2
      have h1 := k2 e he
      rw [hk e he] at h1
      have h2 := nkv_rd.mp h1
      show RD X.K H (.tup [.int (k (.ref e.2.1)).1, .int (k (.ref e.2.1)).2]) (.ref e.2.1)
      rw [hke e he]
      simp only [nkD, nkDs] at h2
      exact h2)
    refine c _ _ _ _ st .ref (q (ys.map k) ?_ ?_ p (sr.free hp))
    · have e1 : ((ents.map fun e => e.2.1).map V.ref).map k = ps := by
        rw [List.map_map, List.map_map]
        have e2 : ents.map (fun e => nkI e.1) = ps := by
          have := congrArg (List.map nkI) (k1.trans hps)
          rw [List.map_map, List.map_map] at this
          exact this.trans (List.map_id _)
        rw [← e2]
        exact List.map_congr_left fun e he => hke e he
      rw [← e1]
      exact hpm.map k
    · exact List.pairwise_map.mpr hso
  · exact q.elim
instance s_sortT {w : World} {d : Dv} {M : Mo} {Q : QD} : Step (dSortT w [d] M Q) (kDctR w M d fun _ kvs => ∃ ps : List (Int × Int), kvs.map (·.1) = ps.map (fun p => NestedKey.tup [.num p.1, .num p.2]) ∧
      ∀ qs : List (Int × Int), qs.Perm ps → qs.Pairwise (fun a b => SrtO.lexB b a = false) → ∀ p, M p = none → Q (.ref p) (mup M p (.lst (qs.map fun q => .tup [.int q.1, .int q.2])))) := ⟨id⟩
end DL
/-! d == {}, d != {}, d's keys tuples -/
namespace DL
open PySem PySem.Spec PyProof.Rows L2
def dEqE (w : World) (neg : Bool) : R2d := fun d e M Q => kDctR w M d fun _ kvs => kDctR w M e fun _ ls => ls = [] ∧ Q (.bl (neg ^^ decide (kvs.length = 0))) M
instance s_eqE {w : World} {neg : Bool} {d e : Dv} {M : Mo} {Q : QD} : Step (dEqE w neg d e M Q) (kDctR w M d fun _ kvs => kDctR w M e fun _ ls => ls = [] ∧ Q (.bl (neg ^^ decide (kvs.length = 0))) M) := ⟨id⟩
end DL
/-! o.m(..) and C(..) in a try's suite -/
namespace DL
open PySem PySem.Spec PyProof.Rows L2
section
variable {X : Cx} {CX : CXT} {k : Nat} {f g C : Addr} {fd : FuncData} {ps : List Str} {sp : Sp} {ET : L2.St → XK} {x m : Str} {p pos apos : Pos} {e o : Expr} {es : List Expr} {ta : TE} {t : TA}
def tMakeT (C : Addr) (sp : Sp) (ET : L2.St → XK) (t : TA) : TE := fun σ H Q => t σ H fun vs H1 => ∀ y dy, H1 y = none → H1 dy = none → dy ≠ y → sp (.ref y :: vs) (upd (upd H1 dy (.own y)) y (.ins C dy [])) (fun v H2 => v = .non ∧ Q (.ref y) H2) (ET σ)
theorem run_makeT {pp : List (Addr × Obj)} {τ : L2.St} {G : Hp} {s0 : Shared} {R : VK} {us : List Value} {vs : List V} (M : Mk X.K C f) (F : FnOk X.prog X.w X.K X.mg X.base CX k f fd ps sp) (hr : Room (k + 1) X.A) (hb : Binds X.K fd ps [])
    (hx : PassesAt CX X τ (ET τ)) (J : Inv X pp τ G s0) (r : Vals vs us)
    (h : ∀ y dy, G y = none → G dy = none → dy ≠ y → sp (.ref y :: vs) (upd (upd G dy (.own y)) y (.ins C dy [])) (fun v H2 => v = .non ∧ R (.ref y) H2) (ET τ)) :
    wpAny (model X.prog X.w) X.A (call (.ref C) us) (EP X pp τ R) X.xe s0 := by
  have z := h (s0.heap.objs.size + 1) s0.heap.objs.size (J.hok.fresh (by omega)) (J.hok.fresh (by omega)) (Nat.succ_ne_self _).symm
  have J2 := J.made (C := C)
  have rv : Vals (V.ref (s0.heap.objs.size + 1) :: vs) (Value.ref (s0.heap.objs.size + 1) :: us) := .cons rfl r
  have hln : (Value.ref (s0.heap.objs.size + 1) :: us).length = ps.length := by rw [← rv.length]; exact F.len _ _ _ _ z
  have bb := hb _ (Value.ref (s0.heap.objs.size + 1) :: us) J2.kIn (by rw [List.append_nil]; exact hln)
  rw [List.append_nil] at bb
  refine wpAny_call (make_map (f := f) J.kIn M.makes M.init (beq_iff_eq.mp M.fn) (codeAny_mono (F.run _ X.stack _ _ ⟨Value.ref (s0.heap.objs.size + 1) :: us, []⟩ _ _ _ _ (hr.make C us []) (J2.env0.make C us []) bb rv z) fun rr s' w => ?_))
  match rr with
  | .error u => exact hx pp _ _ u s' J2 w
  | .ok (.ret u) =>
    obtain ⟨v, H', J3, rv2, ev, q3⟩ := J2.after w
    subst ev
    exact ⟨rv2, V.ref (s0.heap.objs.size + 1), H', J3, rfl, q3⟩
  | .ok .next => exact w.elim
  | .ok .brk => exact w.elim
  | .ok .cont => exact w.elim
theorem pe_makeT (M : Mk X.K C f) (F : FnOk X.prog X.w X.K X.mg X.base CX k f fd ps sp) (hr : Room (k + 1) X.A) (hg : Gl X x) (hm : X.mg x = some (.ref C)) (hb : Binds X.K fd ps []) (hx : ∀ σ, PassesAt CX X σ (ET σ))
    (ha : PA X (e :: es) t) (hdb : (x == ("__debug__" : Str)) = false := by decide) (he : starEach (e :: es) X.env = (false, eval e X.env) :: starEach es X.env := by rfl) (hpl : (backTo pos (starEach es X.env)).any (·.1) = false := by rfl) :
    PE X (.Call (.Name x p) (e :: es) [] pos) (tMakeT C sp ET t) := by
  refine ⟨fun pp s0 τ G R J h => wpAny_Call_Name_kw (ld_glob J hg hm ?_ hdb)⟩
  refine PySem.W.callWith_K (h₀ := X.base) J.ok.mod.kin M.kp (thn (ha.run pos pp s0 τ G _ J h) fun us s1 hh => ?_) he hpl
  obtain ⟨vs, H1, J1, rv, q⟩ := hh
  exact ⟨J1.kIn, run_makeT M F hr hb (hx τ) J1 rv q⟩
end
section
variable {X : Cx} {M0 : Mo} {H0 : Hp} {k : Nat} {ps : List Str} {B : FuncData → Prop} {sp : SpD} {c m : Str} {p pos apos : Pos} {e o : Expr} {es : List Expr} {to : TED} {t : TAD} {Wd : WXD} {W : WX}
def dMethT (c m : Str) (sp : SpD) (Wd : WXD) (to : TED) (t : TAD) : TED := fun sd M Q => dMeth c m sp [] (fun x f d M' => Wd x f d sd M') to t sd M Q
def dMakeT (c : Str) (sp : SpD) (Wd : WXD) (t : TAD) : TED := fun sd M Q => dMake c sp [] (fun x f d M' => Wd x f d sd M') t sd M Q
theorem de_makeT (F : MakeD X.prog X.w X.K X.mg X.base c k ps B sp) (hr : Room (k + 1) X.A) (hg : Gl X c) (hb : ∀ fd, B fd → Binds X.K fd ps []) (tk : L2.Takes X W) (cw : CtW X.K M0 H0 Wd W)
    (ha : PAd X M0 H0 (e :: es) t) (hdb : (c == ("__debug__" : Str)) = false := by decide) (he : starEach (e :: es) X.env = (false, eval e X.env) :: starEach es X.env := by rfl) (hpl : (backTo pos (starEach es X.env)).any (·.1) = false := by rfl) :
    PEd X M0 H0 (.Call (.Name c p) (e :: es) [] pos) (dMakeT c sp Wd t) := by
  obtain ⟨C, f, fd, n, hm, mk, b, F⟩ := F.ex
  refine PE.imp (pe_makeT mk F hr hg hm (hb fd b) (fun σ => passAt tk σ) ha hdb he hpl) fun σ H Q hh => ?_
  obtain ⟨sd, M, Qd, w, q, cc⟩ := hh
  refine ⟨sd, M, _, w, q, fun ds M1 vs H1 s1 r1 q1 => fun y dy hy hdy ne => ?_⟩
  refine make_go n ((cw.on (w.st.trans s1)).at (w.rs.keep s1.keep)) (Stp.refl s1.sr) (cc.on s1) r1 hy hdy ne ?_
  have q2 := q1 y (s1.sr.free hy)
  rw [List.append_nil] at q2
  exact q2
instance s_methT {sd : StD} {M : Mo} {Q : QD} : Step (dMethT c m sp Wd to t sd M Q) (to sd M fun d M1 => dMethV c m sp [] (fun x f d M' => Wd x f d sd M') t sd d M1 Q) := ⟨id⟩
instance s_makeT {sd : StD} {M : Mo} {Q : QD} : Step (dMakeT c sp Wd t sd M Q) (t sd M fun ds M1 => dMkV c sp [] (fun x f d M' => Wd x f d sd M') Q ds M1) := ⟨id⟩
end
end DL
/-! xs.index(y), deep things -/
namespace DL
open PySem PySem.Spec PyProof.Rows L2
end DL
namespace Lw
open PySem PySem.Spec PyProof.Rows L2 DL
def topS (i : Nat) : Stmt := PySem.Challenge.pw_markseam_k56_papers_that_shut_nothing.main.body.getD i (.Pass ⟨0, 0, 0, 0⟩)
def clsS (i j : Nat) : Stmt := match topS i with | .ClassDef _ _ _ b _ _ _ _ _ _ _ => b.getD j (.Pass ⟨0, 0, 0, 0⟩) | s => s
def fldT : List (Str × Str) := [("Back", "ways"), ("Back", "begin"), ("Back", "met"), ("Back", "backs"), ("Back", "able"), ("Machine", "known"), ("Machine", "made"), ("Machine", "begun")]
structure Clz (K : PySem.W.Frag) (mg : Str → Option Value) (oA : Str → Addr) : Prop where
  fld : FldOk K fldT
instance fo_Back_ways {M : Mo} {Q : QD} {v0 v1 v2 v3 v4 : Dv} : Step (dFldV fldT "ways" (.obj "Back" [("ways", v0), ("begin", v1), ("met", v2), ("backs", v3), ("able", v4)]) M Q) (Q v0 M) := ⟨fun h => i_fldO (by decide +kernel) rfl h⟩
instance pa_Back_ways {d : Dv} : PutAt "ways" d [] [("ways", d)] := ⟨rfl⟩
instance pu_Back_ways {v0 v1 v2 v3 v4 d : Dv} : PutAt "ways" d [("ways", v0), ("begin", v1), ("met", v2), ("backs", v3), ("able", v4)] [("ways", d), ("begin", v1), ("met", v2), ("backs", v3), ("able", v4)] := ⟨rfl⟩
instance fo_Back_begin {M : Mo} {Q : QD} {v0 v1 v2 v3 v4 : Dv} : Step (dFldV fldT "begin" (.obj "Back" [("ways", v0), ("begin", v1), ("met", v2), ("backs", v3), ("able", v4)]) M Q) (Q v1 M) := ⟨fun h => i_fldO (by decide +kernel) rfl h⟩
instance pa_Back_begin {v0 d : Dv} : PutAt "begin" d [("ways", v0)] [("ways", v0), ("begin", d)] := ⟨rfl⟩
instance pu_Back_begin {v0 v1 v2 v3 v4 d : Dv} : PutAt "begin" d [("ways", v0), ("begin", v1), ("met", v2), ("backs", v3), ("able", v4)] [("ways", v0), ("begin", d), ("met", v2), ("backs", v3), ("able", v4)] := ⟨rfl⟩
instance fo_Back_met {M : Mo} {Q : QD} {v0 v1 v2 v3 v4 : Dv} : Step (dFldV fldT "met" (.obj "Back" [("ways", v0), ("begin", v1), ("met", v2), ("backs", v3), ("able", v4)]) M Q) (Q v2 M) := ⟨fun h => i_fldO (by decide +kernel) rfl h⟩
instance pa_Back_met {v0 v1 d : Dv} : PutAt "met" d [("ways", v0), ("begin", v1)] [("ways", v0), ("begin", v1), ("met", d)] := ⟨rfl⟩
instance pu_Back_met {v0 v1 v2 v3 v4 d : Dv} : PutAt "met" d [("ways", v0), ("begin", v1), ("met", v2), ("backs", v3), ("able", v4)] [("ways", v0), ("begin", v1), ("met", d), ("backs", v3), ("able", v4)] := ⟨rfl⟩
instance fo_Back_backs {M : Mo} {Q : QD} {v0 v1 v2 v3 v4 : Dv} : Step (dFldV fldT "backs" (.obj "Back" [("ways", v0), ("begin", v1), ("met", v2), ("backs", v3), ("able", v4)]) M Q) (Q v3 M) := ⟨fun h => i_fldO (by decide +kernel) rfl h⟩
instance pa_Back_backs {v0 v1 v2 d : Dv} : PutAt "backs" d [("ways", v0), ("begin", v1), ("met", v2)] [("ways", v0), ("begin", v1), ("met", v2), ("backs", d)] := ⟨rfl⟩
instance pu_Back_backs {v0 v1 v2 v3 v4 d : Dv} : PutAt "backs" d [("ways", v0), ("begin", v1), ("met", v2), ("backs", v3), ("able", v4)] [("ways", v0), ("begin", v1), ("met", v2), ("backs", d), ("able", v4)] := ⟨rfl⟩
instance fo_Back_able {M : Mo} {Q : QD} {v0 v1 v2 v3 v4 : Dv} : Step (dFldV fldT "able" (.obj "Back" [("ways", v0), ("begin", v1), ("met", v2), ("backs", v3), ("able", v4)]) M Q) (Q v4 M) := ⟨fun h => i_fldO (by decide +kernel) rfl h⟩
instance pa_Back_able {v0 v1 v2 v3 d : Dv} : PutAt "able" d [("ways", v0), ("begin", v1), ("met", v2), ("backs", v3)] [("ways", v0), ("begin", v1), ("met", v2), ("backs", v3), ("able", d)] := ⟨rfl⟩
instance pu_Back_able {v0 v1 v2 v3 v4 d : Dv} : PutAt "able" d [("ways", v0), ("begin", v1), ("met", v2), ("backs", v3), ("able", v4)] [("ways", v0), ("begin", v1), ("met", v2), ("backs", v3), ("able", d)] := ⟨rfl⟩
instance fo_Machine_known {M : Mo} {Q : QD} {v0 v1 v2 : Dv} : Step (dFldV fldT "known" (.obj "Machine" [("known", v0), ("made", v1), ("begun", v2)]) M Q) (Q v0 M) := ⟨fun h => i_fldO (by decide +kernel) rfl h⟩
instance pa_Machine_known {d : Dv} : PutAt "known" d [] [("known", d)] := ⟨rfl⟩
instance pu_Machine_known {v0 v1 v2 d : Dv} : PutAt "known" d [("known", v0), ("made", v1), ("begun", v2)] [("known", d), ("made", v1), ("begun", v2)] := ⟨rfl⟩
instance fo_Machine_made {M : Mo} {Q : QD} {v0 v1 v2 : Dv} : Step (dFldV fldT "made" (.obj "Machine" [("known", v0), ("made", v1), ("begun", v2)]) M Q) (Q v1 M) := ⟨fun h => i_fldO (by decide +kernel) rfl h⟩
instance pa_Machine_made {v0 d : Dv} : PutAt "made" d [("known", v0)] [("known", v0), ("made", d)] := ⟨rfl⟩
instance pu_Machine_made {v0 v1 v2 d : Dv} : PutAt "made" d [("known", v0), ("made", v1), ("begun", v2)] [("known", v0), ("made", d), ("begun", v2)] := ⟨rfl⟩
instance fo_Machine_begun {M : Mo} {Q : QD} {v0 v1 v2 : Dv} : Step (dFldV fldT "begun" (.obj "Machine" [("known", v0), ("made", v1), ("begun", v2)]) M Q) (Q v2 M) := ⟨fun h => i_fldO (by decide +kernel) rfl h⟩
instance pa_Machine_begun {v0 v1 d : Dv} : PutAt "begun" d [("known", v0), ("made", v1)] [("known", v0), ("made", v1), ("begun", d)] := ⟨rfl⟩
instance pu_Machine_begun {v0 v1 v2 d : Dv} : PutAt "begun" d [("known", v0), ("made", v1), ("begun", v2)] [("known", v0), ("made", v1), ("begun", d)] := ⟨rfl⟩
abbrev s_is_whole : Stmt := topS 9
theorem sc_is_whole : FnScope ["thing"] ["thing"] (defScope s_is_whole) := ⟨rfl, rfl, rfl, by decide +kernel, rfl, by decide +kernel, by decide +kernel⟩
abbrev s_is_text : Stmt := topS 10
theorem sc_is_text : FnScope ["thing", "sign"] ["thing"] (defScope s_is_text) := ⟨rfl, rfl, rfl, by decide +kernel, rfl, by decide +kernel, by decide +kernel⟩
abbrev s_want_letters : Stmt := topS 11
theorem sc_want_letters : FnScope ["letters"] ["letters"] (defScope s_want_letters) := ⟨rfl, rfl, rfl, by decide +kernel, rfl, by decide +kernel, by decide +kernel⟩
abbrev s_want_word : Stmt := topS 12
theorem sc_want_word : FnScope ["word", "letters", "known", "at", "sign"] ["word", "letters"] (defScope s_want_word) := ⟨rfl, rfl, rfl, by decide +kernel, rfl, by decide +kernel, by decide +kernel⟩
abbrev s_Machine_first : Stmt := clsS 28 7
theorem sc_Machine_first : FnScope ["self"] ["self"] (defScope s_Machine_first) := ⟨rfl, rfl, rfl, by decide +kernel, rfl, by decide +kernel, by decide +kernel⟩
abbrev s_begin_of : Stmt := topS 15
theorem sc_begin_of : FnScope ["machine", "row", "first"] ["machine", "row"] (defScope s_begin_of) := ⟨rfl, rfl, rfl, by decide +kernel, rfl, by decide +kernel, by decide +kernel⟩
abbrev s_meets_end : Stmt := topS 16
theorem sc_meets_end : FnScope ["machine", "row", "pair", "room", "at"] ["machine", "row", "pair"] (defScope s_meets_end) := ⟨rfl, rfl, rfl, by decide +kernel, rfl, by decide +kernel, by decide +kernel⟩
abbrev s_Machine_letters : Stmt := clsS 28 5
theorem sc_Machine_letters : FnScope ["self"] ["self"] (defScope s_Machine_letters) := ⟨rfl, rfl, rfl, by decide +kernel, rfl, by decide +kernel, by decide +kernel⟩
abbrev s_pairs_from : Stmt := topS 17
theorem sc_pairs_from : FnScope ["machine", "row", "pair", "room", "at", "found", "sign", "text", "there"] ["machine", "row", "pair"] (defScope s_pairs_from) := ⟨rfl, rfl, rfl, by decide +kernel, rfl, by decide +kernel, by decide +kernel⟩
abbrev s_pairs_of : Stmt := topS 18
theorem sc_pairs_of : FnScope ["machine", "row", "begin", "ways", "order", "known", "at", "sign", "there", "pair"] ["machine", "row"] (defScope s_pairs_of) := ⟨rfl, rfl, rfl, by decide +kernel, rfl, by decide +kernel, by decide +kernel⟩
abbrev s_backs_of : Stmt := topS 19
theorem sc_backs_of : FnScope ["ways", "backs", "pair", "sign", "there"] ["ways"] (defScope s_backs_of) := ⟨rfl, rfl, rfl, by decide +kernel, rfl, by decide +kernel, by decide +kernel⟩
abbrev s_able_of : Stmt := topS 20
theorem sc_able_of : FnScope ["backs", "met", "able", "order", "at", "sign", "pair"] ["backs", "met"] (defScope s_able_of) := ⟨rfl, rfl, rfl, by decide +kernel, rfl, by decide +kernel, by decide +kernel⟩
abbrev s_Back___init__ : Stmt := clsS 21 0
theorem sc_Back___init__ : FnScope ["self", "machine", "row", "pair"] ["self", "machine", "row"] (defScope s_Back___init__) := ⟨rfl, rfl, rfl, by decide +kernel, rfl, by decide +kernel, by decide +kernel⟩
abbrev s_Machine___len__ : Stmt := clsS 28 1
theorem sc_Machine___len__ : FnScope ["self"] ["self"] (defScope s_Machine___len__) := ⟨rfl, rfl, rfl, by decide +kernel, rfl, by decide +kernel, by decide +kernel⟩
abbrev s_is_pair_of : Stmt := topS 22
theorem sc_is_pair_of : FnScope ["machine", "row", "thing"] ["machine", "row", "thing"] (defScope s_is_pair_of) := ⟨rfl, rfl, rfl, by decide +kernel, rfl, by decide +kernel, by decide +kernel⟩
abbrev s_check_shut : Stmt := topS 23
theorem sc_check_shut : FnScope ["machine", "row", "paper", "known", "at", "thing", "begin", "sign", "there"] ["machine", "row", "paper"] (defScope s_check_shut) := ⟨rfl, rfl, rfl, by decide +kernel, rfl, by decide +kernel, by decide +kernel⟩
abbrev s_is_way : Stmt := topS 26
theorem sc_is_way : FnScope ["thing", "many"] ["thing", "many"] (defScope s_is_way) := ⟨rfl, rfl, rfl, by decide +kernel, rfl, by decide +kernel, by decide +kernel⟩
abbrev s_is_room : Stmt := topS 27
theorem sc_is_room : FnScope ["thing", "letters", "many", "way"] ["thing", "letters", "many"] (defScope s_is_room) := ⟨rfl, rfl, rfl, by decide +kernel, rfl, by decide +kernel, by decide +kernel⟩
abbrev s_Machine___init__ : Stmt := clsS 28 0
theorem sc_Machine___init__ : FnScope ["self", "letters", "rooms", "first", "end", "ways", "room"] ["self", "letters", "rooms", "first"] (defScope s_Machine___init__) := ⟨rfl, rfl, rfl, by decide +kernel, rfl, by decide +kernel, by decide +kernel⟩
abbrev s__law_well : Stmt := topS 31
theorem sc__law_well : FnScope ["_law_cell"] ["_law_cell"] (defScope s__law_well) := ⟨rfl, rfl, rfl, by decide +kernel, rfl, by decide +kernel, by decide +kernel⟩
abbrev s__law_draw : Stmt := topS 32
theorem sc__law_draw : FnScope ["_law_well_here", "_law_most", "_law_found_here", "_law_low"] ["_law_well_here", "_law_most"] (defScope s__law_draw) := ⟨rfl, rfl, rfl, by decide +kernel, rfl, by decide +kernel, by decide +kernel⟩
abbrev s__law_signs : Stmt := topS 33
theorem sc__law_signs : FnScope ["_law_well_here", "_law_many", "_law_some", "_law_k"] ["_law_well_here", "_law_many"] (defScope s__law_signs) := ⟨rfl, rfl, rfl, by decide +kernel, rfl, by decide +kernel, by decide +kernel⟩
abbrev s__law_text : Stmt := topS 34
theorem sc__law_text : FnScope ["_law_well_here", "_law_signs_here", "_law_most", "_law_k"] ["_law_well_here", "_law_signs_here", "_law_most"] (defScope s__law_text) := ⟨rfl, rfl, rfl, by decide +kernel, rfl, by decide +kernel, by decide +kernel⟩
abbrev s__law_made : Stmt := topS 35
theorem sc__law_made : FnScope ["_law_well_here", "_law_way", "_law_many", "_law_letters", "_law_told", "_law_most", "_law_rooms", "_law_k", "_law_end", "_law_sign"] ["_law_well_here"] (defScope s__law_made) := ⟨rfl, rfl, rfl, by decide +kernel, rfl, by decide +kernel, by decide +kernel⟩
abbrev s__law_machine : Stmt := topS 36
theorem sc__law_machine : FnScope ["_law_made_here", "_law_letters", "_law_rooms", "_law_first", "_law_end", "_law_ways"] ["_law_made_here"] (defScope s__law_machine) := ⟨rfl, rfl, rfl, by decide +kernel, rfl, by decide +kernel, by decide +kernel⟩
abbrev s__law_walk : Stmt := topS 37
theorem sc__law_walk : FnScope ["_law_made_here", "_law_word", "_law_letters", "_law_rooms", "_law_first", "_law_text_here", "_law_room", "_law_sign", "_law_put"] ["_law_made_here", "_law_word"] (defScope s__law_walk) := ⟨rfl, rfl, rfl, by decide +kernel, rfl, by decide +kernel, by decide +kernel⟩
abbrev s__law_row : Stmt := topS 38
theorem sc__law_row : FnScope ["_law_made_here", "_law_word", "_law_text_here", "_law_room"] ["_law_made_here", "_law_word"] (defScope s__law_row) := ⟨rfl, rfl, rfl, by decide +kernel, rfl, by decide +kernel, by decide +kernel⟩
abbrev s__law_asked : Stmt := topS 39
theorem sc__law_asked : FnScope ["_law_well_here", "_law_made_here", "_law_way", "_law_row_here", "_law_some", "_law_at", "_law_sign"] ["_law_well_here", "_law_made_here"] (defScope s__law_asked) := ⟨rfl, rfl, rfl, by decide +kernel, rfl, by decide +kernel, by decide +kernel⟩
abbrev s__law_steps : Stmt := topS 40
theorem sc__law_steps : FnScope ["_law_made_here", "_law_row_here", "_law_pair", "_law_room", "_law_at", "_law_found_here", "_law_sign", "_law_text_here", "_law_there"] ["_law_made_here", "_law_row_here", "_law_pair"] (defScope s__law_steps) := ⟨rfl, rfl, rfl, by decide +kernel, rfl, by decide +kernel, by decide +kernel⟩
abbrev s__law_pairs : Stmt := topS 41
theorem sc__law_pairs : FnScope ["_law_made_here", "_law_row_here", "_law_words", "_law_order", "_law_at", "_law_sign", "_law_there"] ["_law_made_here", "_law_row_here"] (defScope s__law_pairs) := ⟨rfl, rfl, rfl, by decide +kernel, rfl, by decide +kernel, by decide +kernel⟩
abbrev s__law_is_pair : Stmt := topS 42
theorem sc__law_is_pair : FnScope ["_law_made_here", "_law_row_here", "_law_thing", "_law_number"] ["_law_made_here", "_law_row_here", "_law_thing"] (defScope s__law_is_pair) := ⟨rfl, rfl, rfl, by decide +kernel, rfl, by decide +kernel, by decide +kernel⟩
abbrev s__law_due : Stmt := topS 43
theorem sc__law_due : FnScope ["_law_made_here", "_law_row_here", "_law_paper", "_law_known", "_law_at", "_law_thing", "_law_sign", "_law_there"] ["_law_made_here", "_law_row_here", "_law_paper"] (defScope s__law_due) := ⟨rfl, rfl, rfl, by decide +kernel, rfl, by decide +kernel, by decide +kernel⟩
abbrev s__law_odd : Stmt := topS 44
theorem sc__law_odd : FnScope ["_law_well_here", "_law_made_here", "_law_row_here", "_law_way", "_law_room", "_law_at", "_law_some"] ["_law_well_here", "_law_made_here", "_law_row_here"] (defScope s__law_odd) := ⟨rfl, rfl, rfl, by decide +kernel, rfl, by decide +kernel, by decide +kernel⟩
abbrev s__law_spoiled : Stmt := topS 45
theorem sc__law_spoiled : FnScope ["_law_well_here", "_law_made_here", "_law_row_here", "_law_paper", "_law_way", "_law_at", "_law_odd_here"] ["_law_well_here", "_law_made_here", "_law_row_here", "_law_paper"] (defScope s__law_spoiled) := ⟨rfl, rfl, rfl, by decide +kernel, rfl, by decide +kernel, by decide +kernel⟩
abbrev s__law_found : Stmt := topS 46
theorem sc__law_found : FnScope ["_law_machine_here", "_law_row_here", "_law_paper", "_law_found_here", "e"] ["_law_machine_here", "_law_row_here", "_law_paper"] (defScope s__law_found) := ⟨rfl, rfl, rfl, by decide +kernel, rfl, by decide +kernel, by decide +kernel⟩
abbrev s_law : Stmt := topS 47
theorem sc_law : FnScope ["_law_script", "_law_cell", "_law_well_here", "_law_made_here", "_law_row_here", "_law_machine_here", "_law_pairs_here", "_law_k", "_law_paper", "_law_copied", "_law_due_here", "_law_wanted", "_law_bad", "_law_at", "_law_told", "e"] ["_law_script"] (defScope s_law) := ⟨rfl, rfl, rfl, by decide +kernel, rfl, by decide +kernel, by decide +kernel⟩
structure Tn (mg : Str → Option Value) : Prop where
  n_all : mg "all" = none
  n_bool : mg "bool" = none
  n_dict : mg "dict" = none
  n_enumerate : mg "enumerate" = none
  n_int : mg "int" = none
  n_isinstance : mg "isinstance" = none
  n_len : mg "len" = none
  n_list : mg "list" = none
  n_max : mg "max" = none
  n_range : mg "range" = none
  n_set : mg "set" = none
  n_sorted : mg "sorted" = none
  n_str : mg "str" = none
  n_tuple : mg "tuple" = none
  n_zip : mg "zip" = none
  c_MOST_LETTERS : ∃ t, mg "MOST_LETTERS" = some (.int 16 t)
  c_MOST_ROOMS : ∃ t, mg "MOST_ROOMS" = some (.int 200 t)
  c_SIGNS : ∃ t, mg "SIGNS" = some (.str "ABCDEFGHIJKLMNOPQRSTUVWXYZabcdefghijklmnopqrstuvwxyz" t)
def exT : ExT := ⟨fun x c => if x = "NoWord" ∧ c = "NoWord" then some true else if x = "NoWord" ∧ c = "NoPaper" then some false else if x = "NoRule" ∧ c = "NoWord" then some false else if x = "NoRule" ∧ c = "NoPaper" then some false else if x = "NoPaper" ∧ c = "NoWord" then some false else if x = "NoPaper" ∧ c = "NoPaper" then some true else none, [("NoWord", "at"), ("NoRule", "what"), ("NoPaper", "at")]⟩
structure Exs (P : Program) (w : World) (K : PySem.W.Frag) (mg : Str → Option Value) (base : Heap) (cA : Str → Addr) : Prop where
  x_NoWord : ExcD P w K mg base "NoWord" "at" (cA "NoWord")
  x_NoRule : ExcD P w K mg base "NoRule" "what" (cA "NoRule")
  x_NoPaper : ExcD P w K mg base "NoPaper" "at" (cA "NoPaper")
  tb : ExOk K exT
theorem sub_NoWord_NoWord : exT.sub "NoWord" "NoWord" = some true := by decide +kernel
theorem sub_NoWord_NoPaper : exT.sub "NoWord" "NoPaper" = some false := by decide +kernel
theorem sub_NoPaper_NoPaper : exT.sub "NoPaper" "NoPaper" = some true := by decide +kernel
abbrev i_NoWord : Stmt := clsS 3 0
theorem sci_NoWord : FnScope ["self", "at"] ["self", "at"] (defScope i_NoWord) := ⟨rfl, rfl, rfl, by decide +kernel, rfl, by decide +kernel, by decide +kernel⟩
theorem oki_NoWord {P : Program} {w : World} {K : PySem.W.Frag} {mg : Str → Option Value} {base : Heap} {C CB fI : Addr} {mc : Value} {fd : FuncData} (F : Fun K "__init__" "NoWord.__init__" i_NoWord fI fd) (gB : mg "SeamError" = some (.ref CB)) (cr : ClX.CRead K CB mc) (vV : PySem.W.findCls K (.ref CB) mc "__init__" = some (.val (.builtin "ValueError.__init__"))) (T : OexC K C) (hno : PySem.W.findIn K (.ref C) "at" = some none) : FnOk P w K mg base (L2.CX P w) 1 fI fd ["self", "at"] (spInit C "at") :=
  ok_init F sci_NoWord rfl T hno fun cdv A outer s H E => ⟨_, pss_cons (ps_expr (pe_ownI (by rfl) gB cr vV (pa_cons (pe_var (i := 0) rfl (Or.inl rfl)) (pa_cons pe_str pa_nil)))) (pss_one (ps_ost (pe_var (i := 0) rfl (Or.inl rfl)) (pe_var (i := 1) rfl (Or.inl rfl)))), fun a v D ha h => ⟨_, rfl, a, C, _, rfl, (by show 1 ≤ 1000; decide), T, ha, _, rfl, _, rfl, a, C, rfl, T, hno, .inl ⟨ha, h⟩⟩⟩
abbrev i_NoRule : Stmt := clsS 4 0
theorem sci_NoRule : FnScope ["self", "what"] ["self", "what"] (defScope i_NoRule) := ⟨rfl, rfl, rfl, by decide +kernel, rfl, by decide +kernel, by decide +kernel⟩
theorem oki_NoRule {P : Program} {w : World} {K : PySem.W.Frag} {mg : Str → Option Value} {base : Heap} {C CB fI : Addr} {mc : Value} {fd : FuncData} (F : Fun K "__init__" "NoRule.__init__" i_NoRule fI fd) (gB : mg "SeamError" = some (.ref CB)) (cr : ClX.CRead K CB mc) (vV : PySem.W.findCls K (.ref CB) mc "__init__" = some (.val (.builtin "ValueError.__init__"))) (T : OexC K C) (hno : PySem.W.findIn K (.ref C) "what" = some none) : FnOk P w K mg base (L2.CX P w) 1 fI fd ["self", "what"] (spInit C "what") :=
  ok_init F sci_NoRule rfl T hno fun cdv A outer s H E => ⟨_, pss_cons (ps_expr (pe_ownI (by rfl) gB cr vV (pa_cons (pe_var (i := 0) rfl (Or.inl rfl)) (pa_cons pe_str pa_nil)))) (pss_one (ps_ost (pe_var (i := 0) rfl (Or.inl rfl)) (pe_var (i := 1) rfl (Or.inl rfl)))), fun a v D ha h => ⟨_, rfl, a, C, _, rfl, (by show 1 ≤ 1000; decide), T, ha, _, rfl, _, rfl, a, C, rfl, T, hno, .inl ⟨ha, h⟩⟩⟩
abbrev i_NoPaper : Stmt := clsS 5 0
def d1_ : He.DefD := ⟨("is_whole", none), "is_whole", "is_whole", defArgs s_is_whole, defBody s_is_whole, defScope s_is_whole, [], []⟩
def d2_ : He.DefD := ⟨("is_text", none), "is_text", "is_text", defArgs s_is_text, defBody s_is_text, defScope s_is_text, [], []⟩
def d3_ : He.DefD := ⟨("want_letters", none), "want_letters", "want_letters", defArgs s_want_letters, defBody s_want_letters, defScope s_want_letters, [], []⟩
def d4_ : He.DefD := ⟨("want_word", none), "want_word", "want_word", defArgs s_want_word, defBody s_want_word, defScope s_want_word, [He.Dv.non], []⟩
def d5_ : He.DefD := ⟨("Machine", some "first"), "first", "Machine.first", defArgs s_Machine_first, defBody s_Machine_first, defScope s_Machine_first, [], []⟩
def d6_ : He.DefD := ⟨("begin_of", none), "begin_of", "begin_of", defArgs s_begin_of, defBody s_begin_of, defScope s_begin_of, [], []⟩
def d7_ : He.DefD := ⟨("meets_end", none), "meets_end", "meets_end", defArgs s_meets_end, defBody s_meets_end, defScope s_meets_end, [], []⟩
def d8_ : He.DefD := ⟨("Machine", some "letters"), "letters", "Machine.letters", defArgs s_Machine_letters, defBody s_Machine_letters, defScope s_Machine_letters, [], []⟩
def d9_ : He.DefD := ⟨("pairs_from", none), "pairs_from", "pairs_from", defArgs s_pairs_from, defBody s_pairs_from, defScope s_pairs_from, [], []⟩
def d10_ : He.DefD := ⟨("pairs_of", none), "pairs_of", "pairs_of", defArgs s_pairs_of, defBody s_pairs_of, defScope s_pairs_of, [], []⟩
def d11_ : He.DefD := ⟨("backs_of", none), "backs_of", "backs_of", defArgs s_backs_of, defBody s_backs_of, defScope s_backs_of, [], []⟩
def d12_ : He.DefD := ⟨("able_of", none), "able_of", "able_of", defArgs s_able_of, defBody s_able_of, defScope s_able_of, [], []⟩
def d13_ : He.DefD := ⟨("Back", some "__init__"), "__init__", "Back.__init__", defArgs s_Back___init__, defBody s_Back___init__, defScope s_Back___init__, [], []⟩
def d14_ : He.DefD := ⟨("Machine", some "__len__"), "__len__", "Machine.__len__", defArgs s_Machine___len__, defBody s_Machine___len__, defScope s_Machine___len__, [], []⟩
def d15_ : He.DefD := ⟨("is_pair_of", none), "is_pair_of", "is_pair_of", defArgs s_is_pair_of, defBody s_is_pair_of, defScope s_is_pair_of, [], []⟩
def d16_ : He.DefD := ⟨("check_shut", none), "check_shut", "check_shut", defArgs s_check_shut, defBody s_check_shut, defScope s_check_shut, [], []⟩
def d17_ : He.DefD := ⟨("is_way", none), "is_way", "is_way", defArgs s_is_way, defBody s_is_way, defScope s_is_way, [], []⟩
def d18_ : He.DefD := ⟨("is_room", none), "is_room", "is_room", defArgs s_is_room, defBody s_is_room, defScope s_is_room, [], []⟩
def d19_ : He.DefD := ⟨("Machine", some "__init__"), "__init__", "Machine.__init__", defArgs s_Machine___init__, defBody s_Machine___init__, defScope s_Machine___init__, [He.Dv.str ""], []⟩
def d20_ : He.DefD := ⟨("_law_well", none), "_law_well", "_law_well", defArgs s__law_well, defBody s__law_well, defScope s__law_well, [], []⟩
def d21_ : He.DefD := ⟨("_law_draw", none), "_law_draw", "_law_draw", defArgs s__law_draw, defBody s__law_draw, defScope s__law_draw, [], []⟩
def d22_ : He.DefD := ⟨("_law_signs", none), "_law_signs", "_law_signs", defArgs s__law_signs, defBody s__law_signs, defScope s__law_signs, [], []⟩
def d23_ : He.DefD := ⟨("_law_text", none), "_law_text", "_law_text", defArgs s__law_text, defBody s__law_text, defScope s__law_text, [], []⟩
def d24_ : He.DefD := ⟨("_law_made", none), "_law_made", "_law_made", defArgs s__law_made, defBody s__law_made, defScope s__law_made, [], []⟩
def d25_ : He.DefD := ⟨("_law_machine", none), "_law_machine", "_law_machine", defArgs s__law_machine, defBody s__law_machine, defScope s__law_machine, [], []⟩
def d26_ : He.DefD := ⟨("_law_walk", none), "_law_walk", "_law_walk", defArgs s__law_walk, defBody s__law_walk, defScope s__law_walk, [], []⟩
def d27_ : He.DefD := ⟨("_law_row", none), "_law_row", "_law_row", defArgs s__law_row, defBody s__law_row, defScope s__law_row, [], []⟩
def d28_ : He.DefD := ⟨("_law_asked", none), "_law_asked", "_law_asked", defArgs s__law_asked, defBody s__law_asked, defScope s__law_asked, [], []⟩
def d29_ : He.DefD := ⟨("_law_steps", none), "_law_steps", "_law_steps", defArgs s__law_steps, defBody s__law_steps, defScope s__law_steps, [], []⟩
def d30_ : He.DefD := ⟨("_law_pairs", none), "_law_pairs", "_law_pairs", defArgs s__law_pairs, defBody s__law_pairs, defScope s__law_pairs, [], []⟩
def d31_ : He.DefD := ⟨("_law_is_pair", none), "_law_is_pair", "_law_is_pair", defArgs s__law_is_pair, defBody s__law_is_pair, defScope s__law_is_pair, [], []⟩
def d32_ : He.DefD := ⟨("_law_due", none), "_law_due", "_law_due", defArgs s__law_due, defBody s__law_due, defScope s__law_due, [], []⟩
def d33_ : He.DefD := ⟨("_law_odd", none), "_law_odd", "_law_odd", defArgs s__law_odd, defBody s__law_odd, defScope s__law_odd, [], []⟩
def d34_ : He.DefD := ⟨("_law_spoiled", none), "_law_spoiled", "_law_spoiled", defArgs s__law_spoiled, defBody s__law_spoiled, defScope s__law_spoiled, [], []⟩
def d35_ : He.DefD := ⟨("_law_found", none), "_law_found", "_law_found", defArgs s__law_found, defBody s__law_found, defScope s__law_found, [], []⟩
def d36_ : He.DefD := ⟨("law", none), "law", "law", defArgs s_law, defBody s_law, defScope s_law, [], []⟩
def di_NoWord : He.DefD := ⟨("NoWord", some "__init__"), "__init__", "NoWord.__init__", defArgs i_NoWord, defBody i_NoWord, defScope i_NoWord, [], []⟩
def di_NoRule : He.DefD := ⟨("NoRule", some "__init__"), "__init__", "NoRule.__init__", defArgs i_NoRule, defBody i_NoRule, defScope i_NoRule, [], []⟩
def di_NoPaper : He.DefD := ⟨("NoPaper", some "__init__"), "__init__", "NoPaper.__init__", defArgs i_NoPaper, defBody i_NoPaper, defScope i_NoPaper, [], []⟩
def fnL : List He.DefD := [d1_, d2_, d3_, d4_, d5_, d6_, d7_, d8_, d9_, d10_, d11_, d12_, d13_, d14_, d15_, d16_, d17_, d18_, d19_, d20_, d21_, d22_, d23_, d24_, d25_, d26_, d27_, d28_, d29_, d30_, d31_, d32_, d33_, d34_, d35_, d36_, di_NoWord, di_NoRule, di_NoPaper]
def ex0_ : List (PySem.W.Frag → Bool) := [fun K => decide (PySem.W.nsIn K mainGlobals "Back" = some (some (.ref (He.ga K "Back")))), fun K => decide (PySem.W.nsIn K mainGlobals "Machine" = some (some (.ref (He.ga K "Machine")))), fun K => decide (PySem.W.plainGet K (He.ga K "Back") Str.empty = true), fun K => decide (PySem.W.hasDictIn K (He.ga K "Back") = true), fun K => decide (PySem.W.plainOver K (He.ga K "Back") = true), fun K => decide (PySem.W.findIn K (.ref (He.ga K "Back")) "__setattr__" = some (some (.builtin "object.__setattr__"))), fun K => decide (PySem.W.findIn K (.ref (He.ga K "Back")) "ways" = some none), fun K => decide (PySem.W.findIn K (.ref (He.ga K "Back")) "begin" = some none), fun K => decide (PySem.W.findIn K (.ref (He.ga K "Back")) "met" = some none), fun K => decide (PySem.W.findIn K (.ref (He.ga K "Back")) "backs" = some none), fun K => decide (PySem.W.findIn K (.ref (He.ga K "Back")) "able" = some none), fun K => decide (PySem.W.makesIn K (He.ga K "Back") = true), fun K => decide (PySem.W.keepIn K (.ref (He.ga K "Back")) = true), fun K => decide (PySem.W.plainGet K (He.ga K "Machine") Str.empty = true), fun K => decide (PySem.W.hasDictIn K (He.ga K "Machine") = true), fun K => decide (PySem.W.plainOver K (He.ga K "Machine") = true), fun K => decide (PySem.W.findIn K (.ref (He.ga K "Machine")) "__setattr__" = some (some (.builtin "object.__setattr__"))), fun K => decide (PySem.W.findIn K (.ref (He.ga K "Machine")) "known" = some none), fun K => decide (PySem.W.findIn K (.ref (He.ga K "Machine")) "made" = some none), fun K => decide (PySem.W.findIn K (.ref (He.ga K "Machine")) "begun" = some none), fun K => decide (PySem.W.makesIn K (He.ga K "Machine") = true), fun K => decide (PySem.W.keepIn K (.ref (He.ga K "Machine")) = true), fun K => decide (PySem.W.nsIn K mainGlobals "is_whole" = some (some (.ref (He.fAd K ("is_whole", none))))), fun K => decide (PySem.W.nsIn K mainGlobals "is_text" = some (some (.ref (He.fAd K ("is_text", none))))), fun K => decide (PySem.W.nsIn K mainGlobals "want_letters" = some (some (.ref (He.fAd K ("want_letters", none))))), fun K => decide (PySem.W.nsIn K mainGlobals "want_word" = some (some (.ref (He.fAd K ("want_word", none))))), fun K => decide (PySem.W.findIn K (.ref (He.ga K "Machine")) "first" = some (some (.ref (He.fAd K ("Machine", some "first"))))), fun K => decide (PySem.W.isFn K (.ref (He.fAd K ("Machine", some "first"))) = true), fun K => decide (PySem.W.nsIn K mainGlobals "begin_of" = some (some (.ref (He.fAd K ("begin_of", none))))), fun K => decide (PySem.W.nsIn K mainGlobals "meets_end" = some (some (.ref (He.fAd K ("meets_end", none))))), fun K => decide (PySem.W.findIn K (.ref (He.ga K "Machine")) "letters" = some (some (.ref (He.fAd K ("Machine", some "letters"))))), fun K => decide (PySem.W.isFn K (.ref (He.fAd K ("Machine", some "letters"))) = true), fun K => decide (PySem.W.nsIn K mainGlobals "pairs_from" = some (some (.ref (He.fAd K ("pairs_from", none))))), fun K => decide (PySem.W.nsIn K mainGlobals "pairs_of" = some (some (.ref (He.fAd K ("pairs_of", none))))), fun K => decide (PySem.W.nsIn K mainGlobals "backs_of" = some (some (.ref (He.fAd K ("backs_of", none))))), fun K => decide (PySem.W.nsIn K mainGlobals "able_of" = some (some (.ref (He.fAd K ("able_of", none))))), fun K => decide (PySem.W.findIn K (.ref (He.ga K "Back")) "__init__" = some (some (.ref (He.fAd K ("Back", some "__init__"))))), fun K => decide (PySem.W.isFn K (.ref (He.fAd K ("Back", some "__init__"))) = true), fun K => decide (PySem.W.findIn K (.ref (He.ga K "Machine")) "__len__" = some (some (.ref (He.fAd K ("Machine", some "__len__"))))), fun K => decide (PySem.W.isFn K (.ref (He.fAd K ("Machine", some "__len__"))) = true)]
def ex1_ : List (PySem.W.Frag → Bool) := [fun K => decide (PySem.W.nsIn K mainGlobals "is_pair_of" = some (some (.ref (He.fAd K ("is_pair_of", none))))), fun K => decide (PySem.W.nsIn K mainGlobals "check_shut" = some (some (.ref (He.fAd K ("check_shut", none))))), fun K => decide (PySem.W.nsIn K mainGlobals "is_way" = some (some (.ref (He.fAd K ("is_way", none))))), fun K => decide (PySem.W.nsIn K mainGlobals "is_room" = some (some (.ref (He.fAd K ("is_room", none))))), fun K => decide (PySem.W.findIn K (.ref (He.ga K "Machine")) "__init__" = some (some (.ref (He.fAd K ("Machine", some "__init__"))))), fun K => decide (PySem.W.isFn K (.ref (He.fAd K ("Machine", some "__init__"))) = true), fun K => decide (PySem.W.nsIn K mainGlobals "_law_well" = some (some (.ref (He.fAd K ("_law_well", none))))), fun K => decide (PySem.W.nsIn K mainGlobals "_law_draw" = some (some (.ref (He.fAd K ("_law_draw", none))))), fun K => decide (PySem.W.nsIn K mainGlobals "_law_signs" = some (some (.ref (He.fAd K ("_law_signs", none))))), fun K => decide (PySem.W.nsIn K mainGlobals "_law_text" = some (some (.ref (He.fAd K ("_law_text", none))))), fun K => decide (PySem.W.nsIn K mainGlobals "_law_made" = some (some (.ref (He.fAd K ("_law_made", none))))), fun K => decide (PySem.W.nsIn K mainGlobals "_law_machine" = some (some (.ref (He.fAd K ("_law_machine", none))))), fun K => decide (PySem.W.nsIn K mainGlobals "_law_walk" = some (some (.ref (He.fAd K ("_law_walk", none))))), fun K => decide (PySem.W.nsIn K mainGlobals "_law_row" = some (some (.ref (He.fAd K ("_law_row", none))))), fun K => decide (PySem.W.nsIn K mainGlobals "_law_asked" = some (some (.ref (He.fAd K ("_law_asked", none))))), fun K => decide (PySem.W.nsIn K mainGlobals "_law_steps" = some (some (.ref (He.fAd K ("_law_steps", none))))), fun K => decide (PySem.W.nsIn K mainGlobals "_law_pairs" = some (some (.ref (He.fAd K ("_law_pairs", none))))), fun K => decide (PySem.W.nsIn K mainGlobals "_law_is_pair" = some (some (.ref (He.fAd K ("_law_is_pair", none))))), fun K => decide (PySem.W.nsIn K mainGlobals "_law_due" = some (some (.ref (He.fAd K ("_law_due", none))))), fun K => decide (PySem.W.nsIn K mainGlobals "_law_odd" = some (some (.ref (He.fAd K ("_law_odd", none))))), fun K => decide (PySem.W.nsIn K mainGlobals "_law_spoiled" = some (some (.ref (He.fAd K ("_law_spoiled", none))))), fun K => decide (PySem.W.nsIn K mainGlobals "_law_found" = some (some (.ref (He.fAd K ("_law_found", none))))), fun K => decide (PySem.W.nsIn K mainGlobals "law" = some (some (.ref (He.fAd K ("law", none))))), fun K => decide (PySem.W.nsIn K mainGlobals "all" = some none), fun K => decide (PySem.W.nsIn K mainGlobals "bool" = some none), fun K => decide (PySem.W.nsIn K mainGlobals "dict" = some none), fun K => decide (PySem.W.nsIn K mainGlobals "enumerate" = some none), fun K => decide (PySem.W.nsIn K mainGlobals "int" = some none), fun K => decide (PySem.W.nsIn K mainGlobals "isinstance" = some none), fun K => decide (PySem.W.nsIn K mainGlobals "len" = some none), fun K => decide (PySem.W.nsIn K mainGlobals "list" = some none), fun K => decide (PySem.W.nsIn K mainGlobals "max" = some none), fun K => decide (PySem.W.nsIn K mainGlobals "range" = some none), fun K => decide (PySem.W.nsIn K mainGlobals "set" = some none), fun K => decide (PySem.W.nsIn K mainGlobals "sorted" = some none), fun K => decide (PySem.W.nsIn K mainGlobals "str" = some none), fun K => decide (PySem.W.nsIn K mainGlobals "tuple" = some none), fun K => decide (PySem.W.nsIn K mainGlobals "zip" = some none), fun K => (He.Fa.int "MOST_LETTERS" (16)).ok K, fun K => (He.Fa.int "MOST_ROOMS" (200)).ok K]
def ex2_ : List (PySem.W.Frag → Bool) := [fun K => (He.Fa.str "SIGNS" "ABCDEFGHIJKLMNOPQRSTUVWXYZabcdefghijklmnopqrstuvwxyz").ok K, fun K => decide (PySem.W.nsIn K mainGlobals "NoWord" = some (some (.ref (He.ga K "NoWord")))), fun K => decide (PySem.W.nsIn K mainGlobals "NoRule" = some (some (.ref (He.ga K "NoRule")))), fun K => decide (PySem.W.nsIn K mainGlobals "NoPaper" = some (some (.ref (He.ga K "NoPaper")))), fun K => decide (PySem.W.nsIn K mainGlobals "SeamError" = some (some (.ref (He.ga K "SeamError")))), fun K => decide (PySem.W.readsIn K (He.ga K "SeamError") (.type "type") = true), fun K => decide (PySem.W.specialIn K (.ref (He.ga K "SeamError")) "__getattribute__" = some (some (.builtin "type.__getattribute__"))), fun K => fcB K (He.ga K "SeamError"), fun K => oexIn K (He.ga K "NoWord"), fun K => decide (PySem.W.findIn K (.ref (He.ga K "NoWord")) "__setattr__" = some (some (.builtin "object.__setattr__"))), fun K => decide (PySem.W.subIn K (.ref (He.ga K "NoWord")) (.type "BaseException") = some true), fun K => decide (PySem.W.typeIn K (.ref (He.ga K "NoWord")) = some (.type "type")), fun K => decide (PySem.W.keepIn K (.ref (He.ga K "NoWord")) = true), fun K => decide (PySem.W.typeIn K (.ref (He.ga K "NoWord")) = some (.type "type")), fun K => decide (PySem.W.subIn K (.ref (He.ga K "NoWord")) (.type "BaseException") = some true), fun K => decide (PySem.W.findIn K (.ref (He.ga K "NoWord")) "__init__" = some (some (.ref (He.fAd K ("NoWord", some "__init__"))))), fun K => decide (PySem.W.typeIn K (.ref (He.fAd K ("NoWord", some "__init__"))) = some (.type "function")), fun K => decide (PySem.W.findIn K (.ref (He.ga K "NoWord")) "at" = some none), fun K => decide (PySem.W.findIn K (.ref (He.ga K "NoWord")) "__getattribute__" = some (some (.builtin "BaseException.__getattribute__"))), fun K => decide (PySem.W.findIn K (.ref (He.ga K "NoWord")) "__getattr__" = some none), fun K => decide (PySem.W.hasDictIn K (He.ga K "NoWord") = true), fun K => oexIn K (He.ga K "NoRule"), fun K => decide (PySem.W.findIn K (.ref (He.ga K "NoRule")) "__setattr__" = some (some (.builtin "object.__setattr__"))), fun K => decide (PySem.W.subIn K (.ref (He.ga K "NoRule")) (.type "BaseException") = some true), fun K => decide (PySem.W.typeIn K (.ref (He.ga K "NoRule")) = some (.type "type")), fun K => decide (PySem.W.keepIn K (.ref (He.ga K "NoRule")) = true), fun K => decide (PySem.W.typeIn K (.ref (He.ga K "NoRule")) = some (.type "type")), fun K => decide (PySem.W.subIn K (.ref (He.ga K "NoRule")) (.type "BaseException") = some true), fun K => decide (PySem.W.findIn K (.ref (He.ga K "NoRule")) "__init__" = some (some (.ref (He.fAd K ("NoRule", some "__init__"))))), fun K => decide (PySem.W.typeIn K (.ref (He.fAd K ("NoRule", some "__init__"))) = some (.type "function")), fun K => decide (PySem.W.findIn K (.ref (He.ga K "NoRule")) "what" = some none), fun K => decide (PySem.W.findIn K (.ref (He.ga K "NoRule")) "__getattribute__" = some (some (.builtin "BaseException.__getattribute__"))), fun K => decide (PySem.W.findIn K (.ref (He.ga K "NoRule")) "__getattr__" = some none), fun K => decide (PySem.W.hasDictIn K (He.ga K "NoRule") = true), fun K => oexIn K (He.ga K "NoPaper"), fun K => decide (PySem.W.findIn K (.ref (He.ga K "NoPaper")) "__setattr__" = some (some (.builtin "object.__setattr__"))), fun K => decide (PySem.W.subIn K (.ref (He.ga K "NoPaper")) (.type "BaseException") = some true), fun K => decide (PySem.W.typeIn K (.ref (He.ga K "NoPaper")) = some (.type "type")), fun K => decide (PySem.W.keepIn K (.ref (He.ga K "NoPaper")) = true), fun K => decide (PySem.W.typeIn K (.ref (He.ga K "NoPaper")) = some (.type "type"))]
def ex3_ : List (PySem.W.Frag → Bool) := [fun K => decide (PySem.W.subIn K (.ref (He.ga K "NoPaper")) (.type "BaseException") = some true), fun K => decide (PySem.W.findIn K (.ref (He.ga K "NoPaper")) "__init__" = some (some (.ref (He.fAd K ("NoPaper", some "__init__"))))), fun K => decide (PySem.W.typeIn K (.ref (He.fAd K ("NoPaper", some "__init__"))) = some (.type "function")), fun K => decide (PySem.W.findIn K (.ref (He.ga K "NoPaper")) "at" = some none), fun K => decide (PySem.W.findIn K (.ref (He.ga K "NoPaper")) "__getattribute__" = some (some (.builtin "BaseException.__getattribute__"))), fun K => decide (PySem.W.findIn K (.ref (He.ga K "NoPaper")) "__getattr__" = some none), fun K => decide (PySem.W.hasDictIn K (He.ga K "NoPaper") = true), fun K => decide (PySem.W.subIn K (.ref (He.ga K "NoWord")) (.ref (He.ga K "NoWord")) = some true), fun K => decide (PySem.W.subIn K (.ref (He.ga K "NoWord")) (.ref (He.ga K "NoPaper")) = some false), fun K => decide (PySem.W.subIn K (.ref (He.ga K "NoRule")) (.ref (He.ga K "NoWord")) = some false), fun K => decide (PySem.W.subIn K (.ref (He.ga K "NoRule")) (.ref (He.ga K "NoPaper")) = some false), fun K => decide (PySem.W.subIn K (.ref (He.ga K "NoPaper")) (.ref (He.ga K "NoWord")) = some false), fun K => decide (PySem.W.subIn K (.ref (He.ga K "NoPaper")) (.ref (He.ga K "NoPaper")) = some true)]
def e0_ : PySem.W.Frag → Bool := fun _ => true
def g0_ (K : PySem.W.Frag) : Bool := allK ex0_ K && allK ex1_ K && allK ex2_ K && allK ex3_ K
def e1_ : PySem.W.Frag → Bool := fun K => e0_ K && g0_ K
abbrev Rw_ : PySem.W.OpenRow := PySem.W.OpenLaw.row PySem.Challenge.rw_markseam_k56_papers_that_shut_nothing
abbrev hk_ : PySem.W.Hook := hookY 4 fnL [] e1_
def ob_ (s : PySem.W.SharedT) : He.AlX := obsY 4 fnL [] e1_ (HandSHeadRun.getT s)
theorem ob_eq_ (s : PySem.W.SharedT) : ob_ s = hk_.obs s.abs := obsY_eq (HandSHeadRun.getT_eq s)
def nm0_ : List PySem.Str := ["_wall", "SeamError", "NoWord", "NoRule", "NoPaper", "SIGNS", "MOST_LETTERS", "is_whole", "is_text", "want_letters", "want_word", "MOST_WORDS", "begin_of", "meets_end", "pairs_from", "pairs_of", "backs_of", "able_of", "Back", "is_pair_of"]
def nm1_ : List PySem.Str := ["check_shut", "MOST_ROOMS", "is_way", "is_room", "Machine", "walked", "_law_well", "_law_draw", "_law_signs", "_law_text", "_law_made", "_law_machine", "_law_walk", "_law_row", "_law_asked", "_law_steps", "_law_pairs", "_law_is_pair", "_law_due", "_law_odd"]
def nm2_ : List PySem.Str := ["_law_spoiled", "_law_found"]
def nms_ : List PySem.Str := List.append nm0_ (List.append nm1_ (nm2_))
set_option maxHeartbeats 0 in
theorem runZ_ (w : World) : HandSHeadRun.RunEq Rw_ (PySem.W.view Rw_.prog [47]) (hookY 4 fnL [] e0_) (fun s => obsY 4 fnL [] e0_ (HandSHeadRun.getT s)) 6000 nms_ w := by
  intro os
  kernel_rfl
set_option maxHeartbeats 0 in
theorem runB0_ (w : World) : RunB Rw_ 4 6000 g0_ w := by
  intro os
  kernel_rfl
theorem run_ (w : World) : HandSHeadRun.RunEq Rw_ (PySem.W.view Rw_.prog [47]) hk_ ob_ 6000 nms_ w := run_and (runZ_ w) (runB0_ w)
theorem sci_NoPaper : FnScope ["self", "at"] ["self", "at"] (defScope i_NoPaper) := ⟨rfl, rfl, rfl, by decide +kernel, rfl, by decide +kernel, by decide +kernel⟩
theorem oki_NoPaper {P : Program} {w : World} {K : PySem.W.Frag} {mg : Str → Option Value} {base : Heap} {C CB fI : Addr} {mc : Value} {fd : FuncData} (F : Fun K "__init__" "NoPaper.__init__" i_NoPaper fI fd) (gB : mg "SeamError" = some (.ref CB)) (cr : ClX.CRead K CB mc) (vV : PySem.W.findCls K (.ref CB) mc "__init__" = some (.val (.builtin "ValueError.__init__"))) (T : OexC K C) (hno : PySem.W.findIn K (.ref C) "at" = some none) : FnOk P w K mg base (L2.CX P w) 1 fI fd ["self", "at"] (spInit C "at") :=
  ok_init F sci_NoPaper rfl T hno fun cdv A outer s H E => ⟨_, pss_cons (ps_expr (pe_ownI (by rfl) gB cr vV (pa_cons (pe_var (i := 0) rfl (Or.inl rfl)) (pa_cons pe_str pa_nil)))) (pss_one (ps_ost (pe_var (i := 0) rfl (Or.inl rfl)) (pe_var (i := 1) rfl (Or.inl rfl)))), fun a v D ha h => ⟨_, rfl, a, C, _, rfl, (by show 1 ≤ 1000; decide), T, ha, _, rfl, _, rfl, a, C, rfl, T, hno, .inl ⟨ha, h⟩⟩⟩
abbrev sp_law : SpD := spLaw 63
/-- the list of draws at a -/
def Src (M : Mo) (a : Addr) : Prop := ∃ x y z : Int, M a = some (.lst [.int x, .int y, .int z])
theorem src_mk {M : Mo} {a : Addr} {x y z : Int} (h : M a = some (.lst [.int x, .int y, .int z])) : Src M a := ⟨x, y, z, h⟩
local macro_rules | `(tactic| walk_at "src") => `(tactic| ((apply src_mk); (walk_at "lk")))
def sp__law_mixed : SpD := fun ds M Q E => match ds with
  | [.int c, .int k] => ∀ r : Int, 0 ≤ r → r < 2147483563 → Q (.int r) M
  | _ => False
def sp__law_source : SpD := fun ds M Q E => match ds with
  | [.int c] => ∀ p, M p = none → Q (.ref p) (mup M p (.lst [.int c, .int c, .int 0]))
  | _ => False
def sp__law_take : SpD := fun ds M Q E => match ds with
  | [.ref a, .int m] => Src M a ∧ 0 < m ∧ m < 1073741824 ∧ ∀ r x y z : Int, 0 ≤ r → r < m → Q (.int r) (mup M a (.lst [.int x, .int y, .int z]))
  | _ => False
theorem u_mixed {M : Mo} {c k : Int} {Q : QD} {E : EXD} (h : ∀ r : Int, 0 ≤ r → r < 2147483563 → Q (.int r) M) : sp__law_mixed [.int c, .int k] M Q E := h
theorem u_source {M : Mo} {c : Int} {Q : QD} {E : EXD} (h : ∀ p, M p = none → Q (.ref p) (mup M p (.lst [.int c, .int c, .int 0]))) : sp__law_source [.int c] M Q E := h
theorem u_take {M : Mo} {a : Addr} {m : Int} {Q : QD} {E : EXD} (h1 : Src M a) (h2 : 0 < m) (h3 : m < 1073741824) (h : ∀ r x y z : Int, 0 ≤ r → r < m → Q (.int r) (mup M a (.lst [.int x, .int y, .int z]))) : sp__law_take [.ref a, .int m] M Q E := ⟨h1, h2, h3, h⟩
/-- the signs -/
def SG : Str := "ABCDEFGHIJKLMNOPQRSTUVWXYZabcdefghijklmnopqrstuvwxyz"
theorem SG_len : SG.length = 52 := by decide +kernel
theorem SG_nd : SG.cps.toList.Nodup := by decide +kernel
/-- unlike signs -/
structure Lt (x : Str) (n : Nat) : Prop where
  nd : x.cps.toList.Nodup
  sub : ∀ c, c ∈ x.cps.toList → c ∈ SG.cps.toList
  len : x.length = n
def sp__law_unlike : SpD := fun ds M Q E => match ds with
  | [.ref a, .int m] => Src M a ∧ 0 ≤ m ∧ m ≤ 52 ∧ ∀ (t : Str) (x y z : Int), Lt t m.toNat → Q (.str t) (mup M a (.lst [.int x, .int y, .int z]))
  | _ => False
theorem u_unlike {M : Mo} {a : Addr} {m : Int} {Q : QD} {E : EXD} (h1 : Src M a) (h2 : 0 ≤ m) (h3 : m ≤ 52) (h : ∀ (t : Str) (x y z : Int), Lt t m.toNat → Q (.str t) (mup M a (.lst [.int x, .int y, .int z]))) : sp__law_unlike [.ref a, .int m] M Q E := ⟨h1, h2, h3, h⟩
theorem cps_app (x y : Str) : (x ++ y).cps.toList = x.cps.toList ++ y.cps.toList := by
  show (x.cps ++ y.cps).toList = _
  rw [Array.toList_append]
theorem pick_perm (F R : List Nat) (k : Nat) (hk : k < R.length) : (F ++ [R[k]] ++ (R.take k ++ R.drop (k + 1))).Perm (F ++ R) := by
  rw [List.append_assoc]
  refine List.Perm.append_left F ?_
  have e : R = R.take k ++ R[k] :: R.drop (k + 1) := by
    rw [← List.drop_eq_getElem_cons hk, List.take_append_drop]
  calc ([R[k]] ++ (R.take k ++ R.drop (k + 1))).Perm (R.take k ++ ([R[k]] ++ R.drop (k + 1))) := by
        rw [← List.append_assoc, ← List.append_assoc]
        exact List.Perm.append_right _ List.perm_append_comm
    _ = R := e.symm
theorem fo_fzK {ds : List Dv} {g : TGD} {tb : TSD} {a : StD → Mo → Prop} {r : QD} {sd : StD} {M : Mo} (W : Nat → StD → Prop) (h0 : W 0 sd)
    (hs : ∀ i d sd, ds[i]? = some d → W i sd → g d sd M fun sd2 M2 => tb ⟨fun sd M' => W (i + 1) sd ∧ M' = M, r, a, fun sd M' => W (i + 1) sd ∧ M' = M⟩ sd2 M2) (hd : ∀ sd, W ds.length sd → a sd M) :
    kFor ⟨ds, fun _ => True⟩ g tb a r sd M :=
  fo_fz (fun i sd M' => W i sd ∧ M' = M) ⟨h0, rfl⟩ (fun i d sd M' he hw => by obtain ⟨hw, rfl⟩ := hw; exact hs i d sd he hw) (fun sd M' hw => by obtain ⟨hw, rfl⟩ := hw; exact hd sd hw)
def InS (x : Str) : Prop := ∀ c, c ∈ x.cps.toList → c ∈ SG.cps.toList
/-- what may stand at a place -/
def txt : Dv → Bool
  | .str x => x.cps.toList.all fun c => decide (c ∈ SG.cps.toList)
  | _ => false
theorem txt_in {x : Str} (h : txt (.str x) = true) : InS x := fun c hc => of_decide_eq_true (List.all_eq_true.mp h c hc)
theorem txt_of {x : Str} (h : InS x) : txt (.str x) = true := List.all_eq_true.mpr fun c hc => decide_eq_true (h c hc)
theorem GoodS.sg {x : Str} (h : InS x) : GoodS x := fun c hc => by
  have : ∀ d, d ∈ SG.cps.toList → d < 1114112 := by decide +kernel
  exact this c (h c hc)
/-- things that may be looked at -/
def TgT : Dv → Prop
  | .non => True | .bl _ => True | .int _ => True | .str x => x.length ≤ 1000000 | .lst _ => True | .tup _ => True
  | _ => False
def sp_is_text : SpD := fun ds M Q E => match ds with
  | [d] => TgT d ∧ Q (.bl (txt d)) M
  | _ => False
theorem u_istext {M : Mo} {d : Dv} {Q : QD} {E : EXD} (h1 : TgT d) (h : Q (.bl (txt d)) M) : sp_is_text [d] M Q E := ⟨h1, h⟩
def whl : Dv → Bool
  | .int _ => true
  | _ => false
def sp_is_whole : SpD := fun ds M Q E => match ds with
  | [d] => TgT d ∧ Q (.bl (whl d)) M
  | _ => False
theorem u_whole {M : Mo} {d : Dv} {Q : QD} {E : EXD} (h1 : TgT d) (h : Q (.bl (whl d)) M) : sp_is_whole [d] M Q E := ⟨h1, h⟩
/-- letters -/
def LtrD : Dv → Prop
  | .str x => InS x ∧ 1 ≤ x.length ∧ x.length ≤ 16 ∧ x.cps.toList.Nodup
  | _ => False
def sp_want_letters : SpD := fun ds M Q E => match ds with
  | [d] => TgT d ∧ (LtrD d → Q .non M) ∧ (¬ LtrD d → E "NoRule" "what" (.str "letters") M)
  | _ => False
theorem u_wl {M : Mo} {d : Dv} {Q : QD} {E : EXD} (h1 : TgT d) (h2 : LtrD d → Q .non M) (h3 : ¬ LtrD d → E "NoRule" "what" (.str "letters") M) : sp_want_letters [d] M Q E := ⟨h1, h2, h3⟩
/-- the first place that is wrong -/
def badW (l w : List Nat) : Option Nat := w.findIdx? (fun c => !decide (c ∈ l))
def knw : Dv → Str
  | .str x => x
  | _ => SG
def LtrN (d : Dv) : Prop := d = .non ∨ LtrD d
def sp_want_word : SpD := fun ds M Q E => match ds with
  | [w, l] => TgT l ∧ TgT w ∧ (¬ LtrN l → E "NoRule" "what" (.str "letters") M) ∧ (LtrN l → match w with
    | .str x => (badW (knw l).cps.toList x.cps.toList = none → Q .non M) ∧ ∀ k : Nat, badW (knw l).cps.toList x.cps.toList = some k → E "NoWord" "at" (.int k) M
    | _ => E "NoWord" "at" (.int (-1)) M)
  | _ => False
theorem u_wwS {M : Mo} {x : Str} {Q : QD} {E : EXD} (hx : x.length ≤ 1000000) (hi : InS x) (h : Q .non M) : sp_want_word [.str x, .non] M Q E :=
  ⟨trivial, hx, fun n => absurd (.inl rfl) n, fun _ => ⟨fun _ => h, fun k e => by
    obtain ⟨a, b⟩ := List.findIdx?_eq_some_iff_getElem.mp e
    have h2 := hi _ (List.getElem_mem a)
    simp only [knw, Bool.not_eq_true', decide_eq_false_iff_not] at b
    exact absurd h2 (by simpa using b.1)⟩⟩
theorem join0_cps (zs : List Str) : (Txt.join (Str.ofString "") zs).cps.toList = (zs.map (·.cps.toList)).flatten := by
  rw [TL.join_eq]
  induction zs with
  | nil => rfl
  | cons x zs ih =>
    cases zs with
    | nil =>
      show x.cps.toList = x.cps.toList ++ []
      rw [List.append_nil]
    | cons y r =>
      show (x ++ Str.ofString "" ++ Str.join (Str.ofString "") (y :: r)).cps.toList = _
      rw [cps_app, cps_app, ih]
      show x.cps.toList ++ [] ++ _ = _
      rw [List.append_nil]
      rfl
theorem map_get {α : Type} {f : α → Dv} {as : List α} {i : Nat} {d : Dv} (h : (as.map f)[i]? = some d) : ∃ a, as[i]? = some a ∧ d = f a := by
  rw [List.getElem?_map] at h
  cases e : as[i]? with
  | none => rw [e] at h; cases h
  | some x => rw [e] at h; cases h; exact ⟨x, rfl, rfl⟩
abbrev sgn (c : Nat) : Str := ⟨#[c]⟩
theorem str_xt {x y : Str} (h : x.cps.toList = y.cps.toList) : x = y := by
  cases x; cases y; exact congrArg Str.mk (Array.ext' h)
theorem join_sgn (cs : List Nat) : (Txt.join (Str.ofString "") (cs.map sgn)).cps.toList = cs := by
  rw [join0_cps, List.map_map]
  induction cs with
  | nil => rfl
  | cons c cs ih => rw [List.map_cons, List.flatten_cons, ih]; rfl
theorem sum_sgn (cs : List Nat) : ((cs.map sgn).map (·.length)).sum = cs.length := by
  induction cs with
  | nil => rfl
  | cons c cs ih =>
    rw [List.map_cons, List.map_cons, List.sum_cons, ih, List.length_cons]
    show 1 + _ = _
    omega
theorem InS.app {x y : Str} (h1 : InS x) (h2 : InS y) : InS (x ++ y) := fun c hc => by
  rw [cps_app] at hc
  exact (List.mem_append.mp hc).elim (h1 c) (h2 c)
theorem InS.take {x : Str} (h : InS x) (k : Nat) : InS (cutS x none (some (k : Int))) := fun c hc => by
  rw [cutS_take] at hc
  exact h c (List.mem_of_mem_take hc)
theorem InS.drop {x : Str} (h : InS x) (k : Nat) : InS (cutS x (some (k : Int)) none) := fun c hc => by
  rw [cutS_drop] at hc
  exact h c (List.mem_of_mem_drop hc)
theorem InS.sgn {c : Nat} (h : c ∈ SG.cps.toList) : InS (sgn c) := fun d hd => by
  have : d = c := by simpa using hd
  rw [this]
  exact h
theorem InS.nil : InS "" := fun c hc => by cases hc
theorem take_len (x : Str) (k : Nat) : (cutS x none (some (k : Int))).length = min k x.length := by
  rw [str_len, cutS_take, str_len]
  simp
theorem drop_len (x : Str) (k : Nat) : (cutS x (some (k : Int)) none).length = x.length - k := by
  rw [str_len, cutS_drop, str_len]
  simp
theorem Lt.le {x : Str} {n : Nat} (L : Lt x n) : n ≤ 52 := by
  have := List.Nodup.length_le_of_subset L.nd L.sub
  have h2 : SG.cps.toList.length = 52 := by decide +kernel
  have h3 := L.len
  rw [str_len] at h3
  omega
theorem sgn_list {P : Nat → Prop} : ∀ {zs : List Str}, (∀ z ∈ zs, ∃ c, z = sgn c ∧ P c) → ∃ cs : List Nat, zs = cs.map sgn ∧ ∀ c ∈ cs, P c
  | [], _ => ⟨[], rfl, fun c hc => by cases hc⟩
  | z :: zs, h => by
    obtain ⟨c, rfl, hc⟩ := h z List.mem_cons_self
    obtain ⟨cs, e, hcs⟩ := sgn_list (zs := zs) fun x hx => h x (List.mem_cons_of_mem _ hx)
    refine ⟨c :: cs, by rw [e]; rfl, fun d hd => ?_⟩
    rcases List.mem_cons.mp hd with rfl | hd
    · exact hc
    · exact hcs d hd
/-! good machines; what is handed in may be owned -/
abbrev Way := Str × Nat
abbrev Room := Str × List Way
abbrev wyD (w : Way) : Dv := .tup [.str w.1, .int (w.2 : Nat)]
abbrev rmD (r : Room) : Dv := .tup [.str r.1, .lst (r.2.map wyD)]
abbrev rmsD (rs : List Room) : List Dv := rs.map rmD
structure RmOk (k m B : Nat) (r : Room) : Prop where
  ie : InS r.1
  le : r.1.length ≤ B
  wl : r.2.length = k
  ww : ∀ w, w ∈ r.2 → InS w.1 ∧ w.1.length ≤ B ∧ w.2 < m
/-- letters, rooms, what is told first; texts no longer than B -/
structure McOk (l : Str) (rs : List Room) (f : Str) (B : Nat) : Prop where
  lt : LtrD (.str l)
  r1 : 1 ≤ rs.length
  r2 : rs.length ≤ 200
  rm : ∀ r, r ∈ rs → RmOk l.length rs.length B r
  fi : InS f
  fl : f.length ≤ B
  bb : B ≤ 100000
abbrev MchD (l r f : Dv) : List (Str × Dv) := [("known", l), ("made", r), ("begun", f)]
abbrev McO (l : Str) (rs : List Room) (f : Str) : Dv := .obj "Machine" (MchD (.str l) (.lst (rmsD rs)) (.str f))
theorem wy_eq {M : Mo} {d : Dv} {w : Way} (h : Vw M d (wyD w)) : d = wyD w := by
  obtain ⟨ds, rfl, hv2⟩ := vw_tup h
  obtain ⟨x, y, rfl, h1, h2⟩ := vwl_two hv2
  rw [vw_str h1, vw_int h2]
theorem wys_eq {M : Mo} {ds : List Dv} {ws : List Way} (h : VwL M ds (ws.map wyD)) : ds = ws.map wyD := vwl_eq h fun d e he hv => by
  obtain ⟨w, _, rfl⟩ := List.mem_map.mp he
  exact wy_eq hv
def sp_is_way : SpD := fun ds M Q E => match ds with
  | [d, .int m] => ∃ w : Way, d = wyD w ∧ InS w.1 ∧ w.1.length ≤ 1000000 ∧ ((w.2 : Nat) : Int) < m ∧ Q (.bl true) M
  | _ => False
def sp_is_room : SpD := fun ds M Q E => match ds with
  | [d, .str l, .int m] => ∃ (r : Room) (k : Nat), Vw M d (rmD r) ∧ m = (k : Int) ∧ RmOk l.length k 1000000 r ∧ l.length ≤ 1000 ∧ Q (.bl true) M
  | _ => False
def sp_Machine___init__ : SpD := fun ds M Q E => match ds with
  | [.ref a, .str l, r, .str f] => M a = some (.ins "Machine" []) ∧ ∃ rs B, Vw M r (.lst (rmsD rs)) ∧ McOk l rs f B ∧ Q .non (mup M a (.ins "Machine" (MchD (.str l) (.lst (rmsD rs)) (.str f))))
  | _ => False
theorem u_MachineG {M : Mo} {l f : Str} {r : Dv} {rs : List Room} {B : Nat} {Q : QD} {E : EXD} (h1 : Vw M r (.lst (rmsD rs))) (h2 : McOk l rs f B) (h : Q (McO l rs f) M) :
    dMkV "Machine" sp_Machine___init__ [] E (fun d M1 => kFz d M1 Q) [.str l, r, .str f] M := by
  intro p hp0
  refine ⟨mup_same, rs, B, h1.new hp0, h2, rfl, ?_⟩
  rw [mup_mup]
  exact i_fzNew hp0 rfl h
theorem RmOk.up {k m B C : Nat} {r : Room} (h : RmOk k m B r) (hc : B ≤ C) : RmOk k m C r := ⟨h.ie, by have := h.le; omega, h.wl, fun w hw => ⟨(h.ww w hw).1, by have := (h.ww w hw).2.1; omega, (h.ww w hw).2.2⟩⟩
def sp_Machine___len__ : SpD := fun ds M Q E => match ds with
  | [.obj c fs] => c = "Machine" ∧ ∃ l rs f, fs = MchD l (.lst rs) f ∧ Q (.int (rs.length : Nat)) M
  | _ => False
def sp_Machine_all_of_it : SpD := fun ds M Q E => match ds with
  | [.obj c fs] => c = "Machine" ∧ ∃ l r f, fs = MchD l r f ∧ Q (.tup [l, r, f]) M
  | _ => False
def sp_Machine_letters : SpD := fun ds M Q E => match ds with
  | [.obj c fs] => c = "Machine" ∧ ∃ l r f, fs = MchD l r f ∧ Q l M
  | _ => False
def sp_Machine_first : SpD := fun ds M Q E => match ds with
  | [.obj c fs] => c = "Machine" ∧ ∃ l r f, fs = MchD l r f ∧ Q f M
  | _ => False
theorem u_mLen {M : Mo} {l f : Dv} {rs : List Dv} {Q : QD} {E : EXD} (h : Q (.int (rs.length : Nat)) M) : sp_Machine___len__ [.obj "Machine" (MchD l (.lst rs) f)] M Q E := ⟨rfl, _, _, _, rfl, h⟩
theorem u_mAll {M : Mo} {l r f : Dv} {Q : QD} {E : EXD} (h : Q (.tup [l, r, f]) M) : sp_Machine_all_of_it [.obj "Machine" (MchD l r f)] M Q E := ⟨rfl, _, _, _, rfl, h⟩
theorem u_mLet {M : Mo} {l r f : Dv} {Q : QD} {E : EXD} (h : Q l M) : sp_Machine_letters [.obj "Machine" (MchD l r f)] M Q E := ⟨rfl, _, _, _, rfl, h⟩
theorem u_mFst {M : Mo} {l r f : Dv} {Q : QD} {E : EXD} (h : Q f M) : sp_Machine_first [.obj "Machine" (MchD l r f)] M Q E := ⟨rfl, _, _, _, rfl, h⟩
def showM (l : Str) (n : Nat) : Str := Str.ofString (toString ((n : Nat) : Int)) ++ (" rooms over " : Str) ++ l
def sp_Machine___str__ : SpD := fun ds M Q E => match ds with
  | [.obj c fs] => c = "Machine" ∧ ∃ l rs f, fs = MchD (.str l) (.lst rs) f ∧ rs.length ≤ 1000 ∧ l.length ≤ 1000 ∧ Q (.str (showM l rs.length)) M
  | _ => False
theorem u_mStr {M : Mo} {l : Str} {f : Dv} {rs : List Dv} {Q : QD} {E : EXD} (h1 : rs.length ≤ 1000) (h2 : l.length ≤ 1000) (h : Q (.str (showM l rs.length)) M) : sp_Machine___str__ [.obj "Machine" (MchD (.str l) (.lst rs) f)] M Q E := ⟨rfl, _, _, _, rfl, h1, h2, h⟩
def sp_Machine___eq__ : SpD := fun ds M Q E => match ds with
  | [.obj c fs, e] => c = "Machine" ∧ ∃ l r f, fs = MchD l r f ∧ Pln 50 (.tup [l, r, f]) ∧ ((∃ l' r' f', e = .obj "Machine" (MchD l' r' f') ∧ Pln 50 (.tup [l', r', f']) ∧ Q (.bl (dq (.tup [l, r, f]) (.tup [l', r', f']))) M) ∨ ((e = .non ∨ (∃ x, e = .str x) ∨ ∃ xs, e = .lst xs) ∧ Q (.bl false) M))
  | _ => False
theorem u_mEq {M : Mo} {l r f l' r' f' : Dv} {Q : QD} {E : EXD} (h1 : Pln 50 (.tup [l, r, f])) (h2 : Pln 50 (.tup [l', r', f'])) (h : Q (.bl (dq (.tup [l, r, f]) (.tup [l', r', f']))) M) : sp_Machine___eq__ [.obj "Machine" (MchD l r f), .obj "Machine" (MchD l' r' f')] M Q E := ⟨rfl, _, _, _, rfl, h1, .inl ⟨_, _, _, rfl, h2, h⟩⟩
theorem u_mEqN {M : Mo} {l r f : Dv} {Q : QD} {E : EXD} (h1 : Pln 50 (.tup [l, r, f])) (h : Q (.bl false) M) : sp_Machine___eq__ [.obj "Machine" (MchD l r f), .non] M Q E := ⟨rfl, _, _, _, rfl, h1, .inr ⟨.inl rfl, h⟩⟩
theorem u_mEqL {M : Mo} {l r f : Dv} {xs : List Dv} {Q : QD} {E : EXD} (h1 : Pln 50 (.tup [l, r, f])) (h : Q (.bl false) M) : sp_Machine___eq__ [.obj "Machine" (MchD l r f), .lst xs] M Q E := ⟨rfl, _, _, _, rfl, h1, .inr ⟨.inr (.inr ⟨_, rfl⟩), h⟩⟩
theorem pln_rooms {n : Nat} {rs : List Room} (h : ∀ r, r ∈ rs → GoodS r.1 ∧ ∀ w, w ∈ r.2 → GoodS w.1) : ∀ d, d ∈ rmsD rs → Pln (n + 3) d := fun d hd => by
  obtain ⟨r, hr, rfl⟩ := List.mem_map.mp hd
  obtain ⟨g1, g2⟩ := h r hr
  refine pln_cons (n := n + 2) g1 (pln_cons (n := n + 2) (fun e he => ?_) pln_nil)
  obtain ⟨w, hw, rfl⟩ := List.mem_map.mp he
  exact pln_cons (n := n) (by cases n <;> exact g2 w hw) (pln_cons (by cases n <;> trivial) pln_nil)
theorem McOk.good {l f : Str} {rs : List Room} {B : Nat} (h : McOk l rs f B) : ∀ r, r ∈ rs → GoodS r.1 ∧ ∀ w, w ∈ r.2 → GoodS w.1 := fun r hr => ⟨GoodS.sg (h.rm r hr).ie, fun w hw => GoodS.sg ((h.rm r hr).ww w hw).1⟩
/-- a way -/
def wayA (l : Str) (rs : List Room) (k : Nat) (c : Nat) : Way := ((rs.getD k (("" : Str), [])).2).getD (l.cps.toList.idxOf c) (("" : Str), 0)
/-- what is told of a word from a room on, and the room then -/
def wk (l : Str) (rs : List Room) : Nat → List Nat → Str × Nat
  | k, [] => (("" : Str), k)
  | k, c :: cs => let w := wayA l rs k c; let r := wk l rs w.2 cs; (w.1 ++ r.1, r.2)
theorem str_nilR (x : Str) : x ++ ("" : Str) = x := by
  cases x with
  | mk a => show (⟨a ++ #[]⟩ : Str) = ⟨a⟩; rw [Array.append_empty]
theorem str_nilL (x : Str) : ("" : Str) ++ x = x := by
  cases x with
  | mk a => show (⟨#[] ++ a⟩ : Str) = ⟨a⟩; rw [Array.empty_append]
theorem str_assoc (x y z : Str) : x ++ y ++ z = x ++ (y ++ z) := by
  cases x; cases y; cases z
  show (⟨_ ++ _ ++ _⟩ : Str) = ⟨_ ++ (_ ++ _)⟩
  rw [Array.append_assoc]
theorem wk_snoc {l : Str} {rs : List Room} : ∀ (cs : List Nat) (k c : Nat), wk l rs k (cs ++ [c]) = ((wk l rs k cs).1 ++ (wayA l rs (wk l rs k cs).2 c).1, (wayA l rs (wk l rs k cs).2 c).2)
  | [], k, c => by
    show ((wayA l rs k c).1 ++ ("" : Str), (wayA l rs k c).2) = (("" : Str) ++ (wayA l rs k c).1, (wayA l rs k c).2)
    rw [str_nilR, str_nilL]
  | d :: cs, k, c => by
    have := wk_snoc (l := l) (rs := rs) cs (wayA l rs k d).2 c
    show ((wayA l rs k d).1 ++ (wk l rs (wayA l rs k d).2 (cs ++ [c])).1, (wk l rs (wayA l rs k d).2 (cs ++ [c])).2) = _
    rw [this]
    show ((wayA l rs k d).1 ++ ((wk l rs (wayA l rs k d).2 cs).1 ++ _), _) = (((wayA l rs k d).1 ++ (wk l rs (wayA l rs k d).2 cs).1) ++ _, _)
    rw [str_assoc]
    rfl
/-- a way is there -/
theorem McOk.way {l f : Str} {rs : List Room} {B : Nat} (h : McOk l rs f B) {k c : Nat} (hk : k < rs.length) (hc : c ∈ l.cps.toList) :
    ∃ r, rs[k]? = some r ∧ r.2[l.cps.toList.idxOf c]? = some (wayA l rs k c) ∧ InS (wayA l rs k c).1 ∧ (wayA l rs k c).1.length ≤ B ∧ (wayA l rs k c).2 < rs.length := by
  have hr : rs[k]? = some rs[k] := List.getElem?_eq_getElem hk
  have ok := h.rm _ (List.getElem_mem hk)
  have hi : l.cps.toList.idxOf c < rs[k].2.length := by rw [ok.wl, str_len]; exact List.idxOf_lt_length_of_mem hc
  have hw : rs[k].2[l.cps.toList.idxOf c]? = some rs[k].2[l.cps.toList.idxOf c] := List.getElem?_eq_getElem hi
  have e : wayA l rs k c = rs[k].2[l.cps.toList.idxOf c] := by
    unfold wayA
    rw [List.getD_eq_getElem?_getD, List.getD_eq_getElem?_getD, hr]
    show (rs[k].2[l.cps.toList.idxOf c]?).getD _ = _
    rw [hw]
    rfl
  rw [e]
  exact ⟨_, hr, hw, ok.ww _ (List.getElem_mem hi)⟩
theorem McOk.wk {l f : Str} {rs : List Room} {B : Nat} (h : McOk l rs f B) : ∀ (cs : List Nat) {k : Nat}, k < rs.length → (∀ c, c ∈ cs → c ∈ l.cps.toList) → InS (wk l rs k cs).1 ∧ (wk l rs k cs).1.length ≤ B * cs.length ∧ (wk l rs k cs).2 < rs.length
  | [], k, hk, _ => ⟨InS.nil, Nat.zero_le _, hk⟩
  | c :: cs, k, hk, hc => by
    obtain ⟨r, _, _, a, b, d⟩ := h.way hk (hc c List.mem_cons_self)
    obtain ⟨a2, b2, d2⟩ := h.wk cs d fun e he => hc e (List.mem_cons_of_mem _ he)
    refine ⟨InS.app a a2, ?_, d2⟩
    show ((wayA l rs k c).1 ++ _).length ≤ _
    rw [PySem.Str.length_append, List.length_cons, Nat.mul_add, Nat.mul_one]
    omega
/-- what is told -/
def toldM (l : Str) (rs : List Room) (f w : Str) : Str × Nat := (f ++ (wk l rs 0 w.cps.toList).1, (wk l rs 0 w.cps.toList).2)
def endM (rs : List Room) (k : Nat) : Str := (rs.getD k (("" : Str), [])).1
def rowM (l : Str) (rs : List Room) (f w : Str) : Str := (toldM l rs f w).1 ++ endM rs (toldM l rs f w).2
theorem endM_eq {rs : List Room} {k : Nat} {r : Room} (h : rs[k]? = some r) : endM rs k = r.1 := by
  unfold endM
  rw [List.getD_eq_getElem?_getD, h]
  rfl
/-! the common start -/
def csL : List Nat → List Nat → List Nat
  | a :: x, b :: y => if a = b then a :: csL x y else []
  | _, _ => []
def cs (a b : Str) : Str := ⟨(csL a.cps.toList b.cps.toList).toArray⟩
/-! texts of drawn signs -/
abbrev strN (cs : List Nat) : Str := ⟨cs.toArray⟩
def sgD (cs : List Nat) : List Dv := cs.map fun c => Dv.str (sgn c)
def TxA (s : Str) (n : Nat) (acc : List Dv) : Prop := ∃ cs : List Nat, acc = sgD cs ∧ cs.length = n ∧ ∀ c, c ∈ cs → c ∈ s.cps.toList
theorem TxA.nil {s : Str} : TxA s 0 [] := ⟨[], rfl, rfl, fun c h => by cases h⟩
theorem TxA.snoc {s : Str} {n : Nat} {acc : List Dv} {c : Nat} (h : TxA s n acc) (hc : c ∈ s.cps.toList) : TxA s (n + 1) (acc ++ [.str (sgn c)]) := by
  obtain ⟨cs, rfl, rfl, h⟩ := h
  refine ⟨cs ++ [c], by unfold sgD; rw [List.map_append]; rfl, by rw [List.length_append]; rfl, fun d hd => ?_⟩
  rcases List.mem_append.mp hd with q | q
  · exact h d q
  · rw [List.mem_singleton.mp q]; exact hc
theorem i_ixSd {s : Str} {r : Int} {M : Mo} {Q : QD} (h0 : 0 ≤ r) (h1 : r < (s.length : Nat)) (hl : s.length ≤ 16777216) (q : ∀ c, c ∈ s.cps.toList → Q (.str (sgn c)) M) : dIx (.str s) (.int r) M Q := by
  have hr2 : r.toNat < s.cps.toList.length := by rw [← str_len]; omega
  exact i_ixS (e_atI h0 (List.getElem?_eq_getElem hr2)) hl (q _ (List.getElem_mem hr2))
theorem i_joinSg {M : Mo} {Q : QD} {cs : List Nat} (hl : cs.length ≤ 16777216) (q : Q (.str (strN cs)) M) : dJoin (.str "") [.lst (sgD cs)] M Q := by
  refine i_join (zs := cs.map sgn) rfl (by unfold sgD; rw [← strsOf_map, List.map_map]; rfl) (by rw [sum_sgn]; show cs.length + _ * 0 ≤ _; omega) ?_
  rw [show Txt.join (Str.ofString "") (cs.map sgn) = strN cs from str_xt (join_sgn cs)]
  exact q
local macro_rules | `(tactic| walk_at "txs") => `(tactic| (intro i acc x y z hi ha; walk_at "dd"; refine i_ixSd (by omega) (by omega) (by omega) (fun c hc => ?_); walk_at "dd"; exact ⟨TxA.snoc ha hc, Drw.mk⟩))
/-! a search by words in order, over what they lead to -/
/-- the figures of a word's number -/
def wdN (K : Nat) : Nat → List Nat
  | 0 => []
  | n + 1 => wdN K (n / K) ++ [n % K]
decreasing_by exact Nat.lt_succ_of_le (Nat.div_le_self n K)
theorem wdN_succ (K n : Nat) : wdN K (n + 1) = wdN K (n / K) ++ [n % K] := by rw [wdN]
theorem wdN_child {K q i : Nat} (h : i < K) : wdN K (q * K + i + 1) = wdN K q ++ [i] := by
  rw [wdN_succ, Nat.add_comm (q * K) i, Nat.add_mul_div_right _ _ (by omega), Nat.div_eq_of_lt h, Nat.zero_add, Nat.add_mul_mod_self_right, Nat.mod_eq_of_lt h]
section
variable {α : Type} (t0 : α) (st : α → Nat → α) (K : Nat)
/-- what the word of a number leads to -/
def ldT (n : Nat) : α := (wdN K n).foldl st t0
theorem ldT_child {q i : Nat} (h : i < K) : ldT t0 st K (q * K + i + 1) = st (ldT t0 st K q) i := by
  unfold ldT
  rw [wdN_child h, List.foldl_append]
  rfl
end
theorem num_parts {K n : Nat} (hK : 0 < K) : ∃ p i, i < K ∧ n + 1 = p * K + i + 1 := ⟨n / K, n % K, Nat.mod_lt _ hK, by rw [Nat.mul_comm, Nat.div_add_mod]⟩
/-- what is found so far: the first numbers that lead to each thing, up to B -/
structure Bfs {α : Type} (T : Nat → α) (ns : List Nat) (B : Nat) : Prop where
  so : ns.Pairwise (· < ·)
  fr : ∀ r ∈ ns, ∀ m, m < r → T m ≠ T r
  cov : ∀ n, n ≤ B → ∃ r ∈ ns, r ≤ n ∧ T r = T n
  le : ∀ r ∈ ns, r ≤ B
theorem Bfs.start {α : Type} (T : Nat → α) : Bfs T [0] 0 :=
  ⟨List.pairwise_singleton .., fun r hr m hm => by rw [List.mem_singleton.mp hr] at hm; omega, fun n hn => ⟨0, by simp, Nat.zero_le _, by rw [show n = 0 by omega]⟩, fun r hr => by rw [List.mem_singleton.mp hr]; exact Nat.le_refl _⟩
theorem Bfs.old {α : Type} {T : Nat → α} {ns : List Nat} {B : Nat} (h : Bfs T ns B) {r : Nat} (hr : r ∈ ns) (e : T r = T (B + 1)) : Bfs T ns (B + 1) :=
  ⟨h.so, h.fr, fun n hn => by
    by_cases q : n ≤ B
    · exact h.cov n q
    · obtain rfl : n = B + 1 := by omega
      exact ⟨r, hr, by have := h.le r hr; omega, e⟩, fun r hr => by have := h.le r hr; omega⟩
theorem Bfs.fresh {α : Type} {T : Nat → α} {ns : List Nat} {B : Nat} (h : Bfs T ns B) (hn : ∀ r ∈ ns, T r ≠ T (B + 1)) : Bfs T (ns ++ [B + 1]) (B + 1) := by
  refine ⟨?_, fun r hr m hm => ?_, fun n hn2 => ?_, fun r hr => ?_⟩
  · rw [List.pairwise_append]
    refine ⟨h.so, List.pairwise_singleton .., fun a ha b hb => ?_⟩
    rw [List.mem_singleton.mp hb]
    have := h.le a ha
    omega
  · rcases List.mem_append.mp hr with q | q
    · exact h.fr r q m hm
    · rw [List.mem_singleton.mp q] at hm ⊢
      obtain ⟨s, hs, _, e⟩ := h.cov m (by omega)
      intro z
      exact hn s hs (e.trans z)
  · by_cases q : n ≤ B
    · obtain ⟨s, hs, a, b⟩ := h.cov n q
      exact ⟨s, List.mem_append_left _ hs, a, b⟩
    · obtain rfl : n = B + 1 := by omega
      exact ⟨B + 1, by simp, Nat.le_refl _, rfl⟩
  · rcases List.mem_append.mp hr with q | q
    · have := h.le r q; omega
    · rw [List.mem_singleton.mp q]; exact Nat.le_refl _
section
variable {α : Type} {t0 : α} {st : α → Nat → α} {K : Nat} {ns : List Nat}
theorem Bfs.jump (hK : 0 < K) {a r r' : Nat} (h : Bfs (ldT t0 st K) ns (r' * K + K)) (h1 : ns[a]? = some r') (h2 : ns[a + 1]? = some r) : Bfs (ldT t0 st K) ns (r * K) := by
  have ha := List.getElem?_eq_some_iff.mp h1
  have hb := List.getElem?_eq_some_iff.mp h2
  have hrr : r' < r := by
    have := List.pairwise_iff_getElem.mp h.so a (a + 1) ha.1 hb.1 (by omega)
    rw [ha.2, hb.2] at this
    exact this
  have hB : r' * K + K ≤ r * K := by
    have : (r' + 1) * K ≤ r * K := Nat.mul_le_mul_right K hrr
    rw [Nat.add_mul, Nat.one_mul] at this
    exact this
  have hrB := h.le r (List.mem_of_getElem? h2)
  refine ⟨h.so, h.fr, fun n hn => ?_, fun s hs => by have := h.le s hs; omega⟩
  by_cases q : n ≤ r' * K + K
  · exact h.cov n q
  · obtain ⟨n, rfl⟩ : ∃ m, n = m + 1 := ⟨n - 1, by omega⟩
    obtain ⟨p, i, hi, e⟩ := num_parts (n := n) hK
    have hp : p < r := by
      refine Classical.byContradiction fun z => ?_
      have : r * K ≤ p * K := Nat.mul_le_mul_right K (by omega)
      omega
    obtain ⟨s, hs, hsp, es⟩ := h.cov p (by omega)
    have hsr : s ≤ r' := by
      obtain ⟨j, hj, ej⟩ := List.getElem_of_mem hs
      refine Classical.byContradiction fun z => ?_
      by_cases q2 : j ≤ a
      · by_cases q3 : j = a
        · subst q3
          rw [ha.2] at ej
          omega
        · have := List.pairwise_iff_getElem.mp h.so j a hj ha.1 (by omega)
          rw [ha.2, ej] at this
          omega
      · by_cases q3 : j = a + 1
        · subst q3
          rw [hb.2] at ej
          omega
        · have := List.pairwise_iff_getElem.mp h.so (a + 1) j hb.1 hj (by omega)
          rw [hb.2, ej] at this
          omega
    have hsK : s * K ≤ r' * K := Nat.mul_le_mul_right K hsr
    have hspK : s * K ≤ p * K := Nat.mul_le_mul_right K hsp
    obtain ⟨v, hv, hvle, ev⟩ := h.cov (s * K + i + 1) (by omega)
    refine ⟨v, hv, by omega, ?_⟩
    rw [ev, e, ldT_child _ _ _ hi, ldT_child _ _ _ hi, es]
/-- nothing new comes any more -/
theorem Bfs.all (hK : 0 < K) {r' : Nat} (h : Bfs (ldT t0 st K) ns (r' * K + K)) (hl : ns[ns.length - 1]? = some r') : ∀ n, ∃ r ∈ ns, ldT t0 st K r = ldT t0 st K n := fun n => by
  induction n using Nat.strongRecOn with
  | ind n ih =>
    cases n with
    | zero =>
      obtain ⟨r, hr, _, e⟩ := h.cov 0 (Nat.zero_le _)
      exact ⟨r, hr, e⟩
    | succ n =>
      obtain ⟨p, i, hi, e⟩ := num_parts (n := n) hK
      have hpn : p < n + 1 := by
        have : p * 1 ≤ p * K := Nat.mul_le_mul_left p hK
        omega
      obtain ⟨s, hs, es⟩ := ih p hpn
      have hsr : s ≤ r' := by
        obtain ⟨j, hj, ej⟩ := List.getElem_of_mem hs
        have hb := List.getElem?_eq_some_iff.mp hl
        by_cases q3 : j = ns.length - 1
        · subst q3
          rw [hb.2] at ej
          omega
        · have := List.pairwise_iff_getElem.mp h.so j (ns.length - 1) hj hb.1 (by omega)
          rw [hb.2, ej] at this
          omega
      have hsK : s * K ≤ r' * K := Nat.mul_le_mul_right K hsr
      obtain ⟨v, hv, _, ev⟩ := h.cov (s * K + i + 1) (by omega)
      refine ⟨v, hv, ?_⟩
      rw [ev, e, ldT_child _ _ _ hi, ldT_child _ _ _ hi, es]
theorem Bfs.inj {T : Nat → α} {B : Nat} (h : Bfs T ns B) {a b r s : Nat} (ha : ns[a]? = some r) (hb : ns[b]? = some s) (e : T r = T s) : a = b := by
  have h1 := List.mem_of_getElem? ha
  have h2 := List.mem_of_getElem? hb
  have : r = s := by
    rcases Nat.lt_trichotomy r s with q | q | q
    · exact absurd e (h.fr s h2 r q)
    · exact q
    · exact absurd e.symm (h.fr r h1 s q)
  subst this
  have nd : ns.Nodup := List.nodup_iff_pairwise_ne.mpr (h.so.imp fun h => by omega)
  exact (List.getElem?_inj (List.getElem?_eq_some_iff.mp ha).1 nd).mp (ha.trans hb.symm)
end
/-! two texts without their common start -/
abbrev Thg := Nat × Nat × Str × Str
def rsts (a b : Str) : Str × Str := (cutS a (some (((cs a b).length : Nat) : Int)) none, cutS b (some (((cs a b).length : Nat) : Int)) none)
theorem csL_drop : ∀ a b : List Nat, csL (a.drop (csL a b).length) (b.drop (csL a b).length) = []
  | [], b => by unfold csL; cases b <;> rfl
  | x :: a, [] => by unfold csL; rfl
  | x :: a, y :: b => by
    by_cases h : x = y
    · have e : csL (x :: a) (y :: b) = x :: csL a b := by rw [csL, if_pos h]
      rw [e, List.length_cons, List.drop_succ_cons, List.drop_succ_cons]
      exact csL_drop a b
    · have e : csL (x :: a) (y :: b) = [] := by rw [csL, if_neg h]
      rw [e]
      show csL (x :: a) (y :: b) = []
      exact e
theorem cs_cps (a b : Str) : (cs a b).cps.toList = csL a.cps.toList b.cps.toList := by unfold cs; simp
theorem rsts_cs (a b : Str) : csL (rsts a b).1.cps.toList (rsts a b).2.cps.toList = [] := by
  unfold rsts
  dsimp only
  rw [cutS_drop, cutS_drop, str_len, cs_cps]
  exact csL_drop _ _
theorem rsts_len (a b : Str) : (rsts a b).1.length ≤ a.length ∧ (rsts a b).2.length ≤ b.length := by
  unfold rsts
  dsimp only
  rw [drop_len, drop_len]
  omega
/-! steps of two machines -/
def wayI (rs : List Room) (k i : Nat) : Way := ((rs.getD k (("" : Str), [])).2).getD i (("" : Str), 0)
def stpT (r1 r2 : List Room) (t : Thg) (i : Nat) : Thg :=
  ((wayI r1 t.1 i).2, (wayI r2 t.2.1 i).2, (rsts (t.2.2.1 ++ (wayI r1 t.1 i).1) (t.2.2.2 ++ (wayI r2 t.2.1 i).1)).1, (rsts (t.2.2.1 ++ (wayI r1 t.1 i).1) (t.2.2.2 ++ (wayI r2 t.2.1 i).1)).2)
def alikT (r1 r2 : List Room) (t : Thg) : Prop := t.2.2.1 ++ endM r1 t.1 = t.2.2.2 ++ endM r2 t.2.1
/-- a thing of two machines -/
structure ThOk (r1 r2 : List Room) (C : Nat) (t : Thg) : Prop where
  j : t.1 < r1.length
  k : t.2.1 < r2.length
  a : t.2.2.1.length ≤ C
  b : t.2.2.2.length ≤ C
  s : csL t.2.2.1.cps.toList t.2.2.2.cps.toList = []
instance {r1 r2 : List Room} {t : Thg} : Decidable (alikT r1 r2 t) := inferInstanceAs (Decidable (_ = _))
theorem wayI_ok {l f : Str} {rs : List Room} {B : Nat} (h : McOk l rs f B) {k i : Nat} (hk : k < rs.length) (hi : i < l.length) : ∃ r, rs[k]? = some r ∧ r.2[i]? = some (wayI rs k i) ∧ InS (wayI rs k i).1 ∧ (wayI rs k i).1.length ≤ B ∧ (wayI rs k i).2 < rs.length := by
  have hr : rs[k]? = some rs[k] := List.getElem?_eq_getElem hk
  have ok := h.rm _ (List.getElem_mem hk)
  have hi2 : i < rs[k].2.length := by rw [ok.wl]; exact hi
  have hw : rs[k].2[i]? = some rs[k].2[i] := List.getElem?_eq_getElem hi2
  have e : wayI rs k i = rs[k].2[i] := by
    unfold wayI
    rw [List.getD_eq_getElem?_getD, List.getD_eq_getElem?_getD, hr]
    show (rs[k].2[i]?).getD _ = _
    rw [hw]
    rfl
  rw [e]
  exact ⟨_, hr, hw, ok.ww _ (List.getElem_mem hi2)⟩
theorem ThOk.step {l f g : Str} {r1 r2 : List Room} {B C D : Nat} {t : Thg} (h1 : McOk l r1 f B) (h2 : McOk l r2 g B) (h : ThOk r1 r2 C t) (hD : C + B ≤ D) {i : Nat} (hi : i < l.length) : ThOk r1 r2 D (stpT r1 r2 t i) := by
  obtain ⟨_, _, _, _, a1, a2⟩ := wayI_ok h1 h.j hi
  obtain ⟨_, _, _, _, b1, b2⟩ := wayI_ok h2 h.k hi
  have ha := h.a
  have hb := h.b
  have e1 := rsts_len (t.2.2.1 ++ (wayI r1 t.1 i).1) (t.2.2.2 ++ (wayI r2 t.2.1 i).1)
  rw [PySem.Str.length_append, PySem.Str.length_append] at e1
  exact ⟨a2, b2, by show (rsts _ _).1.length ≤ D; omega, by show (rsts _ _).2.length ≤ D; omega, rsts_cs ..⟩
abbrev tOf (r1 r2 : List Room) (K : Nat) (t : Thg) (n : Nat) : Thg := ldT t (stpT r1 r2) K n
structure Srch (r1 r2 : List Room) (K D : Nat) (T : Nat → Thg) (ns : List Nat) (a : Nat) : Prop where
  bfs : (a = 0 ∧ ns = [0] ∧ Bfs T ns 0) ∨ ∃ r', 0 < a ∧ ns[a - 1]? = some r' ∧ Bfs T ns (r' * K + K)
  al : ∀ i s, i < a → ns[i]? = some s → alikT r1 r2 (T s)
  ale : a ≤ ns.length
  len : ns.length ≤ a * K + 1
  wl : ∀ i s, ns[i]? = some s → (wdN K s).length ≤ i
  ok : ∀ s ∈ ns, ThOk r1 r2 D (T s)
theorem Srch.at {r1 r2 : List Room} {t : Thg} {K D : Nat} {ns : List Nat} {a r : Nat} (hK : 0 < K) (h : Srch r1 r2 K D (tOf r1 r2 K t) ns a) (hr : ns[a]? = some r) : Bfs (tOf r1 r2 K t) ns (r * K) := by
  rcases h.bfs with ⟨rfl, rfl, b⟩ | ⟨r', ha, h1, b⟩
  · cases hr
    rw [Nat.zero_mul]
    exact b
  · obtain ⟨c, rfl⟩ : ∃ c, a = c + 1 := ⟨a - 1, by omega⟩
    exact b.jump hK h1 hr
theorem ThOk.mono {r1 r2 : List Room} {C D : Nat} {t : Thg} (h : ThOk r1 r2 C t) (hc : C ≤ D) : ThOk r1 r2 D t := ⟨h.j, h.k, Nat.le_trans h.a hc, Nat.le_trans h.b hc, h.s⟩
/-! what the search means for words -/
theorem McOk.idx {l f : Str} {rs : List Room} {B : Nat} (h : McOk l rs f B) {i : Nat} (hi : i < l.length) : l.cps.toList.getD i 0 ∈ l.cps.toList ∧ l.cps.toList.idxOf (l.cps.toList.getD i 0) = i := by
  rw [str_len] at hi
  rw [List.getD_eq_getElem?_getD, List.getElem?_eq_getElem hi, Option.getD_some]
  exact ⟨List.getElem_mem hi, List.Nodup.idxOf_getElem h.lt.2.2.2 i hi⟩
theorem wayA_I {l f : Str} {rs : List Room} {B : Nat} (h : McOk l rs f B) {k i : Nat} (hi : i < l.length) : wayA l rs k (l.cps.toList.getD i 0) = wayI rs k i := by
  unfold wayA wayI
  rw [(h.idx hi).2]
/-! draws from a well: signs, texts -/
def sp__law_well : SpD := fun ds M Q E => match ds with
  | [.int c] => ∀ p v, M p = none → Q (.ref p) (mup M p (.lst [.int v, .int c, .int 0]))
  | _ => False
def sp__law_draw : SpD := fun ds M Q E => match ds with
  | [.ref a, .int m] => Src M a ∧ 0 < m ∧ m < 1073741824 ∧ ∀ r x y z : Int, 0 ≤ r → r < m → Q (.int r) (mup M a (.lst [.int x, .int y, .int z]))
  | _ => False
theorem u_well {M : Mo} {c : Int} {Q : QD} {E : EXD} (h : ∀ p v, M p = none → Q (.ref p) (mup M p (.lst [.int v, .int c, .int 0]))) : sp__law_well [.int c] M Q E := h
theorem u_draw {M : Mo} {a : Addr} {m : Int} {Q : QD} {E : EXD} (h1 : Src M a) (h2 : 0 < m) (h3 : m < 1073741824) (h : ∀ r x y z : Int, 0 ≤ r → r < m → Q (.int r) (mup M a (.lst [.int x, .int y, .int z]))) : sp__law_draw [.ref a, .int m] M Q E := ⟨h1, h2, h3, h⟩
def sp__law_signs : SpD := fun ds M Q E => match ds with
  | [.ref a, .int m] => Src M a ∧ 0 ≤ m ∧ m ≤ 52 ∧ ∀ (t : Str) (x y z : Int), Lt t m.toNat → Q (.str t) (mup M a (.lst [.int x, .int y, .int z]))
  | _ => False
theorem u_signs {M : Mo} {a : Addr} {m : Int} {Q : QD} {E : EXD} (h1 : Src M a) (h2 : 0 ≤ m) (h3 : m ≤ 52) (h : ∀ (t : Str) (x y z : Int), Lt t m.toNat → Q (.str t) (mup M a (.lst [.int x, .int y, .int z]))) : sp__law_signs [.ref a, .int m] M Q E := ⟨h1, h2, h3, h⟩
structure Ov (t s : Str) (m : Nat) : Prop where
  sub : ∀ c, c ∈ t.cps.toList → c ∈ s.cps.toList
  len : t.length ≤ m
def sp__law_text : SpD := fun ds M Q E => match ds with
  | [.ref a, .str s, .int m] => Src M a ∧ 1 ≤ s.length ∧ s.length ≤ 100000 ∧ 0 ≤ m ∧ m ≤ 100000 ∧ ∀ (t : Str) (x y z : Int), Ov t s m.toNat → Q (.str t) (mup M a (.lst [.int x, .int y, .int z]))
  | _ => False
theorem u_wtext {M : Mo} {a : Addr} {s : Str} {m : Int} {Q : QD} {E : EXD} (h1 : Src M a) (h2 : 1 ≤ s.length) (h3 : s.length ≤ 100000) (h4 : 0 ≤ m) (h5 : m ≤ 100000) (h : ∀ (t : Str) (x y z : Int), Ov t s m.toNat → Q (.str t) (mup M a (.lst [.int x, .int y, .int z]))) : sp__law_text [.ref a, .str s, .int m] M Q E := ⟨h1, h2, h3, h4, h5, h⟩
theorem erase_perm (F R : List Nat) (k : Nat) (hk : k < R.length) : (F ++ [R[k]] ++ R.eraseIdx k).Perm (F ++ R) := by
  rw [List.eraseIdx_eq_take_drop_succ]
  exact pick_perm F R k hk
theorem onesD_erase (R : List Nat) (k : Nat) : (onesD R).eraseIdx k = onesD (R.eraseIdx k) := by
  unfold onesD
  rw [List.eraseIdx_eq_take_drop_succ, List.eraseIdx_eq_take_drop_succ, List.map_append, List.map_take, List.map_drop]
/-! the law's own walks of a machine that is told -/
abbrev mdD (l : Str) (rs : List Room) (f : Str) : Dv := .tup [.str l, .lst (rmsD rs), .str f]
def sp__law_machine : SpD := fun ds M Q E => match ds with
  | [d] => ∃ l rs f B, d = mdD l rs f ∧ McOk l rs f B ∧ Q (McO l rs f) M
  | _ => False
theorem u_lmach {M : Mo} {l f : Str} {rs : List Room} {B : Nat} {Q : QD} {E : EXD} (h1 : McOk l rs f B) (h : Q (McO l rs f) M) : sp__law_machine [mdD l rs f] M Q E := ⟨l, rs, f, B, rfl, h1, h⟩
def sp__law_walk : SpD := fun ds M Q E => match ds with
  | [d, .str w] => ∃ l rs f B, d = mdD l rs f ∧ McOk l rs f B ∧ (∀ c, c ∈ w.cps.toList → c ∈ l.cps.toList) ∧ w.length ≤ 1000000 ∧ B * w.length + 2 * B ≤ 16000000 ∧ Q (.tup [.str (toldM l rs f w).1, .int ((toldM l rs f w).2 : Nat)]) M
  | _ => False
theorem u_lwalk {M : Mo} {l f w : Str} {rs : List Room} {B : Nat} {Q : QD} {E : EXD} (h1 : McOk l rs f B) (h3 : ∀ c, c ∈ w.cps.toList → c ∈ l.cps.toList) (h4 : w.length ≤ 1000000) (h5 : B * w.length + 2 * B ≤ 16000000) (h : Q (.tup [.str (toldM l rs f w).1, .int ((toldM l rs f w).2 : Nat)]) M) : sp__law_walk [mdD l rs f, .str w] M Q E := ⟨l, rs, f, B, rfl, h1, h3, h4, h5, h⟩
def sp__law_row : SpD := fun ds M Q E => match ds with
  | [d, .str w] => ∃ l rs f B, d = mdD l rs f ∧ McOk l rs f B ∧ (∀ c, c ∈ w.cps.toList → c ∈ l.cps.toList) ∧ w.length ≤ 1000000 ∧ B * w.length + 2 * B ≤ 16000000 ∧ Q (.str (rowM l rs f w)) M
  | _ => False
theorem u_lrow {M : Mo} {l f w : Str} {rs : List Room} {B : Nat} {Q : QD} {E : EXD} (h1 : McOk l rs f B) (h3 : ∀ c, c ∈ w.cps.toList → c ∈ l.cps.toList) (h4 : w.length ≤ 1000000) (h5 : B * w.length + 2 * B ≤ 16000000) (h : Q (.str (rowM l rs f w)) M) : sp__law_row [mdD l rs f, .str w] M Q E := ⟨l, rs, f, B, rfl, h1, h3, h4, h5, h⟩
theorem told_len {l f w : Str} {rs : List Room} {B : Nat} (h1 : McOk l rs f B) (h3 : ∀ c, c ∈ w.cps.toList → c ∈ l.cps.toList) : (toldM l rs f w).1.length ≤ B + B * w.length ∧ (toldM l rs f w).2 < rs.length := by
  obtain ⟨_, g2, g3⟩ := h1.wk w.cps.toList (k := 0) h1.r1 h3
  rw [← str_len] at g2
  have := h1.fl
  refine ⟨?_, g3⟩
  show (f ++ _).length ≤ _
  rw [PySem.Str.length_append]
  omega
/-- a machine's letters, rooms, first text, as drawn -/
structure Drn72 (l : Str) (rs : List Room) (f : Str) : Prop where
  lt : ∃ n, Lt l n ∧ 1 ≤ n ∧ n ≤ 16
  r1 : 1 ≤ rs.length
  r2 : rs.length ≤ 12
  rm : ∀ r, r ∈ rs → RmOk l.length rs.length 2 r
  fi : InS f
  fl : f.length ≤ 2
theorem Drn72.set {l f : Str} {rs : List Room} (h : Drn72 l rs f) {k : Nat} {r : Room} (hr : RmOk l.length rs.length 2 r) : Drn72 l (rs.set k r) f :=
  ⟨h.lt, by rw [List.length_set]; exact h.r1, by rw [List.length_set]; exact h.r2, fun q hq => by
    rw [List.length_set]
    rcases List.mem_or_eq_of_mem_set hq with z | rfl
    · exact h.rm q z
    · exact hr, h.fi, h.fl⟩
theorem Ov.ins {t s : Str} {m n : Nat} (h : Ov t s m) (hs : Lt s n) : InS t := fun c hc => hs.sub c (h.sub c hc)
theorem ix4m {r q : Int} (h0 : 0 ≤ r) (h1 : r < 5) (g0 : 0 ≤ q) (g1 : q < 2) (a b c : Bool) : ∃ m : Int, 1 ≤ m ∧ m ≤ 5 ∧ L2.atI [Dv.int (1 + r), .int 2, .int 3, .int (1 + q)] ((if a = true then 1 else 0) + (if b = true then 1 else 0) + if c = true then 1 else 0) = some (.int m) := by
  cases a <;> cases b <;> cases c
  · exact ⟨1 + r, by omega, by omega, rfl⟩
  · exact ⟨2, by omega, by omega, rfl⟩
  · exact ⟨2, by omega, by omega, rfl⟩
  · exact ⟨3, by omega, by omega, rfl⟩
  · exact ⟨2, by omega, by omega, rfl⟩
  · exact ⟨3, by omega, by omega, rfl⟩
  · exact ⟨3, by omega, by omega, rfl⟩
  · exact ⟨1 + q, by omega, by omega, rfl⟩
theorem ix4l {k r : Int} (h0 : 0 ≤ k) (h1 : k ≤ 3) (g0 : 0 ≤ r) (g1 : r < 13) : ∃ m : Int, 1 ≤ m ∧ m ≤ 16 ∧ L2.atI [Dv.int 2, .int 3, .int 2, .int (4 + r)] k = some (.int m) := by
  rcases (by omega : k = 0 ∨ k = 1 ∨ k = 2 ∨ k = 3) with q | q | q | q
  · rw [q]; exact ⟨2, by decide, by decide, rfl⟩
  · rw [q]; exact ⟨3, by decide, by decide, rfl⟩
  · rw [q]; exact ⟨2, by decide, by decide, rfl⟩
  · rw [q]; exact ⟨4 + r, by omega, by omega, rfl⟩
theorem ix3f {r : Int} (t : Str) : ∃ f : Str, (f = t ∨ f = "") ∧ L2.atI [Dv.str t, .str (Str.ofString ""), .str (Str.ofString "")] (r % 3) = some (.str f) := by
  rcases (by omega : r % 3 = 0 ∨ r % 3 = 1 ∨ r % 3 = 2) with q | q | q
  · rw [q]; exact ⟨t, .inl rfl, rfl⟩
  · rw [q]; exact ⟨"", .inr rfl, rfl⟩
  · rw [q]; exact ⟨"", .inr rfl, rfl⟩
def sp__law_made : SpD := fun ds M Q E => match ds with
  | [.ref a] => Src M a ∧ ∀ (l f : Str) (rs : List Room) (x y z : Int), Drn72 l rs f → rs.length ≤ 5 → Q (mdD l rs f) (mup M a (.lst [.int x, .int y, .int z]))
  | _ => False
theorem u_made {M : Mo} {a : Addr} {Q : QD} {E : EXD} (h1 : Src M a) (h : ∀ (l f : Str) (rs : List Room) (x y z : Int), Drn72 l rs f → rs.length ≤ 5 → Q (mdD l rs f) (mup M a (.lst [.int x, .int y, .int z]))) : sp__law_made [.ref a] M Q E := ⟨h1, h⟩
theorem Drn72.ok {l f : Str} {rs : List Room} (h : Drn72 l rs f) : McOk l rs f 2 := by
  obtain ⟨n, L, h1, h2⟩ := h.lt
  have := L.len
  exact ⟨⟨L.sub, by omega, by omega, L.nd⟩, h.r1, by have := h.r2; omega, h.rm, h.fi, h.fl, by decide⟩
/-! what is found breadth first, each with what it carries: the first one found of a kind stays -/
section
variable {α β : Type} [DecidableEq α]
def addW (acc : List (α × β)) (e : α × β) : List (α × β) := if e.1 ∈ acc.map (·.1) then acc else acc ++ [e]
def addWs (acc xs : List (α × β)) : List (α × β) := xs.foldl addW acc
theorem addWs_snoc (acc xs : List (α × β)) (x : α × β) : addWs acc (xs ++ [x]) = addW (addWs acc xs) x := by
  unfold addWs
  rw [List.foldl_append]
  rfl
theorem addW_pre (acc : List (α × β)) (x : α × β) : acc <+: addW acc x := by
  unfold addW
  split
  · exact List.prefix_refl _
  · exact List.prefix_append _ _
theorem addW_in (acc : List (α × β)) (x : α × β) : x.1 ∈ (addW acc x).map (·.1) := by
  unfold addW
  split
  · assumption
  · rw [List.map_append]
    exact List.mem_append_right _ (List.mem_singleton.mpr rfl)
theorem addWs_pre : ∀ (xs acc : List (α × β)), acc <+: addWs acc xs
  | [], _ => List.prefix_refl _
  | x :: xs, acc => (addW_pre acc x).trans (addWs_pre xs (addW acc x))
theorem pre_map {γ δ : Type} {l m : List γ} (f : γ → δ) (h : l <+: m) : l.map f <+: m.map f := by
  obtain ⟨t, rfl⟩ := h
  rw [List.map_append]
  exact List.prefix_append _ _
theorem addWs_in : ∀ (xs acc : List (α × β)) (x : α × β), x ∈ xs → x.1 ∈ (addWs acc xs).map (·.1)
  | y :: xs, acc, x, h => by
    show x.1 ∈ (addWs (addW acc y) xs).map (·.1)
    rcases List.mem_cons.mp h with rfl | h
    · exact (pre_map _ (addWs_pre xs (addW acc x))).subset (addW_in acc x)
    · exact addWs_in xs _ x h
theorem addW_nd {acc : List (α × β)} (h : (acc.map (·.1)).Nodup) (x : α × β) : ((addW acc x).map (·.1)).Nodup := by
  unfold addW
  split
  · exact h
  · rename_i n
    rw [List.map_append]
    refine List.nodup_append.mpr ⟨h, List.pairwise_singleton _ _, fun a ha b hb e => ?_⟩
    rw [List.map_cons, List.map_nil, List.mem_singleton] at hb
    rw [e, hb] at ha
    exact n ha
theorem addWs_nd : ∀ (xs acc : List (α × β)), (acc.map (·.1)).Nodup → ((addWs acc xs).map (·.1)).Nodup
  | [], _, h => h
  | x :: xs, acc, h => addWs_nd xs (addW acc x) (addW_nd h x)
theorem addWs_mem : ∀ (xs acc : List (α × β)) (y : α × β), y ∈ addWs acc xs → y ∈ acc ∨ y ∈ xs
  | [], _, y, h => .inl h
  | x :: xs, acc, y, h => by
    rcases addWs_mem xs (addW acc x) y h with q | q
    · unfold addW at q
      split at q
      · exact .inl q
      · rcases List.mem_append.mp q with q | q
        · exact .inl q
        · exact .inr (by rw [List.mem_singleton.mp q]; exact List.mem_cons_self)
    · exact .inr (List.mem_cons_of_mem _ q)
variable (nx : α × β → List (α × β)) (es : List (α × β))
def gW : Nat → List (α × β)
  | 0 => es
  | a + 1 => match (gW a)[a]? with
    | some e => addWs (gW a) (nx e)
    | none => gW a
theorem gW_some {a : Nat} {e : α × β} (h : (gW nx es a)[a]? = some e) : gW nx es (a + 1) = addWs (gW nx es a) (nx e) := by
  show (match (gW nx es a)[a]? with | some e => addWs (gW nx es a) (nx e) | none => gW nx es a) = _
  rw [h]
theorem gW_none {a : Nat} (h : (gW nx es a)[a]? = none) : gW nx es (a + 1) = gW nx es a := by
  show (match (gW nx es a)[a]? with | some e => addWs (gW nx es a) (nx e) | none => gW nx es a) = _
  rw [h]
theorem gW_pre (a : Nat) : gW nx es a <+: gW nx es (a + 1) := by
  cases h : (gW nx es a)[a]? with
  | none => rw [gW_none nx es h]; exact List.prefix_refl _
  | some x => rw [gW_some nx es h]; exact addWs_pre _ _
theorem gW_nd (h0 : (es.map (·.1)).Nodup) : ∀ a, ((gW nx es a).map (·.1)).Nodup
  | 0 => h0
  | a + 1 => by
    cases h : (gW nx es a)[a]? with
    | none => rw [gW_none nx es h]; exact gW_nd h0 a
    | some x => rw [gW_some nx es h]; exact addWs_nd _ _ (gW_nd h0 a)
theorem gW_ind {P : α × β → Prop} (h0 : ∀ e, e ∈ es → P e) (hs : ∀ e, P e → ∀ x, x ∈ nx e → P x) : ∀ a e, e ∈ gW nx es a → P e
  | 0, e, h => h0 e h
  | a + 1, e, h => by
    cases q : (gW nx es a)[a]? with
    | none => rw [gW_none nx es q] at h; exact gW_ind h0 hs a e h
    | some x =>
      rw [gW_some nx es q] at h
      rcases addWs_mem _ _ _ h with z | z
      · exact gW_ind h0 hs a e z
      · exact hs x (gW_ind h0 hs a x (List.mem_of_getElem? q)) e z
theorem gW_stop {a : Nat} (h : (gW nx es a).length ≤ a) : ∀ b, gW nx es (a + b) = gW nx es a
  | 0 => rfl
  | b + 1 => by
    have e := gW_stop h b
    rw [← Nat.add_assoc, gW_none nx es (by rw [e]; exact List.getElem?_eq_none (by omega)), e]
theorem preW {γ : Type} {l m : List γ} (h : l <+: m) {i : Nat} {x : γ} (e : l[i]? = some x) : m[i]? = some x := by
  obtain ⟨t, rfl⟩ := h
  rw [List.getElem?_append_left (List.getElem?_eq_some_iff.mp e).1]
  exact e
theorem gW_closed : ∀ (a i : Nat) (e x : α × β), i < a → (gW nx es a)[i]? = some e → x ∈ nx e → x.1 ∈ (gW nx es a).map (·.1)
  | 0, _, _, _, h, _, _ => absurd h (Nat.not_lt_zero _)
  | a + 1, i, e, x, hi, hs, hx => by
    have hp := gW_pre nx es a
    cases h : (gW nx es a)[a]? with
    | none =>
      rw [gW_none nx es h] at hs ⊢
      have hl : (gW nx es a).length ≤ a := List.getElem?_eq_none_iff.mp h
      have := (List.getElem?_eq_some_iff.mp hs).1
      exact gW_closed a i e x (by omega) hs hx
    | some y =>
      have hl := (List.getElem?_eq_some_iff.mp h).1
      by_cases z : i = a
      · subst z
        have e2 := preW hp h
        rw [hs] at e2
        cases e2
        rw [gW_some nx es h]
        exact addWs_in _ _ _ hx
      · have hil : i < (gW nx es a).length := by omega
        have e2 := preW hp (List.getElem?_eq_getElem hil)
        rw [hs] at e2
        cases e2
        exact (pre_map _ hp).subset (gW_closed a i _ x (by omega) (List.getElem?_eq_getElem hil) hx)
/-- keys out of a range of n are at most n -/
theorem few_keys {l : List (α × β)} {n : Nat} (hnd : (l.map (·.1)).Nodup) (f : α → Nat) (hf : ∀ e, e ∈ l → f e.1 < n) (hi : ∀ x y, x ∈ l.map (·.1) → y ∈ l.map (·.1) → f x = f y → x = y) : l.length ≤ n := by
  have h1 : ((l.map (·.1)).map f).Nodup := by
    rw [List.nodup_iff_pairwise_ne, List.pairwise_map]
    refine List.Pairwise.imp_of_mem (fun {x y} hx hy hxy e => hxy (hi x y hx hy e)) (List.nodup_iff_pairwise_ne.mp hnd)
  have h2 : ((l.map (·.1)).map f).length ≤ (List.range n).length := List.Nodup.length_le_of_subset h1 fun x hx => by
    obtain ⟨y, hy, rfl⟩ := List.mem_map.mp hx
    obtain ⟨e, he, rfl⟩ := List.mem_map.mp hy
    exact List.mem_range.mpr (hf e he)
  rw [List.length_map, List.length_map, List.length_range] at h2
  exact h2
end
/-! words led back: pairs of a room and a place of the row -/
abbrev Pr := Nat × Nat
abbrev prN (p : Pr) : List NestedKey := [.num (p.1 : Nat), .num (p.2 : Nat)]
abbrev prK (p : Pr) : NestedKey := .tup (prN p)
abbrev prD (p : Pr) : Dv := .tup [.int (p.1 : Nat), .int (p.2 : Nat)]
theorem prD_nk (p : Pr) : prD p = nkD (.tup (prN p)) := by simp only [nkD, nkDs]
theorem prK_inj {p q : Pr} (h : prK p = prK q) : p = q := by
  obtain ⟨a, b⟩ := p
  obtain ⟨c, d⟩ := q
  injection h with h
  injection h with h1 h
  injection h with h2 h
  injection h1 with h1
  injection h2 with h2
  exact Prod.ext (Int.ofNat.inj h1) (Int.ofNat.inj h2)
theorem prN_depth (p : Pr) : (NestedKey.tup (prN p)).depth ≤ 8 := by simp [NestedKey.depth, NestedKey.depthAll]
abbrev St := Nat × Pr
abbrev stD (s : St) : Dv := .tup [.str (sgn s.1), prD s.2]
theorem cutS_midB (x : Str) (a k : Nat) : (cutS x (some (a : Int)) (some ((a : Int) + (k : Int)))).cps.toList = (x.cps.toList.drop a).take k := by
  have e : (a : Int) + (k : Int) = ((a + k : Nat) : Int) := by omega
  rw [e]
  unfold cutS
  rw [HT.sIx_nat, HT.sIx_nat, List.toList_toArray]
  have hl := str_len x
  rw [hl]
  by_cases h : a ≤ x.cps.toList.length
  · rw [Nat.min_eq_left h]
    rw [List.take_eq_take_iff, List.length_drop]
    omega
  · rw [List.drop_of_length_le (by omega), List.drop_of_length_le (by omega)]
    simp
def fitB (y : Str) (a : Nat) (w : Str) : Prop := cutS y (some ((a : Nat) : Int)) (some (((a : Nat) : Int) + ((w.length : Nat) : Int))) = w
instance {y : Str} {a : Nat} {w : Str} : Decidable (fitB y a w) := by unfold fitB; exact inferInstance
theorem fitB_pre {y : Str} {a : Nat} {w : Str} (ha : a ≤ y.length) (h : fitB y a w) : a + w.length ≤ y.length ∧ cutS y none (some ((a + w.length : Nat) : Int)) = cutS y none (some (a : Int)) ++ w := by
  have e := congrArg (fun x : Str => x.cps.toList) h
  simp only [cutS_midB] at e
  have hl := str_len y
  have hw := str_len w
  have e2 := congrArg List.length e
  rw [List.length_take, List.length_drop] at e2
  refine ⟨by omega, str_xt ?_⟩
  rw [cps_app, cutS_take, cutS_take, List.toList_toArray, List.toList_toArray, List.take_add, ← e]
def stpI (l : Str) (rs : List Room) (y : Str) (p : Pr) (i : Nat) : Option St := if fitB y p.2 (wayI rs p.1 i).1 then some (l.cps.toList.getD i 0, ((wayI rs p.1 i).2, p.2 + (wayI rs p.1 i).1.length)) else none
theorem stpI_pos {l : Str} {rs : List Room} {y : Str} {p : Pr} {i : Nat} (h : fitB y p.2 (wayI rs p.1 i).1) : stpI l rs y p i = some (l.cps.toList.getD i 0, ((wayI rs p.1 i).2, p.2 + (wayI rs p.1 i).1.length)) := if_pos h
theorem stpI_neg {l : Str} {rs : List Room} {y : Str} {p : Pr} {i : Nat} (h : ¬ fitB y p.2 (wayI rs p.1 i).1) : stpI l rs y p i = none := if_neg h
def stepB (l : Str) (rs : List Room) (y : Str) (p : Pr) : List St := (List.range l.length).filterMap (stpI l rs y p)
theorem filterMap_snoc {α β : Type} (g : α → Option β) (xs : List α) (x : α) : (xs ++ [x]).filterMap g = xs.filterMap g ++ (g x).toList := by
  rw [List.filterMap_append]
  cases h : g x with
  | none => rw [List.filterMap_cons_none h]; rfl
  | some y => rw [List.filterMap_cons_some h]; rfl
def begB (f y : Str) : List (Pr × Str) := if Txt.startswith y f = true then [((0, f.length), ("" : Str))] else []
def nxB (l : Str) (rs : List Room) (y : Str) (e : Pr × Str) : List (Pr × Str) := (stepB l rs y e.1).map fun s => (s.2, e.2 ++ sgn s.1)
abbrev gB (l : Str) (rs : List Room) (f y : Str) (a : Nat) : List (Pr × Str) := gW (nxB l rs y) (begB f y) a
def mostB (rs : List Room) (y : Str) : Nat := rs.length * (y.length + 1)
def ordB (l : Str) (rs : List Room) (f y : Str) : List (Pr × Str) := gB l rs f y (mostB rs y)
/-- a pair in order: what its word tells -/
structure PrOk (l : Str) (rs : List Room) (f y : Str) (e : Pr × Str) : Prop where
  r : e.1.1 < rs.length
  a : e.1.2 ≤ y.length
  wl : ∀ c, c ∈ e.2.cps.toList → c ∈ l.cps.toList
  t1 : (toldM l rs f e.2).1 = cutS y none (some ((e.1.2 : Nat) : Int))
  t2 : (toldM l rs f e.2).2 = e.1.1
theorem starts_iff {y f : Str} : Txt.startswith y f = true ↔ f.length ≤ y.length ∧ cutS y none (some ((f.length : Nat) : Int)) = f := by
  unfold Txt.startswith
  rw [Bool.and_eq_true, decide_eq_true_iff, PySem.StrLaws.subAt_eq, List.drop_zero]
  have hy := str_len y
  have hf := str_len f
  constructor
  · rintro ⟨h1, h2⟩
    have h2 := eq_of_beq h2
    refine ⟨by omega, str_xt ?_⟩
    rw [cutS_take, List.toList_toArray]
    have : f.length = f.cps.toList.length := hf
    rw [this]
    exact h2
  · rintro ⟨h1, h2⟩
    refine ⟨by omega, ?_⟩
    have e := congrArg (fun x : Str => x.cps.toList) h2
    simp only [cutS_take, List.toList_toArray] at e
    exact beq_iff_eq.mpr e
theorem stepB_mem {l : Str} {rs : List Room} {y : Str} {p : Pr} {s : St} (h : s ∈ stepB l rs y p) : ∃ i, i < l.length ∧ fitB y p.2 (wayI rs p.1 i).1 ∧ s = (l.cps.toList.getD i 0, ((wayI rs p.1 i).2, p.2 + (wayI rs p.1 i).1.length)) := by
  unfold stepB at h
  obtain ⟨i, hi, e⟩ := List.mem_filterMap.mp h
  unfold stpI at e
  split at e
  · rename_i q
    cases e
    exact ⟨i, List.mem_range.mp hi, q, rfl⟩
  · cases e
theorem told_snoc (l f w : Str) (rs : List Room) (c : Nat) : toldM l rs f (w ++ sgn c) = ((toldM l rs f w).1 ++ (wayA l rs (toldM l rs f w).2 c).1, (wayA l rs (toldM l rs f w).2 c).2) := by
  unfold toldM
  rw [cps_app, show (sgn c).cps.toList = [c] from rfl, wk_snoc]
  show (f ++ (_ ++ _), _) = (f ++ _ ++ _, _)
  rw [str_assoc]
theorem PrOk.step {l f y : Str} {rs : List Room} {B : Nat} (ok : McOk l rs f B) {e : Pr × Str} (h : PrOk l rs f y e) {x : Pr × Str} (hx : x ∈ nxB l rs y e) : PrOk l rs f y x := by
  obtain ⟨s, hs, rfl⟩ := List.mem_map.mp hx
  obtain ⟨i, hi, hf, rfl⟩ := stepB_mem hs
  obtain ⟨hc, _⟩ := ok.idx hi
  obtain ⟨h1, h2⟩ := fitB_pre h.a hf
  obtain ⟨_, _, _, _, _, g3⟩ := wayI_ok ok h.r hi
  refine ⟨g3, h1, fun c hcm => ?_, ?_, ?_⟩
  · rw [cps_app] at hcm
    rcases List.mem_append.mp hcm with z | z
    · exact h.wl c z
    · rw [List.mem_singleton.mp (show c ∈ [l.cps.toList.getD i 0] from z)]
      exact hc
  · show (toldM l rs f (e.2 ++ sgn _)).1 = _
    rw [told_snoc, h.t2, wayA_I ok hi, h.t1]
    exact h2.symm
  · show (toldM l rs f (e.2 ++ sgn _)).2 = _
    rw [told_snoc, h.t2, wayA_I ok hi]
theorem begB_ok {l f y : Str} {rs : List Room} {B : Nat} (ok : McOk l rs f B) {e : Pr × Str} (h : e ∈ begB f y) : PrOk l rs f y e := by
  unfold begB at h
  split at h
  · rename_i q
    obtain ⟨q1, q2⟩ := starts_iff.mp q
    rw [List.mem_singleton.mp h]
    exact ⟨ok.r1, q1, fun c hc => (by cases hc), (by rw [q2]; exact str_nilR f), rfl⟩
  · cases h
theorem gB_ok {l f y : Str} {rs : List Room} {B : Nat} (ok : McOk l rs f B) (a : Nat) : ∀ e, e ∈ gB l rs f y a → PrOk l rs f y e := gW_ind _ _ (fun _ h => begB_ok ok h) (fun _ h _ hx => h.step ok hx) a
theorem begB_nd (f y : Str) : ((begB f y).map (·.1)).Nodup := by
  unfold begB
  split
  · exact List.pairwise_singleton _ _
  · exact List.Pairwise.nil
theorem gB_nd (l : Str) (rs : List Room) (f y : Str) (a : Nat) : ((gB l rs f y a).map (·.1)).Nodup := gW_nd _ _ (begB_nd f y) a
theorem pr_num {n m a b a' b' : Nat} (h1 : a < n) (h2 : b ≤ m) (h3 : b' ≤ m) (e : a * (m + 1) + b = a' * (m + 1) + b') : a = a' ∧ b = b' := by
  have e1 : (a * (m + 1) + b) % (m + 1) = b := by rw [Nat.mul_comm, Nat.mul_add_mod, Nat.mod_eq_of_lt (by omega)]
  have e2 : (a' * (m + 1) + b') % (m + 1) = b' := by rw [Nat.mul_comm, Nat.mul_add_mod, Nat.mod_eq_of_lt (by omega)]
  have : b = b' := by rw [← e1, ← e2, e]
  subst this
  exact ⟨Nat.eq_of_mul_eq_mul_right (Nat.succ_pos m) (Nat.add_right_cancel e), rfl⟩
/-- of pairs there are few -/
theorem few_prs {l f y : Str} {rs : List Room} {xs : List (Pr × Str)} (hnd : (xs.map (·.1)).Nodup) (h : ∀ e, e ∈ xs → e.1.1 < rs.length ∧ e.1.2 ≤ y.length) : xs.length ≤ mostB rs y := by
  refine few_keys hnd (fun p => p.1 * (y.length + 1) + p.2) (fun e he => ?_) (fun p q hp hq e => ?_)
  · obtain ⟨h1, h2⟩ := h e he
    have : (e.1.1 + 1) * (y.length + 1) ≤ rs.length * (y.length + 1) := Nat.mul_le_mul_right _ h1
    rw [Nat.add_mul, Nat.one_mul] at this
    unfold mostB
    show e.1.1 * (y.length + 1) + e.1.2 < _
    omega
  · obtain ⟨x, hx, rfl⟩ := List.mem_map.mp hp
    obtain ⟨z, hz, rfl⟩ := List.mem_map.mp hq
    obtain ⟨h1, h2⟩ := h x hx
    obtain ⟨h3, h4⟩ := h z hz
    obtain ⟨a, b⟩ := pr_num h1 h2 h4 e
    exact Prod.ext a b
theorem gB_few {l f y : Str} {rs : List Room} {B : Nat} (ok : McOk l rs f B) (a : Nat) : (gB l rs f y a).length ≤ mostB rs y := few_prs (l := l) (f := f) (gB_nd ..) fun e he => ⟨(gB_ok ok a e he).r, (gB_ok ok a e he).a⟩
theorem gB_end {l f y : Str} {rs : List Room} {B : Nat} (ok : McOk l rs f B) {a : Nat} (h : (gB l rs f y a).length ≤ a) : gB l rs f y a = ordB l rs f y := by
  have hf := gB_few (y := y) ok a
  rcases Nat.le_total a (mostB rs y) with z | z
  · have := gW_stop (nxB l rs y) (begB f y) h (mostB rs y - a)
    rw [show a + (mostB rs y - a) = mostB rs y by omega] at this
    exact this.symm
  · have := gW_stop (nxB l rs y) (begB f y) (a := mostB rs y) (gB_few ok _) (a - mostB rs y)
    rw [show mostB rs y + (a - mostB rs y) = a by omega] at this
    exact this
theorem ordB_ok {l f y : Str} {rs : List Room} {B : Nat} (ok : McOk l rs f B) : ∀ e, e ∈ ordB l rs f y → PrOk l rs f y e := gB_ok ok _
theorem ordB_len {l f y : Str} {rs : List Room} {B : Nat} (ok : McOk l rs f B) : (ordB l rs f y).length ≤ mostB rs y := gB_few ok _
theorem ordB_closed {l f y : Str} {rs : List Room} {B : Nat} (ok : McOk l rs f B) {e : Pr × Str} (h : e ∈ ordB l rs f y) {s : St} (hs : s ∈ stepB l rs y e.1) : s.2 ∈ (ordB l rs f y).map (·.1) := by
  obtain ⟨i, hi⟩ := List.mem_iff_getElem?.mp h
  have hil := (List.getElem?_eq_some_iff.mp hi).1
  have := ordB_len (y := y) ok
  exact gW_closed (nxB l rs y) (begB f y) (mostB rs y) i e (s.2, e.2 ++ sgn s.1) (by omega) hi (List.mem_map.mpr ⟨s, hs, rfl⟩)
/-- the pairs at which a word may end -/
def metP (rs : List Room) (y : Str) (p : Pr) : Prop := endM rs p.1 = cutS y (some ((p.2 : Nat) : Int)) none
instance {rs : List Room} {y : Str} {p : Pr} : Decidable (metP rs y p) := by unfold metP; exact inferInstance
def metB (l : Str) (rs : List Room) (f y : Str) : List (Pr × Str) := (ordB l rs f y).filter fun e => decide (metP rs y e.1)
/-- for each pair the letters that lead to it -/
def backB (l : Str) (rs : List Room) (f y : Str) (p : Pr) : List St := (ordB l rs f y).flatMap fun e => (stepB l rs y e.1).filterMap fun s => if s.2 = p then some (s.1, e.1) else none
def nxA (l : Str) (rs : List Room) (f y : Str) (e : Pr × Str) : List (Pr × Str) := (backB l rs f y e.1).map fun s => (s.2, sgn s.1 ++ e.2)
abbrev gA (l : Str) (rs : List Room) (f y : Str) (a : Nat) : List (Pr × Str) := gW (nxA l rs f y) ((metB l rs f y).map fun e => (e.1, ("" : Str))) a
def ableB (l : Str) (rs : List Room) (f y : Str) : List (Pr × Str) := gA l rs f y (mostB rs y)
theorem backB_mem {l f y : Str} {rs : List Room} {p : Pr} {s : St} (h : s ∈ backB l rs f y p) : s.2 ∈ (ordB l rs f y).map (·.1) ∧ (s.1, p) ∈ stepB l rs y s.2 := by
  unfold backB at h
  obtain ⟨e, he, h⟩ := List.mem_flatMap.mp h
  obtain ⟨t, ht, e2⟩ := List.mem_filterMap.mp h
  split at e2
  · rename_i q
    cases e2
    subst q
    exact ⟨List.mem_map.mpr ⟨e, he, rfl⟩, ht⟩
  · cases e2
theorem gA_in (l : Str) (rs : List Room) (f y : Str) (a : Nat) : ∀ e, e ∈ gA l rs f y a → e.1 ∈ (ordB l rs f y).map (·.1) := gW_ind _ _ (P := fun e => e.1 ∈ (ordB l rs f y).map (·.1)) (fun e h => by
    obtain ⟨x, hx, rfl⟩ := List.mem_map.mp h
    exact List.mem_map.mpr ⟨x, (List.mem_filter.mp hx).1, rfl⟩) (fun e _ x hx => by
    obtain ⟨s, hs, rfl⟩ := List.mem_map.mp hx
    exact (backB_mem hs).1) a
theorem metB_nd (l : Str) (rs : List Room) (f y : Str) : ((metB l rs f y).map (·.1)).Nodup := (List.filter_sublist.map _).nodup (gB_nd l rs f y _)
theorem gA_nd (l : Str) (rs : List Room) (f y : Str) (a : Nat) : ((gA l rs f y a).map (·.1)).Nodup := gW_nd _ _ (by
  rw [List.map_map]
  exact metB_nd l rs f y) a
theorem gA_few {l f y : Str} {rs : List Room} {B : Nat} (ok : McOk l rs f B) (a : Nat) : (gA l rs f y a).length ≤ mostB rs y := few_prs (l := l) (f := f) (gA_nd ..) fun e he => by
  obtain ⟨x, hx, q⟩ := List.mem_map.mp (gA_in l rs f y a e he)
  rw [← q]
  exact ⟨(ordB_ok ok x hx).r, (ordB_ok ok x hx).a⟩
theorem gA_end {l f y : Str} {rs : List Room} {B : Nat} (ok : McOk l rs f B) {a : Nat} (h : (gA l rs f y a).length ≤ a) : gA l rs f y a = ableB l rs f y := by
  rcases Nat.le_total a (mostB rs y) with z | z
  · have := gW_stop (nxA l rs f y) ((metB l rs f y).map fun e => (e.1, ("" : Str))) h (mostB rs y - a)
    rw [show a + (mostB rs y - a) = mostB rs y by omega] at this
    exact this.symm
  · have := gW_stop (nxA l rs f y) ((metB l rs f y).map fun e => (e.1, ("" : Str))) (a := mostB rs y) (gA_few ok _) (a - mostB rs y)
    rw [show mostB rs y + (a - mostB rs y) = a by omega] at this
    exact this
/-! keys -/
def kvP {α : Type} (g : α → Dv) (xs : List (Pr × α)) : KvT := xs.map fun e => (prK e.1, g e.2)
theorem kvP_none {α : Type} {g : α → Dv} {xs : List (Pr × α)} {p : Pr} (h : p ∉ xs.map (·.1)) : valT (kvP g xs) (prK p) = none := by
  unfold valT kvP
  rw [Option.map_eq_none_iff, List.find?_eq_none]
  intro q hq e
  obtain ⟨s, hs, rfl⟩ := List.mem_map.mp hq
  exact h (List.mem_map.mpr ⟨s, hs, prK_inj (of_decide_eq_true e)⟩)
theorem kvP_some {α : Type} {g : α → Dv} : ∀ {xs : List (Pr × α)} {e : Pr × α}, (xs.map (·.1)).Nodup → e ∈ xs → valT (kvP g xs) (prK e.1) = some (g e.2)
  | x :: xs, e, hnd, he => by
    rw [List.map_cons] at hnd
    obtain ⟨n1, n2⟩ := List.pairwise_cons.mp hnd
    unfold valT kvP
    rw [List.map_cons]
    rcases List.mem_cons.mp he with rfl | he
    · rw [List.find?_cons_of_pos (by simp)]
      rfl
    · have hne : x.1 ≠ e.1 := n1 _ (List.mem_map.mpr ⟨e, he, rfl⟩)
      rw [List.find?_cons_of_neg (p := fun p : NestedKey × Dv => decide (p.1 = prK e.1)) (fun z => hne (prK_inj (of_decide_eq_true z)))]
      exact kvP_some n2 he
theorem kvP_isSome {α : Type} {g : α → Dv} {xs : List (Pr × α)} {p : Pr} (hnd : (xs.map (·.1)).Nodup) : (valT (kvP g xs) (prK p)).isSome = decide (p ∈ xs.map (·.1)) := by
  by_cases h : p ∈ xs.map (·.1)
  · obtain ⟨e, he, rfl⟩ := List.mem_map.mp h
    rw [kvP_some hnd he, decide_eq_true h]
    rfl
  · rw [kvP_none h, decide_eq_false h]
    rfl
theorem kvP_put {α : Type} {g : α → Dv} {xs : List (Pr × α)} {p : Pr} {a : α} (h : p ∉ xs.map (·.1)) : putT (kvP g xs) (prK p) (g a) = kvP g (xs ++ [(p, a)]) := by
  unfold putT
  rw [kvP_none h]
  unfold kvP
  rw [List.map_append]
  rfl
theorem kvP_len {α : Type} {g : α → Dv} {xs : List (Pr × α)} : (kvP g xs).length = xs.length := List.length_map _
theorem mergeP {α : Type} {g : α → Dv} : ∀ {ys xs : List (Pr × α)}, ((xs ++ ys).map (·.1)).Nodup → mergeT (kvP g xs) (kvP g ys) = kvP g (xs ++ ys)
  | [], xs, _ => by rw [List.append_nil]; rfl
  | y :: ys, xs, h => by
    have e : mergeT (kvP g xs) (kvP g (y :: ys)) = mergeT (putT (kvP g xs) (prK y.1) (g y.2)) (kvP g ys) := rfl
    have hn : y.1 ∉ xs.map (·.1) := fun z => by
      rw [List.map_append] at h
      exact (List.nodup_append.mp h).2.2 _ z _ List.mem_cons_self rfl
    rw [e, kvP_put hn, mergeP (by rw [List.append_assoc]; exact h), List.append_assoc]
    rfl
theorem mergeP0 {α : Type} {g : α → Dv} {ys : List (Pr × α)} (h : (ys.map (·.1)).Nodup) : mergeT [] (kvP g ys) = kvP g ys := mergeP (xs := []) h
/-! the object -/
abbrev waysD (l : Str) (rs : List Room) (f y : Str) : KvT := kvP (fun p => .lst ((stepB l rs y p).map stD)) ((ordB l rs f y).map fun e => (e.1, e.1))
abbrev trueD (xs : List (Pr × Str)) : KvT := kvP (fun _ => .bl true) xs
abbrev textD (xs : List (Pr × Str)) : KvT := kvP .str xs
abbrev backD (l : Str) (rs : List Room) (f y : Str) : KvT := kvP (fun p => .lst ((backB l rs f y p).map stD)) ((ordB l rs f y).map fun e => (e.1, e.1))
def begD (f y : Str) : Dv := if Txt.startswith y f = true then prD (0, f.length) else .non
abbrev BackD (w : World) (l : Str) (rs : List Room) (f y : Str) : List (Str × Dv) := [("ways", .dctT w (waysD l rs f y)), ("begin", begD f y), ("met", .dctT w (trueD (metB l rs f y))), ("backs", .dctT w (backD l rs f y)), ("able", .dctT w (textD (ableB l rs f y)))]
/-! the parts of Back -/
theorem gW_wl {α β : Type} [DecidableEq α] {nx : α × β → List (α × β)} {es : List (α × β)} (len : α × β → Nat) (h0 : ∀ e, e ∈ es → len e = 0) (hs : ∀ e x, x ∈ nx e → len x ≤ len e + 1) : ∀ a e, e ∈ gW nx es a → len e ≤ a
  | 0, e, h => by rw [h0 e h]; exact Nat.le_refl _
  | a + 1, e, h => by
    cases q : (gW nx es a)[a]? with
    | none =>
      rw [gW_none nx es q] at h
      have := gW_wl len h0 hs a e h
      omega
    | some x =>
      rw [gW_some nx es q] at h
      have hx := gW_wl len h0 hs a x (List.mem_of_getElem? q)
      rcases addWs_mem _ _ _ h with z | z
      · have := gW_wl len h0 hs a e z
        omega
      · have := hs x e z
        omega
theorem gB_wl (l : Str) (rs : List Room) (f y : Str) (a : Nat) : ∀ e, e ∈ gB l rs f y a → e.2.length ≤ a := gW_wl (fun e : Pr × Str => e.2.length) (fun e h => by
    unfold begB at h
    split at h
    · rw [List.mem_singleton.mp h]; rfl
    · cases h) (fun e x h => by
    obtain ⟨s, _, rfl⟩ := List.mem_map.mp h
    show (e.2 ++ sgn s.1).length ≤ _
    rw [PySem.Str.length_append]
    exact Nat.le_refl _) a
theorem gA_wl (l : Str) (rs : List Room) (f y : Str) (a : Nat) : ∀ e, e ∈ gA l rs f y a → e.2.length ≤ a := gW_wl (fun e : Pr × Str => e.2.length) (fun e h => by
    obtain ⟨x, _, rfl⟩ := List.mem_map.mp h
    rfl) (fun e x h => by
    obtain ⟨s, _, rfl⟩ := List.mem_map.mp h
    show (sgn s.1 ++ e.2).length ≤ _
    rw [PySem.Str.length_append, Nat.add_comm]
    exact Nat.le_refl _) a
theorem stepB_len (l : Str) (rs : List Room) (y : Str) (p : Pr) : (stepB l rs y p).length ≤ l.length := by
  unfold stepB
  have := List.length_filterMap_le (stpI l rs y p) (List.range l.length)
  rw [List.length_range] at this
  exact this
theorem begD_two (f y : Str) : (begD f y = prD (0, f.length) ∧ begB f y = [((0, f.length), ("" : Str))]) ∨ (begD f y = .non ∧ begB f y = []) := by
  unfold begD begB
  split
  · exact .inl ⟨rfl, rfl⟩
  · exact .inr ⟨rfl, rfl⟩
theorem take_nin {α β : Type} {xs : List (α × β)} {a : Nat} {e : α × β} (hnd : (xs.map (·.1)).Nodup) (h : xs[a]? = some e) : e.1 ∉ (xs.take a).map (·.1) := fun hm => by
  obtain ⟨x, hx, q⟩ := List.mem_map.mp hm
  obtain ⟨i, hi, hix⟩ := List.getElem_of_mem hx
  rw [List.length_take] at hi
  obtain ⟨ha, rfl⟩ := List.getElem?_eq_some_iff.mp h
  rw [List.getElem_take] at hix
  have := List.pairwise_iff_getElem.mp hnd i a (by rw [List.length_map]; omega) (by rw [List.length_map]; omega) (by omega)
  rw [List.getElem_map, List.getElem_map, hix, q] at this
  exact this rfl
theorem take_snocE {xs : List (Pr × Str)} {a : Nat} {e : Pr × Str} (h : xs[a]? = some e) : ((xs.take a).map fun e => (e.1, e.1)) ++ [(e.1, e.1)] = (xs.take (a + 1)).map fun e => (e.1, e.1) := by
  rw [List.take_add_one, h, List.map_append]
  rfl
theorem kvE_some {g : Pr → Dv} {xs : List (Pr × Str)} {e : Pr × Str} (hnd : (xs.map (·.1)).Nodup) (he : e ∈ xs) : valT (kvP g (xs.map fun e => (e.1, e.1))) (.tup (prN e.1)) = some (g e.1) :=
  kvP_some (xs := xs.map fun e => (e.1, e.1)) (e := (e.1, e.1)) (by rw [List.map_map]; exact hnd) (List.mem_map.mpr ⟨e, he, rfl⟩)
theorem take_nd {xs : List (Pr × Str)} (h : (xs.map (·.1)).Nodup) (a : Nat) : ((xs.take a).map (·.1)).Nodup := ((List.take_sublist a xs).map _).nodup h
theorem take_mem {α : Type} {xs : List α} {a : Nat} {e : α} (h : xs[a]? = some e) : e ∈ xs.take (a + 1) := by
  rw [List.take_add_one, h]
  exact List.mem_append_right _ (List.mem_singleton.mpr rfl)
theorem take_snoc {α : Type} {xs : List α} {i : Nat} {x : α} (h : xs[i]? = some x) : xs.take (i + 1) = xs.take i ++ [x] := by
  rw [List.take_add_one, h]
  rfl
theorem addWs_len {α β : Type} [DecidableEq α] : ∀ (xs acc : List (α × β)), (addWs acc xs).length ≤ acc.length + xs.length
  | [], acc => Nat.le_refl _
  | x :: xs, acc => by
    have := addWs_len xs (addW acc x)
    have h2 : (addW acc x).length ≤ acc.length + 1 := by
      unfold addW
      split
      · omega
      · rw [List.length_append]
        exact Nat.le_refl _
    show (addWs (addW acc x) xs).length ≤ _
    rw [List.length_cons]
    omega
theorem sub_mdl {M M' : Mo} {p : Addr} (s : Sub M M') (h : M p = none) : Sub M (mdl M' p) := fun a o e => by
  by_cases z : a = p
  · rw [z, h] at e
    cases e
  · rw [mdl_ne z]
    exact s a o e
theorem addWs_take {α β : Type} [DecidableEq α] (acc xs : List (α × β)) (i : Nat) : addWs acc (xs.take i) <+: addWs acc xs := by
  have : addWs acc xs = addWs (addWs acc (xs.take i)) (xs.drop i) := by
    unfold addWs
    rw [← List.foldl_append, List.take_append_drop]
  rw [this]
  exact addWs_pre _ _
theorem flatMap_len {α β : Type} {g : α → List β} {k : Nat} : ∀ (xs : List α), (∀ x, x ∈ xs → (g x).length ≤ k) → (xs.flatMap g).length ≤ xs.length * k
  | [], _ => Nat.zero_le _
  | x :: xs, h => by
    rw [List.flatMap_cons, List.length_append, List.length_cons, Nat.add_mul, Nat.one_mul]
    have := flatMap_len xs fun y hy => h y (List.mem_cons_of_mem _ hy)
    have := h x List.mem_cons_self
    omega
theorem backB_len {l f y : Str} {rs : List Room} {B : Nat} (ok : McOk l rs f B) (p : Pr) : (backB l rs f y p).length ≤ mostB rs y * 16 := by
  have h16 := ok.lt.2.2.1
  refine Nat.le_trans (flatMap_len (k := 16) _ fun e _ => ?_) (Nat.mul_le_mul_right _ (ordB_len ok))
  exact Nat.le_trans (List.length_filterMap_le _ _) (Nat.le_trans (stepB_len l rs y e.1) h16)
theorem kv_keys {α : Type} (g : α → Dv) (xs : List (Pr × α)) : (kvP g xs).map (fun p => nkD p.1) = xs.map fun e => prD e.1 := by
  unfold kvP
  rw [List.map_map]
  exact List.map_congr_left fun e _ => (prD_nk _).symm
theorem kv_keysE (g : Pr → Dv) (xs : List (Pr × Str)) : (kvP g (xs.map fun e => (e.1, e.1))).map (fun p => nkD p.1) = xs.map fun e => prD e.1 := by rw [kv_keys, List.map_map]; rfl
theorem kv_trueE (xs : List (Pr × Str)) : (xs.map fun e => Dv.tup [prD e.1, .bl true]) = (trueD xs).map prT := by
  unfold trueD kvP
  rw [List.map_map]
  refine List.map_congr_left fun e _ => ?_
  show Dv.tup [prD e.1, _] = Dv.tup [nkD (prK e.1), _]
  rw [← prD_nk]
theorem kv_ref (zs : List (Pr × Addr)) : (zs.map fun z => Dv.tup [prD z.1, .ref z.2]) = (kvP Dv.ref zs).map prT := by
  unfold kvP
  rw [List.map_map]
  refine List.map_congr_left fun e _ => ?_
  show Dv.tup [prD e.1, _] = Dv.tup [nkD (prK e.1), _]
  rw [← prD_nk]
theorem nodup_key {α β : Type} {xs : List (α × β)} (h : (xs.map (·.1)).Nodup) {x z : α × β} (hx : x ∈ xs) (hz : z ∈ xs) (e : x.1 = z.1) : x = z := by
  obtain ⟨i, hi, rfl⟩ := List.getElem_of_mem hx
  obtain ⟨j, hj, rfl⟩ := List.getElem_of_mem hz
  have hp := List.pairwise_iff_getElem.mp h
  rcases Nat.lt_trichotomy i j with q | q | q
  · have := hp i j (by rw [List.length_map]; exact hi) (by rw [List.length_map]; exact hj) q
    rw [List.getElem_map, List.getElem_map] at this
    exact absurd e this
  · subst q
    rfl
  · have := hp j i (by rw [List.length_map]; exact hj) (by rw [List.length_map]; exact hi) q
    rw [List.getElem_map, List.getElem_map] at this
    exact absurd e.symm this
theorem nodup_val {α β : Type} {xs : List (α × β)} (h : (xs.map (·.2)).Nodup) {x z : α × β} (hx : x ∈ xs) (hz : z ∈ xs) (e : x.2 = z.2) : x = z := by
  obtain ⟨i, hi, rfl⟩ := List.getElem_of_mem hx
  obtain ⟨j, hj, rfl⟩ := List.getElem_of_mem hz
  have hp := List.pairwise_iff_getElem.mp h
  rcases Nat.lt_trichotomy i j with q | q | q
  · have := hp i j (by rw [List.length_map]; exact hi) (by rw [List.length_map]; exact hj) q
    rw [List.getElem_map, List.getElem_map] at this
    exact absurd e this
  · subst q
    rfl
  · have := hp j i (by rw [List.length_map]; exact hj) (by rw [List.length_map]; exact hi) q
    rw [List.getElem_map, List.getElem_map] at this
    exact absurd e.symm this
theorem kv_text (xs : List (Pr × Str)) : (xs.map fun e => prD e.1).map (fun d => Dv.tup [d, .str ""]) = (textD (xs.map fun e => (e.1, ("" : Str)))).map prT := by
  unfold textD kvP
  rw [List.map_map, List.map_map, List.map_map]
  refine List.map_congr_left fun e _ => ?_
  show Dv.tup [prD e.1, _] = Dv.tup [nkD (prK e.1), _]
  rw [← prD_nk]
theorem begD_no (f y : Str) : ∀ a, begD f y ≠ .ref a := fun a e => by
  rcases begD_two f y with ⟨e1, _⟩ | ⟨e1, _⟩
  · rw [e1] at e
    cases e
  · rw [e1] at e
    cases e
/-- new lists, one for each pair, and nothing else new -/
structure Bkl (M M' : Mo) (zs : List (Pr × Addr)) (C : Pr → List Dv) : Prop where
  nda : (zs.map (·.2)).Nodup
  fr : ∀ z, z ∈ zs → M z.2 = none
  at_ : ∀ z, z ∈ zs → M' z.2 = some (.lst (C z.1))
  ot : ∀ a, a ∉ zs.map (·.2) → M' a = M a
theorem Bkl.nil (M : Mo) (C : Pr → List Dv) : Bkl M M [] C := ⟨List.Pairwise.nil, fun z h => (by cases h), fun z h => (by cases h), fun _ _ => rfl⟩
theorem Bkl.none {M M' : Mo} {zs : List (Pr × Addr)} {C : Pr → List Dv} (b : Bkl M M' zs C) {q : Addr} (h : M' q = none) : q ∉ zs.map (·.2) ∧ M q = none := by
  have h1 : q ∉ zs.map (·.2) := fun hm => by
    obtain ⟨z, hz, rfl⟩ := List.mem_map.mp hm
    rw [b.at_ z hz] at h
    cases h
  exact ⟨h1, by rw [← b.ot q h1]; exact h⟩
theorem Bkl.add {M M' : Mo} {zs : List (Pr × Addr)} (b : Bkl M M' zs fun _ => []) {q : Addr} (h : M' q = Option.none) (p : Pr) : Bkl M (mup M' q (.lst [])) (zs ++ [(p, q)]) fun _ => [] := by
  obtain ⟨h1, h2⟩ := b.none h
  refine ⟨?_, fun z hz => ?_, fun z hz => ?_, fun a ha => ?_⟩
  · rw [List.map_append]
    refine List.nodup_append.mpr ⟨b.nda, List.pairwise_singleton _ _, fun a ha c hc e => ?_⟩
    rw [List.map_cons, List.map_nil, List.mem_singleton] at hc
    rw [e, hc] at ha
    exact h1 ha
  · rcases List.mem_append.mp hz with k | k
    · exact b.fr z k
    · rw [List.mem_singleton.mp k]
      exact h2
  · rcases List.mem_append.mp hz with k | k
    · rw [mup_ne fun e => h1 (by rw [← e]; exact List.mem_map.mpr ⟨z, k, rfl⟩)]
      exact b.at_ z k
    · rw [List.mem_singleton.mp k]
      exact mup_same
  · rw [List.map_append, List.mem_append] at ha
    rw [mup_ne fun e => ha (.inr (by rw [e]; exact List.mem_singleton.mpr rfl))]
    exact b.ot a fun k => ha (.inl k)
theorem Bkl.cong {M M' : Mo} {zs : List (Pr × Addr)} {C C' : Pr → List St} (b : Bkl M M' zs fun p => (C p).map stD) (h : ∀ p, C' p = C p) : Bkl M M' zs fun p => (C' p).map stD := by
  rw [show C' = C from funext h]
  exact b
theorem Bkl.app {M M' : Mo} {zs : List (Pr × Addr)} {C : Pr → List Dv} (b : Bkl M M' zs C) (hk : (zs.map (·.1)).Nodup) {z : Pr × Addr} (hz : z ∈ zs) {C' : Pr → List Dv} {d : Dv} (h1 : C' z.1 = C z.1 ++ [d]) (h2 : ∀ p, p ≠ z.1 → C' p = C p) : Bkl M (mup M' z.2 (.lst (C z.1 ++ [d]))) zs C' := by
  refine ⟨b.nda, b.fr, fun x hx => ?_, fun a ha => ?_⟩
  · by_cases e : x.2 = z.2
    · have : x = z := nodup_val b.nda hx hz e
      subst this
      rw [mup_same, h1]
    · rw [mup_ne e, b.at_ x hx, h2 x.1 fun q => e (by rw [nodup_key hk hx hz q])]
  · rw [mup_ne fun e => ha (by rw [e]; exact List.mem_map.mpr ⟨z, hz, rfl⟩)]
    exact b.ot a ha
abbrev kvL (C : Pr → List Dv) (zs : List (Pr × Addr)) : KvT := zs.map fun z => (prK z.1, Dv.lst (C z.1))
theorem gfd_all {M : Mo} {pb : Addr} {w : World} {C : Pr → List Dv} (hb : M pb = none) : ∀ (rest done : List (Pr × Addr)) (M' : Mo), Bkl M M' rest C → pb ∉ rest.map (·.2) → GfD (mup M' pb (.dT w (kvL C done ++ kvP Dv.ref rest))) (.ref pb) M (.dctT w (kvL C (done ++ rest)))
  | [], done, M', b, _ => by
    have e : M' = M := funext fun a => b.ot a (by simp)
    subst e
    have := GfD.here (M := mup M' pb (.dT w (kvL C done ++ kvP Dv.ref ([] : List (Pr × Addr))))) mup_same rfl
    rw [mdl_mup hb] at this
    rw [List.append_nil]
    rw [show kvL C done ++ kvP Dv.ref ([] : List (Pr × Addr)) = kvL C done from List.append_nil _] at this ⊢
    exact this
  | z :: rest, done, M', b, hn => by
    have hzp : z.2 ≠ pb := fun e => hn (by rw [← e]; exact List.mem_cons_self)
    have hl : (kvL C done).length = done.length := List.length_map _
    have hg : (kvL C done ++ kvP Dv.ref (z :: rest))[done.length]? = some (prK z.1, Dv.ref z.2) := by
      rw [List.getElem?_append_right (by omega), hl, Nat.sub_self]
      rfl
    refine .inn (p := pb) (q := z.2) (i := done.length) (k := prK z.1) (ws := C z.1) mup_same hg hzp (by rw [mup_ne hzp]; exact b.at_ z List.mem_cons_self) ?_
    have e1 : mup (mdl (mup M' pb (.dT w (kvL C done ++ kvP Dv.ref (z :: rest)))) z.2) pb (.dT w ((kvL C done ++ kvP Dv.ref (z :: rest)).set done.length (prK z.1, .lst (C z.1)))) = mup (mdl M' z.2) pb (.dT w (kvL C (done ++ [z]) ++ kvP Dv.ref rest)) := by
      have e2 : (kvL C done ++ kvP Dv.ref (z :: rest)).set done.length (prK z.1, .lst (C z.1)) = kvL C (done ++ [z]) ++ kvP Dv.ref rest := by
        rw [List.set_append_right _ _ (by omega), hl, Nat.sub_self]
        show kvL C done ++ (_ :: kvP Dv.ref rest) = _
        unfold kvL
        rw [List.map_append, List.append_assoc]
        rfl
      rw [e2]
      funext a
      by_cases q : a = pb
      · rw [q, mup_same, mup_same]
      · rw [mup_ne q, mup_ne q]
        by_cases q2 : a = z.2
        · rw [q2, mdl_same, mdl_same]
        · rw [mdl_ne q2, mdl_ne q2, mup_ne q]
    rw [e1]
    have hnd := List.pairwise_cons.mp (show (z.2 :: rest.map (·.2)).Nodup from b.nda)
    have := gfd_all (w := w) hb rest (done ++ [z]) (mdl M' z.2) ⟨hnd.2, fun x hx => b.fr x (List.mem_cons_of_mem _ hx), fun x hx => by
      rw [mdl_ne fun e => hnd.1 _ (List.mem_map.mpr ⟨x, hx, rfl⟩) e.symm]
      exact b.at_ x (List.mem_cons_of_mem _ hx), fun a ha => by
      by_cases q2 : a = z.2
      · rw [q2, mdl_same]
        exact (b.fr z List.mem_cons_self).symm
      · rw [mdl_ne q2]
        exact b.ot a fun k => (List.mem_cons.mp k).elim q2 ha⟩ fun k => hn (List.mem_cons_of_mem _ k)
    rw [List.append_assoc] at this
    exact this
def stB (p : Pr) (e : Pr) (s : St) : Option St := if s.2 = p then some (s.1, e) else none
def backP (l : Str) (rs : List Room) (y : Str) (es : List (Pr × Str)) (p : Pr) : List St := es.flatMap fun e => (stepB l rs y e.1).filterMap (stB p e.1)
theorem backP_snoc {l : Str} {rs : List Room} {y : Str} {es : List (Pr × Str)} {e : Pr × Str} {p : Pr} : backP l rs y (es ++ [e]) p = backP l rs y es p ++ (stepB l rs y e.1).filterMap (stB p e.1) := by
  unfold backP
  rw [List.flatMap_append, List.flatMap_cons, List.flatMap_nil, List.append_nil]
theorem backP_len {l f y : Str} {rs : List Room} {B : Nat} (ok : McOk l rs f B) (j : Nat) (p : Pr) : (backP l rs y ((ordB l rs f y).take j) p).length + 16 ≤ (mostB rs y + 1) * 16 := by
  have h16 := ok.lt.2.2.1
  have h1 : (backP l rs y ((ordB l rs f y).take j) p).length ≤ ((ordB l rs f y).take j).length * 16 := flatMap_len (k := 16) _ fun e _ => Nat.le_trans (List.length_filterMap_le _ _) (Nat.le_trans (stepB_len l rs y e.1) h16)
  have h2 := ordB_len (f := f) (y := y) ok
  have h3 : ((ordB l rs f y).take j).length ≤ mostB rs y := by rw [List.length_take]; omega
  omega
def sp_begin_of : SpD := fun ds M Q E => match ds with
  | [d, .str y] => ∃ l rs f B, d = McO l rs f ∧ McOk l rs f B ∧ Q (begD f y) M
  | _ => False
theorem u_begof {M : Mo} {l f y : Str} {rs : List Room} {B : Nat} {Q : QD} {E : EXD} (h1 : McOk l rs f B) (h : Q (begD f y) M) : sp_begin_of [McO l rs f, .str y] M Q E := ⟨l, rs, f, B, rfl, h1, h⟩
def sp_meets_end : SpD := fun ds M Q E => match ds with
  | [d, .str y, x] => ∃ l rs f B p, d = McO l rs f ∧ McOk l rs f B ∧ x = prD p ∧ p.1 < rs.length ∧ y.length ≤ 1000000 ∧ Q (.bl (decide (metP rs y p))) M
  | _ => False
theorem u_meets {M : Mo} {l f y : Str} {rs : List Room} {B : Nat} {p : Pr} {Q : QD} {E : EXD} (h1 : McOk l rs f B) (h2 : p.1 < rs.length) (h3 : y.length ≤ 1000000) (h : Q (.bl (decide (metP rs y p))) M) : sp_meets_end [McO l rs f, .str y, prD p] M Q E := ⟨l, rs, f, B, p, rfl, h1, rfl, h2, h3, h⟩
def sp_pairs_from : SpD := fun ds M Q E => match ds with
  | [d, .str y, x] => ∃ l rs f B p, d = McO l rs f ∧ McOk l rs f B ∧ x = prD p ∧ p.1 < rs.length ∧ y.length ≤ 1000000 ∧ Q (.lst ((stepB l rs y p).map stD)) M
  | _ => False
theorem u_prsfrom {M : Mo} {l f y : Str} {rs : List Room} {B : Nat} {p : Pr} {Q : QD} {E : EXD} (h1 : McOk l rs f B) (h2 : p.1 < rs.length) (h3 : y.length ≤ 1000000) (h : Q (.lst ((stepB l rs y p).map stD)) M) : sp_pairs_from [McO l rs f, .str y, prD p] M Q E := ⟨l, rs, f, B, p, rfl, h1, rfl, h2, h3, h⟩
def sp_pairs_of (w : World) : SpD := fun ds M Q E => match ds with
  | [d, .str y] => ∃ l rs f B, d = McO l rs f ∧ McOk l rs f B ∧ mostB rs y ≤ 1000000 ∧ Q (.dctT w (waysD l rs f y)) M
  | _ => False
theorem u_prsof {w : World} {M : Mo} {l f y : Str} {rs : List Room} {B : Nat} {Q : QD} {E : EXD} (h1 : McOk l rs f B) (h2 : mostB rs y ≤ 1000000) (h : Q (.dctT w (waysD l rs f y)) M) : sp_pairs_of w [McO l rs f, .str y] M Q E := ⟨l, rs, f, B, rfl, h1, h2, h⟩
def sp_backs_of (w : World) : SpD := fun ds M Q E => match ds with
  | [d] => ∃ l rs f y B, d = .dctT w (waysD l rs f y) ∧ McOk l rs f B ∧ mostB rs y ≤ 1000000 ∧ Q (.dctT w (backD l rs f y)) M
  | _ => False
theorem u_bcksof {w : World} {M : Mo} {l f y : Str} {rs : List Room} {B : Nat} {Q : QD} {E : EXD} (h1 : McOk l rs f B) (h2 : mostB rs y ≤ 1000000) (h : Q (.dctT w (backD l rs f y)) M) : sp_backs_of w [.dctT w (waysD l rs f y)] M Q E := ⟨l, rs, f, y, B, rfl, h1, h2, h⟩
def sp_able_of (w : World) : SpD := fun ds M Q E => match ds with
  | [d, e] => ∃ l rs f y B, d = .dctT w (backD l rs f y) ∧ e = .dctT w (trueD (metB l rs f y)) ∧ McOk l rs f B ∧ mostB rs y ≤ 1000000 ∧ Q (.dctT w (textD (ableB l rs f y))) M
  | _ => False
theorem u_ableof {w : World} {M : Mo} {l f y : Str} {rs : List Room} {B : Nat} {Q : QD} {E : EXD} (h1 : McOk l rs f B) (h2 : mostB rs y ≤ 1000000) (h : Q (.dctT w (textD (ableB l rs f y))) M) : sp_able_of w [.dctT w (backD l rs f y), .dctT w (trueD (metB l rs f y))] M Q E := ⟨l, rs, f, y, B, rfl, rfl, h1, h2, h⟩
/-- what is no word, and where -/
def WdBad (x : Dv) (v : Int) : Prop := match x with
  | .str y => ∃ k : Nat, badW SG.cps.toList y.cps.toList = some k ∧ v = (k : Int)
  | _ => v = -1
theorem u_wwN {M : Mo} {x : Dv} {v : Int} {Q : QD} {E : EXD} (ht : TgT x) (hv : WdBad x v) (h : E "NoWord" "at" (.int v) M) : sp_want_word [x, .non] M Q E := by
  refine ⟨trivial, ht, fun n => absurd (.inl rfl) n, fun _ => ?_⟩
  cases x with
  | str y =>
    obtain ⟨k, e, rfl⟩ := hv
    refine ⟨fun n => ?_, fun j ej => ?_⟩
    · rw [show (knw Dv.non).cps.toList = SG.cps.toList from rfl, e] at n
      cases n
    · rw [show (knw Dv.non).cps.toList = SG.cps.toList from rfl, e] at ej
      cases ej
      exact h
  | _ => first | exact ht.elim | (unfold WdBad at hv; subst hv; exact h)
def sp_Back___init__ (w : World) : SpD := fun ds M Q E => match ds with
  | [.ref p, d, x] => M p = some (.ins "Back" []) ∧ ∃ l rs f B, d = McO l rs f ∧ McOk l rs f B ∧ ((∃ y, x = .str y ∧ InS y ∧ y.length ≤ 1000000 ∧ mostB rs y ≤ 1000000 ∧ Q .non (mup M p (.ins "Back" (BackD w l rs f y)))) ∨ (∃ v, TgT x ∧ WdBad x v ∧ E "NoWord" "at" (.int v) M))
  | _ => False
theorem u_Back_bad {w : World} {M : Mo} {l f : Str} {rs : List Room} {B : Nat} {x : Dv} {v : Int} {Q : QD} {E : EXD} (h1 : McOk l rs f B) (h2 : TgT x) (h3 : WdBad x v) (h : ∀ M', Sub M M' → E "NoWord" "at" (.int v) M') :
    dMkV "Back" (sp_Back___init__ w) [] E Q [McO l rs f, x] M := fun p hp0 =>
  ⟨mup_same, l, rs, f, B, rfl, h1, .inr ⟨v, h2, h3, h _ (Sub.new hp0)⟩⟩
def sp__law_steps : SpD := fun ds M Q E => match ds with
  | [d, .str y, x] => ∃ l rs f B p, d = mdD l rs f ∧ McOk l rs f B ∧ x = prD p ∧ p.1 < rs.length ∧ y.length ≤ 1000000 ∧ ∀ q, M q = none → Q (.ref q) (mup M q (.lst ((stepB l rs y p).map stD)))
  | _ => False
theorem u_lsteps {M : Mo} {l f y : Str} {rs : List Room} {B : Nat} {p : Pr} {Q : QD} {E : EXD} (h1 : McOk l rs f B) (h2 : p.1 < rs.length) (h3 : y.length ≤ 1000000) (h : ∀ q, M q = none → Q (.ref q) (mup M q (.lst ((stepB l rs y p).map stD)))) : sp__law_steps [mdD l rs f, .str y, prD p] M Q E := ⟨l, rs, f, B, p, rfl, h1, rfl, h2, h3, h⟩
def sp__law_pairs (w : World) : SpD := fun ds M Q E => match ds with
  | [d, .str y] => ∃ l rs f B, d = mdD l rs f ∧ McOk l rs f B ∧ mostB rs y ≤ 1000000 ∧ Q (.dctT w (textD (ordB l rs f y))) M
  | _ => False
theorem u_lprs {w : World} {M : Mo} {l f y : Str} {rs : List Room} {B : Nat} {Q : QD} {E : EXD} (h1 : McOk l rs f B) (h2 : mostB rs y ≤ 1000000) (h : Q (.dctT w (textD (ordB l rs f y))) M) : sp__law_pairs w [mdD l rs f, .str y] M Q E := ⟨l, rs, f, B, rfl, h1, h2, h⟩
theorem starts_cut {y f : Str} : Txt.startswith y f = true ↔ cutS y none (some ((f.length : Nat) : Int)) = f := by
  refine starts_iff.trans ⟨fun h => h.2, fun h => ⟨?_, h⟩⟩
  have := take_len y f.length
  rw [h] at this
  omega
theorem most_len {rs : List Room} {l f y : Str} {B n : Nat} (ok : McOk l rs f B) (h : mostB rs y ≤ n) : y.length ≤ n := by
  unfold mostB at h
  have := Nat.le_mul_of_pos_left (y.length + 1) ok.r1
  omega
/-! papers: lists of any things -/
def ScD : Dv → Prop
  | .int _ => True | .bl _ => True | .non => True | .str x => x.length ≤ 1000
  | _ => False
def TgP : Dv → Prop
  | .tup xs => xs.length ≤ 3 ∧ ∀ x, x ∈ xs → ScD x
  | .lst xs => xs.length ≤ 3 ∧ ∀ x, x ∈ xs → ScD x
  | _ => False
theorem ScD.tg {d : Dv} (h : ScD d) : TgT d := by cases d <;> first | trivial | exact h.elim | (show Str.length _ ≤ 1000000; have : Str.length _ ≤ 1000 := h; omega)
theorem kv_pairs (ps : List Pr) : (ps.map fun p => Dv.tup [prD p, .bl true]) = (ps.map fun p => (prK p, Dv.bl true)).map prT := by
  rw [List.map_map]
  refine List.map_congr_left fun p _ => ?_
  show Dv.tup [prD p, _] = Dv.tup [nkD (prK p), _]
  rw [← prD_nk]
theorem prD_inj {p q : Pr} (h : prD p = prD q) : p = q := by
  obtain ⟨a, b⟩ := p
  obtain ⟨c, d⟩ := q
  injection h with h
  injection h with h1 h
  injection h with h2 h
  injection h1 with h1
  injection h2 with h2
  exact Prod.ext (Int.ofNat.inj h1) (Int.ofNat.inj h2)
/-- which things are pairs -/
def isPB (rs : List Room) (y : Str) : Dv → Bool
  | .tup [.int a, .int b] => decide (0 ≤ a) && decide (a < ((rs.length : Nat) : Int)) && (decide (0 ≤ b) && decide (b ≤ ((y.length : Nat) : Int)))
  | _ => false
theorem isPB_iff {rs : List Room} {y : Str} {d : Dv} : isPB rs y d = true ↔ ∃ p : Pr, d = prD p ∧ p.1 < rs.length ∧ p.2 ≤ y.length := by
  constructor
  · intro h
    unfold isPB at h
    split at h
    · rename_i a b
      simp only [Bool.and_eq_true, decide_eq_true_eq] at h
      obtain ⟨⟨h1, h2⟩, h3, h4⟩ := h
      obtain ⟨a, rfl⟩ := Int.eq_ofNat_of_zero_le h1
      obtain ⟨b, rfl⟩ := Int.eq_ofNat_of_zero_le h3
      exact ⟨(a, b), rfl, by show a < _; omega, by show b ≤ _; omega⟩
    · cases h
  · rintro ⟨p, rfl, h1, h2⟩
    show (decide (0 ≤ ((p.1 : Nat) : Int)) && decide (((p.1 : Nat) : Int) < _) && (decide (0 ≤ ((p.2 : Nat) : Int)) && decide (((p.2 : Nat) : Int) ≤ _))) = true
    simp only [Bool.and_eq_true, decide_eq_true_eq]
    omega
/-- a thing that does not hold -/
def bdT (l : Str) (rs : List Room) (y : Str) (ds : List Dv) (d : Dv) : Prop := ∀ p : Pr, d = prD p → p.1 < rs.length → p.2 ≤ y.length → metP rs y p ∨ ∃ s, s ∈ stepB l rs y p ∧ prD s.2 ∉ ds
theorem bdT_iff {l : Str} {rs : List Room} {y : Str} {ds : List Dv} {p : Pr} (h1 : p.1 < rs.length) (h2 : p.2 ≤ y.length) : bdT l rs y ds (prD p) ↔ (metP rs y p ∨ ∃ s, s ∈ stepB l rs y p ∧ prD s.2 ∉ ds) := ⟨fun h => h p rfl h1 h2, fun h q e _ _ => by rw [← prD_inj e]; exact h⟩
theorem bdT_no {l : Str} {rs : List Room} {y : Str} {ds : List Dv} {d : Dv} (h : isPB rs y d = false) : bdT l rs y ds d := fun p e h1 h2 => by
  rw [isPB_iff.mpr ⟨p, e, h1, h2⟩] at h
  cases h
open Classical in
/-- what is told of a paper -/
noncomputable def papV (l : Str) (rs : List Room) (f y : Str) (ds : List Dv) : Option Nat := match ds.findIdx? fun d => decide (bdT l rs y ds d) with
  | some k => some k
  | none => if ∃ e, e ∈ begB f y ∧ prD e.1 ∉ ds then some ds.length else none
def papD : Option Nat → Dv
  | some k => .tup [.str "paper", .int (k : Nat)]
  | none => .tup [.str "told", .non]
theorem papV_at {l : Str} {rs : List Room} {f y : Str} {ds : List Dv} {k : Nat} {d : Dv} (h : ds[k]? = some d) (hb : bdT l rs y ds d) (hn : ∀ j e, j < k → ds[j]? = some e → ¬ bdT l rs y ds e) : papV l rs f y ds = some k := by
  classical
  unfold papV
  have hk := (List.getElem?_eq_some_iff.mp h).1
  rw [show (ds.findIdx? fun d => decide (bdT l rs y ds d)) = some k from ?_]
  rw [List.findIdx?_eq_some_iff_getElem]
  refine ⟨hk, ?_, fun j hj => ?_⟩
  · rw [List.getElem?_eq_getElem hk] at h
    injection h with h
    rw [h]
    exact decide_eq_true hb
  · have := hn j _ hj (List.getElem?_eq_getElem (by omega))
    simpa using this
theorem papV_end {l : Str} {rs : List Room} {f y : Str} {ds : List Dv} (hn : ∀ d, d ∈ ds → ¬ bdT l rs y ds d) : (∀ e, begB f y = [e] → prD e.1 ∉ ds → papV l rs f y ds = some ds.length) ∧ (∀ e, begB f y = [e] → prD e.1 ∈ ds → papV l rs f y ds = none) ∧ (begB f y = [] → papV l rs f y ds = none) := by
  classical
  have e0 : (ds.findIdx? fun d => decide (bdT l rs y ds d)) = none := by
    rw [List.findIdx?_eq_none_iff]
    intro d hd
    exact decide_eq_false (hn d hd)
  refine ⟨fun e he h => ?_, fun e he h => ?_, fun he => ?_⟩
  · unfold papV
    rw [e0]
    exact if_pos ⟨e, by rw [he]; exact List.mem_singleton.mpr rfl, h⟩
  · unfold papV
    rw [e0]
    refine if_neg ?_
    rintro ⟨e2, h2, h3⟩
    rw [he, List.mem_singleton] at h2
    rw [h2] at h3
    exact h3 h
  · unfold papV
    rw [e0]
    refine if_neg ?_
    rintro ⟨e2, h2, _⟩
    rw [he] at h2
    cases h2
def sp_is_pair_of : SpD := fun ds M Q E => match ds with
  | [d, .str y, x] => ∃ l rs f B, d = McO l rs f ∧ McOk l rs f B ∧ y.length ≤ 1000000 ∧ TgP x ∧ Q (.bl (isPB rs y x)) M
  | _ => False
theorem u_ispair {M : Mo} {l f y : Str} {rs : List Room} {B : Nat} {x : Dv} {Q : QD} {E : EXD} (h1 : McOk l rs f B) (h2 : y.length ≤ 1000000) (h3 : TgP x) (h : Q (.bl (isPB rs y x)) M) : sp_is_pair_of [McO l rs f, .str y, x] M Q E := ⟨l, rs, f, B, rfl, h1, h2, h3, h⟩
theorem merge_out {u : NestedKey} : ∀ {ps kvs : KvT}, (∀ p, p ∈ ps → p.1 ≠ u) → valT (mergeT kvs ps) u = valT kvs u
  | [], kvs, _ => rfl
  | p :: ps, kvs, h => by
    show valT (mergeT (putT kvs p.1 p.2) ps) u = _
    rw [merge_out fun q hq => h q (List.mem_cons_of_mem _ hq), valT_put, if_neg fun e => h p List.mem_cons_self e.symm]
theorem mergeB_some {u : NestedKey} : ∀ {ps kvs : KvT}, ((valT kvs u).isSome = true ∨ ∃ p, p ∈ ps ∧ p.1 = u) → (valT (mergeT kvs ps) u).isSome = true
  | [], kvs, h => by
    rcases h with h | ⟨p, hp, _⟩
    · exact h
    · cases hp
  | p :: ps, kvs, h => by
    refine mergeB_some (ps := ps) (kvs := putT kvs p.1 p.2) ?_
    rcases h with h | ⟨q, hq, e⟩
    · left
      by_cases z : p.1 = u
      · subst z
        rw [valT_put, if_pos rfl]
        rfl
      · rw [valT_put, if_neg fun e => z e.symm]
        exact h
    · rcases List.mem_cons.mp hq with rfl | hq
      · left
        subst e
        rw [valT_put, if_pos rfl]
        rfl
      · exact .inr ⟨q, hq, e⟩
theorem mergeB_iff {ps : List Pr} {p : Pr} : (valT (mergeT [] (ps.map fun p => (prK p, Dv.bl true))) (prK p)).isSome = decide (p ∈ ps) := by
  by_cases h : p ∈ ps
  · rw [decide_eq_true h]
    exact mergeB_some (.inr ⟨(prK p, .bl true), List.mem_map.mpr ⟨p, h, rfl⟩, rfl⟩)
  · rw [decide_eq_false h, merge_out fun q hq e => ?_]
    · rfl
    · obtain ⟨r, hr, rfl⟩ := List.mem_map.mp hq
      exact h (by rw [← prK_inj e]; exact hr)
def PapOk (ds : List Dv) : Prop := ds.length ≤ 100000 ∧ ∀ d, d ∈ ds → TgP d
def sp_check_shut (w : World) : SpD := fun ds M Q E => match ds with
  | [d, x, z] => ∃ l rs f B, d = McO l rs f ∧ McOk l rs f B ∧ ((∃ v, TgT x ∧ WdBad x v ∧ E "NoWord" "at" (.int v) M) ∨ (∃ y, x = .str y ∧ InS y ∧ mostB rs y ≤ 1000000 ∧
      ((TgT z ∧ (∀ zs, z ≠ .lst zs) ∧ E "NoPaper" "at" (.int 0) M) ∨ (∃ zs, z = .lst zs ∧ PapOk zs ∧ (papV l rs f y zs = none → Q .non M) ∧ ∀ k, papV l rs f y zs = some k → E "NoPaper" "at" (.int (k : Nat)) M))))
  | _ => False
theorem u_chkpap {w : World} {M : Mo} {l f y : Str} {rs : List Room} {B : Nat} {zs : List Dv} {Q : QD} {E : EXD} (h1 : McOk l rs f B) (h2 : InS y) (h3 : mostB rs y ≤ 1000000) (h4 : PapOk zs) (h5 : papV l rs f y zs = none → Q .non M) (h6 : ∀ k, papV l rs f y zs = some k → E "NoPaper" "at" (.int (k : Nat)) M) : sp_check_shut w [McO l rs f, .str y, .lst zs] M Q E := ⟨l, rs, f, B, rfl, h1, .inr ⟨y, rfl, h2, h3, .inr ⟨zs, rfl, h4, h5, h6⟩⟩⟩
theorem u_chknol {w : World} {M : Mo} {l f y : Str} {rs : List Room} {B : Nat} {z : Dv} {Q : QD} {E : EXD} (h1 : McOk l rs f B) (h2 : InS y) (h3 : mostB rs y ≤ 1000000) (h4 : TgT z) (h5 : ∀ zs, z ≠ .lst zs) (h : E "NoPaper" "at" (.int 0) M) : sp_check_shut w [McO l rs f, .str y, z] M Q E := ⟨l, rs, f, B, rfl, h1, .inr ⟨y, rfl, h2, h3, .inl ⟨h4, h5, h⟩⟩⟩
theorem u_chkbad {w : World} {M : Mo} {l f : Str} {rs : List Room} {B : Nat} {x z : Dv} {v : Int} {Q : QD} {E : EXD} (h1 : McOk l rs f B) (h2 : TgT x) (h3 : WdBad x v) (h : E "NoWord" "at" (.int v) M) : sp_check_shut w [McO l rs f, x, z] M Q E := ⟨l, rs, f, B, rfl, h1, .inl ⟨v, h2, h3, h⟩⟩
def sp__law_asked : SpD := fun ds M Q E => match ds with
  | [.ref a, d] => Src M a ∧ ∃ l rs f, d = mdD l rs f ∧ Drn72 l rs f ∧ ∀ (s : Str) (x y z : Int), InS s → s.length ≤ 41 → Q (.str s) (mup M a (.lst [.int x, .int y, .int z]))
  | _ => False
theorem u_asked {M : Mo} {a : Addr} {l f : Str} {rs : List Room} {Q : QD} {E : EXD} (h1 : Src M a) (h2 : Drn72 l rs f) (h : ∀ (s : Str) (x y z : Int), InS s → s.length ≤ 41 → Q (.str s) (mup M a (.lst [.int x, .int y, .int z]))) : sp__law_asked [.ref a, mdD l rs f] M Q E := ⟨h1, l, rs, f, rfl, h2, h⟩
theorem rowM_ok {l f w : Str} {rs : List Room} {B : Nat} (ok : McOk l rs f B) (h : ∀ c, c ∈ w.cps.toList → c ∈ l.cps.toList) : InS (rowM l rs f w) ∧ (rowM l rs f w).length ≤ B + B * w.length + B := by
  obtain ⟨q1, q2⟩ := told_len ok h
  obtain ⟨g1, _, _⟩ := ok.wk w.cps.toList (k := 0) ok.r1 h
  have hr := List.getElem?_eq_getElem q2
  have he := ok.rm _ (List.getElem_mem q2)
  unfold rowM
  rw [endM_eq hr, PySem.Str.length_append]
  refine ⟨InS.app (InS.app ok.fi g1) he.ie, ?_⟩
  have := he.le
  omega
theorem cutS_inB {x : Str} {lo hi : Option Int} {c : Nat} (h : c ∈ (cutS x lo hi).cps.toList) : c ∈ x.cps.toList := by
  unfold cutS at h
  rw [List.toList_toArray] at h
  exact List.mem_of_mem_drop (List.mem_of_mem_take h)
theorem cutS_lenB (x : Str) (lo hi : Option Int) : (cutS x lo hi).length ≤ x.length := by
  rw [str_len, str_len]
  unfold cutS
  rw [List.toList_toArray, List.length_take, List.length_drop]
  omega
/-- things that may be held against themselves -/
def ScQ (x : Dv) : Prop := ScD x ∧ ∃ p, pyD x = some p ∧ p.canLay0 = true ∧ p.depth = 0
def ThQ (d : Dv) : Prop := TgP d ∧ ∃ p, pyD d = some p ∧ p.canLay0 = true ∧ p.depth ≤ 4
theorem scs_py : ∀ {xs : List Dv}, (∀ x, x ∈ xs → ScQ x) → ∃ ps, pyDs xs = some ps ∧ PyData.canLayAll0 ps = true ∧ PyData.depthAll ps = 0
  | [], _ => ⟨[], rfl, rfl, rfl⟩
  | x :: xs, h => by
    obtain ⟨_, p, h1, h2, h3⟩ := h x List.mem_cons_self
    obtain ⟨ps, g1, g2, g3⟩ := scs_py fun z hz => h z (List.mem_cons_of_mem _ hz)
    refine ⟨p :: ps, by unfold pyDs; rw [h1, g1], ?_, ?_⟩
    · simp [PyData.canLayAll0, h2, g2]
    · simp [PyData.depthAll, h3, g3]
theorem thQ_tup {xs : List Dv} (hl : xs.length ≤ 3) (h : ∀ x, x ∈ xs → ScQ x) : ThQ (.tup xs) := by
  obtain ⟨ps, g1, g2, g3⟩ := scs_py h
  refine ⟨⟨hl, fun x hx => (h x hx).1⟩, .tuple ps, by unfold pyD; rw [g1]; rfl, by simpa [PyData.canLay0] using g2, ?_⟩
  simp [PyData.depth, g3]
theorem thQ_lst {xs : List Dv} (hl : xs.length ≤ 3) (h : ∀ x, x ∈ xs → ScQ x) : ThQ (.lst xs) := by
  obtain ⟨ps, g1, g2, g3⟩ := scs_py h
  refine ⟨⟨hl, fun x hx => (h x hx).1⟩, .list ps, by unfold pyD; rw [g1]; rfl, by simpa [PyData.canLay0] using g2, ?_⟩
  simp [PyData.depth, g3]
theorem scQ_int (i : Int) : ScQ (.int i) := ⟨trivial, _, rfl, rfl, rfl⟩
theorem scQ_bl (b : Bool) : ScQ (.bl b) := ⟨trivial, _, rfl, rfl, rfl⟩
theorem scQ_non : ScQ .non := ⟨trivial, _, rfl, rfl, rfl⟩
theorem scQ_zero : ScQ (.str "0") := ⟨by show (1 : Nat) ≤ 1000; decide, _, rfl, by decide +kernel, rfl⟩
theorem ths_py : ∀ {xs : List Dv}, (∀ x, x ∈ xs → ThQ x) → ∃ ps, pyDs xs = some ps ∧ PyData.canLayAll0 ps = true ∧ PyData.depthAll ps ≤ 4
  | [], _ => ⟨[], rfl, rfl, Nat.zero_le _⟩
  | x :: xs, h => by
    obtain ⟨_, p, h1, h2, h3⟩ := h x List.mem_cons_self
    obtain ⟨ps, g1, g2, g3⟩ := ths_py fun z hz => h z (List.mem_cons_of_mem _ hz)
    refine ⟨p :: ps, by unfold pyDs; rw [h1, g1], ?_, ?_⟩
    · simp [PyData.canLayAll0, h2, g2]
    · simp only [PyData.depthAll]
      omega
/-- papers, good and bad -/
def PapX (x : Dv) : Prop := (∃ zs, (x = .lst zs ∨ x = .tup zs) ∧ zs.length ≤ 100000 ∧ ∀ d, d ∈ zs → ThQ d) ∨ x = .non ∨ x = .int 7 ∨ x = .str "none"
theorem ne_lst {M : Mo} {Q : QD} {zs : List Dv} (h : ∀ d, d ∈ zs → ThQ d) (q : Q (.bl false) M) : dNe (.lst zs) (.lst zs) M Q := by
  obtain ⟨ps, g1, g2, g3⟩ := ths_py h
  have e : pyM M (.lst zs) = some (.list ps) := by simp [pyM, pyD, g1]
  refine i_neSame e e ?_ (h := q)
  unfold SeqAt.shaped
  rw [show (PyData.list ps).canLay0 = true by simpa [PyData.canLay0] using g2, Bool.true_and]
  exact decide_eq_true (by
    have : (PyData.list ps).depth = PyData.depthAll ps + 1 := by simp [PyData.depth]
    omega)
theorem ne_tup {M : Mo} {Q : QD} {zs : List Dv} (h : ∀ d, d ∈ zs → ThQ d) (q : Q (.bl false) M) : dNe (.tup zs) (.tup zs) M Q := by
  obtain ⟨ps, g1, g2, g3⟩ := ths_py h
  have e : pyM M (.tup zs) = some (.tuple ps) := by simp [pyM, pyD, g1]
  refine i_neSame e e ?_ (h := q)
  unfold SeqAt.shaped
  rw [show (PyData.tuple ps).canLay0 = true by simpa [PyData.canLay0] using g2, Bool.true_and]
  exact decide_eq_true (by
    have : (PyData.tuple ps).depth = PyData.depthAll ps + 1 := by simp [PyData.depth]
    omega)
def sp__law_odd : SpD := fun ds M Q E => match ds with
  | [.ref a, d, .str y] => Src M a ∧ ∃ l rs f B, d = mdD l rs f ∧ McOk l rs f B ∧ y.length ≤ 100000 ∧ ∀ (x : Dv) (u v w : Int), ThQ x → Q x (mup M a (.lst [.int u, .int v, .int w]))
  | _ => False
theorem u_lodd {M : Mo} {a : Addr} {l f y : Str} {rs : List Room} {B : Nat} {Q : QD} {E : EXD} (h1 : Src M a) (h2 : McOk l rs f B) (h3 : y.length ≤ 100000) (h : ∀ (x : Dv) (u v w : Int), ThQ x → Q x (mup M a (.lst [.int u, .int v, .int w]))) : sp__law_odd [.ref a, mdD l rs f, .str y] M Q E := ⟨h1, l, rs, f, B, rfl, h2, h3, h⟩
def sp__law_spoiled : SpD := fun ds M Q E => match ds with
  | [.ref a, d, .str y, .lst zs] => Src M a ∧ ∃ l rs f B, d = mdD l rs f ∧ McOk l rs f B ∧ y.length ≤ 100000 ∧ zs.length ≤ 30000 ∧ (∀ z, z ∈ zs → ThQ z) ∧ ∀ (x : Dv) (u v w : Int), PapX x → Q x (mup M a (.lst [.int u, .int v, .int w]))
  | _ => False
theorem u_lspoil {M : Mo} {a : Addr} {l f y : Str} {rs : List Room} {B : Nat} {zs : List Dv} {Q : QD} {E : EXD} (h1 : Src M a) (h2 : McOk l rs f B) (h3 : y.length ≤ 100000) (h4 : zs.length ≤ 30000) (h5 : ∀ z, z ∈ zs → ThQ z) (h : ∀ (x : Dv) (u v w : Int), PapX x → Q x (mup M a (.lst [.int u, .int v, .int w]))) : sp__law_spoiled [.ref a, mdD l rs f, .str y, .lst zs] M Q E := ⟨h1, l, rs, f, B, rfl, h2, h3, h4, h5, h⟩
def sp__law_is_pair : SpD := fun ds M Q E => match ds with
  | [d, .str y, x] => ∃ l rs f B, d = mdD l rs f ∧ McOk l rs f B ∧ y.length ≤ 1000000 ∧ TgP x ∧ Q (.bl (isPB rs y x)) M
  | _ => False
theorem u_lispair {M : Mo} {l f y : Str} {rs : List Room} {B : Nat} {x : Dv} {Q : QD} {E : EXD} (h1 : McOk l rs f B) (h2 : y.length ≤ 1000000) (h3 : TgP x) (h : Q (.bl (isPB rs y x)) M) : sp__law_is_pair [mdD l rs f, .str y, x] M Q E := ⟨l, rs, f, B, rfl, h1, h2, h3, h⟩
theorem prB_pln (x : Pr) : Pln 60 (prD x) := pln_cons (n := 59) trivial (pln_cons (n := 59) trivial pln_nil)
theorem prB_plnL (ms : List Pr) : Pln 60 (.lst (ms.map prD)) := fun d hd => by
  obtain ⟨x, _, rfl⟩ := List.mem_map.mp hd
  exact pln_cons (n := 58) trivial (pln_cons (n := 58) trivial pln_nil)
theorem prB_any (ms : List Pr) (x : Pr) : ((ms.map prD).any fun z => dq z (prD x)) = decide (x ∈ ms) := by
  rw [List.any_map]
  refine Bool.eq_iff_iff.mpr ⟨fun hh => ?_, fun hh => ?_⟩
  · obtain ⟨z, hz, q⟩ := List.any_eq_true.mp hh
    rw [← prD_inj (dq_iff.mp q)]
    exact decide_eq_true hz
  · exact List.any_eq_true.mpr ⟨x, of_decide_eq_true hh, dq_of rfl⟩
def vD : Option Nat → Dv
  | some k => .int (k : Nat)
  | none => .non
def sp__law_due : SpD := fun ds M Q E => match ds with
  | [d, .str y, z] => ∃ l rs f B, d = mdD l rs f ∧ McOk l rs f B ∧ mostB rs y ≤ 1000000 ∧ ((TgT z ∧ (∀ zs, z ≠ .lst zs) ∧ Q (.int 0) M) ∨ (∃ zs, z = .lst zs ∧ PapOk zs ∧ Q (vD (papV l rs f y zs)) M))
  | _ => False
theorem u_ldue {M : Mo} {l f y : Str} {rs : List Room} {B : Nat} {zs : List Dv} {Q : QD} {E : EXD} (h1 : McOk l rs f B) (h2 : mostB rs y ≤ 1000000) (h3 : PapOk zs) (h : Q (vD (papV l rs f y zs)) M) : sp__law_due [mdD l rs f, .str y, .lst zs] M Q E := ⟨l, rs, f, B, rfl, h1, h2, .inr ⟨zs, rfl, h3, h⟩⟩
theorem u_ldueN {M : Mo} {l f y : Str} {rs : List Room} {B : Nat} {z : Dv} {Q : QD} {E : EXD} (h1 : McOk l rs f B) (h2 : mostB rs y ≤ 1000000) (h3 : TgT z) (h4 : ∀ zs, z ≠ .lst zs) (h : Q (.int 0) M) : sp__law_due [mdD l rs f, .str y, z] M Q E := ⟨l, rs, f, B, rfl, h1, h2, .inl ⟨h3, h4, h⟩⟩
def sp__law_found (w : World) : SpD := fun ds M Q E => match ds with
  | [d, x, z] => ∃ l rs f B, d = McO l rs f ∧ McOk l rs f B ∧ ((∃ v, TgT x ∧ WdBad x v ∧ Q (.tup [.str "word", .int v]) M) ∨ (∃ y, x = .str y ∧ InS y ∧ mostB rs y ≤ 1000000 ∧
      ((TgT z ∧ (∀ zs, z ≠ .lst zs) ∧ Q (papD (some 0)) M) ∨ (∃ zs, z = .lst zs ∧ PapOk zs ∧ Q (papD (papV l rs f y zs)) M))))
  | _ => False
theorem u_lfound {w : World} {M : Mo} {l f y : Str} {rs : List Room} {B : Nat} {zs : List Dv} {Q : QD} {E : EXD} (h1 : McOk l rs f B) (h2 : InS y) (h3 : mostB rs y ≤ 1000000) (h4 : PapOk zs) (h : Q (papD (papV l rs f y zs)) M) : sp__law_found w [McO l rs f, .str y, .lst zs] M Q E := ⟨l, rs, f, B, rfl, h1, .inr ⟨y, rfl, h2, h3, .inr ⟨zs, rfl, h4, h⟩⟩⟩
theorem u_lfoundN {w : World} {M : Mo} {l f y : Str} {rs : List Room} {B : Nat} {z : Dv} {Q : QD} {E : EXD} (h1 : McOk l rs f B) (h2 : InS y) (h3 : mostB rs y ≤ 1000000) (h4 : TgT z) (h5 : ∀ zs, z ≠ .lst zs) (h : Q (papD (some 0)) M) : sp__law_found w [McO l rs f, .str y, z] M Q E := ⟨l, rs, f, B, rfl, h1, .inr ⟨y, rfl, h2, h3, .inl ⟨h4, h5, h⟩⟩⟩
theorem u_lfoundB {w : World} {M : Mo} {l f : Str} {rs : List Room} {B : Nat} {x z : Dv} {v : Int} {Q : QD} {E : EXD} (h1 : McOk l rs f B) (h2 : TgT x) (h3 : WdBad x v) (h : Q (.tup [.str "word", .int v]) M) : sp__law_found w [McO l rs f, x, z] M Q E := ⟨l, rs, f, B, rfl, h1, .inl ⟨v, h2, h3, h⟩⟩
theorem ne_pap {M : Mo} {Q : QD} {v : Option Nat} (q : Q (.bl false) M) : dNe (papD v) (papD v) M Q := by
  cases v with
  | none => exact i_neSame (p := .tuple [.str "told", .none]) rfl rfl (by simp [SeqAt.shaped, PyData.canLay0, PyData.canLayAll0, PyData.depth, PyData.depthAll]; decide +kernel) (h := q)
  | some k => exact i_neSame (p := .tuple [.str "paper", .int (k : Nat)]) rfl rfl (by simp [SeqAt.shaped, PyData.canLay0, PyData.canLayAll0, PyData.depth, PyData.depthAll]; decide +kernel) (h := q)
theorem badW_atL {l u t : List Nat} {c : Nat} (hu : ∀ d, d ∈ u → d ∈ l) (hc : c ∉ l) : badW l (u ++ c :: t) = some u.length := by
  unfold badW
  rw [List.findIdx?_append, show u.findIdx? (fun c => !decide (c ∈ l)) = none from List.findIdx?_eq_none_iff.mpr fun c hc => by simpa using hu c hc, List.findIdx?_cons, if_pos (by simpa using hc)]
  simp
theorem bad_one {s : Str} (h : InS s) : WdBad (.str (s ++ Str.ofString "1")) ((s.length : Nat) : Int) := ⟨s.length, by
  rw [cps_app]
  exact badW_atL h (by decide +kernel), rfl⟩
theorem bad_min {s : Str} : WdBad (.str (Str.ofString "-" ++ s)) 0 := ⟨0, by
  rw [cps_app]
  exact badW_atL (u := []) (fun d hd => by cases hd) (by decide +kernel), rfl⟩
theorem fst_one {s : Str} (h : InS s) : ∃ c, L2.atI (s ++ Str.ofString "1").cps.toList 0 = some c ∧ decide ((⟨#[c]⟩ : Str) = Str.ofString "-") = false := by
  rw [cps_app]
  have key : ∀ c, c ≠ 45 → decide ((⟨#[c]⟩ : Str) = Str.ofString "-") = false := fun c hc => decide_eq_false fun e => hc (by
    have := congrArg (fun x : Str => x.cps.toList) e
    exact (List.cons.inj this).1)
  cases q : s.cps.toList with
  | nil => exact ⟨49, rfl, key _ (by decide)⟩
  | cons c r =>
    refine ⟨c, L2.atI_nat (j := 0) rfl, key _ fun e => ?_⟩
    have := h c (by rw [q]; exact List.mem_cons_self)
    rw [e] at this
    exact absurd this (by decide +kernel)
theorem fst_min {s : Str} : L2.atI (Str.ofString "-" ++ s).cps.toList 0 = some 45 := by
  rw [cps_app]
  exact L2.atI_nat (j := 0) rfl
theorem ne_wd {M : Mo} {Q : QD} {v : Int} (q : Q (.bl false) M) : dNe (.tup [.str (Str.ofString "word"), .int v]) (.tup [.str (Str.ofString "word"), .int v]) M Q :=
  i_neSame (p := .tuple [.str (Str.ofString "word"), .int v]) rfl rfl (by simp [SeqAt.shaped, PyData.canLay0, PyData.canLayAll0, PyData.depth, PyData.depthAll]; decide +kernel) (h := q)
local macro_rules | `(tactic| walk_at "st") => `(tactic| ((with_reducible apply i_listZip); (case h1 => walk_at "zs"); (case h2 => walk_at "zs"); (case hl => walk_at "zl"); (case h => intro p hp)))
local macro_rules | `(tactic| walk_at "st") => `(tactic| ((with_reducible apply i_kZip); (case h1 => walk_at "zs"); (case h2 => walk_at "zs")))
local macro_rules | `(tactic| walk_at "st") => `(tactic| ((with_reducible apply i_augS); (case h1 => walk_at "lk"); (case hp => infer_instance); (case h3 => exact Nat.le_of_ble_eq_true rfl)))
local macro_rules | `(tactic| walk_at "st") => `(tactic| ((with_reducible apply i_augF); (case h1 => walk_at "lk"); (case h2 => decide +kernel); (case h3 => rfl)))
local macro_rules | `(tactic| walk_at "st") => `(tactic| ((with_reducible apply i_isoRY); (case h1 => walk_at "lk"); (case h2 => decide +kernel)))
local macro_rules | `(tactic| walk_at "st") => `(tactic| ((with_reducible apply i_isoRL); (case h1 => walk_at "lk")))
local macro_rules | `(tactic| walk_at "st") => `(tactic| ((with_reducible refine i_isoNo ?_ ?_ ?_); (decide +kernel); (decide +kernel)))
local macro_rules | `(tactic| walk_at "st") => `(tactic| ((with_reducible refine i_isoY ?_ ?_); (decide +kernel)))
local macro_rules | `(tactic| walk_at "st") => `(tactic| ((with_reducible apply i_reverse); (case h1 => walk_at "lk")))
local macro_rules | `(tactic| walk_at "st") => `(tactic| ((with_reducible apply i_clear); (case h1 => walk_at "lk")))
local macro_rules | `(tactic| walk_at "st") => `(tactic| ((with_reducible refine i_sortX ?_ ?_); (walk_at "sd"); (intro cs hcs1 hcs2)))
local macro_rules | `(tactic| walk_at "st") => `(tactic| ((with_reducible refine i_kJs ?_ ?_); (walk_at "sd")))
local macro_rules | `(tactic| walk_at "st") => `(tactic| ((with_reducible refine i_fmtI ?_ ?_); (walk_at "sd")))
local macro_rules | `(tactic| walk_at "st") => `(tactic| ((with_reducible refine i_fmtS ?_ ?_); (walk_at "sd")))
local macro_rules | `(tactic| walk_at "st") => `(tactic| ((with_reducible refine i_strOfI ?_ ?_); (walk_at "sd")))
local macro_rules | `(tactic| walk_at "st") => `(tactic| ((with_reducible apply i_strOR); (case h1 => walk_at "lk")))
local macro_rules | `(tactic| walk_at "st") => `(tactic| ((with_reducible apply i_lenOR); (case h1 => walk_at "lk")))
local macro_rules | `(tactic| walk_at "st") => `(tactic| ((with_reducible apply i_tyRO); (case h1 => walk_at "lk"); (case h2 => decide +kernel)))
local macro_rules | `(tactic| walk_at "st") => `(tactic| ((with_reducible apply i_tyRL); (case h1 => walk_at "lk")))
local macro_rules | `(tactic| walk_at "st") => `(tactic| ((with_reducible apply i_tyO); (case h1 => decide +kernel)))
local macro_rules | `(tactic| walk_at "st") => `(tactic| ((with_reducible apply i_eqOR); (case h1 => walk_at "lk")))
local macro_rules | `(tactic| walk_at "st") => `(tactic| ((with_reducible apply i_tupOf); (case h1 => walk_at "sq")))
local macro_rules | `(tactic| walk_at "st") => `(tactic| ((with_reducible refine i_mulY ?_ ?_); (walk_at "sd")))
local macro_rules | `(tactic| walk_at "st") => `(tactic| ((with_reducible apply i_gLu); (case h1 => walk_at "sq"); (case hn => rfl)))
local macro_rules | `(tactic| walk_at "st") => `(tactic| ((with_reducible apply i_revL); (case h1 => walk_at "sq")))
local macro_rules | `(tactic| walk_at "st") => `(tactic| ((with_reducible refine i_revS ?_ ?_); (walk_at "sd")))
local macro_rules | `(tactic| walk_at "st") => `(tactic| ((with_reducible refine i_kXf ?_ ?_); (decide +kernel)))
local macro_rules | `(tactic| walk_at "st") => `(tactic| ((with_reducible apply i_lam); (case h1 => walk_at "lk")))
local macro_rules | `(tactic| walk_at "st") => `(tactic| ((with_reducible refine i_mulXI ?_ ?_); (walk_at "sd")))
local macro_rules | `(tactic| walk_at "st") => `(tactic| ((with_reducible refine i_kN31 ?_ ?_ ?_); rfl; rfl))
local macro_rules | `(tactic| walk_at "st") => `(tactic| ((with_reducible refine i_kN22 ?_ ?_ ?_); rfl; rfl))
local macro_rules | `(tactic| walk_at "st") => `(tactic| ((with_reducible refine i_kN13 ?_ ?_ ?_); rfl; rfl))
local macro_rules | `(tactic| walk_at "st") => `(tactic| ((with_reducible refine i_kN21 ?_ ?_ ?_); rfl; rfl))
local macro_rules | `(tactic| walk_at "st") => `(tactic| ((with_reducible refine i_kN12 ?_ ?_ ?_); rfl; rfl))
local macro_rules | `(tactic| walk_at "st") => `(tactic| ((with_reducible refine i_kN11 ?_ ?_ ?_); rfl; rfl))
local macro_rules | `(tactic| walk_at "st") => `(tactic| ((with_reducible apply i_extL); (case h1 => walk_at "lk"); (case h2 => walk_at "sq"); (case h3 => walk_at "sd")))
local macro_rules | `(tactic| walk_at "st") => `(tactic| ((with_reducible refine i_divmod ?_ ?_ ?_); (walk_at "sd"); (walk_at "sd")))
local macro_rules | `(tactic| walk_at "st") => `(tactic| ((with_reducible refine i_kLS ?_ ?_); (walk_at "sd")))
local macro_rules | `(tactic| walk_at "st") => `(tactic| ((with_reducible refine And.intro ?_ ?_); (walk_at "sd")))
local macro_rules | `(tactic| walk_at "st") => `(tactic| ((with_reducible refine i_new ?_); intro p hp))
local macro_rules | `(tactic| walk_at "st") => `(tactic| ((with_reducible apply i_kCaS); (case h1 => rfl); (case h2 => rfl)))
local macro_rules | `(tactic| walk_at "st") => `(tactic| ((with_reducible apply i_kMkS); (case h1 => rfl); (case h2 => rfl); (try (case p => infer_instance)); (try (case a => infer_instance))))
local macro_rules | `(tactic| walk_at "st") => `(tactic| ((with_reducible apply i_kMeS); (case h2 => rfl); (try (case p => infer_instance))))
local macro_rules | `(tactic| walk_at "st") => `(tactic| ((with_reducible apply i_meSR); (case h1 => walk_at "lk"); (case h2 => rfl)))
local macro_rules | `(tactic| walk_at "st") => `(tactic| ((with_reducible refine i_meSK ?_ ?_); rfl))
local macro_rules | `(tactic| walk_at "st") => `(tactic| ((with_reducible apply i_methR); (case h1 => walk_at "lk"); (case h2 => rfl)))
local macro_rules | `(tactic| walk_at "st") => `(tactic| ((with_reducible refine i_methK ?_ ?_); rfl))
local macro_rules | `(tactic| walk_at "st") => `(tactic| ((with_reducible apply i_sfldW); (case h1 => walk_at "lk"); (case hp => infer_instance); (case h2 => decide +kernel); (case h3 => exact Nat.le_of_ble_eq_true rfl)))
local macro_rules | `(tactic| walk_at "st") => `(tactic| ((with_reducible apply i_fldV); (case h1 => walk_at "lk"); (case h2 => decide +kernel); (case h3 => rfl)))
local macro_rules | `(tactic| walk_at "st") => `(tactic| ((with_reducible apply i_fzNew); (case hp => with_reducible assumption); (case e => rfl)))
local macro_rules | `(tactic| walk_at "st") => `(tactic| (with_reducible refine i_fzL ?_))
local macro_rules | `(tactic| walk_at "st") => `(tactic| ((with_reducible apply i_kEnR); (case h1 => walk_at "lk")))
local macro_rules | `(tactic| walk_at "st") => `(tactic| ((with_reducible apply i_kSqR); (case h1 => walk_at "lk")))
local macro_rules | `(tactic| walk_at "st") => `(tactic| ((with_reducible refine ⟨?_, ?_⟩); (show tyD _ _ _; first | exact Eq.refl _ | exact e_tyR (by walk_at "lk") rfl)))
local macro_rules | `(tactic| walk_at "st") => `(tactic| ((with_reducible refine ⟨?_, ?_⟩); (show List.length _ ≤ 1000; exact Nat.le_of_ble_eq_true rfl)))
local macro_rules | `(tactic| walk_at "st") => `(tactic| (with_reducible refine i_isi rfl rfl ?_))
local macro_rules | `(tactic| walk_at "st") => `(tactic| ((with_reducible apply i_append); (case h1 => walk_at "lk"); (case h2 => walk_at "sd")))
local macro_rules | `(tactic| walk_at "st") => `(tactic| ((with_reducible apply i_slL); (case h1 => walk_at "sq")))
local macro_rules | `(tactic| walk_at "st") => `(tactic| ((with_reducible refine i_slS ?_ ?_); (walk_at "sd")))
local macro_rules | `(tactic| walk_at "st") => `(tactic| (with_reducible refine i_listOfT ?_))
local macro_rules | `(tactic| walk_at "st") => `(tactic| ((with_reducible apply i_listOf); (case h1 => walk_at "sq")))
local macro_rules | `(tactic| walk_at "st") => `(tactic| (with_reducible refine i_max ?_))
local macro_rules | `(tactic| walk_at "st") => `(tactic| (with_reducible refine i_min ?_))
local macro_rules | `(tactic| walk_at "st") => `(tactic| ((with_reducible apply i_lenL); (case h1 => walk_at "sq")))
local macro_rules | `(tactic| walk_at "st") => `(tactic| (with_reducible refine i_lenT ?_))
local macro_rules | `(tactic| walk_at "st") => `(tactic| ((with_reducible refine i_lenS ?_ ?_); (walk_at "sd")))
local macro_rules | `(tactic| walk_at "st") => `(tactic| ((with_reducible apply i_ixT); (case h2 => walk_at "at")))
local macro_rules | `(tactic| walk_at "st") => `(tactic| ((with_reducible apply i_ixL); (case h1 => walk_at "sq"); (case h2 => walk_at "at")))
local macro_rules | `(tactic| walk_at "st") => `(tactic| ((with_reducible apply i_truR); (case h1 => walk_at "lk")))
local macro_rules | `(tactic| walk_at "st") => `(tactic| ((with_reducible refine i_truS ?_ ?_); (walk_at "sd")))
local macro_rules | `(tactic| walk_at "st") => `(tactic| ((with_reducible refine i_iaddS ?_ ?_); (walk_at "sd")))
local macro_rules | `(tactic| walk_at "st") => `(tactic| ((with_reducible apply i_setL); (case h1 => walk_at "lk"); (case h2 => walk_at "xn")))
local macro_rules | `(tactic| walk_at "st") => `(tactic| ((with_reducible refine i_gTp ?_ ?_); rfl))
local macro_rules | `(tactic| walk_at "st") => `(tactic| ((with_reducible apply i_addL); (case h1 => walk_at "sq"); (case h2 => walk_at "sq"); (case h3 => walk_at "sd")))
local macro_rules | `(tactic| walk_at "st") => `(tactic| ((with_reducible refine i_addS ?_ ?_); (walk_at "sd")))
local macro_rules | `(tactic| walk_at "st") => `(tactic| ((with_reducible refine i_iaddS1 ?_ ?_); (walk_at "sd")))
local macro_rules | `(tactic| walk_at "st") => `(tactic| ((with_reducible refine i_addS2 ?_ ?_); (walk_at "sd")))
local macro_rules | `(tactic| walk_at "st") => `(tactic| ((with_reducible refine i_addS1 ?_ ?_); (walk_at "sd")))
local macro_rules | `(tactic| walk_at "st") => `(tactic| ((with_reducible refine i_mulI ?_ ?_); (walk_at "sd")))
local macro_rules | `(tactic| walk_at "st") => `(tactic| ((with_reducible refine i_I ?_ ?_); (walk_at "sd")))
local macro_rules | `(tactic| walk_at "st") => `(tactic| ((with_reducible refine i_ifF ?_ ?_); (first | with_reducible rfl | decide)))
local macro_rules | `(tactic| walk_at "st") => `(tactic| ((with_reducible refine i_ifT ?_ ?_); (first | with_reducible rfl | decide)))
local macro_rules | `(tactic| walk_at "st") => `(tactic| ((with_reducible refine u_wtext ?_ ?_ ?_ ?_ ?_ ?_); (walk_at "src"); (walk_at "sd"); (walk_at "sd"); (walk_at "sd"); (walk_at "sd"); (intro t x y z ht); (try (with_reducible rw [mup_mup]))))
local macro_rules | `(tactic| walk_at "st") => `(tactic| ((with_reducible refine u_signs ?_ ?_ ?_ ?_); (walk_at "src"); (walk_at "sd"); (walk_at "sd"); (intro t x y z ht); (try (with_reducible rw [mup_mup]))))
local macro_rules | `(tactic| walk_at "st") => `(tactic| ((with_reducible refine u_draw ?_ ?_ ?_ ?_); (walk_at "src"); (walk_at "sd"); (walk_at "sd"); (intro r x y z hr0 hr1); (try (with_reducible rw [mup_mup]))))
local macro_rules | `(tactic| walk_at "st") => `(tactic| ((with_reducible refine u_well ?_); (intro p v hp)))
local macro_rules | `(tactic| walk_at "st") => `(tactic| ((with_reducible refine i_joinSg ?_ ?_); (walk_at "sd")))
local macro_rules | `(tactic| walk_at "st") => `(tactic| ((with_reducible refine u_mEqL ?_ ?_); (with_reducible assumption)))
local macro_rules | `(tactic| walk_at "st") => `(tactic| ((with_reducible refine u_mEqN ?_ ?_); (with_reducible assumption)))
local macro_rules | `(tactic| walk_at "st") => `(tactic| ((with_reducible refine u_mEq ?_ ?_ ?_); (with_reducible assumption); (with_reducible assumption)))
local macro_rules | `(tactic| walk_at "st") => `(tactic| ((with_reducible refine u_mStr ?_ ?_ ?_); (walk_at "sd"); (walk_at "sd")))
local macro_rules | `(tactic| walk_at "st") => `(tactic| (with_reducible refine u_mFst ?_))
local macro_rules | `(tactic| walk_at "st") => `(tactic| (with_reducible refine u_mLet ?_))
local macro_rules | `(tactic| walk_at "st") => `(tactic| (with_reducible refine u_mAll ?_))
local macro_rules | `(tactic| walk_at "st") => `(tactic| (with_reducible refine u_mLen ?_))
local macro_rules | `(tactic| walk_at "st") => `(tactic| ((with_reducible refine u_unlike ?_ ?_ ?_ ?_); (walk_at "src"); (walk_at "sd"); (walk_at "sd"); (intro t x y z ht); (try (with_reducible rw [mup_mup]))))
local macro_rules | `(tactic| walk_at "st") => `(tactic| ((with_reducible refine u_take ?_ ?_ ?_ ?_); (walk_at "src"); (walk_at "sd"); (walk_at "sd"); (intro r x y z hr0 hr1); (try (with_reducible rw [mup_mup]))))
local macro_rules | `(tactic| walk_at "st") => `(tactic| ((with_reducible refine u_source ?_); (intro p hp)))
local macro_rules | `(tactic| walk_at "st") => `(tactic| ((with_reducible refine u_mixed ?_); (intro r hr0 hr1)))
local macro_rules | `(tactic| walk_at "st") => `(tactic| (with_reducible refine Step.go ?_))
local macro_rules | `(tactic| walk_at "dd") => `(tactic| repeat (walk_at "st"))
local macro_rules | `(tactic| walk_at "ne") => `(tactic| ((apply Ne.symm); (with_reducible apply mne2); (case h' => with_reducible assumption); (case h => walk_at "lk")))
local macro_rules | `(tactic| walk_at "ne") => `(tactic| ((with_reducible apply mne2); (case h' => with_reducible assumption); (case h => walk_at "lk")))
local macro_rules | `(tactic| walk_at "ne") => `(tactic| (apply Ne.symm; with_reducible assumption))
local macro_rules | `(tactic| walk_at "ne") => `(tactic| (with_reducible assumption))
local macro_rules | `(tactic| walk_at "lk") => `(tactic| ((with_reducible refine e_mup ?_ ?_); (walk_at "ne"); (walk_at "lk")))
local macro_rules | `(tactic| walk_at "lk") => `(tactic| (with_reducible exact mup_same))
local macro_rules | `(tactic| walk_at "lk") => `(tactic| (with_reducible assumption))
local macro_rules | `(tactic| walk_at "sq") => `(tactic| (exact e_seqR (by walk_at "lk")))
local macro_rules | `(tactic| walk_at "sq") => `(tactic| (exact e_seqL))
local macro_rules | `(tactic| walk_at "sd") => `(tactic| (exact Nat.le_of_ble_eq_true rfl))
local macro_rules | `(tactic| walk_at "sd") => `(tactic| (decide))
local macro_rules | `(tactic| walk_at "sd") => `(tactic| (exact ⟨by decide, by decide, by decide⟩))
local macro_rules | `(tactic| walk_at "sd") => `(tactic| (show (0 : Int) < _; omega))
local macro_rules | `(tactic| walk_at "sd") => `(tactic| (simp only [List.length_cons, List.length_nil, List.length_append, List.length_map, List.length_range, PySem.Str.length_append] <;> omega))
local macro_rules | `(tactic| walk_at "sd") => `(tactic| ((with_reducible refine cdivw ?_ ?_) <;> omega))
local macro_rules | `(tactic| walk_at "sd") => `(tactic| ((with_reducible refine cmul_r ?_ ?_) <;> omega))
local macro_rules | `(tactic| walk_at "sd") => `(tactic| ((with_reducible refine cmul_l ?_ ?_) <;> omega))
local macro_rules | `(tactic| walk_at "sd") => `(tactic| (omega))
local macro_rules | `(tactic| walk_at "sd") => `(tactic| (with_reducible assumption))
local macro_rules | `(tactic| walk_at "at") => `(tactic| (exact L2.atI_nat (j := 3) rfl))
local macro_rules | `(tactic| walk_at "at") => `(tactic| (exact L2.atI_nat (j := 2) rfl))
local macro_rules | `(tactic| walk_at "at") => `(tactic| (exact L2.atI_nat (j := 1) rfl))
local macro_rules | `(tactic| walk_at "at") => `(tactic| (exact L2.atI_nat (j := 0) rfl))
local macro_rules | `(tactic| walk_at "xn") => `(tactic| (exact e_ix (k := 3) (Nat.le_of_ble_eq_true rfl)))
local macro_rules | `(tactic| walk_at "xn") => `(tactic| (exact e_ix (k := 2) (Nat.le_of_ble_eq_true rfl)))
local macro_rules | `(tactic| walk_at "xn") => `(tactic| (exact e_ix (k := 1) (Nat.le_of_ble_eq_true rfl)))
local macro_rules | `(tactic| walk_at "xn") => `(tactic| (exact e_ix (k := 0) (Nat.le_of_ble_eq_true rfl)))
local macro_rules | `(tactic| walk_at "fg") => `(tactic| repeat (first | exact Sub.refl _ | exact Sub.new ‹_› | (refine Sub.trans ?_ (Sub.new ‹_›)) | refine Sub.mup ?_))
local macro_rules | `(tactic| walk_at "sa") => `(tactic| repeat (first | with_reducible exact SubA.refl _ _ | (with_reducible refine SubA.at ?_) | (with_reducible refine SubA.new (by with_reducible assumption) ?_)))
local macro_rules | `(tactic| walk_at "zs") => `(tactic| (exact zSeq_ref (by walk_at "lk")))
local macro_rules | `(tactic| walk_at "zs") => `(tactic| (with_reducible exact zSeq_str))
local macro_rules | `(tactic| walk_at "zs") => `(tactic| (with_reducible exact zSeq_tup))
local macro_rules | `(tactic| walk_at "zs") => `(tactic| (with_reducible exact zSeq_lst))
local macro_rules | `(tactic| walk_at "zl") => `(tactic| (simp only [List.length_cons, List.length_nil, List.length_append, List.length_map, List.length_range, PySem.Str.length_append, signsD_len] <;> omega))
local macro_rules | `(tactic| walk_at "zl") => `(tactic| (omega))
local macro_rules | `(tactic| walk_at "zl") => `(tactic| (with_reducible assumption))
section
variable {P : Program} {w : World} {K : PySem.W.Frag} {mg : Str → Option Value} {base : Heap}
/- is_whole: slots 0 thing -/
theorem ok_is_whole (T : Tn mg) {f : Addr} {fd : FuncData} (F : Fun K "is_whole" "is_whole" s_is_whole f fd) {oA : Str → Addr} (ZC : Clz K mg oA) {cA : Str → Addr} (Z : Exs P w K mg base cA)  (gm : mg "is_whole" = some (.ref f)) : FnD P w K mg base "is_whole" 1 ["thing"] (fun fd => Binds K fd ["thing"] []) sp_is_whole := by
  refine ⟨⟨f, fd, gm, F.kp, F.binds (ps := ["thing"]) (fun _ _ _ _ _ _ us hl => match us, hl with | [_], _ => rfl), okD F sc_is_whole (fun ds M Q E h => ?_) (fun cdv A outer s H M ds Qd Ed E hr cx h => ?_)⟩⟩
  · unfold sp_is_whole at h
    split at h <;> first | rfl | exact h.elim
  · refine ⟨_, (dss_one (ds_ret (de_and (de_callB cd_isi (by rfl) T.n_isinstance (by decide +kernel) (da_cons (dv 0) (da_cons (de_bltn (n := "int") (by rfl) T.n_int (by decide +kernel)) da_nil))) (de_one (de_not (de_callB cd_isi (by rfl) T.n_isinstance (by decide +kernel) (da_cons (dv 0) (da_cons (de_bltn (n := "bool") (by rfl) T.n_bool (by decide +kernel)) da_nil)))))))), ?_⟩
    unfold sp_is_whole at h; split at h
    · rename_i d
      obtain ⟨ht, h⟩ := h
      cases d <;> first | exact ht.elim | (walk_at "dd"; exact .here h)
    · exact h.elim
/- is_text: slots 0 thing, 1 sign -/
theorem ok_is_text (T : Tn mg) {f : Addr} {fd : FuncData} (F : Fun K "is_text" "is_text" s_is_text f fd) {oA : Str → Addr} (ZC : Clz K mg oA) {cA : Str → Addr} (Z : Exs P w K mg base cA)  (gm : mg "is_text" = some (.ref f)) : FnD P w K mg base "is_text" 1 ["thing"] (fun fd => Binds K fd ["thing"] []) sp_is_text := by
  refine ⟨⟨f, fd, gm, F.kp, F.binds (ps := ["thing"]) (fun _ _ _ _ _ _ us hl => match us, hl with | [_], _ => rfl), okD F sc_is_text (fun ds M Q E h => ?_) (fun cdv A outer s H M ds Qd Ed E hr cx h => ?_)⟩⟩
  · unfold sp_is_text at h
    split at h <;> first | rfl | exact h.elim
  · refine ⟨_, (dss_one (ds_ret (de_and (de_callB cd_isi (by rfl) T.n_isinstance (by decide +kernel) (da_cons (dv 0) (da_cons (de_bltn (n := "str") (by rfl) T.n_str (by decide +kernel)) da_nil))) (de_one (de_callB (cd_all rfl) (by rfl) T.n_all (by decide +kernel) (da_cons (de_frz (de_lc (g := (.nm 1)) rfl sc_is_text.nd (di_str (dv 0)) (blkOk_by (N := ["thing", "sign"]) (own := [("sign", 1)]) (sc := defScope s_is_text) (by decide +kernel)) (fun _ _ _ _ _ => (pg_name (i := 1) sc_is_text.nd rfl (Or.inl rfl))) (fun _ _ _ _ _ => dts_nil) (fun _ _ _ _ _ => (de_cmp od_in (dv 1) (de_globSx (by rfl) T.c_SIGNS) (by rfl))))) da_nil)))))), ?_⟩
    unfold sp_is_text at h; split at h
    · rename_i d
      obtain ⟨ht, h⟩ := h
      cases d with
      | str x =>
        have hl : x.length ≤ 1000000 := ht
        have hx := str_len x
        walk_at "dd"
        refine lk_map (fun d => match d with | .str ⟨#[c]⟩ => .bl (decide (c ∈ SG.cps.toList)) | d => d) (by unfold signsD; rw [List.length_map]; omega) ?_ ?_
        · intro i d hd
          obtain ⟨c, hc, rfl⟩ := signsD_get hd
          walk_at "dd"
          exact lm_ hd rfl
        · walk_at "dd"
          refine i_all (ds := (x.cps.toList.map fun c => decide (c ∈ SG.cps.toList)).map .bl) ?_ (blsOf_map _) ?_
          · unfold signsD
            rw [List.map_map, List.map_map]
            rfl
          · rw [List.all_map]
            exact .here h
      | non => walk_at "dd"; exact .here h
      | bl b => walk_at "dd"; exact .here h
      | int b => walk_at "dd"; exact .here h
      | lst b => walk_at "dd"; exact .here h
      | tup b => walk_at "dd"; exact .here h
      | _ => exact ht.elim
    · exact h.elim
/- want_letters: slots 0 letters -/
theorem ok_want_letters (T : Tn mg) {f : Addr} {fd : FuncData} (F : Fun K "want_letters" "want_letters" s_want_letters f fd) {oA : Str → Addr} (ZC : Clz K mg oA) {cA : Str → Addr} (Z : Exs P w K mg base cA) (G_is_text : FnD P w K mg base "is_text" 1 ["thing"] (fun fd => Binds K fd ["thing"] []) sp_is_text) (gm : mg "want_letters" = some (.ref f)) : FnD P w K mg base "want_letters" 3 ["letters"] (fun fd => Binds K fd ["letters"] []) sp_want_letters := by
  refine ⟨⟨f, fd, gm, F.kp, F.binds (ps := ["letters"]) (fun _ _ _ _ _ _ us hl => match us, hl with | [_], _ => rfl), okD F sc_want_letters (fun ds M Q E h => ?_) (fun cdv A outer s H M ds Qd Ed E hr cx h => ?_)⟩⟩
  · unfold sp_want_letters at h
    split at h <;> first | rfl | exact h.elim
  · refine ⟨_, (dss_one (ds_if (dt_w (dw_or (dt_not (dt_val (de_callF G_is_text (hr.mono (by decide)) (by rfl) (fun _ h => h) .nil rdn passL ctx0 (da_cons (dv 0) da_nil)))) (dw_or (dt_not (dt_chain od_le od_le de_int (de_callB cd_len (by rfl) T.n_len (by decide +kernel) (da_cons (dv 0) da_nil)) (de_globIx (by rfl) T.c_MOST_LETTERS))) (dw_or1 (dt_cmp (od_ne hr.units) (de_lenSet rfl (by rfl) T.n_len (by rfl) T.n_set (dv 0)) (de_callB cd_len (by rfl) T.n_len (by decide +kernel) (da_cons (dv 0) da_nil)) (nomark _)))))) (dss_one (ds_raise Z.x_NoRule rfl (takes_of rfl rfl rfl rfl) (hr.mono (by decide)) passL (by rfl) cx de_str)) dss_nil)), ?_⟩
    unfold sp_want_letters at h; split at h
    · rename_i d
      obtain ⟨ht, h1, h2⟩ := h
      walk_at "dd"
      refine u_istext ht ?_
      walk_at "dd"
      cases d with
      | str x =>
        have hl : x.length ≤ 1000000 := ht
        cases q : txt (.str x) with
        | false =>
          walk_at "dd"
          exact .here (h2 fun g => by rw [txt_of g.1] at q; cases q)
        | true =>
          walk_at "dd"
          refine i_ifd (fun c1 => ?_) (fun c1 => ?_)
          · walk_at "dd"
            refine i_ifn (fun c2 => ?_) (fun c2 => ?_)
            · walk_at "dd"
              exact .here (h2 fun g => by have := g.2; omega)
            · walk_at "dd"
              refine i_ifn (fun c3 => ?_) (fun c3 => ?_)
              · walk_at "dd"
                exact .here (h2 fun g => c3 (by rw [set_nodup g.2.2.2]))
              · walk_at "dd"
                exact .here (h1 ⟨txt_in q, by omega, by omega, Classical.byContradiction fun n => by have := set_dup n; omega⟩)
          · walk_at "dd"
            exact .here (h2 fun g => by have := g.2; omega)
      | _ => walk_at "dd"; exact .here (h2 fun g => g)
    · exact h.elim
/- want_word: slots 0 word, 1 letters, 2 known, 3 at, 4 sign -/
theorem ok_want_word (T : Tn mg) {f : Addr} {fd : FuncData} (F : FunD K "want_word" "want_word" (defArgs s_want_word) (defBody s_want_word) (defScope s_want_word) [V.non] [] f fd) {oA : Str → Addr} (ZC : Clz K mg oA) {cA : Str → Addr} (Z : Exs P w K mg base cA) (G_want_letters : FnD P w K mg base "want_letters" 3 ["letters"] (fun fd => Binds K fd ["letters"] []) sp_want_letters) (gm : mg "want_word" = some (.ref f)) : FnD P w K mg base "want_word" 4 ["word", "letters"] (fun fd => (∃ us, Vals [V.non] us ∧ Binds K fd ["word", "letters"] us) ∧ True) sp_want_word := by
  refine ⟨⟨f, fd, gm, F.kp, ⟨F.binds1 1 0 (by simp) rfl (fun T kV doc pm an cdv ct us its h1 h2 => by match us, h1, its, h2 with | [_], _, [_], _ => exact ⟨_, rfl, rfl⟩), True.intro⟩, okDD F sc_want_word (fun ds M Q E h => ?_) (fun cdv A outer s H M ds Qd Ed E hr cx h => ?_)⟩⟩
  · unfold sp_want_word at h
    split at h <;> first | rfl | exact h.elim
  · refine ⟨_, (dss_cons (ds_set (i := 2) sc_want_word.nd rfl (Or.inl rfl) (de_globSx (by rfl) T.c_SIGNS))
      (dss_cons (ds_if (dt_cmp od_notN (dv 1) de_non (nomark _)) (dss_cons (ds_expr (de_callF G_want_letters (hr.mono (by decide)) (by rfl) (fun _ h => h) .nil rdn (passB (takes_of rfl rfl rfl rfl)) cx (da_cons (dv 1) da_nil)))
      (dss_one (ds_set (i := 2) sc_want_word.nd rfl (Or.inl rfl) (dv 1)))) dss_nil)
      (dss_cons (ds_if (dt_not (dt_val (de_callB cd_isi (by rfl) T.n_isinstance (by decide +kernel) (da_cons (dv 0) (da_cons (de_bltn (n := "str") (by rfl) T.n_str (by decide +kernel)) da_nil))))) (dss_one (ds_raise Z.x_NoWord rfl (takes_of rfl rfl rfl rfl) (hr.mono (by decide)) passL (by rfl) cx (de_neg de_int))) dss_nil)
      (dss_one (ds_for (passes_of rfl) rfl (di_enumS (by rfl) T.n_enumerate (da_cons (dv 0) da_nil)) (dg_tup rfl (dgs_cons (dg_name (i := 3) sc_want_word.nd rfl (Or.inl rfl)) (dgs_cons (dg_name (i := 4) sc_want_word.nd rfl (Or.inl rfl)) dgs_nil))) (dss_one (ds_if (dt_cmp od_notin (dv 4) (dv 2) (by rfl)) (dss_one (ds_raise Z.x_NoWord rfl (takes_of rfl rfl rfl rfl) (hr.mono (by decide)) passL (by rfl) cx (dv 3))) dss_nil))))))), ?_⟩
    unfold sp_want_word at h; split at h
    · rename_i w l
      obtain ⟨tl, tw, h1, h2⟩ := h
      cases l with
      | non =>
        have hh := h2 (.inl rfl)
        walk_at "dd"
        cases w with
        | str z =>
          obtain ⟨hg, hb⟩ := hh
          have hzl : z.length ≤ 1000000 := tw
          walk_at "dd"
          refine fo_fzK (fun i sd => ∃ (y1_ y3_ y4_ : Option Dv), sd = [some (.str z), y1_, some (.str SG), y3_, y4_] ∧ (∀ j c', j < i → z.cps.toList[j]? = some c' → c' ∈ (SG : Str).cps.toList)) ⟨_, _, _, rfl, fun j c' hj => by omega⟩ ?_ ?_
          · rintro i d sd hd ⟨y1_, y3_, y4_, rfl, hj⟩
            obtain ⟨y, hy, rfl⟩ := enumD_get hd
            obtain ⟨c, hc, rfl⟩ := signsD_get hy
            have hc2 : z.cps.toList[i]? = some c := by rw [Array.getElem?_toList]; exact hc
            walk_at "dd"
            refine i_ifn (fun hm => ?_) (fun hm => ?_)
            · walk_at "dd"
              rw [Nat.zero_add]
              refine .here (hb i ?_)
              refine List.findIdx?_eq_some_iff_getElem.mpr ⟨(List.getElem?_eq_some_iff.mp hc2).1, ?_, fun j hji => ?_⟩
              · obtain ⟨hi, e⟩ := List.getElem?_eq_some_iff.mp hc2
                rw [e]
                simpa [knw] using hm
              · have hjl : j < z.cps.toList.length := by have := (List.getElem?_eq_some_iff.mp hc2).1; omega
                have := hj j _ hji (List.getElem?_eq_getElem hjl)
                simpa [knw] using this
            · walk_at "dd"
              refine ⟨⟨_, _, _, rfl, fun j c' q e => ?_⟩, rfl⟩
              by_cases q2 : j = i
              · subst q2
                rw [hc2] at e
                cases e
                exact hm
              · exact hj j c' (by omega) e
          · rintro sd ⟨y1_, y3_, y4_, rfl, hj⟩
            have e : (enumD 0 (signsD z)).length = z.cps.toList.length := by rw [enumD_length]; simp [signsD]
            rw [e] at hj
            refine .here (hg (List.findIdx?_eq_none_iff.mpr fun c hc => ?_))
            obtain ⟨j, hj2, rfl⟩ := List.mem_iff_getElem.mp hc
            have := hj j _ hj2 (List.getElem?_eq_getElem hj2)
            simpa [knw] using this
        | non => walk_at "dd"; exact .here hh
        | bl b => walk_at "dd"; exact .here hh
        | int b => walk_at "dd"; exact .here hh
        | lst b => walk_at "dd"; exact .here hh
        | tup b => walk_at "dd"; exact .here hh
        | _ => exact tw.elim
      | str x =>
        walk_at "dd"
        refine u_wl tl (fun hL => ?_) (fun n => .here (h1 (fun q => q.elim (fun e => by cases e) n)))
        have hh := h2 (.inr hL)
        have hxl : x.length ≤ 1000000 := tl
        walk_at "dd"
        cases w with
        | str z =>
          obtain ⟨hg, hb⟩ := hh
          have hzl : z.length ≤ 1000000 := tw
          walk_at "dd"
          refine fo_fzK (fun i sd => ∃ (y1_ y3_ y4_ : Option Dv), sd = [some (.str z), y1_, some (.str x), y3_, y4_] ∧ (∀ j c', j < i → z.cps.toList[j]? = some c' → c' ∈ (x : Str).cps.toList)) ⟨_, _, _, rfl, fun j c' hj => by omega⟩ ?_ ?_
          · rintro i d sd hd ⟨y1_, y3_, y4_, rfl, hj⟩
            obtain ⟨y, hy, rfl⟩ := enumD_get hd
            obtain ⟨c, hc, rfl⟩ := signsD_get hy
            have hc2 : z.cps.toList[i]? = some c := by rw [Array.getElem?_toList]; exact hc
            walk_at "dd"
            refine i_ifn (fun hm => ?_) (fun hm => ?_)
            · walk_at "dd"
              rw [Nat.zero_add]
              refine .here (hb i ?_)
              refine List.findIdx?_eq_some_iff_getElem.mpr ⟨(List.getElem?_eq_some_iff.mp hc2).1, ?_, fun j hji => ?_⟩
              · obtain ⟨hi, e⟩ := List.getElem?_eq_some_iff.mp hc2
                rw [e]
                simpa [knw] using hm
              · have hjl : j < z.cps.toList.length := by have := (List.getElem?_eq_some_iff.mp hc2).1; omega
                have := hj j _ hji (List.getElem?_eq_getElem hjl)
                simpa [knw] using this
            · walk_at "dd"
              refine ⟨⟨_, _, _, rfl, fun j c' q e => ?_⟩, rfl⟩
              by_cases q2 : j = i
              · subst q2
                rw [hc2] at e
                cases e
                exact hm
              · exact hj j c' (by omega) e
          · rintro sd ⟨y1_, y3_, y4_, rfl, hj⟩
            have e : (enumD 0 (signsD z)).length = z.cps.toList.length := by rw [enumD_length]; simp [signsD]
            rw [e] at hj
            refine .here (hg (List.findIdx?_eq_none_iff.mpr fun c hc => ?_))
            obtain ⟨j, hj2, rfl⟩ := List.mem_iff_getElem.mp hc
            have := hj j _ hj2 (List.getElem?_eq_getElem hj2)
            simpa [knw] using this
        | non => walk_at "dd"; exact .here hh
        | bl b => walk_at "dd"; exact .here hh
        | int b => walk_at "dd"; exact .here hh
        | lst b => walk_at "dd"; exact .here hh
        | tup b => walk_at "dd"; exact .here hh
        | _ => exact tw.elim
      | bl b =>
        walk_at "dd"
        exact u_wl tl (fun hL => hL.elim) (fun n => .here (h1 (fun q => q.elim (fun e => by cases e) n)))
      | int b =>
        walk_at "dd"
        exact u_wl tl (fun hL => hL.elim) (fun n => .here (h1 (fun q => q.elim (fun e => by cases e) n)))
      | lst b =>
        walk_at "dd"
        exact u_wl tl (fun hL => hL.elim) (fun n => .here (h1 (fun q => q.elim (fun e => by cases e) n)))
      | tup b =>
        walk_at "dd"
        exact u_wl tl (fun hL => hL.elim) (fun n => .here (h1 (fun q => q.elim (fun e => by cases e) n)))
      | _ => exact tl.elim
    · exact h.elim
/- Machine.first: slots 0 self -/
theorem ok_Machine_first (T : Tn mg) {C f : Addr} {fd : FuncData} (F : Fun K "first" "Machine.first" s_Machine_first f fd) {oA : Str → Addr} (ZC : Clz K mg oA) {cA : Str → Addr} (Z : Exs P w K mg base cA)  (nC : PySem.W.nsIn K mainGlobals "Machine" = some (some (.ref C))) (cl : Cls K C) (hM : Meth K C "first" f) : MethD P w K mg base "Machine" "first" 1 ["self"] (fun fd => Binds K fd ["self"] []) sp_Machine_first := by
  refine ⟨⟨C, f, fd, nC, cl, hM, F.binds (ps := ["self"]) (fun _ _ _ _ _ _ us hl => match us, hl with | [_], _ => rfl), okD F sc_Machine_first (fun ds M Q E h => ?_) (fun cdv A outer s H M ds Qd Ed E hr cx h => ?_)⟩⟩
  · unfold sp_Machine_first at h
    split at h <;> first | rfl | exact h.elim
  · refine ⟨_, (dss_one (ds_ret (de_fld ZC.fld (dv 0)))), ?_⟩
    unfold sp_Machine_first at h; split at h
    · obtain ⟨rfl, l, rs, f, rfl, h⟩ := h
      walk_at "dd"
      exact .here h
    · exact h.elim
/- begin_of: slots 0 machine, 1 row, 2 first -/
theorem ok_begin_of (T : Tn mg) {f : Addr} {fd : FuncData} (F : Fun K "begin_of" "begin_of" s_begin_of f fd) {oA : Str → Addr} (ZC : Clz K mg oA) {cA : Str → Addr} (Z : Exs P w K mg base cA) (G_Machine_first : MethD P w K mg base "Machine" "first" 1 ["self"] (fun fd => Binds K fd ["self"] []) sp_Machine_first) (gm : mg "begin_of" = some (.ref f)) : FnD P w K mg base "begin_of" 2 ["machine", "row"] (fun fd => Binds K fd ["machine", "row"] []) sp_begin_of := by
  refine ⟨⟨f, fd, gm, F.kp, F.binds (ps := ["machine", "row"]) (fun _ _ _ _ _ _ us hl => match us, hl with | [_, _], _ => rfl), okD F sc_begin_of (fun ds M Q E h => ?_) (fun cdv A outer s H M ds Qd Ed E hr cx h => ?_)⟩⟩
  · unfold sp_begin_of at h
    split at h <;> first | rfl | exact h.elim
  · refine ⟨_, (dss_cons (ds_set (i := 2) sc_begin_of.nd rfl (Or.inl rfl) (de_frz (de_meth0 G_Machine_first (hr.mono (by decide)) (fun _ h => ⟨[], .nil, h⟩) rdn passL ctx0 (dv 0))))
      (dss_cons (ds_if (dt_not (dt_val (de_bm PySem.F.plainAttrs_str PySem.F.slot_str_startswith PySem.F.type_str_startswith md_starts (dv 1) (da_cons (dv 2) da_nil)))) (dss_one (ds_ret de_non)) dss_nil)
      (dss_one (ds_ret (de_tup (da_cons de_int (da_cons (de_callB cd_len (by rfl) T.n_len (by decide +kernel) (da_cons (dv 2) da_nil)) da_nil))))))), ?_⟩
    unfold sp_begin_of at h; split at h
    · rename_i d y
      obtain ⟨l, rs, f, B, rfl, ok, h⟩ := h
      have fl := ok.fl
      have bb := ok.bb
      unfold begD at h
      walk_at "dd"
      cases q : Txt.startswith y f
      · rw [q] at h
        walk_at "dd"
        exact .here h
      · rw [q] at h
        walk_at "dd"
        exact .here h
    · exact h.elim
/- meets_end: slots 0 machine, 1 row, 2 pair, 3 room, 4 at -/
theorem ok_meets_end (T : Tn mg) {f : Addr} {fd : FuncData} (F : Fun K "meets_end" "meets_end" s_meets_end f fd) {oA : Str → Addr} (ZC : Clz K mg oA) {cA : Str → Addr} (Z : Exs P w K mg base cA)  (gm : mg "meets_end" = some (.ref f)) : FnD P w K mg base "meets_end" 1 ["machine", "row", "pair"] (fun fd => Binds K fd ["machine", "row", "pair"] []) sp_meets_end := by
  refine ⟨⟨f, fd, gm, F.kp, F.binds (ps := ["machine", "row", "pair"]) (fun _ _ _ _ _ _ us hl => match us, hl with | [_, _, _], _ => rfl), okD F sc_meets_end (fun ds M Q E h => ?_) (fun cdv A outer s H M ds Qd Ed E hr cx h => ?_)⟩⟩
  · unfold sp_meets_end at h
    split at h <;> first | rfl | exact h.elim
  · refine ⟨_, (dss_cons (ds_asg (dv 2) (dg_tup rfl (dgs_cons (dg_name (i := 3) sc_meets_end.nd rfl (Or.inl rfl)) (dgs_cons (dg_name (i := 4) sc_meets_end.nd rfl (Or.inl rfl)) dgs_nil))))
      (dss_one (ds_ret (de_cmp (od_eq hr.units) (de_ix (de_ix (de_fld ZC.fld (dv 0)) (dv 3)) de_int) (de_slice (dv 1) (do_some (dv 4)) do_none) (nomark _))))), ?_⟩
    unfold sp_meets_end at h; split at h
    · rename_i d y x
      obtain ⟨l, rs, f, B, p, rfl, ok, rfl, hp, hy, h⟩ := h
      have e1 : rs[p.1]? = some (rs[p.1]'hp) := List.getElem?_eq_getElem hp
      walk_at "dd"
      refine i_ixL rfl (L2.atI_nat (by rw [List.getElem?_map, e1]; rfl)) ?_
      walk_at "dd"
      rw [show decide (metP rs y p) = decide ((rs[p.1]'hp).1 = cutS y (some ((p.2 : Nat) : Int)) none) from decide_eq_decide.mpr (by unfold metP; rw [endM_eq e1])] at h
      walk_at "dd"
      exact .here h
    · exact h.elim
/- Machine.letters: slots 0 self -/
theorem ok_Machine_letters (T : Tn mg) {C f : Addr} {fd : FuncData} (F : Fun K "letters" "Machine.letters" s_Machine_letters f fd) {oA : Str → Addr} (ZC : Clz K mg oA) {cA : Str → Addr} (Z : Exs P w K mg base cA)  (nC : PySem.W.nsIn K mainGlobals "Machine" = some (some (.ref C))) (cl : Cls K C) (hM : Meth K C "letters" f) : MethD P w K mg base "Machine" "letters" 1 ["self"] (fun fd => Binds K fd ["self"] []) sp_Machine_letters := by
  refine ⟨⟨C, f, fd, nC, cl, hM, F.binds (ps := ["self"]) (fun _ _ _ _ _ _ us hl => match us, hl with | [_], _ => rfl), okD F sc_Machine_letters (fun ds M Q E h => ?_) (fun cdv A outer s H M ds Qd Ed E hr cx h => ?_)⟩⟩
  · unfold sp_Machine_letters at h
    split at h <;> first | rfl | exact h.elim
  · refine ⟨_, (dss_one (ds_ret (de_fld ZC.fld (dv 0)))), ?_⟩
    unfold sp_Machine_letters at h; split at h
    · obtain ⟨rfl, l, rs, f, rfl, h⟩ := h
      walk_at "dd"
      exact .here h
    · exact h.elim
/- pairs_from: slots 0 machine, 1 row, 2 pair, 3 room, 4 at, 5 found, 6 sign, 7 text, 8 there -/
theorem ok_pairs_from (T : Tn mg) {f : Addr} {fd : FuncData} (F : Fun K "pairs_from" "pairs_from" s_pairs_from f fd) {oA : Str → Addr} (ZC : Clz K mg oA) {cA : Str → Addr} (Z : Exs P w K mg base cA) (G_Machine_letters : MethD P w K mg base "Machine" "letters" 1 ["self"] (fun fd => Binds K fd ["self"] []) sp_Machine_letters) (gm : mg "pairs_from" = some (.ref f)) : FnD P w K mg base "pairs_from" 2 ["machine", "row", "pair"] (fun fd => Binds K fd ["machine", "row", "pair"] []) sp_pairs_from := by
  refine ⟨⟨f, fd, gm, F.kp, F.binds (ps := ["machine", "row", "pair"]) (fun _ _ _ _ _ _ us hl => match us, hl with | [_, _, _], _ => rfl), okD F sc_pairs_from (fun ds M Q E h => ?_) (fun cdv A outer s H M ds Qd Ed E hr cx h => ?_)⟩⟩
  · unfold sp_pairs_from at h
    split at h <;> first | rfl | exact h.elim
  · refine ⟨_, (dss_cons (ds_asg (dv 2) (dg_tup rfl (dgs_cons (dg_name (i := 3) sc_pairs_from.nd rfl (Or.inl rfl)) (dgs_cons (dg_name (i := 4) sc_pairs_from.nd rfl (Or.inl rfl)) dgs_nil))))
      (dss_cons (ds_set (i := 5) sc_pairs_from.nd rfl (Or.inl rfl) (de_lst da_nil))
      (dss_cons (ds_for (passes_of rfl) rfl (di_zips (by rfl) T.n_zip (da_cons (de_frz (de_meth0 G_Machine_letters (hr.mono (by decide)) (fun _ h => ⟨[], .nil, h⟩) rdn passL ctx0 (dv 0))) (da_cons (de_ix (de_ix (de_fld ZC.fld (dv 0)) (dv 3)) de_int) da_nil)) (dk_cons de_bl dk_nil)) (dg_tup rfl (dgs_cons (dg_name (i := 6) sc_pairs_from.nd rfl (Or.inl rfl)) (dgs_cons (dg_tup rfl (dgs_cons (dg_name (i := 7) sc_pairs_from.nd rfl (Or.inl rfl)) (dgs_cons (dg_name (i := 8) sc_pairs_from.nd rfl (Or.inl rfl)) dgs_nil))) dgs_nil))) (dss_one (ds_if (dt_cmp (od_eq hr.units) (de_slice (dv 1) (do_some (dv 4)) (do_some (de_op od_add (dv 4) (de_callB cd_len (by rfl) T.n_len (by decide +kernel) (da_cons (dv 7) da_nil))))) (dv 7) (nomark _)) (dss_one (ds_expr (de_bm PySem.F.plainAttrs_list PySem.F.slot_list_append PySem.F.type_list_append md_append (dv 5) (da_cons (de_tup (da_cons (dv 6) (da_cons (de_tup (da_cons (dv 8) (da_cons (de_op od_add (dv 4) (de_callB cd_len (by rfl) T.n_len (by decide +kernel) (da_cons (dv 7) da_nil))) da_nil))) da_nil))) da_nil)))) dss_nil)))
      (dss_one (ds_ret (de_frzD (dv 5))))))), ?_⟩
    unfold sp_pairs_from at h; split at h
    · rename_i d y x
      obtain ⟨l, rs, f, B, p, rfl, ok, rfl, hp, hy, h⟩ := h
      have e1 : rs[p.1]? = some (rs[p.1]'hp) := List.getElem?_eq_getElem hp
      have wl1 := (ok.rm _ (List.getElem_mem hp)).wl
      have l16 := ok.lt.2.2.1
      have bb := ok.bb
      walk_at "dd"
      rename_i q hq
      refine i_ixL rfl (L2.atI_nat (by rw [List.getElem?_map, e1]; rfl)) ?_
      walk_at "dd"
      have hll : (signsD l).length = l.length := signsD_len l
      refine ⟨by rw [hll, List.length_map, wl1], ?_⟩
      refine fo_fz (fun i sd M' => ∃ (y6_ y7_ y8_ : Option Dv), sd = [some (McO l rs f), some (.str y), some (prD p), some (.int (p.1 : Nat)), some (.int (p.2 : Nat)), some (.ref q), y6_, y7_, y8_] ∧ (M' = mup M q (.lst (((List.range i).filterMap (stpI l rs y p)).map stD)))) ⟨_, _, _, rfl, rfl⟩ ?_ ?_
      · rintro i d sd M' hd ⟨y6_, y7_, y8_, rfl, rfl⟩
        obtain ⟨x, z, hx, hz, rfl⟩ := DL.pairD_get hd
        obtain ⟨c, hc, rfl⟩ := signsD_get hx
        obtain ⟨u, hu, rfl⟩ := map_get hz
        have hil : i < l.length := by rw [← hll]; exact (List.getElem?_eq_some_iff.mp hx).1
        obtain ⟨q1, g1, g2, gi, gl, gr⟩ := wayI_ok ok hp hil
        rw [e1] at g1
        cases g1
        rw [hu] at g2
        cases g2
        have hc2 : l.cps.toList.getD i 0 = c := by
          rw [List.getD_eq_getElem?_getD, Array.getElem?_toList, hc]
          rfl
        have hfl := List.length_filterMap_le (stpI l rs y p) (List.range i)
        rw [List.length_range] at hfl
        have hfl2 : ((List.filterMap (stpI l rs y p) (List.range i)).map stD).length < 16777216 := by rw [List.length_map]; omega
        walk_at "dd"
        refine i_ifd (fun a => ?_) (fun a => ?_)
        · walk_at "dd"
          rw [mup_mup]
          refine ⟨_, _, _, rfl, ?_⟩
          rw [List.range_succ, filterMap_snoc, List.map_append, stpI_pos (show fitB y p.2 (wayI rs p.1 i).1 from a), hc2]
          rfl
        · walk_at "dd"
          refine ⟨_, _, _, rfl, ?_⟩
          rw [List.range_succ, filterMap_snoc, List.map_append, stpI_neg (show ¬ fitB y p.2 (wayI rs p.1 i).1 from a)]
          rw [show List.map stD (none : Option St).toList = [] from rfl, List.append_nil]
      · rintro sd M' ⟨y6_, y7_, y8_, rfl, rfl⟩
        have hpl : (DL.pairD (signsD l) (List.map wyD (rs[p.1]'hp).2)).length = l.length := by unfold DL.pairD; rw [List.length_zipWith, hll, List.length_map, wl1, Nat.min_self]
        rw [hpl]
        walk_at "dd"
        refine ⟨_, _, .here mup_same rfl, ?_⟩
        rw [mdl_mup hq]
        exact .here h
    · exact h.elim
/- pairs_of: slots 0 machine, 1 row, 2 begin, 3 ways, 4 order, 5 known, 6 at, 7 sign, 8 there, 9 pair -/
theorem ok_pairs_of (T : Tn mg) {f : Addr} {fd : FuncData} (F : Fun K "pairs_of" "pairs_of" s_pairs_of f fd) {oA : Str → Addr} (ZC : Clz K mg oA) {cA : Str → Addr} (Z : Exs P w K mg base cA) (G_pairs_from : FnD P w K mg base "pairs_from" 2 ["machine", "row", "pair"] (fun fd => Binds K fd ["machine", "row", "pair"] []) sp_pairs_from) (G_begin_of : FnD P w K mg base "begin_of" 2 ["machine", "row"] (fun fd => Binds K fd ["machine", "row"] []) sp_begin_of) (gm : mg "pairs_of" = some (.ref f)) : FnD P w K mg base "pairs_of" 3 ["machine", "row"] (fun fd => Binds K fd ["machine", "row"] []) (sp_pairs_of w) := by
  refine ⟨⟨f, fd, gm, F.kp, F.binds (ps := ["machine", "row"]) (fun _ _ _ _ _ _ us hl => match us, hl with | [_, _], _ => rfl), okD F sc_pairs_of (fun ds M Q E h => ?_) (fun cdv A outer s H M ds Qd Ed E hr cx h => ?_)⟩⟩
  · unfold sp_pairs_of at h
    split at h <;> first | rfl | exact h.elim
  · refine ⟨_, (dss_cons (ds_set (i := 2) sc_pairs_of.nd rfl (Or.inl rfl) (de_frz (de_callF G_begin_of (hr.mono (by decide)) (by rfl) (fun _ h => h) .nil rdn passL ctx0 (da_cons (dv 0) (da_cons (dv 1) da_nil)))))
      (dss_cons (ds_set (i := 3) sc_pairs_of.nd rfl (Or.inl rfl) (de_tnew (w := w) rfl))
      (dss_cons (ds_set (i := 4) sc_pairs_of.nd rfl (Or.inl rfl) (de_lst da_nil))
      (dss_cons (ds_if (dt_cmp od_notN (dv 2) de_non (nomark _)) (dss_one (ds_expr (de_bm PySem.F.plainAttrs_list PySem.F.slot_list_append PySem.F.type_list_append md_append (dv 4) (da_cons (dv 2) da_nil)))) dss_nil)
      (dss_cons (ds_set (i := 5) sc_pairs_of.nd rfl (Or.inl rfl) (de_callTy (cd_dictT (w := w) rfl rfl (room16 hr.units)) (by rfl) T.n_dict (by decide +kernel) (da_cons (de_frz (de_lc (g := (.nm 9)) rfl sc_pairs_of.nd (di_list (dv 4)) (blkOk_by (N := ["machine", "row", "begin", "ways", "order", "known", "at", "sign", "there", "pair"]) (own := [("pair", 9)]) (sc := defScope s_pairs_of) (by decide +kernel)) (fun _ _ _ _ _ => (pg_name (i := 9) sc_pairs_of.nd rfl (Or.inl rfl))) (fun _ _ _ _ _ => dts_nil) (fun _ _ _ _ _ => (de_tup (da_cons (dv 9) (da_cons de_bl da_nil)))))) da_nil)))
      (dss_cons (ds_set (i := 6) sc_pairs_of.nd rfl (Or.inl rfl) de_int)
      (dss_cons (ds_while (passes_of rfl) (dt_cmp od_lt (dv 6) (de_callB cd_len (by rfl) T.n_len (by decide +kernel) (da_cons (dv 4) da_nil)) (nomark _)) (dss_cons (ds_tput (w := w) rfl (room16 hr.units) (dv 3) (de_ix (dv 4) (dv 6)) (de_callF G_pairs_from (hr.mono (by decide)) (by rfl) (fun _ h => h) .nil rdn passL ctx0 (da_cons (dv 0) (da_cons (dv 1) (da_cons (de_ix (dv 4) (dv 6)) da_nil)))))
      (dss_cons (ds_for (passes_of rfl) rfl (di_list (de_tget (w := w) rfl (room16 hr.units) (dv 3) (de_ix (dv 4) (dv 6)))) (dg_tup rfl (dgs_cons (dg_name (i := 7) sc_pairs_of.nd rfl (Or.inl rfl)) (dgs_cons (dg_name (i := 8) sc_pairs_of.nd rfl (Or.inl rfl)) dgs_nil))) (dss_one (ds_if (dt_tnotin (w := w) rfl (room16 hr.units) (dv 8) (dv 5)) (dss_cons (ds_tput (w := w) rfl (room16 hr.units) (dv 5) (dv 8) de_bl)
      (dss_one (ds_expr (de_bm PySem.F.plainAttrs_list PySem.F.slot_list_append PySem.F.type_list_append md_append (dv 4) (da_cons (dv 8) da_nil))))) dss_nil)))
      (dss_one (ds_aug (i := 6) sc_pairs_of.nd rfl (Or.inl rfl) de_int xi_add)))))
      (dss_one (ds_ret (de_frzD (dv 3))))))))))), ?_⟩
    unfold sp_pairs_of at h; split at h
    · rename_i d y
      obtain ⟨l, rs, f, B, rfl, ok, hN, h⟩ := h
      have hy : y.length ≤ 1000000 := by
        unfold mostB at hN
        have := Nat.le_mul_of_pos_left (y.length + 1) ok.r1
        omega
      have nd0 := begB_nd f y
      walk_at "dd"
      refine u_begof ok ?_
      rcases begD_two f y with ⟨e1, e2⟩ | ⟨e1, e2⟩
      all_goals
        rw [e1]
        walk_at "dd"
      all_goals
        rename_i pw hpw po hpo
        have npo : pw ≠ po := fun z => by rw [← z, mup_same] at hpo; cases hpo
        walk_at "dd"
        refine lk_mapO (fun d => .tup [d, .bl true]) (by first | decide | (show 1 ≤ 16777216; decide)) mup_same (fun i d hd => ?_) ?_
        · walk_at "dd"
          exact lm_ hd rfl
        walk_at "dd"
        refine i_dictT (ps := trueD (begB f y)) (by
          rw [e2]
          first
            | rfl
            | (show some [Dv.tup [prD _, _]] = some [Dv.tup [nkD (prK _), _]]
               rw [← prD_nk])) (fun q hq => ?_) (fun pk hpk => ?_)
        · obtain ⟨n, _, rfl⟩ := List.mem_map.mp hq
          exact ⟨⟨_, rfl⟩, prN_depth _⟩
        rw [mergeP0 nd0]
        have nkw : pk ≠ pw := fun z => by rw [z] at hpk; first | (rw [mup_mup, mup_ne npo, mup_same] at hpk; cases hpk) | (rw [mup_ne npo, mup_same] at hpk; cases hpk)
        have nko : pk ≠ po := fun z => by rw [z, mup_same] at hpk; cases hpk
        have hMk : M pk = none := by
          first
            | (rw [mup_mup, mup_ne nko, mup_ne nkw] at hpk; exact hpk)
            | (rw [mup_ne nko, mup_ne nkw] at hpk; exact hpk)
        have hMo : M po = none := by rw [mup_ne (Ne.symm npo)] at hpo; exact hpo
        have hlo : ∀ A O K, (mup (mup (mup M pw A) po O) pk K) po = some O := fun A O K => by rw [mup_ne (Ne.symm nko), mup_same]
        have hlw : ∀ A O K, (mup (mup (mup M pw A) po O) pk K) pw = some A := fun A O K => by rw [mup_ne (Ne.symm nkw), mup_ne npo, mup_same]
        clear hpk hpo
        walk_at "dd"
        refine wh (fun i sd M' => ∃ (a : Nat) (y2_ y7_ y8_ y9_ : Option Dv), sd = [some (McO l rs f), some (.str y), y2_, some (.ref pw), some (.ref po), some (.ref pk), some (.int (a : Nat)), y7_, y8_, y9_] ∧ (i = mostB rs y + 1 - a ∧ M' = mup (mup (mup M pw (.dT w (kvP (fun p => .lst ((stepB l rs y p).map stD)) (((gB l rs f y a).take a).map fun e => (e.1, e.1))))) po (.lst ((gB l rs f y a).map fun e => prD e.1))) pk (.dT w (trueD (gB l rs f y a))) ∧ a ≤ (gB l rs f y a).length)) (mostB rs y + 1) ?_ ?_
        · refine ⟨0, _, _, _, _, rfl, rfl, ?_, Nat.zero_le _⟩
          rw [show gB l rs f y 0 = begB f y from rfl, e2]
          first | rfl | (rw [mup_mup]; rfl)
        · rintro m sd M' ⟨a, y2_, y7_, y8_, y9_, rfl, rfl, rfl, hal⟩
          have hfew := gB_few (y := y) ok a
          have nod := gB_nd l rs f y a
          by_cases q : a < (gB l rs f y a).length
          · obtain ⟨e, he⟩ : ∃ e, (gB l rs f y a)[a]? = some e := ⟨_, List.getElem?_eq_getElem q⟩
            have hem := List.mem_of_getElem? he
            have hok := gB_ok ok a e hem
            walk_at "dd"
            rw [List.length_map, decide_eq_true (by omega), if_pos rfl]
            walk_at "dd"
            refine i_ixL (e_seqR (hlo _ _ _)) (L2.atI_nat (by rw [List.getElem?_map, he]; rfl)) ?_
            walk_at "dd"
            refine u_prsfrom ok hok.r hy ?_
            walk_at "dd"
            refine i_ixL (e_seqR (hlo _ _ _)) (L2.atI_nat (by rw [List.getElem?_map, he]; rfl)) ?_
            refine i_kDctT (hlw _ _ _) ?_
            refine i_kKyT (prD_nk _) (prN_depth _) ?_
            have hnk : e.1 ∉ (((gB l rs f y a).take a).map fun e => (e.1, e.1)).map (·.1) := by
              rw [List.map_map]
              exact take_nin nod he
            rw [show Dv.lst ((stepB l rs y e.1).map stD) = (fun p => Dv.lst ((stepB l rs y p).map stD)) e.1 from rfl, kvP_put hnk]
            refine ⟨by rw [kvP_len, List.length_map, List.length_take]; omega, ?_⟩
            have hup : ∀ A O K A', mup (mup (mup (mup M pw A) po O) pk K) pw A' = mup (mup (mup M pw A') po O) pk K := fun A O K A' => by rw [mup_comm nkw, mup_comm (Ne.symm npo), mup_mup]
            rw [hup, take_snocE he]
            walk_at "dd"
            refine i_ixL (e_seqR (hlo _ _ _)) (L2.atI_nat (by rw [List.getElem?_map, he]; rfl)) ?_
            refine i_kDctT (hlw _ _ _) ?_
            refine i_kKyT (prD_nk _) (prN_depth _) ?_
            rw [kvE_some (g := fun p => Dv.lst ((stepB l rs y p).map stD)) (take_nd nod _) (take_mem he)]
            walk_at "dd"
            have hnl : (nxB l rs y e).length = (stepB l rs y e.1).length := List.length_map _
            have hsl := stepB_len l rs y e.1
            have hl16 := ok.lt.2.2.1
            refine fo_fz (fun i sd M' => ∃ (y2_ y7_ y8_ y9_ : Option Dv), sd = [some (McO l rs f), some (.str y), y2_, some (.ref pw), some (.ref po), some (.ref pk), some (.int (a : Nat)), y7_, y8_, y9_] ∧ (M' = mup (mup (mup M pw (.dT w (kvP (fun p => .lst ((stepB l rs y p).map stD)) (((gB l rs f y a).take (a + 1)).map fun e => (e.1, e.1))))) po (.lst ((addWs (gB l rs f y a) ((nxB l rs y e).take i)).map fun e => prD e.1))) pk (.dT w (trueD (addWs (gB l rs f y a) ((nxB l rs y e).take i)))))) ⟨_, _, _, _, rfl, rfl⟩ ?_ ?_
            · rintro i d sd M' hd ⟨y2_, y7_, y8_, y9_, rfl, rfl⟩
              obtain ⟨s, hs, rfl⟩ := map_get hd
              have hx : (nxB l rs y e)[i]? = some (s.2, e.2 ++ sgn s.1) := by
                unfold nxB
                rw [List.getElem?_map, hs]
                rfl
              have hi := (List.getElem?_eq_some_iff.mp hs).1
              have nda := addWs_nd ((nxB l rs y e).take i) _ nod
              have hacl : (addWs (gB l rs f y a) ((nxB l rs y e).take i)).length ≤ mostB rs y + 16 := by
                have := addWs_len ((nxB l rs y e).take i) (gB l rs f y a)
                rw [List.length_take] at this
                omega
              rw [take_snoc hx, addWs_snoc]
              unfold addW
              generalize addWs (gB l rs f y a) ((nxB l rs y e).take i) = acc at *
              walk_at "dd"
              refine i_kDctT (by rw [mup_same]) ?_
              refine i_kKyT (prD_nk _) (prN_depth _) ?_
              rw [show NestedKey.tup (prN s.2) = prK s.2 from rfl, kvP_isSome nda]
              by_cases hm : s.2 ∈ acc.map (·.1)
              · rw [decide_eq_true hm, if_pos hm]
                walk_at "dd"
                exact ⟨_, _, _, _, rfl, rfl⟩
              · rw [decide_eq_false hm, if_neg hm]
                have hup2 : ∀ A O K O', mup (mup (mup (mup M pw A) po O) pk K) po O' = mup (mup (mup M pw A) po O') pk K := fun A O K O' => by rw [mup_comm nko, mup_mup]
                have hkl : (trueD acc).length = acc.length := kvP_len
                have hml : (acc.map fun e => prD e.1).length = acc.length := List.length_map _
                walk_at "dd"
                refine i_kDctT (by rw [mup_same]) ?_
                refine i_kKyT (prD_nk _) (prN_depth _) ?_
                refine ⟨by omega, ?_⟩
                rw [mup_mup, show putT (trueD acc) (.tup (prN s.2)) (.bl true) = trueD (acc ++ [(s.2, e.2 ++ sgn s.1)]) from kvP_put hm]
                walk_at "dd"
                rw [hup2]
                refine ⟨_, _, _, _, rfl, ?_⟩
                rw [List.map_append]
                rfl
            · rintro sd M' ⟨y2_, y7_, y8_, y9_, rfl, rfl⟩
              rw [List.length_map, ← hnl, List.take_length, ← gW_some (nxB l rs y) (begB f y) he]
              walk_at "dd"
              obtain ⟨t, ht⟩ := gW_pre (nxB l rs y) (begB f y) a
              have ht : gB l rs f y a ++ t = gB l rs f y (a + 1) := ht
              refine ⟨mostB rs y + 1 - (a + 1), by omega, ⟨a + 1, _, _, _, _, rfl, rfl, ?_, ?_⟩⟩
              · rw [show (gB l rs f y a).take (a + 1) = (gB l rs f y (a + 1)).take (a + 1) by rw [← ht, List.take_append_of_le_length (by omega)]]
              · rw [← ht, List.length_append]
                omega
          · walk_at "dd"
            rw [List.length_map, decide_eq_false (by omega), if_neg Bool.false_ne_true]
            walk_at "dd"
            refine ⟨_, _, .here (hlw _ _ _) rfl, ?_⟩
            have e : gB l rs f y a = ordB l rs f y := gB_end ok (by omega)
            rw [List.take_of_length_le (by omega), e]
            exact ⟨M, sub_mdl (sub_set (sub_set (Sub.new hpw) hMo) hMk) hpw, h⟩
    · exact h.elim
/- backs_of: slots 0 ways, 1 backs, 2 pair, 3 sign, 4 there -/
theorem ok_backs_of (T : Tn mg) {f : Addr} {fd : FuncData} (F : Fun K "backs_of" "backs_of" s_backs_of f fd) {oA : Str → Addr} (ZC : Clz K mg oA) {cA : Str → Addr} (Z : Exs P w K mg base cA)  (gm : mg "backs_of" = some (.ref f)) : FnD P w K mg base "backs_of" 1 ["ways"] (fun fd => Binds K fd ["ways"] []) (sp_backs_of w) := by
  refine ⟨⟨f, fd, gm, F.kp, F.binds (ps := ["ways"]) (fun _ _ _ _ _ _ us hl => match us, hl with | [_], _ => rfl), okD F sc_backs_of (fun ds M Q E h => ?_) (fun cdv A outer s H M ds Qd Ed E hr cx h => ?_)⟩⟩
  · unfold sp_backs_of at h
    split at h <;> first | rfl | exact h.elim
  · refine ⟨_, (dss_cons (ds_set (i := 1) sc_backs_of.nd rfl (Or.inl rfl) (de_callTy (cd_dictT (w := w) rfl rfl (room16 hr.units)) (by rfl) T.n_dict (by decide +kernel) (da_cons (de_frz (de_lc (g := (.nm 2)) rfl sc_backs_of.nd (di_keysN (w := w) (dv 0)) (blkOk_by (N := ["ways", "backs", "pair", "sign", "there"]) (own := [("pair", 2)]) (sc := defScope s_backs_of) (by decide +kernel)) (fun _ _ _ _ _ => (pg_name (i := 2) sc_backs_of.nd rfl (Or.inl rfl))) (fun _ _ _ _ _ => dts_nil) (fun _ _ _ _ _ => (de_tup (da_cons (dv 2) (da_cons (de_lst da_nil) da_nil)))))) da_nil)))
      (dss_cons (ds_for (passes_of rfl) rfl (di_keysN (w := w) (dv 0)) (dg_name (i := 2) sc_backs_of.nd rfl (Or.inl rfl)) (dss_one (ds_for (passes_of rfl) rfl (di_list (de_tget (w := w) rfl (room16 hr.units) (dv 0) (dv 2))) (dg_tup rfl (dgs_cons (dg_name (i := 3) sc_backs_of.nd rfl (Or.inl rfl)) (dgs_cons (dg_name (i := 4) sc_backs_of.nd rfl (Or.inl rfl)) dgs_nil))) (dss_one (ds_expr (de_bm PySem.F.plainAttrs_list PySem.F.slot_list_append PySem.F.type_list_append md_append (de_tget (w := w) rfl (room16 hr.units) (dv 1) (dv 4)) (da_cons (de_tup (da_cons (dv 3) (da_cons (dv 2) da_nil))) da_nil)))))))
      (dss_one (ds_ret (de_frzD (dv 1)))))), ?_⟩
    unfold sp_backs_of at h; split at h
    · rename_i d
      obtain ⟨l, rs, f, y, B, rfl, ok, hN, h⟩ := h
      have nd0 := gB_nd l rs f y (mostB rs y)
      have hol := ordB_len (f := f) (y := y) ok
      walk_at "dd"
      rw [kv_keysE]
      refine lk_fz (fun i acc M' => ∃ zs : List (Pr × Addr), acc = zs.map (fun z => Dv.tup [prD z.1, .ref z.2]) ∧ zs.map (·.1) = ((ordB l rs f y).take i).map (·.1) ∧ Bkl M M' zs fun _ => []) (by rw [List.length_map]; omega) ⟨[], rfl, rfl, .nil _ _⟩ ?_ ?_
      · rintro i d acc M' hd ha ⟨zs, rfl, hzs, b⟩
        obtain ⟨e, he, rfl⟩ := map_get hd
        walk_at "dd"
        rename_i q hq
        refine ⟨zs ++ [(e.1, q)], by rw [List.map_append]; rfl, ?_, b.add hq e.1⟩
        rw [take_snoc he, List.map_append, List.map_append, hzs]
        rfl
      · rintro acc M1 hacc ⟨zs, rfl, hzs, b⟩
        rw [List.length_map, List.take_length] at hzs
        have hzn : (zs.map (·.1)).Nodup := by rw [hzs]; exact nd0
        walk_at "dd"
        refine i_dictT (ps := kvP Dv.ref zs) (congrArg some (kv_ref zs)) (fun q hq => ?_) (fun pb hpb => ?_)
        · obtain ⟨n, _, rfl⟩ := List.mem_map.mp hq
          exact ⟨⟨_, rfl⟩, prN_depth _⟩
        rw [mergeP0 hzn]
        obtain ⟨hpz, hpM⟩ := b.none hpb
        walk_at "dd"
        rw [kv_keysE]
        have hzl : zs.length = (ordB l rs f y).length := by
          have := congrArg List.length hzs
          rw [List.length_map, List.length_map] at this
          exact this
        refine fo_fz (fun i sd M' => ∃ (M2 : Mo) (y2_ y3_ y4_ : Option Dv), sd = [some (.dctT w (waysD l rs f y)), some (.ref pb), y2_, y3_, y4_] ∧ (M' = mup M2 pb (.dT w (kvP Dv.ref zs)) ∧ Bkl M M2 zs fun p => (backP l rs y ((ordB l rs f y).take i) p).map stD)) ⟨M1, _, _, _, rfl, rfl, b⟩ ?_ ?_
        · rintro j d sd M' hd ⟨M2, y2_, y3_, y4_, rfl, rfl, b⟩
          obtain ⟨e, he, rfl⟩ := map_get hd
          have hem := List.mem_of_getElem? he
          walk_at "dd"
          refine i_kKyT (prD_nk _) (prN_depth _) ?_
          rw [kvE_some (xs := ordB l rs f y) (g := fun p => Dv.lst ((stepB l rs y p).map stD)) nd0 hem]
          walk_at "dd"
          have hsl := stepB_len l rs y e.1
          have hl16 := ok.lt.2.2.1
          refine fo_fz (fun i sd M' => ∃ (M2 : Mo) (y3_ y4_ : Option Dv), sd = [some (.dctT w (waysD l rs f y)), some (.ref pb), some (prD e.1), y3_, y4_] ∧ (M' = mup M2 pb (.dT w (kvP Dv.ref zs)) ∧ Bkl M M2 zs fun p => (backP l rs y ((ordB l rs f y).take j) p ++ ((stepB l rs y e.1).take i).filterMap (stB p e.1)).map stD)) ⟨_, _, _, rfl, rfl, ?_⟩ ?_ ?_
          · refine b.cong fun p => ?_
            rw [List.take_zero, List.filterMap_nil, List.append_nil]
          · rintro i d sd M' hd ⟨M2, y3_, y4_, rfl, rfl, b⟩
            obtain ⟨s, hs, rfl⟩ := map_get hd
            have hcl := ordB_closed ok hem (List.mem_of_getElem? hs)
            have hlp := backP_len (f := f) (y := y) ok j s.2
            obtain ⟨z, hz, hze⟩ := List.mem_map.mp (show s.2 ∈ zs.map (·.1) by rw [hzs]; exact hcl)
            have hzp : z.2 ≠ pb := fun q => hpz (by rw [← q]; exact List.mem_map.mpr ⟨z, hz, rfl⟩)
            walk_at "dd"
            refine i_kDctT mup_same ?_
            refine i_kKyT (prD_nk _) (prN_depth _) ?_
            rw [← hze, show NestedKey.tup (prN z.1) = prK z.1 from rfl, kvP_some hzn hz]
            have hlk : (mup M2 pb (.dT w (kvP Dv.ref zs))) z.2 = some (.lst ((backP l rs y ((ordB l rs f y).take j) z.1 ++ ((stepB l rs y e.1).take i).filterMap (stB z.1 e.1)).map stD)) := by
              rw [mup_ne hzp]
              exact b.at_ z hz
            have hll : ((backP l rs y ((ordB l rs f y).take j) z.1 ++ ((stepB l rs y e.1).take i).filterMap (stB z.1 e.1)).map stD).length < 16777216 := by
              have h1 := List.length_filterMap_le (stB z.1 e.1) ((stepB l rs y e.1).take i)
              rw [List.length_take] at h1
              rw [List.length_map, List.length_append]
              rw [← hze] at hlp
              omega
            walk_at "dd"
            rw [mup_comm (Ne.symm hzp)]
            refine ⟨_, _, _, rfl, rfl, b.app hzn hz (d := stD (s.1, e.1)) ?_ fun p hp => ?_⟩
            · rw [take_snoc hs, filterMap_snoc, show stB z.1 e.1 s = some (s.1, e.1) from if_pos hze.symm, ← List.append_assoc, List.map_append]
              rfl
            · rw [take_snoc hs, filterMap_snoc, show stB p e.1 s = none from if_neg fun q => hp (by rw [hze, q])]
              exact congrArg (fun x => List.map stD (_ ++ x)) (List.append_nil _)
          · rintro sd M' ⟨M2, y3_, y4_, rfl, rfl, b⟩
            walk_at "dd"
            refine ⟨_, _, _, _, rfl, rfl, b.cong fun p => ?_⟩
            rw [take_snoc he, backP_snoc, List.length_map, List.take_length]
        · rintro sd M' ⟨M2, y2_, y3_, y4_, rfl, rfl, b⟩
          walk_at "dd"
          have hg := gfd_all (w := w) hpM zs [] _ b hpz
          refine ⟨M, _, hg, ?_⟩
          rw [List.nil_append, show kvL (fun p => (backP l rs y ((ordB l rs f y).take ((ordB l rs f y).map fun e => prD e.1).length) p).map stD) zs = backD l rs f y by
            rw [List.length_map, List.take_length]
            unfold backD kvP kvL
            rw [List.map_map]
            have : zs.map (fun z => (prK z.1, Dv.lst ((backP l rs y (ordB l rs f y) z.1).map stD))) = (zs.map (·.1)).map fun p => (prK p, Dv.lst ((backP l rs y (ordB l rs f y) p).map stD)) := by
              rw [List.map_map]
              rfl
            rw [this, hzs, List.map_map]
            rfl]
          exact .here h
    · exact h.elim
/- able_of: slots 0 backs, 1 met, 2 able, 3 order, 4 at, 5 sign, 6 pair -/
theorem ok_able_of (T : Tn mg) {f : Addr} {fd : FuncData} (F : Fun K "able_of" "able_of" s_able_of f fd) {oA : Str → Addr} (ZC : Clz K mg oA) {cA : Str → Addr} (Z : Exs P w K mg base cA)  (gm : mg "able_of" = some (.ref f)) : FnD P w K mg base "able_of" 1 ["backs", "met"] (fun fd => Binds K fd ["backs", "met"] []) (sp_able_of w) := by
  refine ⟨⟨f, fd, gm, F.kp, F.binds (ps := ["backs", "met"]) (fun _ _ _ _ _ _ us hl => match us, hl with | [_, _], _ => rfl), okD F sc_able_of (fun ds M Q E h => ?_) (fun cdv A outer s H M ds Qd Ed E hr cx h => ?_)⟩⟩
  · unfold sp_able_of at h
    split at h <;> first | rfl | exact h.elim
  · refine ⟨_, (dss_cons (ds_set (i := 2) sc_able_of.nd rfl (Or.inl rfl) (de_callTy (cd_dictT (w := w) rfl rfl (room16 hr.units)) (by rfl) T.n_dict (by decide +kernel) (da_cons (de_frz (de_lc (g := (.nm 6)) rfl sc_able_of.nd (di_keysN (w := w) (dv 1)) (blkOk_by (N := ["backs", "met", "able", "order", "at", "sign", "pair"]) (own := [("pair", 6)]) (sc := defScope s_able_of) (by decide +kernel)) (fun _ _ _ _ _ => (pg_name (i := 6) sc_able_of.nd rfl (Or.inl rfl))) (fun _ _ _ _ _ => dts_nil) (fun _ _ _ _ _ => (de_tup (da_cons (dv 6) (da_cons de_str da_nil)))))) da_nil)))
      (dss_cons (ds_set (i := 3) sc_able_of.nd rfl (Or.inl rfl) (de_callTy (cd_listT (w := w) rfl rfl) (by rfl) T.n_list (by decide +kernel) (da_cons (dv 1) da_nil)))
      (dss_cons (ds_set (i := 4) sc_able_of.nd rfl (Or.inl rfl) de_int)
      (dss_cons (ds_while (passes_of rfl) (dt_cmp od_lt (dv 4) (de_callB cd_len (by rfl) T.n_len (by decide +kernel) (da_cons (dv 3) da_nil)) (nomark _)) (dss_cons (ds_for (passes_of rfl) rfl (di_list (de_tget (w := w) rfl (room16 hr.units) (dv 0) (de_ix (dv 3) (dv 4)))) (dg_tup rfl (dgs_cons (dg_name (i := 5) sc_able_of.nd rfl (Or.inl rfl)) (dgs_cons (dg_name (i := 6) sc_able_of.nd rfl (Or.inl rfl)) dgs_nil))) (dss_one (ds_if (dt_tnotin (w := w) rfl (room16 hr.units) (dv 6) (dv 2)) (dss_cons (ds_tput (w := w) rfl (room16 hr.units) (dv 2) (dv 6) (de_op od_add (dv 5) (de_tget (w := w) rfl (room16 hr.units) (dv 2) (de_ix (dv 3) (dv 4)))))
      (dss_one (ds_expr (de_bm PySem.F.plainAttrs_list PySem.F.slot_list_append PySem.F.type_list_append md_append (dv 3) (da_cons (dv 6) da_nil))))) dss_nil)))
      (dss_one (ds_aug (i := 4) sc_able_of.nd rfl (Or.inl rfl) de_int xi_add))))
      (dss_one (ds_ret (de_frzD (dv 2)))))))), ?_⟩
    unfold sp_able_of at h; split at h
    · rename_i d e
      obtain ⟨l, rs, f, y, B, rfl, rfl, ok, hN, h⟩ := h
      have nd0 := metB_nd l rs f y
      have hml : (metB l rs f y).length ≤ mostB rs y := by
        have := gA_few (y := y) ok 0
        rw [show (gA l rs f y 0).length = (metB l rs f y).length from List.length_map _] at this
        exact this
      walk_at "dd"
      rw [kv_keys]
      refine lk_mapO (fun d => .tup [d, .str ""]) (by rw [List.length_map]; omega) trivial (fun i d hd => ?_) ?_
      · walk_at "dd"
        exact lm_ hd rfl
      walk_at "dd"
      refine i_dictT (ps := textD ((metB l rs f y).map fun e => (e.1, ("" : Str)))) (congrArg some (kv_text _)) (fun q hq => ?_) (fun pa hpa => ?_)
      · obtain ⟨n, _, rfl⟩ := List.mem_map.mp hq
        exact ⟨⟨_, rfl⟩, prN_depth _⟩
      rw [mergeP0 (by rw [List.map_map]; exact nd0)]
      walk_at "dd"
      rename_i po hpo
      have npo : pa ≠ po := fun z => by rw [← z, mup_same] at hpo; cases hpo
      have hMo : M po = none := by rw [mup_ne (Ne.symm npo)] at hpo; exact hpo
      have hlo : ∀ A O, (mup (mup M pa A) po O) po = some O := fun A O => by rw [mup_same]
      have hla : ∀ A O, (mup (mup M pa A) po O) pa = some A := fun A O => by rw [mup_ne npo, mup_same]
      clear hpo
      refine wh (fun i sd M' => ∃ (a : Nat) (y1_ y5_ y6_ : Option Dv), sd = [some (.dctT w (backD l rs f y)), y1_, some (.ref pa), some (.ref po), some (.int (a : Nat)), y5_, y6_] ∧ (i = mostB rs y + 1 - a ∧ M' = mup (mup M pa (.dT w (textD (gA l rs f y a)))) po (.lst ((gA l rs f y a).map fun e => prD e.1)) ∧ a ≤ (gA l rs f y a).length)) (mostB rs y + 1) ?_ ?_
      · refine ⟨0, _, _, _, rfl, rfl, ?_, Nat.zero_le _⟩
        rw [show gA l rs f y 0 = (metB l rs f y).map fun e => (e.1, ("" : Str)) from rfl, kv_keys, List.map_map]
        rfl
      · rintro m sd M' ⟨a, y1_, y5_, y6_, rfl, rfl, rfl, hal⟩
        have hfew := gA_few (y := y) ok a
        have hfew2 := gA_few (y := y) ok (a + 1)
        have nod := gA_nd l rs f y a
        by_cases q : a < (gA l rs f y a).length
        · obtain ⟨e, he⟩ : ∃ e, (gA l rs f y a)[a]? = some e := ⟨_, List.getElem?_eq_getElem q⟩
          have hem := List.mem_of_getElem? he
          have hew := gA_wl l rs f y a e hem
          obtain ⟨x, hx, hxe⟩ := List.mem_map.mp (gA_in l rs f y a e hem)
          have hbl := backB_len (f := f) (y := y) ok e.1
          walk_at "dd"
          rw [List.length_map, decide_eq_true (by omega), if_pos rfl]
          walk_at "dd"
          refine i_ixL (e_seqR (hlo _ _)) (L2.atI_nat (by rw [List.getElem?_map, he]; rfl)) ?_
          walk_at "dd"
          refine i_kKyT (prD_nk _) (prN_depth _) ?_
          rw [← hxe, kvE_some (xs := ordB l rs f y) (g := fun p => Dv.lst ((backB l rs f y p).map stD)) (gB_nd l rs f y _) hx, hxe]
          walk_at "dd"
          have hnl : (nxA l rs f y e).length = (backB l rs f y e.1).length := List.length_map _
          refine fo_fz (fun i sd M' => ∃ (y1_ y5_ y6_ : Option Dv), sd = [some (.dctT w (backD l rs f y)), y1_, some (.ref pa), some (.ref po), some (.int (a : Nat)), y5_, y6_] ∧ (M' = mup (mup M pa (.dT w (textD (addWs (gA l rs f y a) ((nxA l rs f y e).take i))))) po (.lst ((addWs (gA l rs f y a) ((nxA l rs f y e).take i)).map fun e => prD e.1)))) ⟨_, _, _, rfl, rfl⟩ ?_ ?_
          · rintro i d sd M' hd ⟨y1_, y5_, y6_, rfl, rfl⟩
            obtain ⟨s, hs, rfl⟩ := map_get hd
            have hx : (nxA l rs f y e)[i]? = some (s.2, sgn s.1 ++ e.2) := by
              unfold nxA
              rw [List.getElem?_map, hs]
              rfl
            have hi := (List.getElem?_eq_some_iff.mp hs).1
            have nda := addWs_nd ((nxA l rs f y e).take i) _ nod
            have hacl : (addWs (gA l rs f y a) ((nxA l rs f y e).take i)).length ≤ mostB rs y := by
              have := (addWs_take (gA l rs f y a) (nxA l rs f y e) i).length_le
              rw [← gW_some (nxA l rs f y) _ he] at this
              exact Nat.le_trans this hfew2
            have hea : (addWs (gA l rs f y a) ((nxA l rs f y e).take i))[a]? = some e := preW (addWs_pre _ _) he
            rw [take_snoc hx, addWs_snoc]
            unfold addW
            generalize addWs (gA l rs f y a) ((nxA l rs f y e).take i) = acc at *
            have hup : ∀ A O A', mup (mup (mup M pa A) po O) pa A' = mup (mup M pa A') po O := fun A O A' => by rw [mup_comm (Ne.symm npo), mup_mup]
            walk_at "dd"
            refine i_kDctT (hla _ _) ?_
            refine i_kKyT (prD_nk _) (prN_depth _) ?_
            rw [show NestedKey.tup (prN s.2) = prK s.2 from rfl, kvP_isSome nda]
            by_cases hm : s.2 ∈ acc.map (·.1)
            · rw [decide_eq_true hm, if_pos hm]
              walk_at "dd"
              exact ⟨_, _, _, rfl, rfl⟩
            · rw [decide_eq_false hm, if_neg hm]
              have hkl : (textD acc).length = acc.length := kvP_len
              have hml : (acc.map fun e => prD e.1).length = acc.length := List.length_map _
              walk_at "dd"
              refine i_ixL (e_seqR (hlo _ _)) (L2.atI_nat (by rw [List.getElem?_map, hea]; rfl)) ?_
              refine i_kDctT (hla _ _) ?_
              refine i_kKyT (prD_nk _) (prN_depth _) ?_
              rw [show NestedKey.tup (prN e.1) = prK e.1 from rfl, kvP_some nda (List.mem_of_getElem? hea)]
              have hsg : (sgn s.1).length = 1 := rfl
              walk_at "dd"
              refine i_kDctT (hla _ _) ?_
              refine i_kKyT (prD_nk _) (prN_depth _) ?_
              refine ⟨by omega, ?_⟩
              rw [hup, show putT (textD acc) (.tup (prN s.2)) (.str (sgn s.1 ++ e.2)) = textD (acc ++ [(s.2, sgn s.1 ++ e.2)]) from kvP_put hm]
              walk_at "dd"
              rw [mup_mup]
              refine ⟨_, _, _, rfl, ?_⟩
              rw [List.map_append]
              rfl
          · rintro sd M' ⟨y1_, y5_, y6_, rfl, rfl⟩
            rw [List.length_map, ← hnl, List.take_length, ← gW_some (nxA l rs f y) _ he]
            walk_at "dd"
            obtain ⟨t, ht⟩ := gW_pre (nxA l rs f y) ((metB l rs f y).map fun e => (e.1, ("" : Str))) a
            have ht : gA l rs f y a ++ t = gA l rs f y (a + 1) := ht
            refine ⟨mostB rs y + 1 - (a + 1), by omega, ⟨a + 1, _, _, _, rfl, rfl, rfl, ?_⟩⟩
            rw [← ht, List.length_append]
            omega
        · walk_at "dd"
          rw [List.length_map, decide_eq_false (by omega), if_neg Bool.false_ne_true]
          walk_at "dd"
          refine ⟨_, _, .here (hla _ _) rfl, ?_⟩
          have e : gA l rs f y a = ableB l rs f y := gA_end ok (by omega)
          rw [e]
          exact ⟨M, sub_mdl (sub_set (Sub.new hpa) hMo) hpa, h⟩
    · exact h.elim
/- Back.__init__: slots 0 self, 1 machine, 2 row, 3 pair -/
theorem ok_Back___init__ (T : Tn mg) {C f : Addr} {fd : FuncData} (F : Fun K "__init__" "Back.__init__" s_Back___init__ f fd) {oA : Str → Addr} (ZC : Clz K mg oA) {cA : Str → Addr} (Z : Exs P w K mg base cA) (G_able_of : FnD P w K mg base "able_of" 1 ["backs", "met"] (fun fd => Binds K fd ["backs", "met"] []) (sp_able_of w)) (G_backs_of : FnD P w K mg base "backs_of" 1 ["ways"] (fun fd => Binds K fd ["ways"] []) (sp_backs_of w)) (G_meets_end : FnD P w K mg base "meets_end" 1 ["machine", "row", "pair"] (fun fd => Binds K fd ["machine", "row", "pair"] []) sp_meets_end) (G_begin_of : FnD P w K mg base "begin_of" 2 ["machine", "row"] (fun fd => Binds K fd ["machine", "row"] []) sp_begin_of) (G_pairs_of : FnD P w K mg base "pairs_of" 3 ["machine", "row"] (fun fd => Binds K fd ["machine", "row"] []) (sp_pairs_of w)) (G_want_word : FnD P w K mg base "want_word" 4 ["word", "letters"] (fun fd => (∃ us, Vals [V.non] us ∧ Binds K fd ["word", "letters"] us) ∧ True) sp_want_word) (nC : PySem.W.nsIn K mainGlobals "Back" = some (some (.ref C))) (gC : mg "Back" = some (.ref C)) (mk : Mk K C f) : MakeD P w K mg base "Back" 5 ["self", "machine", "row"] (fun fd => Binds K fd ["self", "machine", "row"] []) (sp_Back___init__ w) := by
  refine ⟨⟨C, f, fd, nC, gC, mk, F.binds (ps := ["self", "machine", "row"]) (fun _ _ _ _ _ _ us hl => match us, hl with | [_, _, _], _ => rfl), okD F sc_Back___init__ (fun ds M Q E h => ?_) (fun cdv A outer s H M ds Qd Ed E hr cx h => ?_)⟩⟩
  · unfold sp_Back___init__ at h
    split at h <;> first | rfl | exact h.elim
  · refine ⟨_, (dss_cons (ds_expr (de_callG (ddvs := [Dv.non]) G_want_word (hr.mono (by decide)) (by rfl) (fun _ h => h.1) (fun _ => (.cons (by unfold RD; rfl) .nil)) (passB (takes_of rfl rfl rfl rfl)) cx (da_cons (dv 2) da_nil)))
      (dss_cons (ds_fld ZC.fld (dv 0) (de_callF G_pairs_of (hr.mono (by decide)) (by rfl) (fun _ h => h) .nil rdn passL ctx0 (da_cons (dv 1) (da_cons (dv 2) da_nil))))
      (dss_cons (ds_fld ZC.fld (dv 0) (de_frz (de_callF G_begin_of (hr.mono (by decide)) (by rfl) (fun _ h => h) .nil rdn passL ctx0 (da_cons (dv 1) (da_cons (dv 2) da_nil)))))
      (dss_cons (ds_fld ZC.fld (dv 0) (de_frz (de_callTy (cd_dictT (w := w) rfl rfl (room16 hr.units)) (by rfl) T.n_dict (by decide +kernel) (da_cons (de_frz (de_lc (g := (.nm 3)) rfl sc_Back___init__.nd (di_keysN (w := w) (de_fld ZC.fld (dv 0))) (blkOk_by (N := ["self", "machine", "row", "pair"]) (own := [("pair", 3)]) (sc := defScope s_Back___init__) (by decide +kernel)) (fun _ _ _ _ _ => (pg_name (i := 3) sc_Back___init__.nd rfl (Or.inl rfl))) (fun _ _ _ _ _ => (dts_one (dt_val (de_callF G_meets_end (hr.mono (by decide)) (by rfl) (fun _ h => h) .nil rdn passL ctx0 (da_cons (dv 1) (da_cons (dv 2) (da_cons (dv 3) da_nil))))))) (fun _ _ _ _ _ => (de_tup (da_cons (dv 3) (da_cons de_bl da_nil)))))) da_nil))))
      (dss_cons (ds_fld ZC.fld (dv 0) (de_callF G_backs_of (hr.mono (by decide)) (by rfl) (fun _ h => h) .nil rdn passL ctx0 (da_cons (de_fld ZC.fld (dv 0)) da_nil)))
      (dss_one (ds_fld ZC.fld (dv 0) (de_callF G_able_of (hr.mono (by decide)) (by rfl) (fun _ h => h) .nil rdn passL ctx0 (da_cons (de_fld ZC.fld (dv 0)) (da_cons (de_fld ZC.fld (dv 0)) da_nil)))))))))), ?_⟩
    unfold sp_Back___init__ at h; split at h
    · rename_i p d x
      obtain ⟨hM, l, rs, f, B, rfl, ok, h⟩ := h
      walk_at "dd"
      rcases h with ⟨y, rfl, hy, hyl, hN, h⟩ | ⟨v, ht, hv, h⟩
      rotate_left
      · exact u_wwN ht hv (.here h)
      have nd0 := gB_nd l rs f y (mostB rs y)
      have hol := ordB_len (f := f) (y := y) ok
      refine u_wwS hyl hy ?_
      walk_at "dd"
      refine u_prsof ok hN ?_
      walk_at "dd"
      refine u_begof ok ?_
      walk_at "dd"
      refine kFz_no (begD_no f y) ?_
      walk_at "dd"
      rw [kv_keysE]
      refine lk_fz (fun i acc M' => M' = mup M p (.ins "Back" [("ways", .dctT w (waysD l rs f y)), ("begin", begD f y)]) ∧ acc = (((ordB l rs f y).take i).filter fun e => decide (metP rs y e.1)).map fun e => Dv.tup [prD e.1, .bl true]) (by rw [List.length_map]; omega) ⟨by first | rfl | (rw [mup_mup]), rfl⟩ ?_ ?_
      · rintro i d acc M' hd ha ⟨rfl, rfl⟩
        obtain ⟨e, he, rfl⟩ := map_get hd
        have hr := (ordB_ok ok e (List.mem_of_getElem? he)).r
        walk_at "dd"
        refine u_meets ok hr hyl ?_
        by_cases hm : metP rs y e.1
        · rw [decide_eq_true hm]
          walk_at "dd"
          rw [take_snoc he, List.filter_append, List.map_append, show List.filter (fun e : Pr × Str => decide (metP rs y e.1)) [e] = [e] from List.filter_cons_of_pos (p := fun e : Pr × Str => decide (metP rs y e.1)) (decide_eq_true hm)]
          rfl
        · rw [decide_eq_false hm]
          walk_at "dd"
          rw [take_snoc he, List.filter_append, List.map_append, show List.filter (fun e : Pr × Str => decide (metP rs y e.1)) [e] = [] from List.filter_cons_of_neg (p := fun e : Pr × Str => decide (metP rs y e.1)) (by rw [decide_eq_false hm]; exact Bool.false_ne_true)]
          exact (List.append_nil _).symm
      · rintro acc M' hacc ⟨rfl, rfl⟩
        rw [List.length_map, List.take_length]
        walk_at "dd"
        refine i_dictT (ps := trueD (metB l rs f y)) (congrArg some (kv_trueE (metB l rs f y))) (fun q hq => ?_) (fun pm hpm => ?_)
        · obtain ⟨n, _, rfl⟩ := List.mem_map.mp hq
          exact ⟨⟨_, rfl⟩, prN_depth _⟩
        rw [mergeP0 (metB_nd l rs f y)]
        refine i_fzNew hpm rfl ?_
        walk_at "dd"
        refine u_bcksof ok hN ?_
        walk_at "dd"
        refine u_ableof ok hN ?_
        walk_at "dd"
        rw [mup_mup, mup_mup, mup_mup]
        exact .here h
    · exact h.elim
/- Machine.__len__: slots 0 self -/
theorem ok_Machine___len__ (T : Tn mg) {C f : Addr} {fd : FuncData} (F : Fun K "__len__" "Machine.__len__" s_Machine___len__ f fd) {oA : Str → Addr} (ZC : Clz K mg oA) {cA : Str → Addr} (Z : Exs P w K mg base cA)  (nC : PySem.W.nsIn K mainGlobals "Machine" = some (some (.ref C))) (cl : Cls K C) (hM : Meth K C "__len__" f) : MethD P w K mg base "Machine" "__len__" 1 ["self"] (fun fd => Binds K fd ["self"] []) sp_Machine___len__ := by
  refine ⟨⟨C, f, fd, nC, cl, hM, F.binds (ps := ["self"]) (fun _ _ _ _ _ _ us hl => match us, hl with | [_], _ => rfl), okD F sc_Machine___len__ (fun ds M Q E h => ?_) (fun cdv A outer s H M ds Qd Ed E hr cx h => ?_)⟩⟩
  · unfold sp_Machine___len__ at h
    split at h <;> first | rfl | exact h.elim
  · refine ⟨_, (dss_one (ds_ret (de_callB cd_len (by rfl) T.n_len (by decide +kernel) (da_cons (de_fld ZC.fld (dv 0)) da_nil)))), ?_⟩
    unfold sp_Machine___len__ at h; split at h
    · obtain ⟨rfl, l, rs, f, rfl, h⟩ := h
      walk_at "dd"
      exact .here h
    · exact h.elim
/- is_pair_of: slots 0 machine, 1 row, 2 thing -/
theorem ok_is_pair_of (T : Tn mg) {f : Addr} {fd : FuncData} (F : Fun K "is_pair_of" "is_pair_of" s_is_pair_of f fd) {oA : Str → Addr} (ZC : Clz K mg oA) {cA : Str → Addr} (Z : Exs P w K mg base cA) (G_Machine___len__ : MethD P w K mg base "Machine" "__len__" 1 ["self"] (fun fd => Binds K fd ["self"] []) sp_Machine___len__) (G_is_whole : FnD P w K mg base "is_whole" 1 ["thing"] (fun fd => Binds K fd ["thing"] []) sp_is_whole) (gm : mg "is_pair_of" = some (.ref f)) : FnD P w K mg base "is_pair_of" 3 ["machine", "row", "thing"] (fun fd => Binds K fd ["machine", "row", "thing"] []) sp_is_pair_of := by
  refine ⟨⟨f, fd, gm, F.kp, F.binds (ps := ["machine", "row", "thing"]) (fun _ _ _ _ _ _ us hl => match us, hl with | [_, _, _], _ => rfl), okD F sc_is_pair_of (fun ds M Q E h => ?_) (fun cdv A outer s H M ds Qd Ed E hr cx h => ?_)⟩⟩
  · unfold sp_is_pair_of at h
    split at h <;> first | rfl | exact h.elim
  · refine ⟨_, (dss_cons (ds_if (dt_w (dw_or (dt_not (dt_val (de_callB cd_isi (by rfl) T.n_isinstance (by decide +kernel) (da_cons (dv 2) (da_cons (de_bltn (n := "tuple") (by rfl) T.n_tuple (by decide +kernel)) da_nil))))) (dw_or (dt_cmp (od_ne hr.units) (de_callB cd_len (by rfl) T.n_len (by decide +kernel) (da_cons (dv 2) da_nil)) de_int (nomark _)) (dw_or (dt_not (dt_val (de_callF G_is_whole (hr.mono (by decide)) (by rfl) (fun _ h => h) .nil rdn passL ctx0 (da_cons (de_ix (dv 2) de_int) da_nil)))) (dw_or1 (dt_not (dt_val (de_callF G_is_whole (hr.mono (by decide)) (by rfl) (fun _ h => h) .nil rdn passL ctx0 (da_cons (de_ix (dv 2) de_int) da_nil))))))))) (dss_one (ds_ret de_bl)) dss_nil)
      (dss_one (ds_ret (de_and (de_chain od_le od_lt de_int (de_ix (dv 2) de_int) (de_callB (cd_lenO G_Machine___len__ (hr.mono (by decide)) (fun _ h => h) passL) (by rfl) T.n_len (by decide +kernel) (da_cons (dv 0) da_nil))) (de_one (de_chain od_le od_le de_int (de_ix (dv 2) de_int) (de_callB cd_len (by rfl) T.n_len (by decide +kernel) (da_cons (dv 1) da_nil)))))))), ?_⟩
    unfold sp_is_pair_of at h; split at h
    · rename_i d y x
      obtain ⟨l, rs, f, B, rfl, ok, hy, hx, h⟩ := h
      have r2 := ok.r2
      have hml : (rmsD rs).length = rs.length := List.length_map _
      cases x with
      | tup xs =>
        match xs, hx with
        | [], hx => walk_at "dd"; exact .here h
        | [a], hx =>
          rw [show isPB rs y (.tup [a]) = false by cases a <;> rfl] at h
          walk_at "dd"
          exact .here h
        | a :: b :: c :: xs, hx =>
          rw [show isPB rs y (.tup (a :: b :: c :: xs)) = false by cases a <;> first | rfl | (cases b <;> rfl)] at h
          walk_at "dd"
          refine i_ifn (fun q => ?_) (fun q => ?_)
          · walk_at "dd"
            exact .here h
          · rw [List.length_cons, List.length_cons, List.length_cons] at q
            omega
        | [a, b], hx =>
          have ha := hx.2 a List.mem_cons_self
          have hb := hx.2 b (List.mem_cons_of_mem _ List.mem_cons_self)
          walk_at "dd"
          refine i_ifn (fun q => absurd rfl q) (fun _ => ?_)
          walk_at "dd"
          refine u_whole ha.tg ?_
          cases hwa : whl a with
          | false =>
            rw [show isPB rs y (.tup [a, b]) = false by cases a <;> first | rfl | cases hwa] at h
            walk_at "dd"
            exact .here h
          | true =>
            obtain ⟨i, rfl⟩ : ∃ i, a = .int i := by cases a <;> first | exact ⟨_, rfl⟩ | cases hwa
            walk_at "dd"
            refine u_whole hb.tg ?_
            cases hwb : whl b with
            | false =>
              rw [show isPB rs y (.tup [.int i, b]) = false by cases b <;> first | rfl | cases hwb] at h
              walk_at "dd"
              exact .here h
            | true =>
              obtain ⟨j, rfl⟩ : ∃ j, b = .int j := by cases b <;> first | exact ⟨_, rfl⟩ | cases hwb
              rw [show isPB rs y (.tup [.int i, .int j]) = (decide (0 ≤ i) && decide (i < ((rs.length : Nat) : Int)) && (decide (0 ≤ j) && decide (j ≤ ((y.length : Nat) : Int)))) from rfl] at h
              walk_at "dd"
              cases q1 : decide ((0 : Int) ≤ i) with
              | false =>
                rw [q1] at h
                walk_at "dd"
                exact .here h
              | true =>
                rw [q1, Bool.true_and] at h
                walk_at "dd"
                rw [hml]
                cases q2 : decide (i < ((rs.length : Nat) : Int)) with
                | false =>
                  rw [q2] at h
                  walk_at "dd"
                  exact .here h
                | true =>
                  rw [q2, Bool.true_and] at h
                  walk_at "dd"
                  cases q3 : decide ((0 : Int) ≤ j) with
                  | false =>
                    rw [q3] at h
                    walk_at "dd"
                    exact .here h
                  | true =>
                    rw [q3, Bool.true_and] at h
                    walk_at "dd"
                    exact .here h
      | lst xs => walk_at "dd"; exact .here h
      | _ => exact hx.elim
    · exact h.elim
/- check_shut: slots 0 machine, 1 row, 2 paper, 3 known, 4 at, 5 thing, 6 begin, 7 sign, 8 there -/
theorem ok_check_shut (T : Tn mg) {f : Addr} {fd : FuncData} (F : Fun K "check_shut" "check_shut" s_check_shut f fd) {oA : Str → Addr} (ZC : Clz K mg oA) {cA : Str → Addr} (Z : Exs P w K mg base cA) (G_begin_of : FnD P w K mg base "begin_of" 2 ["machine", "row"] (fun fd => Binds K fd ["machine", "row"] []) sp_begin_of) (G_pairs_from : FnD P w K mg base "pairs_from" 2 ["machine", "row", "pair"] (fun fd => Binds K fd ["machine", "row", "pair"] []) sp_pairs_from) (G_meets_end : FnD P w K mg base "meets_end" 1 ["machine", "row", "pair"] (fun fd => Binds K fd ["machine", "row", "pair"] []) sp_meets_end) (G_is_pair_of : FnD P w K mg base "is_pair_of" 3 ["machine", "row", "thing"] (fun fd => Binds K fd ["machine", "row", "thing"] []) sp_is_pair_of) (G_want_word : FnD P w K mg base "want_word" 4 ["word", "letters"] (fun fd => (∃ us, Vals [V.non] us ∧ Binds K fd ["word", "letters"] us) ∧ True) sp_want_word) (gm : mg "check_shut" = some (.ref f)) : FnD P w K mg base "check_shut" 5 ["machine", "row", "paper"] (fun fd => Binds K fd ["machine", "row", "paper"] []) (sp_check_shut w) := by
  refine ⟨⟨f, fd, gm, F.kp, F.binds (ps := ["machine", "row", "paper"]) (fun _ _ _ _ _ _ us hl => match us, hl with | [_, _, _], _ => rfl), okD F sc_check_shut (fun ds M Q E h => ?_) (fun cdv A outer s H M ds Qd Ed E hr cx h => ?_)⟩⟩
  · unfold sp_check_shut at h
    split at h <;> first | rfl | exact h.elim
  · refine ⟨_, (dss_cons (ds_expr (de_callG (ddvs := [Dv.non]) G_want_word (hr.mono (by decide)) (by rfl) (fun _ h => h.1) (fun _ => (.cons (by unfold RD; rfl) .nil)) (passB (takes_of rfl rfl rfl rfl)) cx (da_cons (dv 1) da_nil)))
      (dss_cons (ds_if (dt_not (dt_val (de_callB cd_isi (by rfl) T.n_isinstance (by decide +kernel) (da_cons (dv 2) (da_cons (de_bltn (n := "list") (by rfl) T.n_list (by decide +kernel)) da_nil))))) (dss_one (ds_raise Z.x_NoPaper rfl (takes_of rfl rfl rfl rfl) (hr.mono (by decide)) passL (by rfl) cx de_int)) dss_nil)
      (dss_cons (ds_set (i := 3) sc_check_shut.nd rfl (Or.inr rfl) (de_frz (de_callTy (cd_dictT (w := w) rfl rfl (room16 hr.units)) (by rfl) T.n_dict (by decide +kernel) (da_cons (de_frz (de_lc (g := (.nm 5)) rfl sc_check_shut.nd (di_list (dv 2)) (blkOk_by (N := ["machine", "row", "paper", "known", "at", "thing", "begin", "sign", "there"]) (own := [("thing", 5)]) (sc := defScope s_check_shut) (by decide +kernel)) (fun _ _ _ _ _ => (pg_name (i := 5) sc_check_shut.nd rfl (Or.inl rfl))) (fun _ _ _ _ _ => (dts_one (dt_val (de_callF G_is_pair_of (hr.mono (by decide)) (by rfl) (fun _ h => h) .nil rdn passL ctx0 (da_cons (dv 0) (da_cons (dv 1) (da_cons (dv 5) da_nil))))))) (fun _ _ _ _ _ => (de_tup (da_cons (dv 5) (da_cons de_bl da_nil)))))) da_nil))))
      (dss_cons (ds_for (passes_of rfl) rfl (di_enum (by rfl) T.n_enumerate (da_cons (dv 2) da_nil)) (dg_tup rfl (dgs_cons (dg_name (i := 4) sc_check_shut.nd rfl (Or.inl rfl)) (dgs_cons (dg_name (i := 5) sc_check_shut.nd rfl (Or.inl rfl)) dgs_nil))) (dss_cons (ds_if (dt_w (dw_or (dt_not (dt_val (de_callF G_is_pair_of (hr.mono (by decide)) (by rfl) (fun _ h => h) .nil rdn passL ctx0 (da_cons (dv 0) (da_cons (dv 1) (da_cons (dv 5) da_nil)))))) (dw_or1 (dt_val (de_callF G_meets_end (hr.mono (by decide)) (by rfl) (fun _ h => h) .nil rdn passL ctx0 (da_cons (dv 0) (da_cons (dv 1) (da_cons (dv 5) da_nil)))))))) (dss_one (ds_raise Z.x_NoPaper rfl (takes_of rfl rfl rfl rfl) (hr.mono (by decide)) passL (by rfl) cx (dv 4))) dss_nil)
      (dss_one (ds_if (dt_not (dt_val (de_callB (cd_all rfl) (by rfl) T.n_all (by decide +kernel) (da_cons (de_frz (de_lc (g := (.tp [(.nm 7), (.nm 8)])) rfl sc_check_shut.nd (di_list (de_callF G_pairs_from (hr.mono (by decide)) (by rfl) (fun _ h => h) .nil rdn passL ctx0 (da_cons (dv 0) (da_cons (dv 1) (da_cons (dv 5) da_nil))))) (blkOk_by (N := ["machine", "row", "paper", "known", "at", "thing", "begin", "sign", "there"]) (own := [("sign", 7), ("there", 8)]) (sc := defScope s_check_shut) (by decide +kernel)) (fun _ _ _ _ _ => (pg_tup rfl (pgs_cons (pg_name (i := 7) sc_check_shut.nd rfl (Or.inl rfl)) (pgs_cons (pg_name (i := 8) sc_check_shut.nd rfl (Or.inl rfl)) pgs_nil)))) (fun _ _ _ _ _ => dts_nil) (fun _ _ _ _ _ => (de_tin (w := w) rfl (room16 hr.units) (dv 8) (dv 3))))) da_nil)))) (dss_one (ds_raise Z.x_NoPaper rfl (takes_of rfl rfl rfl rfl) (hr.mono (by decide)) passL (by rfl) cx (dv 4))) dss_nil))))
      (dss_cons (ds_set (i := 6) sc_check_shut.nd rfl (Or.inl rfl) (de_frz (de_callF G_begin_of (hr.mono (by decide)) (by rfl) (fun _ h => h) .nil rdn passL ctx0 (da_cons (dv 0) (da_cons (dv 1) da_nil)))))
      (dss_one (ds_if (dt_w (dw_and (dt_cmp od_notN (dv 6) de_non (nomark _)) (dw_and1 (dt_tnotin (w := w) rfl (room16 hr.units) (dv 6) (dv 3))))) (dss_one (ds_raise Z.x_NoPaper rfl (takes_of rfl rfl rfl rfl) (hr.mono (by decide)) passL (by rfl) cx (de_callB cd_len (by rfl) T.n_len (by decide +kernel) (da_cons (dv 2) da_nil)))) dss_nil))))))), ?_⟩
    unfold sp_check_shut at h; split at h
    · rename_i d x z
      obtain ⟨l, rs, f, B, rfl, ok, h⟩ := h
      walk_at "dd"
      rcases h with ⟨v, ht, hv, h⟩ | ⟨y, rfl, hy, hN, h⟩
      · exact u_wwN ht hv (.here h)
      have hyl := most_len ok hN
      have l16 := ok.lt.2.2.1
      refine u_wwS hyl hy ?_
      walk_at "dd"
      rcases h with ⟨tz, hz, h⟩ | ⟨zs, rfl, ⟨hzl, hzt⟩, h1, h2⟩
      · cases z <;> first | exact tz.elim | exact absurd rfl (hz _) | (walk_at "dd"; exact .here h)
      walk_at "dd"
      refine lk_fz (fun i acc M' => M' = M ∧ ∃ ps : List Pr, acc = (ps.map fun p => Dv.tup [prD p, .bl true]) ∧ ∀ p : Pr, p ∈ ps ↔ (prD p ∈ zs.take i ∧ p.1 < rs.length ∧ p.2 ≤ y.length)) (by omega) ⟨rfl, [], rfl, fun p => by simp⟩ ?_ ?_
      · rintro i d acc M' hd ha ⟨rfl, ps, rfl, hps⟩
        walk_at "dd"
        refine u_ispair ok hyl (hzt d (List.mem_of_getElem? hd)) ?_
        have htk : zs.take (i + 1) = zs.take i ++ [d] := take_snoc hd
        cases hb : isPB rs y d with
        | true =>
          obtain ⟨p, rfl, hp1, hp2⟩ := isPB_iff.mp hb
          walk_at "dd"
          refine ⟨ps ++ [p], by rw [List.map_append]; rfl, fun q => ?_⟩
          rw [htk, List.mem_append, List.mem_append, hps q, List.mem_singleton, List.mem_singleton]
          constructor
          · rintro (⟨a, b⟩ | rfl)
            · exact ⟨.inl a, b⟩
            · exact ⟨.inr rfl, hp1, hp2⟩
          · rintro ⟨a | a, b⟩
            · exact .inl ⟨a, b⟩
            · exact .inr (prD_inj a)
        | false =>
          walk_at "dd"
          refine ⟨ps, rfl, fun q => ?_⟩
          rw [htk, List.mem_append, hps q, List.mem_singleton]
          constructor
          · rintro ⟨a, b⟩
            exact ⟨.inl a, b⟩
          · rintro ⟨a | a, b⟩
            · exact ⟨a, b⟩
            · rw [isPB_iff.mpr ⟨q, a.symm, b⟩] at hb
              cases hb
      · rintro acc M9 ha ⟨rfl, ps, rfl, hps⟩
        rw [List.take_length] at hps
        walk_at "dd"
        refine i_dictT (ps := ps.map fun p => (prK p, Dv.bl true)) (congrArg some (kv_pairs ps)) (fun q hq => ?_) (fun pk hpk => ?_)
        · obtain ⟨n, _, rfl⟩ := List.mem_map.mp hq
          exact ⟨⟨_, rfl⟩, prN_depth _⟩
        refine i_fzNew hpk rfl ?_
        have hkn : ∀ p : Pr, p.1 < rs.length → p.2 ≤ y.length → ((valT (mergeT [] (ps.map fun p => (prK p, Dv.bl true))) (prK p)).isSome = true ↔ prD p ∈ zs) := fun p q1 q2 => by
          rw [mergeB_iff, decide_eq_true_iff]
          exact ⟨fun h => ((hps p).mp h).1, fun h => (hps p).mpr ⟨h, q1, q2⟩⟩
        generalize mergeT [] (ps.map fun p => (prK p, Dv.bl true)) = kvs at hkn ⊢
        walk_at "dd"
        refine fo_fz (fun i sd M' => ∃ (y4_ y5_ y6_ y7_ y8_ : Option Dv), sd = [some (McO l rs f), some (.str y), some (.lst zs), some (.dctT w kvs), y4_, y5_, y6_, y7_, y8_] ∧ (M' = M9 ∧ ∀ j e, j < i → zs[j]? = some e → ¬ bdT l rs y zs e)) ⟨_, _, _, _, _, rfl, rfl, fun j e hj => absurd hj (Nat.not_lt_zero _)⟩ ?_ ?_
        · rintro i0 d2 sd M2 hd2 ⟨y4_, y5_, y6_, y7_, y8_, rfl, rfl, hno⟩
          obtain ⟨d3, hd3, rfl⟩ := enumD_get hd2
          rw [show (0 : Nat) + i0 = i0 from Nat.zero_add i0]
          have hd3m := List.mem_of_getElem? hd3
          have hraise : bdT l rs y zs d3 → FgE Ed "NoPaper" "at" (.int (i0 : Nat)) M2 := fun hb => .here (h2 i0 (papV_at hd3 hb hno))
          have hgo : ¬ bdT l rs y zs d3 → ∀ j e, j < i0 + 1 → zs[j]? = some e → ¬ bdT l rs y zs e := fun hb j e hj he => by
            by_cases z : j = i0
            · subst z
              rw [hd3] at he
              cases he
              exact hb
            · exact hno j e (by omega) he
          walk_at "dd"
          refine u_ispair ok hyl (hzt d3 hd3m) ?_
          cases hb : isPB rs y d3 with
          | false =>
            walk_at "dd"
            exact hraise (bdT_no hb)
          | true =>
            obtain ⟨p, rfl, hp1, hp2⟩ := isPB_iff.mp hb
            have hbi := bdT_iff (l := l) (ds := zs) hp1 hp2
            walk_at "dd"
            refine u_meets ok hp1 hyl ?_
            by_cases hm : metP rs y p
            · rw [decide_eq_true hm]
              walk_at "dd"
              exact hraise (hbi.mpr (.inl hm))
            · rw [decide_eq_false hm]
              walk_at "dd"
              refine u_prsfrom ok hp1 hyl ?_
              walk_at "dd"
              have hsl := stepB_len l rs y p
              have hsin : ∀ s, s ∈ stepB l rs y p → s.2.1 < rs.length ∧ s.2.2 ≤ y.length := fun s hs => by
                obtain ⟨i, hi, hf, rfl⟩ := stepB_mem hs
                obtain ⟨_, _, _, _, _, g3⟩ := wayI_ok ok hp1 hi
                exact ⟨g3, (fitB_pre hp2 hf).1⟩
              refine lk_toO ((stepB l rs y p).map fun s => .bl (valT kvs (prK s.2)).isSome) (by rw [List.length_map, List.length_map]) (by rw [List.length_map]; omega) trivial ?_ ?_
              · intro j2 d4 x4 hd4 hx4
                obtain ⟨s, hs, rfl⟩ := map_get hd4
                have hE := hx4
                rw [List.getElem?_map, hs] at hE
                cases hE
                walk_at "dd"
                refine i_kKyT (prD_nk _) (prN_depth _) ?_
                walk_at "dd"
                exact lt_ hx4
              walk_at "dd"
              refine i_all (bs := (stepB l rs y p).map fun s => (valT kvs (prK s.2)).isSome) (ds := ((stepB l rs y p).map fun s => (valT kvs (prK s.2)).isSome).map .bl) (by rw [List.map_map]; rfl) (blsOf_map _) ?_
              cases hal : (((stepB l rs y p).map fun s => (valT kvs (prK s.2)).isSome).all id) with
              | false =>
                walk_at "dd"
                refine hraise (hbi.mpr (.inr ?_))
                apply Classical.byContradiction
                intro hn
                have : (((stepB l rs y p).map fun s => (valT kvs (prK s.2)).isSome).all id) = true := by
                  rw [List.all_map, List.all_eq_true]
                  intro s hs
                  obtain ⟨g1, g2⟩ := hsin s hs
                  exact (hkn s.2 g1 g2).mpr (Classical.byContradiction fun z => hn ⟨s, hs, z⟩)
                rw [this] at hal
                cases hal
              | true =>
                walk_at "dd"
                refine ⟨_, _, _, _, _, rfl, rfl, hgo fun hbad => ?_⟩
                rcases hbi.mp hbad with z | ⟨s, hs, z⟩
                · exact hm z
                · rw [List.all_map, List.all_eq_true] at hal
                  obtain ⟨g1, g2⟩ := hsin s hs
                  exact z ((hkn s.2 g1 g2).mp (hal s hs))
        · rintro sd M2 ⟨y4_, y5_, y6_, y7_, y8_, rfl, rfl, hno⟩
          have hall : ∀ d, d ∈ zs → ¬ bdT l rs y zs d := fun d hd => by
            obtain ⟨j, hj⟩ := List.mem_iff_getElem?.mp hd
            exact hno j d (by rw [enumD_length]; exact (List.getElem?_eq_some_iff.mp hj).1) hj
          obtain ⟨v1, v2, v3⟩ := papV_end (f := f) hall
          walk_at "dd"
          refine u_begof ok ?_
          refine kFz_no (begD_no f y) ?_
          walk_at "dd"
          rcases begD_two f y with ⟨e1, e2⟩ | ⟨e1, e2⟩
          · rw [e1]
            have hbl := begB_ok ok (e := ((0, f.length), ("" : Str))) (by rw [e2]; exact List.mem_singleton.mpr rfl)
            walk_at "dd"
            refine i_kKyT (prD_nk (0, f.length)) (prN_depth (0, f.length)) ?_
            have hk2 := hkn (0, f.length) hbl.r hbl.a
            cases hq : (valT kvs (prK (0, f.length))).isSome with
            | true =>
              walk_at "dd"
              exact .here (h1 (v2 _ e2 (hk2.mp hq)))
            | false =>
              walk_at "dd"
              exact .here (h2 _ (v1 _ e2 fun z => by rw [hk2.mpr z] at hq; cases hq))
          · rw [e1]
            walk_at "dd"
            exact .here (h1 (v3 e2))
    · exact h.elim
/- is_way: slots 0 thing, 1 many -/
theorem ok_is_way (T : Tn mg) {f : Addr} {fd : FuncData} (F : Fun K "is_way" "is_way" s_is_way f fd) {oA : Str → Addr} (ZC : Clz K mg oA) {cA : Str → Addr} (Z : Exs P w K mg base cA) (G_is_whole : FnD P w K mg base "is_whole" 1 ["thing"] (fun fd => Binds K fd ["thing"] []) sp_is_whole) (G_is_text : FnD P w K mg base "is_text" 1 ["thing"] (fun fd => Binds K fd ["thing"] []) sp_is_text) (gm : mg "is_way" = some (.ref f)) : FnD P w K mg base "is_way" 2 ["thing", "many"] (fun fd => Binds K fd ["thing", "many"] []) sp_is_way := by
  refine ⟨⟨f, fd, gm, F.kp, F.binds (ps := ["thing", "many"]) (fun _ _ _ _ _ _ us hl => match us, hl with | [_, _], _ => rfl), okD F sc_is_way (fun ds M Q E h => ?_) (fun cdv A outer s H M ds Qd Ed E hr cx h => ?_)⟩⟩
  · unfold sp_is_way at h
    split at h <;> first | rfl | exact h.elim
  · refine ⟨_, (dss_cons (ds_if (dt_w (dw_or (dt_not (dt_val (de_callB cd_isi (by rfl) T.n_isinstance (by decide +kernel) (da_cons (dv 0) (da_cons (de_bltn (n := "tuple") (by rfl) T.n_tuple (by decide +kernel)) da_nil))))) (dw_or (dt_cmp (od_ne hr.units) (de_callB cd_len (by rfl) T.n_len (by decide +kernel) (da_cons (dv 0) da_nil)) de_int (nomark _)) (dw_or1 (dt_not (dt_val (de_callF G_is_text (hr.mono (by decide)) (by rfl) (fun _ h => h) .nil rdn passL ctx0 (da_cons (de_ix (dv 0) de_int) da_nil)))))))) (dss_one (ds_ret de_bl)) dss_nil)
      (dss_one (ds_ret (de_and (de_callF G_is_whole (hr.mono (by decide)) (by rfl) (fun _ h => h) .nil rdn passL ctx0 (da_cons (de_ix (dv 0) de_int) da_nil)) (de_one (de_chain od_le od_lt de_int (de_ix (dv 0) de_int) (dv 1))))))), ?_⟩
    unfold sp_is_way at h; split at h
    · rename_i d m
      obtain ⟨w, rfl, h1, h2, h3, h⟩ := h
      walk_at "dd"
      refine i_ifn (fun c => absurd rfl c) (fun _ => ?_)
      walk_at "dd"
      refine u_istext (d := .str w.1) h2 ?_
      rw [txt_of h1]
      walk_at "dd"
      refine u_whole trivial ?_
      rw [show whl (.int (w.2 : Nat)) = true from rfl]
      walk_at "dd"
      refine i_ifd (fun _ => ?_) (fun c => absurd (Int.natCast_nonneg _) c)
      walk_at "dd"
      rw [decide_eq_true h3]
      exact .here h
    · exact h.elim
/- is_room: slots 0 thing, 1 letters, 2 many, 3 way -/
theorem ok_is_room (T : Tn mg) {f : Addr} {fd : FuncData} (F : Fun K "is_room" "is_room" s_is_room f fd) {oA : Str → Addr} (ZC : Clz K mg oA) {cA : Str → Addr} (Z : Exs P w K mg base cA) (G_is_way : FnD P w K mg base "is_way" 2 ["thing", "many"] (fun fd => Binds K fd ["thing", "many"] []) sp_is_way) (G_is_text : FnD P w K mg base "is_text" 1 ["thing"] (fun fd => Binds K fd ["thing"] []) sp_is_text) (gm : mg "is_room" = some (.ref f)) : FnD P w K mg base "is_room" 3 ["thing", "letters", "many"] (fun fd => Binds K fd ["thing", "letters", "many"] []) sp_is_room := by
  refine ⟨⟨f, fd, gm, F.kp, F.binds (ps := ["thing", "letters", "many"]) (fun _ _ _ _ _ _ us hl => match us, hl with | [_, _, _], _ => rfl), okD F sc_is_room (fun ds M Q E h => ?_) (fun cdv A outer s H M ds Qd Ed E hr cx h => ?_)⟩⟩
  · unfold sp_is_room at h
    split at h <;> first | rfl | exact h.elim
  · refine ⟨_, (dss_cons (ds_if (dt_w (dw_or (dt_not (dt_val (de_callB cd_isi (by rfl) T.n_isinstance (by decide +kernel) (da_cons (dv 0) (da_cons (de_bltn (n := "tuple") (by rfl) T.n_tuple (by decide +kernel)) da_nil))))) (dw_or (dt_cmp (od_ne hr.units) (de_callB cd_len (by rfl) T.n_len (by decide +kernel) (da_cons (dv 0) da_nil)) de_int (nomark _)) (dw_or1 (dt_not (dt_val (de_callF G_is_text (hr.mono (by decide)) (by rfl) (fun _ h => h) .nil rdn passL ctx0 (da_cons (de_ix (dv 0) de_int) da_nil)))))))) (dss_one (ds_ret de_bl)) dss_nil)
      (dss_cons (ds_if (dt_w (dw_or (dt_not (dt_val (de_callB cd_isi (by rfl) T.n_isinstance (by decide +kernel) (da_cons (de_ix (dv 0) de_int) (da_cons (de_bltn (n := "list") (by rfl) T.n_list (by decide +kernel)) da_nil))))) (dw_or1 (dt_cmp (od_ne hr.units) (de_callB cd_len (by rfl) T.n_len (by decide +kernel) (da_cons (de_ix (dv 0) de_int) da_nil)) (de_callB cd_len (by rfl) T.n_len (by decide +kernel) (da_cons (dv 1) da_nil)) (nomark _))))) (dss_one (ds_ret de_bl)) dss_nil)
      (dss_one (ds_ret (de_callB (cd_all rfl) (by rfl) T.n_all (by decide +kernel) (da_cons (de_frz (de_lc (g := (.nm 3)) rfl sc_is_room.nd (di_list (de_ix (dv 0) de_int)) (blkOk_by (N := ["thing", "letters", "many", "way"]) (own := [("way", 3)]) (sc := defScope s_is_room) (by decide +kernel)) (fun _ _ _ _ _ => (pg_name (i := 3) sc_is_room.nd rfl (Or.inl rfl))) (fun _ _ _ _ _ => dts_nil) (fun _ _ _ _ _ => (de_callF G_is_way (hr.mono (by decide)) (by rfl) (fun _ h => h) .nil rdn passL ctx0 (da_cons (dv 3) (da_cons (dv 2) da_nil)))))) da_nil)))))), ?_⟩
    unfold sp_is_room at h; split at h
    · rename_i d l m
      obtain ⟨r, k, hv, rfl, ok, hl, h⟩ := h
      obtain ⟨ds, rfl, hv2⟩ := vw_tup hv
      obtain ⟨x, y, rfl, h1, h2⟩ := vwl_two hv2
      cases vw_str h1
      obtain ⟨ds, hq, hw⟩ := vw_lst h2
      have hds := wys_eq hw
      subst hds
      have wl : r.2.length = l.length := ok.wl
      walk_at "dd"
      refine i_ifn (fun c => absurd rfl c) (fun _ => ?_)
      walk_at "dd"
      refine u_istext (d := .str r.1) ok.le ?_
      rw [txt_of ok.ie]
      walk_at "dd"
      refine i_isi (tyN_seq hq) rfl ?_
      walk_at "dd"
      refine i_lenL hq ?_
      walk_at "dd"
      rw [List.length_map, decide_eq_true (show (r.2.length : Int) = (l.length : Int) by omega)]
      walk_at "dd"
      refine kSqG hq fun okk hok => ?_
      refine lk_mapO (fun _ => .bl true) (by rw [List.length_map]; omega) hok ?_ ?_
      · intro i d hd
        obtain ⟨w, hw, rfl⟩ := map_get hd
        obtain ⟨a, b, c⟩ := ok.ww w (List.mem_of_getElem? hw)
        walk_at "dd"
        refine ⟨w, rfl, a, b, by omega, ?_⟩
        walk_at "dd"
        exact lm_ hd rfl
      · walk_at "dd"
        refine i_all (bs := r.2.map fun _ => true) (ds := (r.2.map fun _ => true).map .bl) (by rw [List.map_map, List.map_map]; rfl) (blsOf_map _) ?_
        rw [show (r.2.map fun _ => true).all id = true from List.all_eq_true.mpr fun b hb => by
          obtain ⟨_, _, rfl⟩ := List.mem_map.mp hb
          rfl]
        exact .here h
    · exact h.elim
/- Machine.__init__: slots 0 self, 1 letters, 2 rooms, 3 first, 4 end, 5 ways, 6 room -/
theorem ok_Machine___init__ (T : Tn mg) {C f : Addr} {fd : FuncData} (F : FunD K "__init__" "Machine.__init__" (defArgs s_Machine___init__) (defBody s_Machine___init__) (defScope s_Machine___init__) [V.str ""] [] f fd) {oA : Str → Addr} (ZC : Clz K mg oA) {cA : Str → Addr} (Z : Exs P w K mg base cA) (G_is_text : FnD P w K mg base "is_text" 1 ["thing"] (fun fd => Binds K fd ["thing"] []) sp_is_text) (G_is_room : FnD P w K mg base "is_room" 3 ["thing", "letters", "many"] (fun fd => Binds K fd ["thing", "letters", "many"] []) sp_is_room) (G_want_letters : FnD P w K mg base "want_letters" 3 ["letters"] (fun fd => Binds K fd ["letters"] []) sp_want_letters) (nC : PySem.W.nsIn K mainGlobals "Machine" = some (some (.ref C))) (gC : mg "Machine" = some (.ref C)) (mk : Mk K C f) : MakeD P w K mg base "Machine" 4 ["self", "letters", "rooms", "first"] (fun fd => (∃ us, Vals [] us ∧ Binds K fd ["self", "letters", "rooms", "first"] us) ∧ True) sp_Machine___init__ := by
  refine ⟨⟨C, f, fd, nC, gC, mk, ⟨F.binds1 4 1 (by simp) rfl (fun T kV doc pm an cdv ct us its h1 h2 => by match us, h1, its, h2 with | [_, _, _, _], _, [_], _ => exact ⟨_, rfl, rfl⟩), True.intro⟩, okDD F sc_Machine___init__ (fun ds M Q E h => ?_) (fun cdv A outer s H M ds Qd Ed E hr cx h => ?_)⟩⟩
  · unfold sp_Machine___init__ at h
    split at h <;> first | rfl | exact h.elim
  · refine ⟨_, (dss_cons (ds_expr (de_callF G_want_letters (hr.mono (by decide)) (by rfl) (fun _ h => h) .nil rdn (passB (takes_of rfl rfl rfl rfl)) cx (da_cons (dv 1) da_nil)))
      (dss_cons (ds_if (dt_w (dw_or (dt_not (dt_val (de_callB cd_isi (by rfl) T.n_isinstance (by decide +kernel) (da_cons (dv 2) (da_cons (de_bltn (n := "list") (by rfl) T.n_list (by decide +kernel)) da_nil))))) (dw_or1 (dt_not (dt_chain od_le od_le de_int (de_callB cd_len (by rfl) T.n_len (by decide +kernel) (da_cons (dv 2) da_nil)) (de_globIx (by rfl) T.c_MOST_ROOMS)))))) (dss_one (ds_raise Z.x_NoRule rfl (takes_of rfl rfl rfl rfl) (hr.mono (by decide)) passL (by rfl) cx de_str)) dss_nil)
      (dss_cons (ds_if (dt_not (dt_val (de_callB (cd_all rfl) (by rfl) T.n_all (by decide +kernel) (da_cons (de_frz (de_lc (g := (.nm 6)) rfl sc_Machine___init__.nd (di_list (dv 2)) (blkOk_by (N := ["self", "letters", "rooms", "first", "end", "ways", "room"]) (own := [("room", 6)]) (sc := defScope s_Machine___init__) (by decide +kernel)) (fun _ _ _ _ _ => (pg_name (i := 6) sc_Machine___init__.nd rfl (Or.inl rfl))) (fun _ _ _ _ _ => dts_nil) (fun _ _ _ _ _ => (de_callF G_is_room (hr.mono (by decide)) (by rfl) (fun _ h => h) .nil rdn passL ctx0 (da_cons (dv 6) (da_cons (dv 1) (da_cons (de_callB cd_len (by rfl) T.n_len (by decide +kernel) (da_cons (dv 2) da_nil)) da_nil))))))) da_nil)))) (dss_one (ds_raise Z.x_NoRule rfl (takes_of rfl rfl rfl rfl) (hr.mono (by decide)) passL (by rfl) cx de_str)) dss_nil)
      (dss_cons (ds_if (dt_not (dt_val (de_callF G_is_text (hr.mono (by decide)) (by rfl) (fun _ h => h) .nil rdn passL ctx0 (da_cons (dv 3) da_nil)))) (dss_one (ds_raise Z.x_NoRule rfl (takes_of rfl rfl rfl rfl) (hr.mono (by decide)) passL (by rfl) cx de_str)) dss_nil)
      (dss_cons (ds_fld ZC.fld (dv 0) (dv 1))
      (dss_cons (ds_fld ZC.fld (dv 0) (de_frz (de_lc (g := (.tp [(.nm 4), (.nm 5)])) rfl sc_Machine___init__.nd (di_list (dv 2)) (blkOk_by (N := ["self", "letters", "rooms", "first", "end", "ways", "room"]) (own := [("end", 4), ("ways", 5)]) (sc := defScope s_Machine___init__) (by decide +kernel)) (fun _ _ _ _ _ => (pg_tup rfl (pgs_cons (pg_name (i := 4) sc_Machine___init__.nd rfl (Or.inl rfl)) (pgs_cons (pg_name (i := 5) sc_Machine___init__.nd rfl (Or.inl rfl)) pgs_nil)))) (fun _ _ _ _ _ => dts_nil) (fun _ _ _ _ _ => (de_tup (da_cons (dv 4) (da_cons (de_frz (de_callTy cd_list (by rfl) T.n_list (by decide +kernel) (da_cons (dv 5) da_nil))) da_nil)))))))
      (dss_one (ds_fld ZC.fld (dv 0) (dv 3))))))))), ?_⟩
    unfold sp_Machine___init__ at h; split at h
    · rename_i a l r f
      obtain ⟨hM, rs, B, hv, ok, h⟩ := h
      have hL := ok.lt
      have hl16 := hL.2.2.1
      have r1 := ok.r1
      have r2 := ok.r2
      have bb := ok.bb
      have fl := ok.fl
      have tl : TgT (.str l) := by show l.length ≤ 1000000; omega
      have tf : TgT (.str f) := by show f.length ≤ 1000000; omega
      obtain ⟨ds, hq, hw⟩ := vw_lst hv
      have hdl := hw.len
      rw [List.length_map] at hdl
      walk_at "dd"
      refine u_wl tl (fun _ => ?_) (fun n => absurd hL n)
      walk_at "dd"
      refine i_isi (tyN_seq hq) rfl ?_
      walk_at "dd"
      refine i_lenL hq ?_
      walk_at "dd"
      refine i_ifd (fun c => ?_) (fun c => by omega)
      walk_at "dd"
      refine i_ifn (fun c => by omega) (fun c => ?_)
      walk_at "dd"
      refine kSqG hq fun okk hok => ?_
      refine lk_mapO (fun _ => .bl true) (by omega) hok ?_ ?_
      · intro i d hd
        obtain ⟨e, he, hve⟩ := hw.get hd
        obtain ⟨r, hr, rfl⟩ := map_get he
        walk_at "dd"
        refine i_lenL hq ?_
        walk_at "dd"
        refine ⟨r, ds.length, hve, rfl, by rw [hdl]; exact (ok.rm r (List.mem_of_getElem? hr)).up (by omega), by omega, ?_⟩
        walk_at "dd"
        exact lm_ hd rfl
      · walk_at "dd"
        refine i_all (bs := ds.map fun _ => true) (ds := (ds.map fun _ => true).map .bl) (by rw [List.map_map]; rfl) (blsOf_map _) ?_
        rw [show (ds.map fun _ => true).all id = true from List.all_eq_true.mpr fun b hb => by
          obtain ⟨_, _, rfl⟩ := List.mem_map.mp hb
          rfl]
        walk_at "dd"
        refine u_istext tf ?_
        rw [txt_of ok.fi]
        walk_at "dd"
        refine kSqG (seq_ins hq hM) fun okk hok => ?_
        refine lk_toO (rmsD rs) (by rw [List.length_map]; exact hdl) (by omega) hok ?_ ?_
        · intro i d e hd he
          have hve := hw.at i d e hd he
          obtain ⟨r, hr, rfl⟩ := map_get he
          obtain ⟨ds2, rfl, hv2⟩ := vw_tup hve
          obtain ⟨x, y, rfl, h1, h2⟩ := vwl_two hv2
          cases vw_str h1
          obtain ⟨ds3, hq3, hw3⟩ := vw_lst h2
          have hds := wys_eq hw3
          subst hds
          walk_at "dd"
          refine i_listOf (seq_ins hq3 hM) ?_
          walk_at "dd"
          exact lt_ he
        · walk_at "dd"
          rw [mup_mup, mup_mup]
          exact .here h
    · exact h.elim
/- _law_well: slots 0 _law_cell -/
theorem ok__law_well (T : Tn mg) {f : Addr} {fd : FuncData} (F : Fun K "_law_well" "_law_well" s__law_well f fd) {oA : Str → Addr} (ZC : Clz K mg oA) {cA : Str → Addr} (Z : Exs P w K mg base cA)  (gm : mg "_law_well" = some (.ref f)) : FnD P w K mg base "_law_well" 1 ["_law_cell"] (fun fd => Binds K fd ["_law_cell"] []) sp__law_well := by
  refine ⟨⟨f, fd, gm, F.kp, F.binds (ps := ["_law_cell"]) (fun _ _ _ _ _ _ us hl => match us, hl with | [_], _ => rfl), okD F sc__law_well (fun ds M Q E h => ?_) (fun cdv A outer s H M ds Qd Ed E hr cx h => ?_)⟩⟩
  · unfold sp__law_well at h
    split at h <;> first | rfl | exact h.elim
  · refine ⟨_, (dss_one (ds_ret (de_lst (da_cons (de_op od_mulY (dv 0) (de_callTy cd_int (by rfl) T.n_int (by decide +kernel) (da_cons (de_cmp od_ge (dv 0) (de_op od_pow de_int de_int) (nomark _)) da_nil))) (da_cons (dv 0) (da_cons de_int da_nil)))))), ?_⟩
    unfold sp__law_well at h; split at h
    · walk_at "dd"
      exact .here (h _ _ (by assumption))
    · exact h.elim
/- _law_draw: slots 0 _law_well_here, 1 _law_most, 2 _law_found_here, 3 _law_low -/
theorem ok__law_draw (T : Tn mg) {f : Addr} {fd : FuncData} (F : Fun K "_law_draw" "_law_draw" s__law_draw f fd) {oA : Str → Addr} (ZC : Clz K mg oA) {cA : Str → Addr} (Z : Exs P w K mg base cA)  (gm : mg "_law_draw" = some (.ref f)) : FnD P w K mg base "_law_draw" 1 ["_law_well_here", "_law_most"] (fun fd => Binds K fd ["_law_well_here", "_law_most"] []) sp__law_draw := by
  refine ⟨⟨f, fd, gm, F.kp, F.binds (ps := ["_law_well_here", "_law_most"]) (fun _ _ _ _ _ _ us hl => match us, hl with | [_, _], _ => rfl), okD F sc__law_draw (fun ds M Q E h => ?_) (fun cdv A outer s H M ds Qd Ed E hr cx h => ?_)⟩⟩
  · unfold sp__law_draw at h
    split at h <;> first | rfl | exact h.elim
  · refine ⟨_, (dss_cons (ds_if (dt_cmp od_gt (de_ix (dv 0) de_int) de_int (nomark _)) (dss_cons (ds_set (i := 2) sc__law_draw.nd rfl (Or.inl rfl) (de_op od_mod (de_ix (dv 0) de_int) (dv 1)))
      (dss_cons (ds_asg (de_op od_fdiv (de_ix (dv 0) de_int) (dv 1)) (dg_sub (dv 0) de_int xs_list))
      (dss_one (ds_ret (dv 2))))) dss_nil)
      (dss_cons (ds_asg (de_op od_add (de_ix (dv 0) de_int) de_int) (dg_sub (dv 0) de_int xs_list))
      (dss_cons (ds_set (i := 3) sc__law_draw.nd rfl (Or.inl rfl) (de_op od_mod (de_op od_mulY (de_op od_add (de_op od_add (de_op od_mod (de_ix (dv 0) de_int) de_int) (de_op od_mulY de_int (de_ix (dv 0) de_int))) de_int) de_int) de_int))
      (dss_cons (ds_set (i := 3) sc__law_draw.nd rfl (Or.inl rfl) (de_op od_mod (de_op od_mulY (dv 3) (de_op od_add (de_op od_add (de_op od_fdiv (dv 3) de_int) de_int) (de_op od_mod (de_op od_fdiv (de_ix (dv 0) de_int) de_int) de_int))) de_int))
      (dss_one (ds_ret (de_op od_mod (de_op od_fdiv (de_op od_mod (de_op od_mulY (de_op od_add (dv 3) (de_op od_mulY de_int (de_ix (dv 0) de_int))) (de_op od_add (de_op od_fdiv (dv 3) de_int) de_int)) de_int) de_int) (dv 1)))))))), ?_⟩
    unfold sp__law_draw at h; split at h
    · rename_i a m
      obtain ⟨⟨x, y, z, hM⟩, h0, h1, h⟩ := h
      walk_at "dd"
      refine i_ifd (fun _ => ?_) (fun _ => ?_)
      · walk_at "dd"
        exact .here (h _ _ _ _ (Int.emod_nonneg _ (by omega)) (Int.emod_lt_of_pos _ h0))
      · walk_at "dd"
        exact .here (h _ _ _ _ (Int.emod_nonneg _ (by omega)) (Int.emod_lt_of_pos _ h0))
    · exact h.elim
/- _law_signs: slots 0 _law_well_here, 1 _law_many, 2 _law_some, 3 _law_k -/
theorem ok__law_signs (T : Tn mg) {f : Addr} {fd : FuncData} (F : Fun K "_law_signs" "_law_signs" s__law_signs f fd) {oA : Str → Addr} (ZC : Clz K mg oA) {cA : Str → Addr} (Z : Exs P w K mg base cA) (G__law_draw : FnD P w K mg base "_law_draw" 1 ["_law_well_here", "_law_most"] (fun fd => Binds K fd ["_law_well_here", "_law_most"] []) sp__law_draw) (gm : mg "_law_signs" = some (.ref f)) : FnD P w K mg base "_law_signs" 2 ["_law_well_here", "_law_many"] (fun fd => Binds K fd ["_law_well_here", "_law_many"] []) sp__law_signs := by
  refine ⟨⟨f, fd, gm, F.kp, F.binds (ps := ["_law_well_here", "_law_many"]) (fun _ _ _ _ _ _ us hl => match us, hl with | [_, _], _ => rfl), okD F sc__law_signs (fun ds M Q E h => ?_) (fun cdv A outer s H M ds Qd Ed E hr cx h => ?_)⟩⟩
  · unfold sp__law_signs at h
    split at h <;> first | rfl | exact h.elim
  · refine ⟨_, (dss_cons (ds_set (i := 2) sc__law_signs.nd rfl (Or.inr rfl) (de_callTy (cd_listX rfl) (by rfl) T.n_list (by decide +kernel) (da_cons de_str da_nil)))
      (dss_one (ds_ret (de_bm PySem.F.plainAttrs_str PySem.F.slot_str_join PySem.F.type_str_join md_join de_str (da_cons (de_frz (de_lc (g := (.nm 3)) rfl sc__law_signs.nd (di_range1 (by rfl) T.n_range (da_cons (dv 1) da_nil)) (blkOk_by (N := ["_law_well_here", "_law_many", "_law_some", "_law_k"]) (own := [("_law_k", 3)]) (sc := defScope s__law_signs) (by decide +kernel)) (fun _ _ _ _ _ => (pg_name (i := 3) sc__law_signs.nd rfl (Or.inl rfl))) (fun _ _ _ _ _ => dts_nil) (fun _ _ _ _ _ => (de_bm PySem.F.plainAttrs_list PySem.F.slot_list_pop PySem.F.type_list_pop md_popAt (dv 2) (da_cons (de_callF G__law_draw (hr.mono (by decide)) (by rfl) (fun _ h => h) .nil rdn passL ctx0 (da_cons (dv 0) (da_cons (de_callB cd_len (by rfl) T.n_len (by decide +kernel) (da_cons (dv 2) da_nil)) da_nil))) da_nil))))) da_nil))))), ?_⟩
    unfold sp__law_signs at h; split at h
    · rename_i a m
      obtain ⟨⟨x0, y0, z0, hM⟩, h0, h1, h⟩ := h
      obtain ⟨n, rfl⟩ := Int.eq_ofNat_of_zero_le h0
      walk_at "dd"
      refine i_listX (x := SG) (by rw [SG_len]; decide) fun p hp => ?_
      walk_at "dd"
      have nap : a ≠ p := mne2 hp hM
      refine lk_rng (fun i acc M' => ∃ (F R : List Nat) (x y z : Int), acc = onesD F ∧ M' = mup (mup M p (.lst (onesD R))) a (.lst [.int x, .int y, .int z]) ∧ (F ++ R).Perm SG.cps.toList ∧ F.length = i) (by omega) ?_ ?_ ?_
      · exact ⟨[], SG.cps.toList, x0, y0, z0, rfl, by rw [mup_comm (Ne.symm nap), mup_eq hM]; rfl, List.Perm.refl _, rfl⟩
      · rintro i acc M' hi ha ⟨F, R, x, y, z, rfl, rfl, hpm, hF⟩
        have hRl : F.length + R.length = 52 := by
          have := hpm.length_eq
          rw [List.length_append] at this
          rw [this]
          exact SG_len
        have hol : (onesD R).length = R.length := List.length_map _
        have hkp : mup (mup M p (.lst (onesD R))) a (.lst [.int x, .int y, .int z]) p = some (.lst (onesD R)) := by rw [mup_ne (Ne.symm nap), mup_same]
        walk_at "dd"
        rename_i r x1 y1 z1 hr0 hr1
        obtain ⟨k, rfl⟩ := Int.eq_ofNat_of_zero_le hr0
        have hk : k < R.length := by omega
        refine i_popAt (y := .str (sgn R[k])) (by rw [mup_ne (Ne.symm nap), mup_same]) (by omega) (by unfold onesD; rw [List.getElem?_map, List.getElem?_eq_getElem hk]; rfl) ?_
        refine ⟨F ++ [R[k]], R.eraseIdx k, x1, y1, z1, by unfold onesD; rw [List.map_append]; rfl, ?_, (erase_perm F R k hk).trans hpm, by rw [List.length_append, hF]; rfl⟩
        rw [onesD_erase, mup_comm nap, mup_mup]
      · rintro acc M' ha ⟨F, R, x, y, z, rfl, rfl, hpm, hF⟩
        rw [show onesD F = (F.map sgn).map Dv.str from by unfold onesD; rw [List.map_map]; rfl]
        rw [Int.toNat_natCast] at hF h
        walk_at "dd"
        refine i_join rfl (strsOf_map _) (by rw [sum_sgn]; show F.length + _ * 0 ≤ _; omega) ?_
        have hj := join_sgn F
        generalize Txt.join (Str.ofString "") (F.map sgn) = u at hj
        have hnd := hpm.symm.nodup SG_nd
        refine ⟨mup M a (.lst [.int x, .int y, .int z]), ?_, h u x y z ⟨by rw [hj]; exact (List.nodup_append.mp hnd).1, fun c hc => hpm.mem_iff.mp (List.mem_append_left _ (by rw [hj] at hc; exact hc)), by rw [str_len, hj]; exact hF⟩⟩
        rw [mup_comm (Ne.symm nap)]
        exact Sub.new (by rw [mup_ne (Ne.symm nap)]; exact hp)
    · exact h.elim
/- _law_text: slots 0 _law_well_here, 1 _law_signs_here, 2 _law_most, 3 _law_k -/
theorem ok__law_text (T : Tn mg) {f : Addr} {fd : FuncData} (F : Fun K "_law_text" "_law_text" s__law_text f fd) {oA : Str → Addr} (ZC : Clz K mg oA) {cA : Str → Addr} (Z : Exs P w K mg base cA) (G__law_draw : FnD P w K mg base "_law_draw" 1 ["_law_well_here", "_law_most"] (fun fd => Binds K fd ["_law_well_here", "_law_most"] []) sp__law_draw) (gm : mg "_law_text" = some (.ref f)) : FnD P w K mg base "_law_text" 2 ["_law_well_here", "_law_signs_here", "_law_most"] (fun fd => Binds K fd ["_law_well_here", "_law_signs_here", "_law_most"] []) sp__law_text := by
  refine ⟨⟨f, fd, gm, F.kp, F.binds (ps := ["_law_well_here", "_law_signs_here", "_law_most"]) (fun _ _ _ _ _ _ us hl => match us, hl with | [_, _, _], _ => rfl), okD F sc__law_text (fun ds M Q E h => ?_) (fun cdv A outer s H M ds Qd Ed E hr cx h => ?_)⟩⟩
  · unfold sp__law_text at h
    split at h <;> first | rfl | exact h.elim
  · refine ⟨_, (dss_one (ds_ret (de_bm PySem.F.plainAttrs_str PySem.F.slot_str_join PySem.F.type_str_join md_join de_str (da_cons (de_frz (de_lc (g := (.nm 3)) rfl sc__law_text.nd (di_range1 (by rfl) T.n_range (da_cons (de_callF G__law_draw (hr.mono (by decide)) (by rfl) (fun _ h => h) .nil rdn passL ctx0 (da_cons (dv 0) (da_cons (de_op od_add (dv 2) de_int) da_nil))) da_nil)) (blkOk_by (N := ["_law_well_here", "_law_signs_here", "_law_most", "_law_k"]) (own := [("_law_k", 3)]) (sc := defScope s__law_text) (by decide +kernel)) (fun _ _ _ _ _ => (pg_name (i := 3) sc__law_text.nd rfl (Or.inl rfl))) (fun _ _ _ _ _ => dts_nil) (fun _ _ _ _ _ => (de_ix (dv 1) (de_callF G__law_draw (hr.mono (by decide)) (by rfl) (fun _ h => h) .nil rdn passL ctx0 (da_cons (dv 0) (da_cons (de_callB cd_len (by rfl) T.n_len (by decide +kernel) (da_cons (dv 1) da_nil)) da_nil))))))) da_nil)))), ?_⟩
    unfold sp__law_text at h; split at h
    · rename_i a s m
      obtain ⟨⟨x0, y0, z0, hM⟩, hs1, hs2, hm0, hm1, h⟩ := h
      have ss := str_len s
      walk_at "dd"
      rename_i r1 x1 y1 z1 hr10 hr11
      obtain ⟨n, rfl⟩ := Int.eq_ofNat_of_zero_le hr10
      refine lk_draw (fun d => ∃ x, d = .str x ∧ ∃ c, x = sgn c ∧ c ∈ s.cps.toList) (by omega) Drw.mk ?_ ?_
      · intro i acc x y z hi ha
        walk_at "dd"
        rename_i r x4 y4 z4 hr0 hr1
        have hr2 : r.toNat < s.cps.toList.length := by omega
        refine i_ixS (e_atI hr0 (List.getElem?_eq_getElem hr2)) (by omega) ?_
        walk_at "dd"
        exact ⟨ha.snoc ⟨_, rfl, _, rfl, List.getElem_mem hr2⟩, Drw.mk⟩
      · intro acc x y z ha
        obtain ⟨us, rfl, hul, hu⟩ := els_str ha
        obtain ⟨cs, rfl, hcs⟩ : ∃ cs : List Nat, us = cs.map sgn ∧ ∀ c ∈ cs, c ∈ s.cps.toList := sgn_list hu
        clear ha hu
        rw [List.length_map] at hul
        walk_at "dd"
        refine i_join rfl (strsOf_map _) (by rw [sum_sgn]; show cs.length + _ * 0 ≤ _; omega) ?_
        have hj := join_sgn cs
        generalize Txt.join (Str.ofString "") (cs.map sgn) = u at hj
        have hull : u.length = n := by rw [str_len, hj]; omega
        exact .here (h _ _ _ _ ⟨fun c hc => hcs c (by rw [hj] at hc; exact hc), by omega⟩)
    · exact h.elim
/- _law_made: slots 0 _law_well_here, 1 _law_way, 2 _law_many, 3 _law_letters, 4 _law_told, 5 _law_most, 6 _law_rooms, 7 _law_k, 8 _law_end, 9 _law_sign -/
theorem ok__law_made (T : Tn mg) {f : Addr} {fd : FuncData} (F : Fun K "_law_made" "_law_made" s__law_made f fd) {oA : Str → Addr} (ZC : Clz K mg oA) {cA : Str → Addr} (Z : Exs P w K mg base cA) (G__law_text : FnD P w K mg base "_law_text" 2 ["_law_well_here", "_law_signs_here", "_law_most"] (fun fd => Binds K fd ["_law_well_here", "_law_signs_here", "_law_most"] []) sp__law_text) (G__law_draw : FnD P w K mg base "_law_draw" 1 ["_law_well_here", "_law_most"] (fun fd => Binds K fd ["_law_well_here", "_law_most"] []) sp__law_draw) (G__law_signs : FnD P w K mg base "_law_signs" 2 ["_law_well_here", "_law_many"] (fun fd => Binds K fd ["_law_well_here", "_law_many"] []) sp__law_signs) (gm : mg "_law_made" = some (.ref f)) : FnD P w K mg base "_law_made" 3 ["_law_well_here"] (fun fd => Binds K fd ["_law_well_here"] []) sp__law_made := by
  refine ⟨⟨f, fd, gm, F.kp, F.binds (ps := ["_law_well_here"]) (fun _ _ _ _ _ _ us hl => match us, hl with | [_], _ => rfl), okD F sc__law_made (fun ds M Q E h => ?_) (fun cdv A outer s H M ds Qd Ed E hr cx h => ?_)⟩⟩
  · unfold sp__law_made at h
    split at h <;> first | rfl | exact h.elim
  · refine ⟨_, (dss_cons (ds_set (i := 1) sc__law_made.nd rfl (Or.inl rfl) (de_callF G__law_draw (hr.mono (by decide)) (by rfl) (fun _ h => h) .nil rdn passL ctx0 (da_cons (dv 0) (da_cons de_int da_nil))))
      (dss_cons (ds_set (i := 2) sc__law_made.nd rfl (Or.inr rfl) (de_ix (de_frz (de_lst (da_cons (de_op od_add de_int (de_callF G__law_draw (hr.mono (by decide)) (by rfl) (fun _ h => h) .nil rdn passL ctx0 (da_cons (dv 0) (da_cons de_int da_nil)))) (da_cons de_int (da_cons de_int (da_cons (de_op od_add de_int (de_callF G__law_draw (hr.mono (by decide)) (by rfl) (fun _ h => h) .nil rdn passL ctx0 (da_cons (dv 0) (da_cons de_int da_nil)))) da_nil)))))) (de_op od_add (de_op od_add (de_callTy cd_int (by rfl) T.n_int (by decide +kernel) (da_cons (de_cmp od_gt (dv 1) de_int (nomark _)) da_nil)) (de_callTy cd_int (by rfl) T.n_int (by decide +kernel) (da_cons (de_cmp od_gt (dv 1) de_int (nomark _)) da_nil))) (de_callTy cd_int (by rfl) T.n_int (by decide +kernel) (da_cons (de_cmp (od_eq hr.units) (dv 1) de_int (nomark _)) da_nil)))))
      (dss_cons (ds_set (i := 3) sc__law_made.nd rfl (Or.inl rfl) (de_callF G__law_signs (hr.mono (by decide)) (by rfl) (fun _ h => h) .nil rdn passL ctx0 (da_cons (dv 0) (da_cons (de_ix (de_frz (de_lst (da_cons de_int (da_cons de_int (da_cons de_int (da_cons (de_op od_add de_int (de_callF G__law_draw (hr.mono (by decide)) (by rfl) (fun _ h => h) .nil rdn passL ctx0 (da_cons (dv 0) (da_cons de_int da_nil)))) da_nil)))))) (de_callB (cd_max2 rfl) (by rfl) T.n_max (by decide +kernel) (da_cons (de_op od_mod (de_op od_mod (dv 1) de_int) de_int) (da_cons (de_op od_mulY de_int (de_callTy cd_int (by rfl) T.n_int (by decide +kernel) (da_cons (de_cmp (od_eq hr.units) (dv 1) de_int (nomark _)) da_nil))) da_nil)))) da_nil))))
      (dss_cons (ds_set (i := 4) sc__law_made.nd rfl (Or.inr rfl) (de_callF G__law_signs (hr.mono (by decide)) (by rfl) (fun _ h => h) .nil rdn passL ctx0 (da_cons (dv 0) (da_cons (de_op od_add de_int (de_callF G__law_draw (hr.mono (by decide)) (by rfl) (fun _ h => h) .nil rdn passL ctx0 (da_cons (dv 0) (da_cons de_int da_nil)))) da_nil))))
      (dss_cons (ds_set (i := 5) sc__law_made.nd rfl (Or.inr rfl) (de_op od_add de_int (de_callF G__law_draw (hr.mono (by decide)) (by rfl) (fun _ h => h) .nil rdn passL ctx0 (da_cons (dv 0) (da_cons de_int da_nil)))))
      (dss_cons (ds_set (i := 6) sc__law_made.nd rfl (Or.inl rfl) (de_lst da_nil))
      (dss_cons (ds_fzS 6 (ds_for (passes_of rfl) rfl (di_range1 (by rfl) T.n_range (da_cons (dv 2) da_nil)) (dg_name (i := 7) sc__law_made.nd rfl (Or.inl rfl)) (dss_cons (ds_set (i := 8) sc__law_made.nd rfl (Or.inl rfl) (de_callF G__law_text (hr.mono (by decide)) (by rfl) (fun _ h => h) .nil rdn passL ctx0 (da_cons (dv 0) (da_cons (dv 4) (da_cons (dv 5) da_nil)))))
      (dss_one (ds_expr (de_bm PySem.F.plainAttrs_list PySem.F.slot_list_append PySem.F.type_list_append md_append (dv 6) (da_cons (de_tup (da_cons (dv 8) (da_cons (de_frz (de_lc (g := (.nm 9)) rfl sc__law_made.nd (di_str (dv 3)) (blkOk_by (N := ["_law_well_here", "_law_way", "_law_many", "_law_letters", "_law_told", "_law_most", "_law_rooms", "_law_k", "_law_end", "_law_sign"]) (own := [("_law_sign", 9)]) (sc := defScope s__law_made) (by decide +kernel)) (fun _ _ _ _ _ => (pg_name (i := 9) sc__law_made.nd rfl (Or.inl rfl))) (fun _ _ _ _ _ => dts_nil) (fun _ _ _ _ _ => (de_tup (da_cons (de_callF G__law_text (hr.mono (by decide)) (by rfl) (fun _ h => h) .nil rdn passL ctx0 (da_cons (dv 0) (da_cons (dv 4) (da_cons (dv 5) da_nil)))) (da_cons (de_callF G__law_draw (hr.mono (by decide)) (by rfl) (fun _ h => h) .nil rdn passL ctx0 (da_cons (dv 0) (da_cons (dv 2) da_nil))) da_nil)))))) da_nil))) da_nil)))))))
      (dss_one (ds_ret (de_tup (da_cons (dv 3) (da_cons (dv 6) (da_cons (de_ix (de_frz (de_lst (da_cons (de_callF G__law_text (hr.mono (by decide)) (by rfl) (fun _ h => h) .nil rdn passL ctx0 (da_cons (dv 0) (da_cons (dv 4) (da_cons (dv 5) da_nil)))) (da_cons de_str (da_cons de_str da_nil))))) (de_op od_mod (dv 1) de_int)) da_nil))))))))))))), ?_⟩
    unfold sp__law_made at h; split at h
    · rename_i a
      obtain ⟨⟨x0, y0, z0, hM⟩, h⟩ := h
      walk_at "dd"
      rename_i w x1 y1 z1 hw0 hw1 r xA yA zA hr0 hr1 q x2 y2 z2 hq0 hq1
      obtain ⟨m, hm1, hm2, hm⟩ := ix4m hr0 hr1 hq0 hq1 (decide (6 < w)) (decide (8 < w)) (decide (w = 11))
      obtain ⟨k, rfl⟩ := Int.eq_ofNat_of_zero_le (show 0 ≤ m by omega)
      refine i_ixL rfl hm ?_
      walk_at "dd"
      rename_i rL xB yB zB hL0 hL1
      obtain ⟨u, hu⟩ : ∃ u : Int, u = if decide (w = 11) = true then 1 else 0 := ⟨_, rfl⟩
      have hu0 : 0 ≤ u ∧ u ≤ 1 := by rw [hu]; split <;> omega
      obtain ⟨nl, hn1, hn2, hnl⟩ := ix4l (k := if 3 * u > w % 4 % 3 then 3 * u else w % 4 % 3) (r := rL) (by split <;> omega) (by split <;> omega) hL0 hL1
      rw [hu] at hnl
      refine i_ixL rfl hnl ?_
      walk_at "dd"
      rename_i l x3 y3 z3 hl r3 x4 y4 z4 hr30 hr31 s x5 y5 z5 hsg r4 x6 y6 z6 hr40 hr41 p hp
      have sl := hsg.len
      have ll := hl.len
      have hds : (signsD l).length = l.length := signsD_len l
      have nap : a ≠ p := mne2 hp mup_same
      refine fo_rng (n := k) (fun i sd M' => ∃ (rs : List Room) (x y z : Int) (y7_ y8_ y9_ : Option Dv), sd = [some (.ref a), some (.int w), some (.int (k : Nat)), some (.str l), some (.str s), some (.int (1 + r4)), some (.ref p), y7_, y8_, y9_] ∧ (M' = mup (mup M p (.lst (rmsD rs))) a (.lst [.int x, .int y, .int z]) ∧ rs.length = i ∧ ∀ r, r ∈ rs → RmOk l.length k 2 r)) ⟨[], x6, y6, z6, _, _, _, rfl, by rw [mup_comm (Ne.symm nap)]; rfl, rfl, fun r hr => by cases hr⟩ ?_ ?_
      · rintro i sd M' hi ⟨rs, x, y, z, y7_, y8_, y9_, rfl, rfl, hrl, hrs⟩
        walk_at "dd"
        rename_i t x7 y7 z7 ht
        refine lk_fz (fun j acc M'' => (∃ ws : List Way, acc = ws.map wyD ∧ ws.length = j ∧ ∀ w, w ∈ ws → InS w.1 ∧ w.1.length ≤ 2 ∧ w.2 < k) ∧ Drw (mup M p (.lst (rmsD rs))) a M'') (by omega) ⟨⟨[], rfl, rfl, fun w hw => by cases hw⟩, Drw.mk⟩ ?_ ?_
        · rintro j d acc M'' hd ha ⟨⟨ws, rfl, hwl, hws⟩, x8, y8, z8, rfl⟩
          obtain ⟨c, hc, rfl⟩ := signsD_get hd
          walk_at "dd"
          rename_i t2 x9 y9 z9 ht2 n xa ya za hn0 hn1
          obtain ⟨n, rfl⟩ := Int.eq_ofNat_of_zero_le hn0
          have t2l := ht2.len
          refine ⟨⟨ws ++ [(t2, n)], by rw [List.map_append]; rfl, by rw [List.length_append, hwl]; rfl, fun w hw => ?_⟩, Drw.mk⟩
          rcases List.mem_append.mp hw with hw | hw
          · exact hws w hw
          · rw [List.mem_singleton.mp hw]
            exact ⟨ht2.ins hsg, by show t2.length ≤ 2; omega, by show n < k; omega⟩
        · rintro acc M'' hacc ⟨⟨ws, rfl, hwl, hws⟩, x8, y8, z8, rfl⟩
          rw [hds] at hwl
          have tl := ht.len
          have hrml : (rmsD rs).length = rs.length := List.length_map _
          walk_at "dd"
          refine ⟨rs ++ [(t, ws)], x8, y8, z8, _, _, _, rfl, ?_, by rw [List.length_append, hrl]; rfl, fun r hr => ?_⟩
          · rw [mup_comm nap, mup_mup, show rmsD (rs ++ [(t, ws)]) = rmsD rs ++ [rmD (t, ws)] from List.map_append]
          · rcases List.mem_append.mp hr with hr | hr
            · exact hrs r hr
            · rw [List.mem_singleton.mp hr]
              exact ⟨ht.ins hsg, by show t.length ≤ 2; omega, hwl, hws⟩
      · rintro sd M' ⟨rs, x, y, z, y7_, y8_, y9_, rfl, rfl, hrl, hrs⟩
        have hMp : M p = none := by
          rw [mup_ne (Ne.symm nap)] at hp
          exact hp
        walk_at "dd"
        refine i_fzAt (by rw [mup_ne (Ne.symm nap), mup_same]) rfl ?_
        have eM : mdl (mup (mup M p (.lst (rmsD rs))) a (.lst [.int x, .int y, .int z])) p = mup M a (.lst [.int x, .int y, .int z]) := by
          rw [mup_comm (Ne.symm nap), mdl_mup (by rw [mup_ne (Ne.symm nap)]; exact hMp)]
        rw [eM]
        walk_at "dd"
        rename_i t x7 y7 z7 ht
        obtain ⟨f, hf, hfi⟩ := ix3f (r := w) t
        refine i_ixL rfl hfi ?_
        walk_at "dd"
        have tl := ht.len
        refine .here (h l f rs x7 y7 z7 ⟨⟨_, hl, by omega, by omega⟩, by omega, by omega, by rw [hrl]; exact hrs, ?_, ?_⟩ (by omega))
        · rcases hf with rfl | rfl
          · exact ht.ins hsg
          · exact InS.nil
        · rcases hf with rfl | rfl
          · omega
          · exact Nat.zero_le _
    · exact h.elim
/- _law_machine: slots 0 _law_made_here, 1 _law_letters, 2 _law_rooms, 3 _law_first, 4 _law_end, 5 _law_ways -/
theorem ok__law_machine (T : Tn mg) {f : Addr} {fd : FuncData} (F : Fun K "_law_machine" "_law_machine" s__law_machine f fd) {oA : Str → Addr} (ZC : Clz K mg oA) {cA : Str → Addr} (Z : Exs P w K mg base cA) (G_Machine___init__ : MakeD P w K mg base "Machine" 4 ["self", "letters", "rooms", "first"] (fun fd => (∃ us, Vals [] us ∧ Binds K fd ["self", "letters", "rooms", "first"] us) ∧ True) sp_Machine___init__) (gm : mg "_law_machine" = some (.ref f)) : FnD P w K mg base "_law_machine" 6 ["_law_made_here"] (fun fd => Binds K fd ["_law_made_here"] []) sp__law_machine := by
  refine ⟨⟨f, fd, gm, F.kp, F.binds (ps := ["_law_made_here"]) (fun _ _ _ _ _ _ us hl => match us, hl with | [_], _ => rfl), okD F sc__law_machine (fun ds M Q E h => ?_) (fun cdv A outer s H M ds Qd Ed E hr cx h => ?_)⟩⟩
  · unfold sp__law_machine at h
    split at h <;> first | rfl | exact h.elim
  · refine ⟨_, (dss_cons (ds_asg (dv 0) (dg_tup rfl (dgs_cons (dg_name (i := 1) sc__law_machine.nd rfl (Or.inl rfl)) (dgs_cons (dg_name (i := 2) sc__law_machine.nd rfl (Or.inl rfl)) (dgs_cons (dg_name (i := 3) sc__law_machine.nd rfl (Or.inl rfl)) dgs_nil)))))
      (dss_one (ds_ret (de_frz (de_make (ddvs := []) G_Machine___init__ (hr.mono (by decide)) (by rfl) (fun _ h => h.1) (fun _ => .nil) (passB (takes_of rfl rfl rfl rfl)) cx (da_cons (dv 1) (da_cons (de_frz (de_lc (g := (.tp [(.nm 4), (.nm 5)])) rfl sc__law_machine.nd (di_list (dv 2)) (blkOk_by (N := ["_law_made_here", "_law_letters", "_law_rooms", "_law_first", "_law_end", "_law_ways"]) (own := [("_law_end", 4), ("_law_ways", 5)]) (sc := defScope s__law_machine) (by decide +kernel)) (fun _ _ _ _ _ => (pg_tup rfl (pgs_cons (pg_name (i := 4) sc__law_machine.nd rfl (Or.inl rfl)) (pgs_cons (pg_name (i := 5) sc__law_machine.nd rfl (Or.inl rfl)) pgs_nil)))) (fun _ _ _ _ _ => dts_nil) (fun _ _ _ _ _ => (de_tup (da_cons (dv 4) (da_cons (de_frz (de_callTy cd_list (by rfl) T.n_list (by decide +kernel) (da_cons (dv 5) da_nil))) da_nil)))))) (da_cons (dv 3) da_nil)))))))), ?_⟩
    unfold sp__law_machine at h; split at h
    · rename_i d
      obtain ⟨l, rs, f, B, rfl, ok, h⟩ := h
      have n2 := ok.r2
      have hl16 := ok.lt.2.2.1
      have hg : ∀ r, r ∈ rs → ∀ w, w ∈ r.2 → GoodS w.1 := fun r hr => (ok.good r hr).2
      have hwl : ∀ r, r ∈ rs → r.2.length ≤ 1000 := fun r hr => by rw [(ok.rm r hr).wl]; omega
      walk_at "dd"
      refine lk_fz (fun i acc M' => M' = M ∧ acc = (rmsD rs).take i) (by rw [List.length_map]; omega) ⟨rfl, rfl⟩ ?_ ?_
      · rintro i d acc M' hd ha ⟨rfl, rfl⟩
        obtain ⟨r, hr, rfl⟩ := map_get hd
        have hrl := hwl r (List.mem_of_getElem? hr)
        walk_at "dd"
        rw [List.take_add_one, hd]
        rfl
      · rintro acc M' hacc ⟨rfl, rfl⟩
        rw [List.take_length]
        intro p hp
        walk_at "dd"
        have pl1 : Pln 60 (.lst (rmsD rs)) := pln_rooms (n := 56) ok.good
        refine u_MachineG pl1.vw ok ?_
        exact .here h
    · exact h.elim
/- _law_walk: slots 0 _law_made_here, 1 _law_word, 2 _law_letters, 3 _law_rooms, 4 _law_first, 5 _law_text_here, 6 _law_room, 7 _law_sign, 8 _law_put -/
theorem ok__law_walk (T : Tn mg) {f : Addr} {fd : FuncData} (F : Fun K "_law_walk" "_law_walk" s__law_walk f fd) {oA : Str → Addr} (ZC : Clz K mg oA) {cA : Str → Addr} (Z : Exs P w K mg base cA)  (gm : mg "_law_walk" = some (.ref f)) : FnD P w K mg base "_law_walk" 1 ["_law_made_here", "_law_word"] (fun fd => Binds K fd ["_law_made_here", "_law_word"] []) sp__law_walk := by
  refine ⟨⟨f, fd, gm, F.kp, F.binds (ps := ["_law_made_here", "_law_word"]) (fun _ _ _ _ _ _ us hl => match us, hl with | [_, _], _ => rfl), okD F sc__law_walk (fun ds M Q E h => ?_) (fun cdv A outer s H M ds Qd Ed E hr cx h => ?_)⟩⟩
  · unfold sp__law_walk at h
    split at h <;> first | rfl | exact h.elim
  · refine ⟨_, (dss_cons (ds_asg (dv 0) (dg_tup rfl (dgs_cons (dg_name (i := 2) sc__law_walk.nd rfl (Or.inl rfl)) (dgs_cons (dg_name (i := 3) sc__law_walk.nd rfl (Or.inl rfl)) (dgs_cons (dg_name (i := 4) sc__law_walk.nd rfl (Or.inl rfl)) dgs_nil)))))
      (dss_cons (ds_set (i := 5) sc__law_walk.nd rfl (Or.inl rfl) (dv 4))
      (dss_cons (ds_set (i := 6) sc__law_walk.nd rfl (Or.inl rfl) de_int)
      (dss_cons (ds_for (passes_of rfl) rfl (di_str (dv 1)) (dg_name (i := 7) sc__law_walk.nd rfl (Or.inl rfl)) (dss_cons (ds_asg (de_ix (de_ix (de_ix (dv 3) (dv 6)) de_int) (de_bm PySem.F.plainAttrs_str PySem.F.slot_str_index PySem.F.type_str_index (md_index rfl) (dv 2) (da_cons (dv 7) da_nil))) (dg_tup rfl (dgs_cons (dg_name (i := 8) sc__law_walk.nd rfl (Or.inl rfl)) (dgs_cons (dg_name (i := 6) sc__law_walk.nd rfl (Or.inl rfl)) dgs_nil))))
      (dss_one (ds_set (i := 5) sc__law_walk.nd rfl (Or.inl rfl) (de_op od_add (dv 5) (dv 8))))))
      (dss_one (ds_ret (de_tup (da_cons (dv 5) (da_cons (dv 6) da_nil))))))))), ?_⟩
    unfold sp__law_walk at h; split at h
    · rename_i d w
      obtain ⟨l, rs, f, B, rfl, ok, hw, hwl, hB, h⟩ := h
      have ws := str_len w
      have hr1 := ok.r1
      have hfl := ok.fl
      walk_at "dd"
      refine fo_fzK (fun i sd => ∃ (y7_ y8_ : Option Dv), sd = [some (mdD l rs f), some (.str w), some (.str l), some (.lst (rmsD rs)), some (.str f), some (.str (f ++ (wk l rs 0 (w.cps.toList.take i)).1)), some (.int ((wk l rs 0 (w.cps.toList.take i)).2 : Nat)), y7_, y8_]) ⟨_, _, rfl⟩ ?_ ?_
      · rintro i d sd hd ⟨y7_, y8_, rfl⟩
        obtain ⟨c, hc, rfl⟩ := signsD_get hd
        have hc2 : w.cps.toList[i]? = some c := by rw [Array.getElem?_toList]; exact hc
        have hcl := hw c (List.mem_of_getElem? hc2)
        have hil := (List.getElem?_eq_some_iff.mp hc2).1
        obtain ⟨_, g2, g3⟩ := ok.wk (w.cps.toList.take i) hr1 fun c hc => hw c (List.mem_of_mem_take hc)
        have e2 : w.cps.toList.take (i + 1) = w.cps.toList.take i ++ [c] := by rw [List.take_add_one, hc2]; rfl
        have hB2 : B * (w.cps.toList.take i).length + 2 * B ≤ 16000000 := by
          rw [List.length_take, Nat.min_eq_left (by omega)]
          have : B * i ≤ B * w.length := Nat.mul_le_mul_left B (by omega)
          omega
        rw [e2, wk_snoc]
        generalize wk l rs 0 (w.cps.toList.take i) = q at g2 g3
        obtain ⟨r, hr, hwy, _, gl, gr⟩ := ok.way g3 hcl
        walk_at "dd"
        refine i_ixL rfl (L2.atI_nat (by rw [List.getElem?_map, hr]; rfl)) ?_
        walk_at "dd"
        refine i_index (idx_get hcl) (fun j hj => idx_first hj) ?_
        walk_at "dd"
        refine i_ixL rfl (L2.atI_nat (by rw [List.getElem?_map, hwy]; rfl)) ?_
        walk_at "dd"
        rw [str_assoc]
        exact ⟨⟨_, _, rfl⟩, rfl⟩
      · rintro sd ⟨y7_, y8_, rfl⟩
        have e : (signsD w).length = w.cps.toList.length := by simp [signsD]
        rw [e, List.take_length]
        walk_at "dd"
        exact .here h
    · exact h.elim
/- _law_row: slots 0 _law_made_here, 1 _law_word, 2 _law_text_here, 3 _law_room -/
theorem ok__law_row (T : Tn mg) {f : Addr} {fd : FuncData} (F : Fun K "_law_row" "_law_row" s__law_row f fd) {oA : Str → Addr} (ZC : Clz K mg oA) {cA : Str → Addr} (Z : Exs P w K mg base cA) (G__law_walk : FnD P w K mg base "_law_walk" 1 ["_law_made_here", "_law_word"] (fun fd => Binds K fd ["_law_made_here", "_law_word"] []) sp__law_walk) (gm : mg "_law_row" = some (.ref f)) : FnD P w K mg base "_law_row" 2 ["_law_made_here", "_law_word"] (fun fd => Binds K fd ["_law_made_here", "_law_word"] []) sp__law_row := by
  refine ⟨⟨f, fd, gm, F.kp, F.binds (ps := ["_law_made_here", "_law_word"]) (fun _ _ _ _ _ _ us hl => match us, hl with | [_, _], _ => rfl), okD F sc__law_row (fun ds M Q E h => ?_) (fun cdv A outer s H M ds Qd Ed E hr cx h => ?_)⟩⟩
  · unfold sp__law_row at h
    split at h <;> first | rfl | exact h.elim
  · refine ⟨_, (dss_cons (ds_asg (de_frz (de_callF G__law_walk (hr.mono (by decide)) (by rfl) (fun _ h => h) .nil rdn passL ctx0 (da_cons (dv 0) (da_cons (dv 1) da_nil)))) (dg_tup rfl (dgs_cons (dg_name (i := 2) sc__law_row.nd rfl (Or.inl rfl)) (dgs_cons (dg_name (i := 3) sc__law_row.nd rfl (Or.inl rfl)) dgs_nil))))
      (dss_one (ds_ret (de_op od_add (dv 2) (de_ix (de_ix (de_ix (dv 0) de_int) (dv 3)) de_int))))), ?_⟩
    unfold sp__law_row at h; split at h
    · rename_i d w
      obtain ⟨l, rs, f, B, rfl, ok, hw, hwl, hB, h⟩ := h
      obtain ⟨q1, q2⟩ := told_len ok hw
      have hr := List.getElem?_eq_getElem q2
      have he := (ok.rm _ (List.getElem_mem q2)).le
      walk_at "dd"
      refine u_lwalk ok hw hwl hB ?_
      unfold rowM at h
      generalize toldM l rs f w = t at *
      generalize rs[t.2] = r at hr he
      rw [endM_eq hr] at h
      walk_at "dd"
      refine i_ixL rfl (L2.atI_nat (by rw [List.getElem?_map, hr]; rfl)) ?_
      walk_at "dd"
      exact .here h
    · exact h.elim
/- _law_asked: slots 0 _law_well_here, 1 _law_made_here, 2 _law_way, 3 _law_row_here, 4 _law_some, 5 _law_at, 6 _law_sign -/
theorem ok__law_asked (T : Tn mg) {f : Addr} {fd : FuncData} (F : Fun K "_law_asked" "_law_asked" s__law_asked f fd) {oA : Str → Addr} (ZC : Clz K mg oA) {cA : Str → Addr} (Z : Exs P w K mg base cA) (G__law_text : FnD P w K mg base "_law_text" 2 ["_law_well_here", "_law_signs_here", "_law_most"] (fun fd => Binds K fd ["_law_well_here", "_law_signs_here", "_law_most"] []) sp__law_text) (G__law_draw : FnD P w K mg base "_law_draw" 1 ["_law_well_here", "_law_most"] (fun fd => Binds K fd ["_law_well_here", "_law_most"] []) sp__law_draw) (G__law_signs : FnD P w K mg base "_law_signs" 2 ["_law_well_here", "_law_many"] (fun fd => Binds K fd ["_law_well_here", "_law_many"] []) sp__law_signs) (G__law_row : FnD P w K mg base "_law_row" 2 ["_law_made_here", "_law_word"] (fun fd => Binds K fd ["_law_made_here", "_law_word"] []) sp__law_row) (gm : mg "_law_asked" = some (.ref f)) : FnD P w K mg base "_law_asked" 3 ["_law_well_here", "_law_made_here"] (fun fd => Binds K fd ["_law_well_here", "_law_made_here"] []) sp__law_asked := by
  refine ⟨⟨f, fd, gm, F.kp, F.binds (ps := ["_law_well_here", "_law_made_here"]) (fun _ _ _ _ _ _ us hl => match us, hl with | [_, _], _ => rfl), okD F sc__law_asked (fun ds M Q E h => ?_) (fun cdv A outer s H M ds Qd Ed E hr cx h => ?_)⟩⟩
  · unfold sp__law_asked at h
    split at h <;> first | rfl | exact h.elim
  · refine ⟨_, (dss_cons (ds_set (i := 2) sc__law_asked.nd rfl (Or.inl rfl) (de_callF G__law_draw (hr.mono (by decide)) (by rfl) (fun _ h => h) .nil rdn passL ctx0 (da_cons (dv 0) (da_cons de_int da_nil))))
      (dss_cons (ds_set (i := 3) sc__law_asked.nd rfl (Or.inl rfl) (de_frz (de_callF G__law_row (hr.mono (by decide)) (by rfl) (fun _ h => h) .nil rdn passL ctx0 (da_cons (dv 1) (da_cons (de_callF G__law_text (hr.mono (by decide)) (by rfl) (fun _ h => h) .nil rdn passL ctx0 (da_cons (dv 0) (da_cons (de_ix (dv 1) de_int) (da_cons (de_ix (de_frz (de_lst (da_cons de_int (da_cons de_int da_nil)))) (de_callTy cd_int (by rfl) T.n_int (by decide +kernel) (da_cons (de_cmp od_gt (dv 2) de_int (nomark _)) da_nil))) da_nil)))) da_nil)))))
      (dss_cons (ds_set (i := 4) sc__law_asked.nd rfl (Or.inl rfl) (de_op od_add (dv 3) (de_callF G__law_signs (hr.mono (by decide)) (by rfl) (fun _ h => h) .nil rdn passL ctx0 (da_cons (dv 0) (da_cons de_int da_nil)))))
      (dss_cons (ds_set (i := 5) sc__law_asked.nd rfl (Or.inl rfl) (de_callF G__law_draw (hr.mono (by decide)) (by rfl) (fun _ h => h) .nil rdn passL ctx0 (da_cons (dv 0) (da_cons (de_op od_add (de_callB cd_len (by rfl) T.n_len (by decide +kernel) (da_cons (dv 3) da_nil)) de_int) da_nil))))
      (dss_cons (ds_set (i := 6) sc__law_asked.nd rfl (Or.inl rfl) (de_ix (dv 4) (de_callF G__law_draw (hr.mono (by decide)) (by rfl) (fun _ h => h) .nil rdn passL ctx0 (da_cons (dv 0) (da_cons (de_callB cd_len (by rfl) T.n_len (by decide +kernel) (da_cons (dv 4) da_nil)) da_nil)))))
      (dss_cons (ds_if (dt_cmp od_in (dv 2) (de_tup (da_cons de_int (da_cons de_int (da_cons de_int da_nil)))) (by rfl)) (dss_one (ds_set (i := 3) sc__law_asked.nd rfl (Or.inl rfl) (de_op od_add (de_op od_add (de_slice (dv 3) do_none (do_some (dv 5))) (de_ix (de_frz (de_lst (da_cons (dv 6) (da_cons de_str (da_cons (dv 6) da_nil))))) (de_op od_sub (dv 2) de_int))) (de_slice (dv 3) (do_some (de_op od_add (dv 5) (de_ix (de_frz (de_lst (da_cons de_int (da_cons de_int (da_cons de_int da_nil))))) (de_op od_sub (dv 2) de_int)))) do_none)))) dss_nil)
      (dss_cons (ds_if (dt_cmp (od_eq hr.units) (dv 2) de_int (nomark _)) (dss_one (ds_set (i := 3) sc__law_asked.nd rfl (Or.inl rfl) (de_callF G__law_text (hr.mono (by decide)) (by rfl) (fun _ h => h) .nil rdn passL ctx0 (da_cons (dv 0) (da_cons (dv 4) (da_cons de_int da_nil)))))) dss_nil)
      (dss_one (ds_ret (dv 3)))))))))), ?_⟩
    unfold sp__law_asked at h; split at h
    · rename_i a d
      obtain ⟨⟨x0, y0, z0, hM⟩, l, rs, f, rfl, dr, h⟩ := h
      have ok := dr.ok
      have r12 := dr.r2
      have ll := ok.lt.2.1
      have l16 := ok.lt.2.2.1
      walk_at "dd"
      rename_i wy x1 y1 z1 hw0 hw1
      obtain ⟨k, hk0, hk1, hki⟩ : ∃ k : Int, 0 ≤ k ∧ k ≤ 8 ∧ L2.atI [Dv.int 5, .int 8] (if decide (4 < wy) = true then 1 else 0) = some (.int k) := by
        cases decide (4 < wy)
        · exact ⟨5, by decide, by decide, rfl⟩
        · exact ⟨8, by decide, by decide, rfl⟩
      refine i_ixL rfl hki ?_
      walk_at "dd"
      rename_i t x3 y3 z3 ht
      have htl := ht.len
      refine u_lrow ok ht.sub (by omega) (by omega) ?_
      obtain ⟨hri, hrl⟩ := rowM_ok ok ht.sub
      have hs1 : (rowM l rs f t).length ≤ 20 := by omega
      generalize rowM l rs f t = s1 at hri hs1
      clear hrl
      walk_at "dd"
      rename_i sg x4 y4 z4 hsg
      have hsl : sg.length = 1 := hsg.len
      have hsi : InS sg := fun c hc => hsg.sub c hc
      have hs2 : (s1 ++ sg).length = s1.length + 1 := by rw [PySem.Str.length_append, hsl]
      have hsi2 : InS (s1 ++ sg) := InS.app hri hsi
      walk_at "dd"
      rename_i at_ x5 y5 z5 ha0 ha1 ci x6 y6 z6 hc0 hc1
      obtain ⟨at_, rfl⟩ := Int.eq_ofNat_of_zero_le ha0
      obtain ⟨ci, rfl⟩ := Int.eq_ofNat_of_zero_le hc0
      have hcl : ci < (s1 ++ sg).cps.toList.length := by rw [← str_len]; omega
      refine i_ixS (L2.atI_nat (List.getElem?_eq_getElem hcl)) (by omega) ?_
      have hci := InS.sgn (hsi2 _ (List.getElem_mem hcl))
      have e_sg : ∀ c, (sgn c).length = 1 := fun _ => rfl
      generalize (s1 ++ sg).cps.toList[ci] = c at hci
      generalize s1 ++ sg = s2 at hsi2 hs2 hcl
      have fin : ∀ (s3 : Str) (x y z : Int), InS s3 → s3.length ≤ 41 → Fg Qd (.str s3) (mup M a (.lst [.int x, .int y, .int z])) := fun s3 x y z h1 h2 => .here (h s3 x y z h1 h2)
      have cutI : ∀ (lo hi : Option Int), InS (cutS s1 lo hi) := fun lo hi c hc => hri c (cutS_inB hc)
      have q0 : (cutS s1 none (some (at_ : Int))).length ≤ 20 := Nat.le_trans (cutS_lenB _ _ _) hs1
      have q1 : (cutS s1 (some ((at_ : Int) + 0)) none).length ≤ 20 := Nat.le_trans (cutS_lenB _ _ _) hs1
      have q2 : (cutS s1 (some ((at_ : Int) + 1)) none).length ≤ 20 := Nat.le_trans (cutS_lenB _ _ _) hs1
      have fin3 : ∀ (A md C : Str) (x y z : Int), InS A → InS md → InS C → A.length ≤ 20 → md.length ≤ 1 → C.length ≤ 20 → Fg Qd (.str (A ++ md ++ C)) (mup M a (.lst [.int x, .int y, .int z])) := fun A md C x y z h1 h2 h3 l1 l2 l3 => fin _ _ _ _ (InS.app (InS.app h1 h2) h3) (by rw [PySem.Str.length_append, PySem.Str.length_append]; omega)
      have e0 : (Str.ofString "").length = 0 := rfl
      have e1 : (sgn c).length = 1 := rfl
      have q3 : (cutS s1 none (some (at_ : Int)) ++ ({ cps := #[c] } : Str)).length ≤ 21 := by
        rw [PySem.Str.length_append]
        show _ + 1 ≤ _
        omega
      have q4 : (cutS s1 none (some (at_ : Int)) ++ Str.ofString "").length ≤ 21 := by rw [PySem.Str.length_append]; omega
      walk_at "dd"
      rcases (by omega : wy = 0 ∨ wy = 1 ∨ wy = 2 ∨ wy = 3 ∨ wy = 4 ∨ wy = 5 ∨ wy = 6 ∨ wy = 7) with e | e | e | e | e | e | e | e <;> subst e <;> refine i_inT rfl rfl ?_
      all_goals walk_at "dd"
      all_goals first
        | exact fin _ _ _ _ hri (by omega)
        | (rename_i t9 x9 y9 z9 ht9
           have := ht9.len
           exact fin _ _ _ _ (fun c hc => hsi2 c (ht9.sub c hc)) (by omega))
        | exact fin3 _ _ _ _ _ _ (cutI _ _) hci (cutI _ _) (Nat.le_trans (cutS_lenB _ _ _) hs1) (Nat.le_of_eq e1) (Nat.le_trans (cutS_lenB _ _ _) hs1)
        | exact fin3 _ _ _ _ _ _ (cutI _ _) InS.nil (cutI _ _) (Nat.le_trans (cutS_lenB _ _ _) hs1) (Nat.zero_le _) (Nat.le_trans (cutS_lenB _ _ _) hs1)
    · exact h.elim
/- _law_steps: slots 0 _law_made_here, 1 _law_row_here, 2 _law_pair, 3 _law_room, 4 _law_at, 5 _law_found_here, 6 _law_sign, 7 _law_text_here, 8 _law_there -/
theorem ok__law_steps (T : Tn mg) {f : Addr} {fd : FuncData} (F : Fun K "_law_steps" "_law_steps" s__law_steps f fd) {oA : Str → Addr} (ZC : Clz K mg oA) {cA : Str → Addr} (Z : Exs P w K mg base cA)  (gm : mg "_law_steps" = some (.ref f)) : FnD P w K mg base "_law_steps" 1 ["_law_made_here", "_law_row_here", "_law_pair"] (fun fd => Binds K fd ["_law_made_here", "_law_row_here", "_law_pair"] []) sp__law_steps := by
  refine ⟨⟨f, fd, gm, F.kp, F.binds (ps := ["_law_made_here", "_law_row_here", "_law_pair"]) (fun _ _ _ _ _ _ us hl => match us, hl with | [_, _, _], _ => rfl), okD F sc__law_steps (fun ds M Q E h => ?_) (fun cdv A outer s H M ds Qd Ed E hr cx h => ?_)⟩⟩
  · unfold sp__law_steps at h
    split at h <;> first | rfl | exact h.elim
  · refine ⟨_, (dss_cons (ds_asg (dv 2) (dg_tup rfl (dgs_cons (dg_name (i := 3) sc__law_steps.nd rfl (Or.inl rfl)) (dgs_cons (dg_name (i := 4) sc__law_steps.nd rfl (Or.inl rfl)) dgs_nil))))
      (dss_cons (ds_set (i := 5) sc__law_steps.nd rfl (Or.inl rfl) (de_lst da_nil))
      (dss_cons (ds_for (passes_of rfl) rfl (di_zip (by rfl) T.n_zip (da_cons (de_ix (dv 0) de_int) (da_cons (de_ix (de_ix (de_ix (dv 0) de_int) (dv 3)) de_int) da_nil))) (dg_tup rfl (dgs_cons (dg_name (i := 6) sc__law_steps.nd rfl (Or.inl rfl)) (dgs_cons (dg_tup rfl (dgs_cons (dg_name (i := 7) sc__law_steps.nd rfl (Or.inl rfl)) (dgs_cons (dg_name (i := 8) sc__law_steps.nd rfl (Or.inl rfl)) dgs_nil))) dgs_nil))) (dss_one (ds_if (dt_cmp (od_eq hr.units) (de_slice (dv 1) (do_some (dv 4)) (do_some (de_op od_add (dv 4) (de_callB cd_len (by rfl) T.n_len (by decide +kernel) (da_cons (dv 7) da_nil))))) (dv 7) (nomark _)) (dss_one (ds_expr (de_bm PySem.F.plainAttrs_list PySem.F.slot_list_append PySem.F.type_list_append md_append (dv 5) (da_cons (de_tup (da_cons (dv 6) (da_cons (de_tup (da_cons (dv 8) (da_cons (de_op od_add (dv 4) (de_callB cd_len (by rfl) T.n_len (by decide +kernel) (da_cons (dv 7) da_nil))) da_nil))) da_nil))) da_nil)))) dss_nil)))
      (dss_one (ds_ret (dv 5)))))), ?_⟩
    unfold sp__law_steps at h; split at h
    · rename_i d y x
      obtain ⟨l, rs, f, B, p, rfl, ok, rfl, hp, hy, h⟩ := h
      have e1 : rs[p.1]? = some (rs[p.1]'hp) := List.getElem?_eq_getElem hp
      have wl1 := (ok.rm _ (List.getElem_mem hp)).wl
      have l16 := ok.lt.2.2.1
      have bb := ok.bb
      walk_at "dd"
      rename_i q hq
      refine i_ixL rfl (L2.atI_nat (by rw [List.getElem?_map, e1]; rfl)) ?_
      walk_at "dd"
      have hll : (signsD l).length = l.length := signsD_len l
      refine fo_fz (fun i sd M' => ∃ (y6_ y7_ y8_ : Option Dv), sd = [some (mdD l rs f), some (.str y), some (prD p), some (.int (p.1 : Nat)), some (.int (p.2 : Nat)), some (.ref q), y6_, y7_, y8_] ∧ (M' = mup M q (.lst (((List.range i).filterMap (stpI l rs y p)).map stD)))) ⟨_, _, _, rfl, rfl⟩ ?_ ?_
      · rintro i d sd M' hd ⟨y6_, y7_, y8_, rfl, rfl⟩
        obtain ⟨x, z, hx, hz, rfl⟩ := DL.pairD_get hd
        obtain ⟨c, hc, rfl⟩ := signsD_get hx
        obtain ⟨u, hu, rfl⟩ := map_get hz
        have hil : i < l.length := by rw [← hll]; exact (List.getElem?_eq_some_iff.mp hx).1
        obtain ⟨q1, g1, g2, gi, gl, gr⟩ := wayI_ok ok hp hil
        rw [e1] at g1
        cases g1
        rw [hu] at g2
        cases g2
        have hc2 : l.cps.toList.getD i 0 = c := by
          rw [List.getD_eq_getElem?_getD, Array.getElem?_toList, hc]
          rfl
        have hfl := List.length_filterMap_le (stpI l rs y p) (List.range i)
        rw [List.length_range] at hfl
        have hfl2 : ((List.filterMap (stpI l rs y p) (List.range i)).map stD).length < 16777216 := by rw [List.length_map]; omega
        walk_at "dd"
        refine i_ifd (fun a => ?_) (fun a => ?_)
        · walk_at "dd"
          rw [mup_mup]
          refine ⟨_, _, _, rfl, ?_⟩
          rw [List.range_succ, filterMap_snoc, List.map_append, stpI_pos (show fitB y p.2 (wayI rs p.1 i).1 from a), hc2]
          rfl
        · walk_at "dd"
          refine ⟨_, _, _, rfl, ?_⟩
          rw [List.range_succ, filterMap_snoc, List.map_append, stpI_neg (show ¬ fitB y p.2 (wayI rs p.1 i).1 from a)]
          rw [show List.map stD (none : Option St).toList = [] from rfl, List.append_nil]
      · rintro sd M' ⟨y6_, y7_, y8_, rfl, rfl⟩
        have hpl : (DL.pairD (signsD l) (List.map wyD (rs[p.1]'hp).2)).length = l.length := by unfold DL.pairD; rw [List.length_zipWith, hll, List.length_map, wl1, Nat.min_self]
        rw [hpl]
        walk_at "dd"
        exact .here (h q hq)
    · exact h.elim
/- _law_pairs: slots 0 _law_made_here, 1 _law_row_here, 2 _law_words, 3 _law_order, 4 _law_at, 5 _law_sign, 6 _law_there -/
theorem ok__law_pairs (T : Tn mg) {f : Addr} {fd : FuncData} (F : Fun K "_law_pairs" "_law_pairs" s__law_pairs f fd) {oA : Str → Addr} (ZC : Clz K mg oA) {cA : Str → Addr} (Z : Exs P w K mg base cA) (G__law_steps : FnD P w K mg base "_law_steps" 1 ["_law_made_here", "_law_row_here", "_law_pair"] (fun fd => Binds K fd ["_law_made_here", "_law_row_here", "_law_pair"] []) sp__law_steps) (gm : mg "_law_pairs" = some (.ref f)) : FnD P w K mg base "_law_pairs" 2 ["_law_made_here", "_law_row_here"] (fun fd => Binds K fd ["_law_made_here", "_law_row_here"] []) (sp__law_pairs w) := by
  refine ⟨⟨f, fd, gm, F.kp, F.binds (ps := ["_law_made_here", "_law_row_here"]) (fun _ _ _ _ _ _ us hl => match us, hl with | [_, _], _ => rfl), okD F sc__law_pairs (fun ds M Q E h => ?_) (fun cdv A outer s H M ds Qd Ed E hr cx h => ?_)⟩⟩
  · unfold sp__law_pairs at h
    split at h <;> first | rfl | exact h.elim
  · refine ⟨_, (dss_cons (ds_set (i := 2) sc__law_pairs.nd rfl (Or.inl rfl) (de_tnew (w := w) rfl))
      (dss_cons (ds_set (i := 3) sc__law_pairs.nd rfl (Or.inl rfl) (de_lst da_nil))
      (dss_cons (ds_if (dt_cmp (od_eq hr.units) (de_slice (dv 1) do_none (do_some (de_callB cd_len (by rfl) T.n_len (by decide +kernel) (da_cons (de_ix (dv 0) de_int) da_nil)))) (de_ix (dv 0) de_int) (nomark _)) (dss_cons (ds_expr (de_bm PySem.F.plainAttrs_list PySem.F.slot_list_append PySem.F.type_list_append md_append (dv 3) (da_cons (de_tup (da_cons de_int (da_cons (de_callB cd_len (by rfl) T.n_len (by decide +kernel) (da_cons (de_ix (dv 0) de_int) da_nil)) da_nil))) da_nil)))
      (dss_one (ds_tput (w := w) rfl (room16 hr.units) (dv 2) (de_ix (dv 3) de_int) de_str))) dss_nil)
      (dss_cons (ds_set (i := 4) sc__law_pairs.nd rfl (Or.inl rfl) de_int)
      (dss_cons (ds_while (passes_of rfl) (dt_cmp od_lt (dv 4) (de_callB cd_len (by rfl) T.n_len (by decide +kernel) (da_cons (dv 3) da_nil)) (nomark _)) (dss_cons (ds_for (passes_of rfl) rfl (di_list (de_frz (de_callF G__law_steps (hr.mono (by decide)) (by rfl) (fun _ h => h) .nil rdn passL ctx0 (da_cons (dv 0) (da_cons (dv 1) (da_cons (de_ix (dv 3) (dv 4)) da_nil)))))) (dg_tup rfl (dgs_cons (dg_name (i := 5) sc__law_pairs.nd rfl (Or.inl rfl)) (dgs_cons (dg_name (i := 6) sc__law_pairs.nd rfl (Or.inl rfl)) dgs_nil))) (dss_one (ds_if (dt_tnotin (w := w) rfl (room16 hr.units) (dv 6) (dv 2)) (dss_cons (ds_tput (w := w) rfl (room16 hr.units) (dv 2) (dv 6) (de_op od_add (de_tget (w := w) rfl (room16 hr.units) (dv 2) (de_ix (dv 3) (dv 4))) (dv 5)))
      (dss_one (ds_expr (de_bm PySem.F.plainAttrs_list PySem.F.slot_list_append PySem.F.type_list_append md_append (dv 3) (da_cons (dv 6) da_nil))))) dss_nil)))
      (dss_one (ds_set (i := 4) sc__law_pairs.nd rfl (Or.inl rfl) (de_op od_add (dv 4) de_int)))))
      (dss_one (ds_ret (de_frzD (dv 2))))))))), ?_⟩
    unfold sp__law_pairs at h; split at h
    · rename_i d y
      obtain ⟨l, rs, f, B, rfl, ok, hN, h⟩ := h
      have hy := most_len ok hN
      have fl := ok.fl
      have bb := ok.bb
      have nd0 := begB_nd f y
      walk_at "dd"
      rename_i pw hpw po hpo
      have npo : pw ≠ po := fun z => by rw [← z, mup_same] at hpo; cases hpo
      have hMo : M po = none := by rw [mup_ne (Ne.symm npo)] at hpo; exact hpo
      have hlo : ∀ A O, (mup (mup M pw A) po O) po = some O := fun A O => by rw [mup_same]
      have hlw : ∀ A O, (mup (mup M pw A) po O) pw = some A := fun A O => by rw [mup_ne npo, mup_same]
      have hup : ∀ A O A', mup (mup (mup M pw A) po O) pw A' = mup (mup M pw A') po O := fun A O A' => by rw [mup_comm (Ne.symm npo), mup_mup]
      clear hpo
      refine i_ifd (fun hq => ?_) (fun hq => ?_)
      have e2 : begB f y = [((0, f.length), ("" : Str))] := by
        unfold begB
        rw [if_pos (starts_cut.mpr hq)]
      walk_at "dd"
      refine i_kDctT (by rw [mup_mup, hlw]) ?_
      refine i_kKyT (prD_nk (0, f.length)) (prN_depth (0, f.length)) ?_
      refine ⟨by decide, ?_⟩
      rw [mup_mup, hup, show putT [] (.tup (prN (0, f.length))) (.str (Str.ofString "")) = textD (gB l rs f y 0) by
        rw [show gB l rs f y 0 = begB f y from rfl, e2]
        rfl, show [] ++ [Dv.tup [Dv.int 0, .int ((f.length : Nat) : Int)]] = (gB l rs f y 0).map (fun e => prD e.1) by
        rw [show gB l rs f y 0 = begB f y from rfl, e2]
        rfl]
      walk_at "dd"
      rotate_left
      have e2 : begB f y = [] := by
        unfold begB
        rw [if_neg fun z => hq (starts_cut.mp z)]
      walk_at "dd"
      rw [show mup (mup M pw (.dT w [])) po (.lst []) = mup (mup M pw (.dT w (textD (gB l rs f y 0)))) po (.lst ((gB l rs f y 0).map fun e => prD e.1)) by
        rw [show gB l rs f y 0 = begB f y from rfl, e2]
        rfl]
      all_goals
        clear hq e2
        refine wh (fun i sd M' => ∃ (a : Nat) (y5_ y6_ : Option Dv), sd = [some (mdD l rs f), some (.str y), some (.ref pw), some (.ref po), some (.int (a : Nat)), y5_, y6_] ∧ (i = mostB rs y + 1 - a ∧ M' = mup (mup M pw (.dT w (textD (gB l rs f y a)))) po (.lst ((gB l rs f y a).map fun e => prD e.1)) ∧ a ≤ (gB l rs f y a).length)) (mostB rs y + 1) ?_ ?_
        · exact ⟨0, _, _, rfl, rfl, rfl, Nat.zero_le _⟩
        · rintro m sd M' ⟨a, y5_, y6_, rfl, rfl, rfl, hal⟩
          have hfew := gB_few (y := y) ok a
          have hfew2 := gB_few (y := y) ok (a + 1)
          have nod := gB_nd l rs f y a
          by_cases q : a < (gB l rs f y a).length
          · obtain ⟨e, he⟩ : ∃ e, (gB l rs f y a)[a]? = some e := ⟨_, List.getElem?_eq_getElem q⟩
            have hem := List.mem_of_getElem? he
            have hok := gB_ok ok a e hem
            have hew := gB_wl l rs f y a e hem
            walk_at "dd"
            rw [List.length_map, decide_eq_true (by omega), if_pos rfl]
            walk_at "dd"
            refine i_ixL (e_seqR (hlo _ _)) (L2.atI_nat (by rw [List.getElem?_map, he]; rfl)) ?_
            walk_at "dd"
            refine u_lsteps ok hok.r hy (fun ps hps => ?_)
            walk_at "dd"
            have hnl : (nxB l rs y e).length = (stepB l rs y e.1).length := List.length_map _
            have hsl := stepB_len l rs y e.1
            have hl16 := ok.lt.2.2.1
            refine fo_fz (fun i sd M' => ∃ (y5_ y6_ : Option Dv), sd = [some (mdD l rs f), some (.str y), some (.ref pw), some (.ref po), some (.int (a : Nat)), y5_, y6_] ∧ (M' = mup (mup M pw (.dT w (textD (addWs (gB l rs f y a) ((nxB l rs y e).take i))))) po (.lst ((addWs (gB l rs f y a) ((nxB l rs y e).take i)).map fun e => prD e.1)))) ⟨_, _, rfl, rfl⟩ ?_ ?_
            · rintro i d sd M' hd ⟨y5_, y6_, rfl, rfl⟩
              obtain ⟨s, hs, rfl⟩ := map_get hd
              have hx : (nxB l rs y e)[i]? = some (s.2, e.2 ++ sgn s.1) := by
                unfold nxB
                rw [List.getElem?_map, hs]
                rfl
              have nda := addWs_nd ((nxB l rs y e).take i) _ nod
              have hacl : (addWs (gB l rs f y a) ((nxB l rs y e).take i)).length ≤ mostB rs y := by
                have := (addWs_take (gB l rs f y a) (nxB l rs y e) i).length_le
                rw [← gW_some (nxB l rs y) _ he] at this
                exact Nat.le_trans this hfew2
              have hea : (addWs (gB l rs f y a) ((nxB l rs y e).take i))[a]? = some e := preW (addWs_pre _ _) he
              rw [take_snoc hx, addWs_snoc]
              unfold addW
              generalize addWs (gB l rs f y a) ((nxB l rs y e).take i) = acc at *
              walk_at "dd"
              refine i_kDctT (hlw _ _) ?_
              refine i_kKyT (prD_nk _) (prN_depth _) ?_
              rw [show NestedKey.tup (prN s.2) = prK s.2 from rfl, kvP_isSome nda]
              by_cases hm : s.2 ∈ acc.map (·.1)
              · rw [decide_eq_true hm, if_pos hm]
                walk_at "dd"
                exact ⟨_, _, rfl, rfl⟩
              · rw [decide_eq_false hm, if_neg hm]
                have hkl : (textD acc).length = acc.length := kvP_len
                have hml : (acc.map fun e => prD e.1).length = acc.length := List.length_map _
                have hsg : (sgn s.1).length = 1 := rfl
                walk_at "dd"
                refine i_ixL (e_seqR (hlo _ _)) (L2.atI_nat (by rw [List.getElem?_map, hea]; rfl)) ?_
                refine i_kDctT (hlw _ _) ?_
                refine i_kKyT (prD_nk _) (prN_depth _) ?_
                rw [show NestedKey.tup (prN e.1) = prK e.1 from rfl, kvP_some nda (List.mem_of_getElem? hea)]
                walk_at "dd"
                refine i_kDctT (hlw _ _) ?_
                refine i_kKyT (prD_nk _) (prN_depth _) ?_
                refine ⟨by omega, ?_⟩
                rw [hup, show putT (textD acc) (.tup (prN s.2)) (.str (e.2 ++ sgn s.1)) = textD (acc ++ [(s.2, e.2 ++ sgn s.1)]) from kvP_put hm]
                walk_at "dd"
                rw [mup_mup]
                refine ⟨_, _, rfl, ?_⟩
                rw [List.map_append]
                rfl
            · rintro sd M' ⟨y5_, y6_, rfl, rfl⟩
              rw [List.length_map, ← hnl, List.take_length, ← gW_some (nxB l rs y) (begB f y) he]
              walk_at "dd"
              obtain ⟨t, ht⟩ := gW_pre (nxB l rs y) (begB f y) a
              have ht : gB l rs f y a ++ t = gB l rs f y (a + 1) := ht
              refine ⟨mostB rs y + 1 - (a + 1), by omega, ⟨a + 1, _, _, rfl, rfl, rfl, ?_⟩⟩
              rw [← ht, List.length_append]
              omega
          · walk_at "dd"
            rw [List.length_map, decide_eq_false (by omega), if_neg Bool.false_ne_true]
            walk_at "dd"
            refine ⟨_, _, .here (hlw _ _) rfl, ?_⟩
            have e : gB l rs f y a = ordB l rs f y := gB_end ok (by omega)
            rw [e]
            exact ⟨M, sub_mdl (sub_set (Sub.new hpw) hMo) hpw, h⟩
    · exact h.elim
/- _law_is_pair: slots 0 _law_made_here, 1 _law_row_here, 2 _law_thing, 3 _law_number -/
theorem ok__law_is_pair (T : Tn mg) {f : Addr} {fd : FuncData} (F : Fun K "_law_is_pair" "_law_is_pair" s__law_is_pair f fd) {oA : Str → Addr} (ZC : Clz K mg oA) {cA : Str → Addr} (Z : Exs P w K mg base cA)  (gm : mg "_law_is_pair" = some (.ref f)) : FnD P w K mg base "_law_is_pair" 1 ["_law_made_here", "_law_row_here", "_law_thing"] (fun fd => Binds K fd ["_law_made_here", "_law_row_here", "_law_thing"] []) sp__law_is_pair := by
  refine ⟨⟨f, fd, gm, F.kp, F.binds (ps := ["_law_made_here", "_law_row_here", "_law_thing"]) (fun _ _ _ _ _ _ us hl => match us, hl with | [_, _, _], _ => rfl), okD F sc__law_is_pair (fun ds M Q E h => ?_) (fun cdv A outer s H M ds Qd Ed E hr cx h => ?_)⟩⟩
  · unfold sp__law_is_pair at h
    split at h <;> first | rfl | exact h.elim
  · refine ⟨_, (dss_cons (ds_if (dt_w (dw_or (dt_not (dt_val (de_callB cd_isi (by rfl) T.n_isinstance (by decide +kernel) (da_cons (dv 2) (da_cons (de_bltn (n := "tuple") (by rfl) T.n_tuple (by decide +kernel)) da_nil))))) (dw_or1 (dt_cmp (od_ne hr.units) (de_callB cd_len (by rfl) T.n_len (by decide +kernel) (da_cons (dv 2) da_nil)) de_int (nomark _))))) (dss_one (ds_ret de_bl)) dss_nil)
      (dss_cons (ds_for (passes_of rfl) rfl (di_tup (dv 2)) (dg_name (i := 3) sc__law_is_pair.nd rfl (Or.inl rfl)) (dss_one (ds_if (dt_w (dw_or (dt_not (dt_val (de_callB cd_isi (by rfl) T.n_isinstance (by decide +kernel) (da_cons (dv 3) (da_cons (de_bltn (n := "int") (by rfl) T.n_int (by decide +kernel)) da_nil))))) (dw_or1 (dt_val (de_callB cd_isi (by rfl) T.n_isinstance (by decide +kernel) (da_cons (dv 3) (da_cons (de_bltn (n := "bool") (by rfl) T.n_bool (by decide +kernel)) da_nil))))))) (dss_one (ds_ret de_bl)) dss_nil)))
      (dss_one (ds_ret (de_and (de_chain od_le od_lt de_int (de_ix (dv 2) de_int) (de_callB cd_len (by rfl) T.n_len (by decide +kernel) (da_cons (de_ix (dv 0) de_int) da_nil))) (de_one (de_chain od_le od_le de_int (de_ix (dv 2) de_int) (de_callB cd_len (by rfl) T.n_len (by decide +kernel) (da_cons (dv 1) da_nil))))))))), ?_⟩
    unfold sp__law_is_pair at h; split at h
    · rename_i d y x
      obtain ⟨l, rs, f, B, rfl, ok, hy, hx, h⟩ := h
      have r2 := ok.r2
      have hml : (rmsD rs).length = rs.length := List.length_map _
      cases x with
      | tup xs =>
        match xs, hx with
        | [], hx => walk_at "dd"; exact .here h
        | [a], hx =>
          rw [show isPB rs y (.tup [a]) = false by cases a <;> rfl] at h
          walk_at "dd"
          exact .here h
        | a :: b :: c :: xs, hx =>
          rw [show isPB rs y (.tup (a :: b :: c :: xs)) = false by cases a <;> first | rfl | (cases b <;> rfl)] at h
          walk_at "dd"
          refine i_ifn (fun q => ?_) (fun q => ?_)
          · walk_at "dd"
            exact .here h
          · rw [List.length_cons, List.length_cons, List.length_cons] at q
            omega
        | [a, b], hx =>
          have ha := hx.2 a List.mem_cons_self
          have hb := hx.2 b (List.mem_cons_of_mem _ List.mem_cons_self)
          walk_at "dd"
          refine i_ifn (fun q => absurd rfl q) (fun _ => ?_)
          walk_at "dd"
          have hno : (whl a = false ∨ whl b = false) → isPB rs y (.tup [a, b]) = false := fun q => by
            cases a <;> first | rfl | (cases b <;> first | rfl | (rcases q with q | q <;> cases q))
          refine fo_anyK (fun i sd => ∃ (y3_ : Option Dv), sd = [some (mdD l rs f), some (.str y), some (.tup [a, b]), y3_] ∧ (∀ j x, j < i → [a, b][j]? = some x → whl x = true)) trivial ⟨_, rfl, fun j x hj => absurd hj (Nat.not_lt_zero _)⟩ ?_ ?_
          · rintro i d sd hd ⟨y3_, rfl, hno2⟩
            have hj := (List.getElem?_eq_some_iff.mp hd).1
            have hin : whl d = false → isPB rs y (.tup [a, b]) = false := fun q => by
              rcases (by simpa using hj : i < 2) with hj2
              rcases (by omega : i = 0 ∨ i = 1) with e | e <;> subst e <;> cases hd
              · exact hno (.inl q)
              · exact hno (.inr q)
            have hsc : ScD d := hx.2 d (List.mem_of_getElem? hd)
            have hnx : whl d = true → ∀ j x, j < i + 1 → [a, b][j]? = some x → whl x = true := fun q j x hj2 e => by
              by_cases z : j = i
              · subst z
                rw [hd] at e
                cases e
                exact q
              · exact hno2 j x (by omega) e
            cases d with
            | int z =>
              walk_at "dd"
              exact ⟨⟨_, rfl, hnx rfl⟩, rfl⟩
            | bl z =>
              rw [hin rfl] at h
              walk_at "dd"
              exact .here h
            | non =>
              rw [hin rfl] at h
              walk_at "dd"
              exact .here h
            | str z =>
              rw [hin rfl] at h
              walk_at "dd"
              exact .here h
            | _ => exact hsc.elim
          · rintro sd ⟨y3_, rfl, hall⟩
            obtain ⟨i, rfl⟩ : ∃ i, a = .int i := by
              have := hall 0 a (Nat.succ_pos _) rfl
              cases a <;> first | exact ⟨_, rfl⟩ | cases this
            obtain ⟨j, rfl⟩ : ∃ j, b = .int j := by
              have := hall 1 b (Nat.lt_succ_self 1) rfl
              cases b <;> first | exact ⟨_, rfl⟩ | cases this
            rw [show isPB rs y (.tup [.int i, .int j]) = (decide (0 ≤ i) && decide (i < ((rs.length : Nat) : Int)) && (decide (0 ≤ j) && decide (j ≤ ((y.length : Nat) : Int)))) from rfl] at h
            walk_at "dd"
            cases q1 : decide ((0 : Int) ≤ i) with
            | false =>
              rw [q1] at h
              walk_at "dd"
              exact .here h
            | true =>
              rw [q1, Bool.true_and] at h
              walk_at "dd"
              rw [hml]
              cases q2 : decide (i < ((rs.length : Nat) : Int)) with
              | false =>
                rw [q2] at h
                walk_at "dd"
                exact .here h
              | true =>
                rw [q2, Bool.true_and] at h
                walk_at "dd"
                cases q3 : decide ((0 : Int) ≤ j) with
                | false =>
                  rw [q3] at h
                  walk_at "dd"
                  exact .here h
                | true =>
                  rw [q3, Bool.true_and] at h
                  walk_at "dd"
                  exact .here h
      | lst xs => walk_at "dd"; exact .here h
      | _ => exact hx.elim
    · exact h.elim
/- _law_due: slots 0 _law_made_here, 1 _law_row_here, 2 _law_paper, 3 _law_known, 4 _law_at, 5 _law_thing, 6 _law_sign, 7 _law_there -/
theorem ok__law_due (T : Tn mg) {f : Addr} {fd : FuncData} (F : Fun K "_law_due" "_law_due" s__law_due f fd) {oA : Str → Addr} (ZC : Clz K mg oA) {cA : Str → Addr} (Z : Exs P w K mg base cA) (G__law_steps : FnD P w K mg base "_law_steps" 1 ["_law_made_here", "_law_row_here", "_law_pair"] (fun fd => Binds K fd ["_law_made_here", "_law_row_here", "_law_pair"] []) sp__law_steps) (G__law_is_pair : FnD P w K mg base "_law_is_pair" 1 ["_law_made_here", "_law_row_here", "_law_thing"] (fun fd => Binds K fd ["_law_made_here", "_law_row_here", "_law_thing"] []) sp__law_is_pair) (gm : mg "_law_due" = some (.ref f)) : FnD P w K mg base "_law_due" 2 ["_law_made_here", "_law_row_here", "_law_paper"] (fun fd => Binds K fd ["_law_made_here", "_law_row_here", "_law_paper"] []) sp__law_due := by
  refine ⟨⟨f, fd, gm, F.kp, F.binds (ps := ["_law_made_here", "_law_row_here", "_law_paper"]) (fun _ _ _ _ _ _ us hl => match us, hl with | [_, _, _], _ => rfl), okD F sc__law_due (fun ds M Q E h => ?_) (fun cdv A outer s H M ds Qd Ed E hr cx h => ?_)⟩⟩
  · unfold sp__law_due at h
    split at h <;> first | rfl | exact h.elim
  · refine ⟨_, (dss_cons (ds_if (dt_not (dt_val (de_callB cd_isi (by rfl) T.n_isinstance (by decide +kernel) (da_cons (dv 2) (da_cons (de_bltn (n := "list") (by rfl) T.n_list (by decide +kernel)) da_nil))))) (dss_one (ds_ret de_int)) dss_nil)
      (dss_cons (ds_fzS 3 (ds_setLc (g := (.nm 5)) (i := 3) rfl sc__law_due.nd rfl rfl (sw_true rfl rfl rfl (by decide +kernel)) (di_list (dv 2)) (blkOk_by (N := ["_law_made_here", "_law_row_here", "_law_paper", "_law_known", "_law_at", "_law_thing", "_law_sign", "_law_there"]) (own := [("_law_thing", 5)]) (sc := defScope s__law_due) (by decide +kernel)) (fun _ _ _ _ _ => (pg_name (i := 5) sc__law_due.nd rfl (Or.inl rfl))) (fun _ _ _ _ _ => (dts_one (dt_val (de_callF G__law_is_pair (hr.mono (by decide)) (by rfl) (fun _ h => h) .nil rdn passL ctx0 (da_cons (dv 0) (da_cons (dv 1) (da_cons (dv 5) da_nil))))))) (fun _ _ _ _ _ => (dv 5))))
      (dss_cons (ds_for (passes_of rfl) rfl (di_range1 (by rfl) T.n_range (da_cons (de_callB cd_len (by rfl) T.n_len (by decide +kernel) (da_cons (dv 2) da_nil)) da_nil)) (dg_name (i := 4) sc__law_due.nd rfl (Or.inl rfl)) (dss_cons (ds_set (i := 5) sc__law_due.nd rfl (Or.inl rfl) (de_ix (dv 2) (dv 4)))
      (dss_cons (ds_if (dt_w (dw_or (dt_not (dt_val (de_callF G__law_is_pair (hr.mono (by decide)) (by rfl) (fun _ h => h) .nil rdn passL ctx0 (da_cons (dv 0) (da_cons (dv 1) (da_cons (dv 5) da_nil)))))) (dw_or1 (dt_cmp (od_eq hr.units) (de_ix (de_ix (de_ix (dv 0) de_int) (de_ix (dv 5) de_int)) de_int) (de_slice (dv 1) (do_some (de_ix (dv 5) de_int)) do_none) (nomark _))))) (dss_one (ds_ret (dv 4))) dss_nil)
      (dss_one (ds_for (passes_of rfl) rfl (di_list (de_frz (de_callF G__law_steps (hr.mono (by decide)) (by rfl) (fun _ h => h) .nil rdn passL ctx0 (da_cons (dv 0) (da_cons (dv 1) (da_cons (dv 5) da_nil)))))) (dg_tup rfl (dgs_cons (dg_name (i := 6) sc__law_due.nd rfl (Or.inl rfl)) (dgs_cons (dg_name (i := 7) sc__law_due.nd rfl (Or.inl rfl)) dgs_nil))) (dss_one (ds_if (dt_cmp (od_ninV (units65 hr)) (dv 7) (dv 3) (by rfl)) (dss_one (ds_ret (dv 4))) dss_nil)))))))
      (dss_cons (ds_if (dt_w (dw_and (dt_cmp (od_eq hr.units) (de_slice (dv 1) do_none (do_some (de_callB cd_len (by rfl) T.n_len (by decide +kernel) (da_cons (de_ix (dv 0) de_int) da_nil)))) (de_ix (dv 0) de_int) (nomark _)) (dw_and1 (dt_cmp (od_ninV (units65 hr)) (de_tup (da_cons de_int (da_cons (de_callB cd_len (by rfl) T.n_len (by decide +kernel) (da_cons (de_ix (dv 0) de_int) da_nil)) da_nil))) (dv 3) (by rfl))))) (dss_one (ds_ret (de_callB cd_len (by rfl) T.n_len (by decide +kernel) (da_cons (dv 2) da_nil)))) dss_nil)
      (dss_one (ds_ret de_non)))))), ?_⟩
    unfold sp__law_due at h; split at h
    · rename_i d y z
      obtain ⟨l, rs, f, B, rfl, ok, hN, h⟩ := h
      have hyl := most_len ok hN
      have l16 := ok.lt.2.2.1
      have fl := ok.fl
      have bb := ok.bb
      walk_at "dd"
      rcases h with ⟨tz, hz, h⟩ | ⟨zs, rfl, ⟨hzl, hzt⟩, h⟩
      · cases z <;> first | exact tz.elim | exact absurd rfl (hz _) | (walk_at "dd"; exact .here h)
      walk_at "dd"
      refine lk_fz (fun i acc M' => M' = M ∧ ∃ ps : List Pr, acc = ps.map prD ∧ ∀ p : Pr, p ∈ ps ↔ (prD p ∈ zs.take i ∧ p.1 < rs.length ∧ p.2 ≤ y.length)) (by omega) ⟨rfl, [], rfl, fun p => by simp⟩ ?_ ?_
      · rintro i d acc M' hd ha ⟨rfl, ps, rfl, hps⟩
        walk_at "dd"
        refine u_lispair ok hyl (hzt d (List.mem_of_getElem? hd)) ?_
        have htk : zs.take (i + 1) = zs.take i ++ [d] := take_snoc hd
        cases hb : isPB rs y d with
        | true =>
          obtain ⟨p, rfl, hp1, hp2⟩ := isPB_iff.mp hb
          walk_at "dd"
          refine ⟨ps ++ [p], by rw [List.map_append]; rfl, fun q => ?_⟩
          rw [htk, List.mem_append, List.mem_append, hps q, List.mem_singleton, List.mem_singleton]
          constructor
          · rintro (⟨a, b⟩ | rfl)
            · exact ⟨.inl a, b⟩
            · exact ⟨.inr rfl, hp1, hp2⟩
          · rintro ⟨a | a, b⟩
            · exact .inl ⟨a, b⟩
            · exact .inr (prD_inj a)
        | false =>
          walk_at "dd"
          refine ⟨ps, rfl, fun q => ?_⟩
          rw [htk, List.mem_append, hps q, List.mem_singleton]
          constructor
          · rintro ⟨a, b⟩
            exact ⟨.inl a, b⟩
          · rintro ⟨a | a, b⟩
            · exact ⟨a, b⟩
            · rw [isPB_iff.mpr ⟨q, a.symm, b⟩] at hb
              cases hb
      · rintro acc M9 ha ⟨rfl, ps, rfl, hps⟩
        rw [List.take_length] at hps
        walk_at "dd"
        rw [show ((zs.length : Nat) : Int).toNat = zs.length from rfl]
        refine fo_rng (n := zs.length) (fun i sd M' => ∃ (y4_ y5_ y6_ y7_ : Option Dv), sd = [some (mdD l rs f), some (.str y), some (.lst zs), some (.lst (ps.map prD)), y4_, y5_, y6_, y7_] ∧ (M' = M9 ∧ ∀ j e, j < i → zs[j]? = some e → ¬ bdT l rs y zs e)) ⟨_, _, _, _, rfl, rfl, fun j e hj => absurd hj (Nat.not_lt_zero _)⟩ ?_ ?_
        · rintro i0 sd M2 hi ⟨y4_, y5_, y6_, y7_, rfl, rfl, hno⟩
          obtain ⟨d3, hd3⟩ : ∃ d3, zs[i0]? = some d3 := ⟨_, List.getElem?_eq_getElem hi⟩
          have hd3m := List.mem_of_getElem? hd3
          have hret : bdT l rs y zs d3 → Fg Qd (.int (i0 : Nat)) M2 := fun hb => .here (by have := h; rw [papV_at hd3 hb hno] at this; exact this)
          have hgo : ¬ bdT l rs y zs d3 → ∀ j e, j < i0 + 1 → zs[j]? = some e → ¬ bdT l rs y zs e := fun hb j e hj he => by
            by_cases z : j = i0
            · subst z
              rw [hd3] at he
              cases he
              exact hb
            · exact hno j e (by omega) he
          walk_at "dd"
          rw [Int.zero_add]
          refine i_ixL rfl (L2.atI_nat (j := i0) hd3) ?_
          walk_at "dd"
          refine u_lispair ok hyl (hzt d3 hd3m) ?_
          cases hb : isPB rs y d3 with
          | false =>
            walk_at "dd"
            exact hret (bdT_no hb)
          | true =>
            obtain ⟨p, rfl, hp1, hp2⟩ := isPB_iff.mp hb
            have hbi := bdT_iff (l := l) (ds := zs) hp1 hp2
            have e1 : rs[p.1]? = some (rs[p.1]'hp1) := List.getElem?_eq_getElem hp1
            walk_at "dd"
            refine i_ixL rfl (L2.atI_nat (by rw [List.getElem?_map, e1]; rfl)) ?_
            walk_at "dd"
            by_cases hm : metP rs y p
            · rw [decide_eq_true (show (rs[p.1]'hp1).1 = cutS y (some ((p.2 : Nat) : Int)) none by rw [← endM_eq e1]; exact hm)]
              walk_at "dd"
              exact hret (hbi.mpr (.inl hm))
            · rw [decide_eq_false (show ¬ (rs[p.1]'hp1).1 = cutS y (some ((p.2 : Nat) : Int)) none by rw [← endM_eq e1]; exact hm)]
              walk_at "dd"
              refine u_lsteps ok hp1 hyl (fun pt hpt => ?_)
              walk_at "dd"
              have hsin : ∀ s, s ∈ stepB l rs y p → s.2.1 < rs.length ∧ s.2.2 ≤ y.length := fun s hs => by
                obtain ⟨i, hi, hf, rfl⟩ := stepB_mem hs
                obtain ⟨_, _, _, _, _, g3⟩ := wayI_ok ok hp1 hi
                exact ⟨g3, (fitB_pre hp2 hf).1⟩
              refine fo_fz (fun i sd M' => ∃ (y6_ y7_ : Option Dv), sd = [some (mdD l rs f), some (.str y), some (.lst zs), some (.lst (ps.map prD)), some (.int (i0 : Nat)), some (prD p), y6_, y7_] ∧ (M' = M2 ∧ ∀ j s, j < i → (stepB l rs y p)[j]? = some s → prD s.2 ∈ zs)) ⟨_, _, rfl, rfl, fun j s hj => absurd hj (Nat.not_lt_zero _)⟩ ?_ ?_
              · rintro i1 d1 sd M3 hd1 ⟨y6_, y7_, rfl, rfl, hin⟩
                obtain ⟨s, hs, rfl⟩ := map_get hd1
                obtain ⟨g1, g2⟩ := hsin s (List.mem_of_getElem? hs)
                walk_at "dd"
                refine i_inV (prB_pln s.2).vw (Pln.vw (n := 60) (prB_plnL ps)) (prB_pln s.2) (prB_plnL ps) ?_
                rw [prB_any]
                by_cases hk : s.2 ∈ ps
                · rw [decide_eq_true hk]
                  walk_at "dd"
                  refine ⟨_, _, rfl, rfl, fun j t hj ht => ?_⟩
                  by_cases z : j = i1
                  · subst z
                    rw [hs] at ht
                    cases ht
                    exact ((hps s.2).mp hk).1
                  · exact hin j t (by omega) ht
                · rw [decide_eq_false hk]
                  walk_at "dd"
                  exact hret (hbi.mpr (.inr ⟨s, List.mem_of_getElem? hs, fun z => hk ((hps s.2).mpr ⟨z, g1, g2⟩)⟩))
              · rintro sd M3 ⟨y6_, y7_, rfl, rfl, hin⟩
                walk_at "dd"
                refine ⟨_, _, _, _, rfl, rfl, hgo fun hbad => ?_⟩
                rcases hbi.mp hbad with z | ⟨s, hs, z⟩
                · exact hm z
                · obtain ⟨j, hj⟩ := List.mem_iff_getElem?.mp hs
                  exact z (hin j s (by rw [List.length_map]; exact (List.getElem?_eq_some_iff.mp hj).1) hj)
        · rintro sd M2 ⟨y4_, y5_, y6_, y7_, rfl, rfl, hno⟩
          have hall : ∀ d, d ∈ zs → ¬ bdT l rs y zs d := fun d hd => by
            obtain ⟨j, hj⟩ := List.mem_iff_getElem?.mp hd
            exact hno j d (List.getElem?_eq_some_iff.mp hj).1 hj
          obtain ⟨v1, v2, v3⟩ := papV_end (f := f) hall
          have hend : papV l rs f y zs = none → Fg Qd .non M2 := fun hv => .here (by have := h; rw [hv] at this; exact this)
          walk_at "dd"
          refine i_ifd (fun hq => ?_) (fun hq => ?_)
          · have e2 : begB f y = [((0, f.length), ("" : Str))] := by
              unfold begB
              rw [if_pos (starts_cut.mpr hq)]
            have hbl := begB_ok ok (e := ((0, f.length), ("" : Str))) (by rw [e2]; exact List.mem_singleton.mpr rfl)
            walk_at "dd"
            refine i_inV (prB_pln (0, f.length)).vw (Pln.vw (n := 60) (prB_plnL ps)) (prB_pln (0, f.length)) (prB_plnL ps) ?_
            rw [prB_any]
            by_cases hk : (0, f.length) ∈ ps
            · rw [decide_eq_true hk]
              walk_at "dd"
              exact hend (v2 _ e2 ((hps _).mp hk).1)
            · rw [decide_eq_false hk]
              walk_at "dd"
              have hv := v1 _ e2 fun z => hk ((hps _).mpr ⟨z, hbl.r, hbl.a⟩)
              have := h
              rw [hv] at this
              exact .here this
          · have e2 : begB f y = [] := by
              unfold begB
              rw [if_neg fun z => hq (starts_cut.mp z)]
            walk_at "dd"
            exact hend (v3 e2)
    · exact h.elim
/- _law_odd: slots 0 _law_well_here, 1 _law_made_here, 2 _law_row_here, 3 _law_way, 4 _law_room, 5 _law_at, 6 _law_some -/
theorem ok__law_odd (T : Tn mg) {f : Addr} {fd : FuncData} (F : Fun K "_law_odd" "_law_odd" s__law_odd f fd) {oA : Str → Addr} (ZC : Clz K mg oA) {cA : Str → Addr} (Z : Exs P w K mg base cA) (G__law_draw : FnD P w K mg base "_law_draw" 1 ["_law_well_here", "_law_most"] (fun fd => Binds K fd ["_law_well_here", "_law_most"] []) sp__law_draw) (gm : mg "_law_odd" = some (.ref f)) : FnD P w K mg base "_law_odd" 2 ["_law_well_here", "_law_made_here", "_law_row_here"] (fun fd => Binds K fd ["_law_well_here", "_law_made_here", "_law_row_here"] []) sp__law_odd := by
  refine ⟨⟨f, fd, gm, F.kp, F.binds (ps := ["_law_well_here", "_law_made_here", "_law_row_here"]) (fun _ _ _ _ _ _ us hl => match us, hl with | [_, _, _], _ => rfl), okD F sc__law_odd (fun ds M Q E h => ?_) (fun cdv A outer s H M ds Qd Ed E hr cx h => ?_)⟩⟩
  · unfold sp__law_odd at h
    split at h <;> first | rfl | exact h.elim
  · refine ⟨_, (dss_cons (ds_set (i := 3) sc__law_odd.nd rfl (Or.inl rfl) (de_callF G__law_draw (hr.mono (by decide)) (by rfl) (fun _ h => h) .nil rdn passL ctx0 (da_cons (dv 0) (da_cons de_int da_nil))))
      (dss_cons (ds_set (i := 4) sc__law_odd.nd rfl (Or.inl rfl) (de_callF G__law_draw (hr.mono (by decide)) (by rfl) (fun _ h => h) .nil rdn passL ctx0 (da_cons (dv 0) (da_cons (de_callB cd_len (by rfl) T.n_len (by decide +kernel) (da_cons (de_ix (dv 1) de_int) da_nil)) da_nil))))
      (dss_cons (ds_set (i := 5) sc__law_odd.nd rfl (Or.inl rfl) (de_callF G__law_draw (hr.mono (by decide)) (by rfl) (fun _ h => h) .nil rdn passL ctx0 (da_cons (dv 0) (da_cons (de_op od_add (de_callB cd_len (by rfl) T.n_len (by decide +kernel) (da_cons (dv 2) da_nil)) de_int) da_nil))))
      (dss_cons (ds_set (i := 6) sc__law_odd.nd rfl (Or.inl rfl) (de_frz (de_lst (da_cons (de_tup (da_cons (dv 4) (da_cons (dv 5) da_nil))) (da_cons (de_tup (da_cons (de_callB cd_len (by rfl) T.n_len (by decide +kernel) (da_cons (de_ix (dv 1) de_int) da_nil)) (da_cons (dv 5) da_nil))) (da_cons (de_tup (da_cons (de_neg de_int) (da_cons (dv 5) da_nil))) (da_cons (de_tup (da_cons (dv 4) (da_cons (de_op od_add (de_callB cd_len (by rfl) T.n_len (by decide +kernel) (da_cons (dv 2) da_nil)) de_int) da_nil))) (da_cons (de_tup (da_cons (dv 4) (da_cons (de_neg de_int) da_nil))) (da_cons (de_tup (da_cons (dv 4) (da_cons (dv 5) (da_cons de_int da_nil)))) (da_cons (de_tup (da_cons (dv 4) da_nil)) da_nil))))))))))
      (dss_cons (ds_set (i := 6) sc__law_odd.nd rfl (Or.inl rfl) (de_frz (de_op od_add (dv 6) (de_frz (de_lst (da_cons (de_frz (de_lst (da_cons (dv 4) (da_cons (dv 5) da_nil)))) (da_cons (de_tup (da_cons de_bl (da_cons (dv 5) da_nil))) (da_cons (de_tup (da_cons (dv 4) (da_cons de_bl da_nil))) (da_cons (de_tup (da_cons de_non (da_cons (dv 5) da_nil))) (da_cons (de_tup (da_cons de_str (da_cons (dv 5) da_nil))) da_nil))))))))))
      (dss_one (ds_ret (de_ix (de_frz (de_lst (da_cons (de_ix (dv 6) (dv 3)) (da_cons (de_tup (da_cons (dv 4) (da_cons (dv 5) da_nil))) da_nil)))) (de_callTy cd_int (by rfl) T.n_int (by decide +kernel) (da_cons (de_cmp od_gt (de_callF G__law_draw (hr.mono (by decide)) (by rfl) (fun _ h => h) .nil rdn passL ctx0 (da_cons (dv 0) (da_cons de_int da_nil))) de_int (nomark _)) da_nil)))))))))), ?_⟩
    unfold sp__law_odd at h; split at h
    · rename_i a d y
      obtain ⟨⟨x0, y0, z0, hM⟩, l, rs, f, B, rfl, ok, hy, h⟩ := h
      have r1 := ok.r1
      have r2 := ok.r2
      have hml : (rmsD rs).length = rs.length := List.length_map _
      walk_at "dd"
      rename_i wy x1 y1 z1 hw0 hw1 ro x2 y2 z2 hr0 hr1 at_ x3 y3 z3 ha0 ha1
      obtain ⟨k, rfl⟩ := Int.eq_ofNat_of_zero_le hw0
      have hone : ∀ i : Int, ScQ (.int i) := scQ_int
      have t2 : ∀ a b : Dv, ScQ a → ScQ b → ThQ (.tup [a, b]) := fun a b ha hb => thQ_tup (by show (2 : Nat) ≤ 3; decide) fun x hx => by
        simp only [List.mem_cons, List.not_mem_nil, or_false] at hx
        rcases hx with rfl | rfl <;> assumption
      have hall : ∀ x, x ∈ ([Dv.tup [.int ro, .int at_], .tup [.int ((rmsD rs).length : Nat), .int at_], .tup [.int (-1), .int at_], .tup [.int ro, .int ((y.length : Nat) + 1)], .tup [.int ro, .int (-1)], .tup [.int ro, .int at_, .int 0], .tup [.int ro]] ++ [Dv.lst [.int ro, .int at_], .tup [.bl true, .int at_], .tup [.int ro, .bl false], .tup [.non, .int at_], .tup [.str (Str.ofString "0"), .int at_]] : List Dv) → ThQ x := fun x hx => by
        simp only [List.mem_append, List.mem_cons, List.not_mem_nil, or_false] at hx
        rcases hx with (rfl | rfl | rfl | rfl | rfl | rfl | rfl) | (rfl | rfl | rfl | rfl | rfl)
        · exact t2 _ _ (hone _) (hone _)
        · exact t2 _ _ (hone _) (hone _)
        · exact t2 _ _ (hone _) (hone _)
        · exact t2 _ _ (hone _) (hone _)
        · exact t2 _ _ (hone _) (hone _)
        · exact thQ_tup (by show (3 : Nat) ≤ 3; decide) fun x hx => by
            simp only [List.mem_cons, List.not_mem_nil, or_false] at hx
            rcases hx with rfl | rfl | rfl <;> exact hone _
        · exact thQ_tup (by show (1 : Nat) ≤ 3; decide) fun x hx => by
            simp only [List.mem_cons, List.not_mem_nil, or_false] at hx
            rcases hx with rfl
            exact hone _
        · exact thQ_lst (by show (2 : Nat) ≤ 3; decide) fun x hx => by
            simp only [List.mem_cons, List.not_mem_nil, or_false] at hx
            rcases hx with rfl | rfl <;> exact hone _
        · exact t2 _ _ (scQ_bl _) (hone _)
        · exact t2 _ _ (hone _) (scQ_bl _)
        · exact t2 _ _ scQ_non (hone _)
        · exact t2 _ _ scQ_zero (hone _)
      generalize hL : ([Dv.tup [.int ro, .int at_], .tup [.int ((rmsD rs).length : Nat), .int at_], .tup [.int (-1), .int at_], .tup [.int ro, .int ((y.length : Nat) + 1)], .tup [.int ro, .int (-1)], .tup [.int ro, .int at_, .int 0], .tup [.int ro]] ++ [Dv.lst [.int ro, .int at_], .tup [.bl true, .int at_], .tup [.int ro, .bl false], .tup [.non, .int at_], .tup [.str (Str.ofString "0"), .int at_]] : List Dv) = L at hall ⊢
      have hll : L.length = 12 := by rw [← hL]; rfl
      clear hL
      obtain ⟨x, hx⟩ : ∃ x, L[k]? = some x := ⟨_, List.getElem?_eq_getElem (by omega)⟩
      have hxq := hall x (List.mem_of_getElem? hx)
      refine i_ixL rfl (L2.atI_nat hx) ?_
      walk_at "dd"
      rename_i r4 x4 y4 z4 h40 h41
      cases q : decide (0 < r4) with
      | true =>
        refine i_ixL rfl (L2.atI_nat (j := 1) rfl) ?_
        exact .here (h _ _ _ _ (t2 _ _ (hone _) (hone _)))
      | false =>
        refine i_ixL rfl (L2.atI_nat (j := 0) rfl) ?_
        exact .here (h _ _ _ _ hxq)
    · exact h.elim
/- _law_spoiled: slots 0 _law_well_here, 1 _law_made_here, 2 _law_row_here, 3 _law_paper, 4 _law_way, 5 _law_at, 6 _law_odd_here -/
theorem ok__law_spoiled (T : Tn mg) {f : Addr} {fd : FuncData} (F : Fun K "_law_spoiled" "_law_spoiled" s__law_spoiled f fd) {oA : Str → Addr} (ZC : Clz K mg oA) {cA : Str → Addr} (Z : Exs P w K mg base cA) (G__law_odd : FnD P w K mg base "_law_odd" 2 ["_law_well_here", "_law_made_here", "_law_row_here"] (fun fd => Binds K fd ["_law_well_here", "_law_made_here", "_law_row_here"] []) sp__law_odd) (G__law_draw : FnD P w K mg base "_law_draw" 1 ["_law_well_here", "_law_most"] (fun fd => Binds K fd ["_law_well_here", "_law_most"] []) sp__law_draw) (gm : mg "_law_spoiled" = some (.ref f)) : FnD P w K mg base "_law_spoiled" 3 ["_law_well_here", "_law_made_here", "_law_row_here", "_law_paper"] (fun fd => Binds K fd ["_law_well_here", "_law_made_here", "_law_row_here", "_law_paper"] []) sp__law_spoiled := by
  refine ⟨⟨f, fd, gm, F.kp, F.binds (ps := ["_law_well_here", "_law_made_here", "_law_row_here", "_law_paper"]) (fun _ _ _ _ _ _ us hl => match us, hl with | [_, _, _, _], _ => rfl), okD F sc__law_spoiled (fun ds M Q E h => ?_) (fun cdv A outer s H M ds Qd Ed E hr cx h => ?_)⟩⟩
  · unfold sp__law_spoiled at h
    split at h <;> first | rfl | exact h.elim
  · refine ⟨_, (dss_cons (ds_set (i := 4) sc__law_spoiled.nd rfl (Or.inl rfl) (de_callF G__law_draw (hr.mono (by decide)) (by rfl) (fun _ h => h) .nil rdn passL ctx0 (da_cons (dv 0) (da_cons de_int da_nil))))
      (dss_cons (ds_set (i := 5) sc__law_spoiled.nd rfl (Or.inl rfl) (de_callF G__law_draw (hr.mono (by decide)) (by rfl) (fun _ h => h) .nil rdn passL ctx0 (da_cons (dv 0) (da_cons (de_op od_add (de_callB cd_len (by rfl) T.n_len (by decide +kernel) (da_cons (dv 3) da_nil)) de_int) da_nil))))
      (dss_cons (ds_set (i := 6) sc__law_spoiled.nd rfl (Or.inl rfl) (de_frz (de_callF G__law_odd (hr.mono (by decide)) (by rfl) (fun _ h => h) .nil rdn passL ctx0 (da_cons (dv 0) (da_cons (dv 1) (da_cons (dv 2) da_nil))))))
      (dss_cons (ds_if (dt_cmp (od_eq hr.units) (dv 4) de_int (nomark _)) (dss_one (ds_ret (de_frz (de_op od_add (de_frz (de_op od_add (de_frz (de_slice (dv 3) do_none (do_some (dv 5)))) (de_frz (de_lst (da_cons (dv 6) da_nil))))) (de_frz (de_slice (dv 3) (do_some (dv 5)) do_none)))))) dss_nil)
      (dss_cons (ds_if (dt_cmp (od_eq hr.units) (dv 4) de_int (nomark _)) (dss_one (ds_ret (de_frz (de_op od_add (de_frz (de_op od_add (de_frz (de_slice (dv 3) do_none (do_some (dv 5)))) (de_frz (de_lst (da_cons (dv 6) da_nil))))) (de_frz (de_slice (dv 3) (do_some (de_op od_add (dv 5) de_int)) do_none)))))) dss_nil)
      (dss_cons (ds_if (dt_cmp (od_eq hr.units) (dv 4) de_int (nomark _)) (dss_one (ds_ret (de_frz (de_op od_add (de_frz (de_slice (dv 3) do_none (do_some (dv 5)))) (de_frz (de_slice (dv 3) (do_some (de_op od_add (dv 5) de_int)) do_none)))))) dss_nil)
      (dss_cons (ds_if (dt_cmp (od_eq hr.units) (dv 4) de_int (nomark _)) (dss_one (ds_ret (de_frz (de_op od_add (de_frz (de_op od_add (de_frz (de_slice (dv 3) (do_some (dv 5)) do_none)) (de_frz (de_slice (dv 3) do_none (do_some (dv 5)))))) (de_frz (de_slice (dv 3) (do_some (dv 5)) (do_some (de_op od_add (dv 5) de_int)))))))) dss_nil)
      (dss_cons (ds_if (dt_cmp (od_eq hr.units) (dv 4) de_int (nomark _)) (dss_one (ds_ret (de_ix (de_frz (de_lst (da_cons (de_callTy cd_tup (by rfl) T.n_tuple (by decide +kernel) (da_cons (dv 3) da_nil)) (da_cons de_non (da_cons (de_tup da_nil) (da_cons de_int (da_cons de_str da_nil))))))) (de_op od_mod (dv 5) de_int)))) dss_nil)
      (dss_one (ds_ret (de_ix (de_frz (de_lst (da_cons (de_frz (de_rev (dv 3))) (da_cons (dv 3) da_nil)))) (de_op od_sub (dv 4) de_int)))))))))))), ?_⟩
    unfold sp__law_spoiled at h; split at h
    · rename_i a d y zs
      obtain ⟨⟨x0, y0, z0, hM⟩, l, rs, f, B, rfl, ok, hy, hzl, hzq, h⟩ := h
      walk_at "dd"
      rename_i wy x1 y1 z1 hw0 hw1 at_ x2 y2 z2 ha0 ha1
      refine u_lodd ⟨_, _, _, mup_same⟩ ok hy (fun od u v w hod => ?_)
      rw [mup_mup]
      refine kFz_no (fun a e => by rw [e] at hod; exact hod.1.elim) ?_
      have hcl : ∀ (lo hi : Option Int), (DL.cutD zs lo hi).length ≤ zs.length := fun lo hi => by
        unfold DL.cutD
        rw [List.length_take, List.length_drop]
        omega
      have hcm : ∀ (lo hi : Option Int) d, d ∈ DL.cutD zs lo hi → ThQ d := fun lo hi d hd => by
        unfold DL.cutD at hd
        exact hzq d (List.mem_of_mem_drop (List.mem_of_mem_take hd))
      have q1 := hcl none (some at_)
      have q2 := hcl (some at_) none
      have q3 := hcl (some (at_ + 1)) none
      have q4 := hcl (some at_) (some (at_ + 1))
      have q5 : (DL.cutD zs none (some at_) ++ [od]).length ≤ 30001 := by rw [List.length_append]; show _ + 1 ≤ _; omega
      have q6 : (DL.cutD zs (some at_) none ++ DL.cutD zs none (some at_)).length ≤ 60000 := by rw [List.length_append]; omega
      have happ : ∀ xs ys : List Dv, (∀ d, d ∈ xs → ThQ d) → (∀ d, d ∈ ys → ThQ d) → ∀ d, d ∈ xs ++ ys → ThQ d := fun xs ys hx hy d hd => (List.mem_append.mp hd).elim (hx d) (hy d)
      have hod1 : ∀ d, d ∈ [od] → ThQ d := fun d hd => by rw [List.mem_singleton.mp hd]; exact hod
      have fin : ∀ (xs : List Dv), xs.length ≤ 100000 → (∀ d, d ∈ xs → ThQ d) → Fg Qd (.lst xs) (mup M a (.lst [.int u, .int v, .int w])) := fun xs h1 h2 => .here (h _ _ _ _ (.inl ⟨xs, .inl rfl, h1, h2⟩))
      walk_at "dd"
      rcases (by omega : wy = 0 ∨ wy = 1 ∨ wy = 2 ∨ wy = 3 ∨ wy = 4 ∨ wy = 5 ∨ wy = 6) with e | e | e | e | e | e | e <;> subst e
      all_goals walk_at "dd"
      · exact fin _ (by rw [List.length_append]; omega) (happ _ _ (happ _ _ (hcm _ _) hod1) (hcm _ _))
      · exact fin _ (by rw [List.length_append]; omega) (happ _ _ (happ _ _ (hcm _ _) hod1) (hcm _ _))
      · exact fin _ (by rw [List.length_append]; omega) (happ _ _ (hcm _ _) (hcm _ _))
      · exact fin _ (by rw [List.length_append]; omega) (happ _ _ (happ _ _ (hcm _ _) (hcm _ _)) (hcm _ _))
      · have hm0 := Int.emod_nonneg at_ (show (5 : Int) ≠ 0 by decide)
        have hm1 := Int.emod_lt_of_pos at_ (show (0 : Int) < 5 by decide)
        obtain ⟨x, hx, hp⟩ : ∃ x, L2.atI [Dv.tup zs, .non, .tup [], .int 7, .str (Str.ofString "none")] (at_ % 5) = some x ∧ PapX x := by
          rcases (by omega : at_ % 5 = 0 ∨ at_ % 5 = 1 ∨ at_ % 5 = 2 ∨ at_ % 5 = 3 ∨ at_ % 5 = 4) with e | e | e | e | e <;> rw [e]
          · exact ⟨_, rfl, .inl ⟨zs, .inr rfl, by omega, hzq⟩⟩
          · exact ⟨_, rfl, .inr (.inl rfl)⟩
          · exact ⟨_, rfl, .inl ⟨[], .inr rfl, Nat.zero_le _, fun d hd => by cases hd⟩⟩
          · exact ⟨_, rfl, .inr (.inr (.inl rfl))⟩
          · exact ⟨_, rfl, .inr (.inr (.inr rfl))⟩
        refine i_ixL rfl hx ?_
        exact .here (h _ _ _ _ hp)
      · exact fin _ (by rw [List.length_reverse]; omega) fun d hd => hzq d (List.mem_reverse.mp hd)
      · exact fin _ (by omega) hzq
    · exact h.elim
/- _law_found: slots 0 _law_machine_here, 1 _law_row_here, 2 _law_paper, 3 _law_found_here, 4 e -/
theorem ok__law_found (T : Tn mg) {f : Addr} {fd : FuncData} (F : Fun K "_law_found" "_law_found" s__law_found f fd) {oA : Str → Addr} (ZC : Clz K mg oA) {cA : Str → Addr} (Z : Exs P w K mg base cA) (G_check_shut : FnD P w K mg base "check_shut" 5 ["machine", "row", "paper"] (fun fd => Binds K fd ["machine", "row", "paper"] []) (sp_check_shut w)) (gm : mg "_law_found" = some (.ref f)) : FnD P w K mg base "_law_found" 6 ["_law_machine_here", "_law_row_here", "_law_paper"] (fun fd => Binds K fd ["_law_machine_here", "_law_row_here", "_law_paper"] []) (sp__law_found w) := by
  refine ⟨⟨f, fd, gm, F.kp, F.binds (ps := ["_law_machine_here", "_law_row_here", "_law_paper"]) (fun _ _ _ _ _ _ us hl => match us, hl with | [_, _, _], _ => rfl), okD F sc__law_found (fun ds M Q E h => ?_) (fun cdv A outer s H M ds Qd Ed E hr cx h => ?_)⟩⟩
  · unfold sp__law_found at h
    split at h <;> first | rfl | exact h.elim
  · refine ⟨_, (dss_cons (ds_try (T := exT) Z.tb rfl rfl sc__law_found.nd (fun W pn xe Wd M1 H1 st tk po cw => (dss_one (ds_set (i := 3) sc__law_found.nd rfl (Or.inl rfl) (de_tup (da_cons de_str (da_cons (de_callFS G_check_shut (hr.mono (by decide)) (by rfl) (fun _ h => h) tk cw (da_cons (dv 0) (da_cons (dv 1) (da_cons (dv 2) da_nil)))) da_nil))))))
      (.cons (i := 4) rfl rfl (by rfl) (by decide) Z.x_NoPaper.gC Z.x_NoPaper.nC (fun a oe x f C dd d v pn M1 H1 hz hf hn hm hh hrv => (dss_one (ds_set (i := 3) sc__law_found.nd rfl (Or.inl rfl) (de_tup (da_cons de_str (da_cons (de_xf (T := exT) Z.tb hz hf hn hm hh hrv (dv 4)) da_nil)))))) (.cons (i := 4) rfl rfl (by rfl) (by decide) Z.x_NoWord.gC Z.x_NoWord.nC (fun a oe x f C dd d v pn M1 H1 hz hf hn hm hh hrv => (dss_one (ds_set (i := 3) sc__law_found.nd rfl (Or.inl rfl) (de_tup (da_cons de_str (da_cons (de_xf (T := exT) Z.tb hz hf hn hm hh hrv (dv 4)) da_nil)))))) .nil)))
      (dss_one (ds_ret (dv 3)))), ?_⟩
    unfold sp__law_found at h; split at h
    · rename_i d x z
      obtain ⟨l, rs, f, B, rfl, ok, h⟩ := h
      walk_at "dd"
      rcases h with ⟨v, ht, hv, h⟩ | ⟨y, rfl, hy, hN, ⟨tz, hz, h⟩ | ⟨zs, rfl, hzs, h⟩⟩
      · refine u_chkbad ok ht hv ?_
        refine w_no sub_NoWord_NoPaper ?_
        refine w_yes sub_NoWord_NoWord fun ad => ?_
        walk_at "dd"
        simp only [List.set_cons_succ, List.set_cons_zero]
        walk_at "dd"
        exact .here h
      · refine u_chknol ok hy hN tz hz ?_
        refine w_yes sub_NoPaper_NoPaper fun ad => ?_
        walk_at "dd"
        simp only [List.set_cons_succ, List.set_cons_zero]
        walk_at "dd"
        exact .here h
      · refine u_chkpap ok hy hN hzs (fun hv => ?_) (fun k hv => ?_)
        · rw [hv] at h
          walk_at "dd"
          exact .here h
        · rw [hv] at h
          refine w_yes sub_NoPaper_NoPaper fun ad => ?_
          walk_at "dd"
          simp only [List.set_cons_succ, List.set_cons_zero]
          walk_at "dd"
          exact .here h
    · exact h.elim
/- law: slots 0 _law_script, 1 _law_cell, 2 _law_well_here, 3 _law_made_here, 4 _law_row_here, 5 _law_machine_here, 6 _law_pairs_here, 7 _law_k, 8 _law_paper, 9 _law_copied, 10 _law_due_here, 11 _law_wanted, 12 _law_bad, 13 _law_at, 14 _law_told, 15 e -/
theorem ok_law (T : Tn mg) {f : Addr} {fd : FuncData} (F : Fun K "law" "law" s_law f fd) {oA : Str → Addr} (ZC : Clz K mg oA) {cA : Str → Addr} (Z : Exs P w K mg base cA) (G_Back___init__ : MakeD P w K mg base "Back" 5 ["self", "machine", "row"] (fun fd => Binds K fd ["self", "machine", "row"] []) (sp_Back___init__ w)) (G__law_found : FnD P w K mg base "_law_found" 6 ["_law_machine_here", "_law_row_here", "_law_paper"] (fun fd => Binds K fd ["_law_machine_here", "_law_row_here", "_law_paper"] []) (sp__law_found w)) (G__law_draw : FnD P w K mg base "_law_draw" 1 ["_law_well_here", "_law_most"] (fun fd => Binds K fd ["_law_well_here", "_law_most"] []) sp__law_draw) (G__law_due : FnD P w K mg base "_law_due" 2 ["_law_made_here", "_law_row_here", "_law_paper"] (fun fd => Binds K fd ["_law_made_here", "_law_row_here", "_law_paper"] []) sp__law_due) (G__law_spoiled : FnD P w K mg base "_law_spoiled" 3 ["_law_well_here", "_law_made_here", "_law_row_here", "_law_paper"] (fun fd => Binds K fd ["_law_well_here", "_law_made_here", "_law_row_here", "_law_paper"] []) sp__law_spoiled) (G__law_pairs : FnD P w K mg base "_law_pairs" 2 ["_law_made_here", "_law_row_here"] (fun fd => Binds K fd ["_law_made_here", "_law_row_here"] []) (sp__law_pairs w)) (G__law_machine : FnD P w K mg base "_law_machine" 6 ["_law_made_here"] (fun fd => Binds K fd ["_law_made_here"] []) sp__law_machine) (G__law_asked : FnD P w K mg base "_law_asked" 3 ["_law_well_here", "_law_made_here"] (fun fd => Binds K fd ["_law_well_here", "_law_made_here"] []) sp__law_asked) (G__law_made : FnD P w K mg base "_law_made" 3 ["_law_well_here"] (fun fd => Binds K fd ["_law_well_here"] []) sp__law_made) (G__law_well : FnD P w K mg base "_law_well" 1 ["_law_cell"] (fun fd => Binds K fd ["_law_cell"] []) sp__law_well) : FnOk P w K mg base (L2.CX P w) 7 f fd ["_law_script"] (LSp K sp_law) := by
  refine okD F sc_law (fun ds M Q E h => ?_) (fun cdv A outer s H M ds Qd Ed E hr cx h => ?_)
  · unfold sp_law spLaw at h
    split at h <;> first | rfl | exact h.elim
  · refine ⟨_, (dss_cons (ds_for (passes_of rfl) rfl (di_list (de_frz (de_op od_add (de_frz (de_lst (da_cons de_int (da_cons de_int da_nil)))) (de_frz (de_slice (dv 0) do_none (do_some de_int)))))) (dg_name (i := 1) sc_law.nd rfl (Or.inl rfl)) (dss_cons (ds_set (i := 2) sc_law.nd rfl (Or.inl rfl) (de_callF G__law_well (hr.mono (by decide)) (by rfl) (fun _ h => h) .nil rdn passL ctx0 (da_cons (dv 1) da_nil)))
      (dss_cons (ds_set (i := 3) sc_law.nd rfl (Or.inl rfl) (de_frz (de_callF G__law_made (hr.mono (by decide)) (by rfl) (fun _ h => h) .nil rdn passL ctx0 (da_cons (dv 2) da_nil))))
      (dss_cons (ds_set (i := 4) sc_law.nd rfl (Or.inl rfl) (de_frz (de_callF G__law_asked (hr.mono (by decide)) (by rfl) (fun _ h => h) .nil rdn passL ctx0 (da_cons (dv 2) (da_cons (dv 3) da_nil)))))
      (dss_cons (ds_set (i := 5) sc_law.nd rfl (Or.inl rfl) (de_callF G__law_machine (hr.mono (by decide)) (by rfl) (fun _ h => h) .nil rdn (passB (takes_of rfl rfl rfl rfl)) cx (da_cons (dv 3) da_nil)))
      (dss_cons (ds_set (i := 6) sc_law.nd rfl (Or.inl rfl) (de_frz (de_callB (cd_sortT (w := w) rfl rfl) (by rfl) T.n_sorted (by decide +kernel) (da_cons (de_callF G__law_pairs (hr.mono (by decide)) (by rfl) (fun _ h => h) .nil rdn passL ctx0 (da_cons (dv 3) (da_cons (dv 4) da_nil))) da_nil))))
      (dss_cons (ds_for (passes_of rfl) rfl (di_range1 (by rfl) T.n_range (da_cons de_int da_nil)) (dg_name (i := 7) sc_law.nd rfl (Or.inl rfl)) (dss_cons (ds_set (i := 8) sc_law.nd rfl (Or.inl rfl) (de_callF G__law_spoiled (hr.mono (by decide)) (by rfl) (fun _ h => h) .nil rdn passL ctx0 (da_cons (dv 2) (da_cons (dv 3) (da_cons (dv 4) (da_cons (dv 6) da_nil))))))
      (dss_cons (ds_set (i := 9) sc_law.nd rfl (Or.inl rfl) (de_if (dt_val (de_callB cd_isi (by rfl) T.n_isinstance (by decide +kernel) (da_cons (dv 8) (da_cons (de_bltn (n := "list") (by rfl) T.n_list (by decide +kernel)) da_nil)))) (de_frz (de_callTy cd_list (by rfl) T.n_list (by decide +kernel) (da_cons (dv 8) da_nil))) (dv 8)))
      (dss_cons (ds_set (i := 10) sc_law.nd rfl (Or.inl rfl) (de_frz (de_callF G__law_due (hr.mono (by decide)) (by rfl) (fun _ h => h) .nil rdn passL ctx0 (da_cons (dv 3) (da_cons (dv 4) (da_cons (dv 9) da_nil))))))
      (dss_cons (ds_set (i := 11) sc_law.nd rfl (Or.inl rfl) (de_ix (de_frz (de_lst (da_cons (de_tup (da_cons de_str (da_cons (dv 10) da_nil))) (da_cons (de_tup (da_cons de_str (da_cons de_non da_nil))) da_nil)))) (de_callTy cd_int (by rfl) T.n_int (by decide +kernel) (da_cons (de_cmp od_isN (dv 10) de_non (nomark _)) da_nil))))
      (dss_one (ds_if (dt_w (dw_or (dt_cmp (od_ne hr.units) (de_frz (de_callF G__law_found (hr.mono (by decide)) (by rfl) (fun _ h => h) .nil rdn (passB (takes_of rfl rfl rfl rfl)) cx (da_cons (dv 5) (da_cons (dv 4) (da_cons (dv 8) da_nil))))) (dv 11) (nomark _)) (dw_or1 (dt_cmp (od_ne hr.units) (dv 8) (dv 9) (nomark _))))) (dss_one (ds_ret de_bl)) dss_nil)))))))
      (dss_cons (ds_set (i := 12) sc_law.nd rfl (Or.inl rfl) (de_ix (de_frz (de_lst (da_cons de_non (da_cons de_int (da_cons (de_op od_add (dv 4) de_str) (da_cons (de_op od_add de_str (dv 4)) (da_cons (de_frz (de_lst (da_cons (dv 4) da_nil))) da_nil))))))) (de_callF G__law_draw (hr.mono (by decide)) (by rfl) (fun _ h => h) .nil rdn passL ctx0 (da_cons (dv 2) (da_cons de_int da_nil)))))
      (dss_cons (ds_set (i := 13) sc_law.nd rfl (Or.inl rfl) (de_neg de_int))
      (dss_cons (ds_if (dt_val (de_callB cd_isi (by rfl) T.n_isinstance (by decide +kernel) (da_cons (dv 12) (da_cons (de_bltn (n := "str") (by rfl) T.n_str (by decide +kernel)) da_nil)))) (dss_one (ds_set (i := 13) sc_law.nd rfl (Or.inl rfl) (de_ix (de_frz (de_lst (da_cons (de_callB cd_len (by rfl) T.n_len (by decide +kernel) (da_cons (dv 4) da_nil)) (da_cons de_int da_nil)))) (de_callTy cd_int (by rfl) T.n_int (by decide +kernel) (da_cons (de_cmp (od_eq hr.units) (de_ix (dv 12) de_int) de_str (nomark _)) da_nil))))) dss_nil)
      (dss_cons (ds_if (dt_cmp (od_ne hr.units) (de_frz (de_callF G__law_found (hr.mono (by decide)) (by rfl) (fun _ h => h) .nil rdn (passB (takes_of rfl rfl rfl rfl)) cx (da_cons (dv 5) (da_cons (dv 12) (da_cons (de_frz (de_lst (da_cons (de_tup (da_cons de_int (da_cons (de_neg de_int) da_nil))) da_nil))) da_nil))))) (de_tup (da_cons de_str (da_cons (dv 13) da_nil))) (nomark _)) (dss_one (ds_ret de_bl)) dss_nil)
      (dss_cons (ds_set (i := 14) sc_law.nd rfl (Or.inl rfl) de_non)
      (dss_cons (ds_try (T := exT) Z.tb rfl rfl sc_law.nd (fun W pn xe Wd M1 H1 st tk po cw => (dss_one (ds_expr (de_makeT G_Back___init__ (hr.mono (by decide)) (by rfl) (fun _ h => h) tk cw (da_cons (dv 5) (da_cons (dv 12) da_nil))))))
      (.cons (i := 15) rfl rfl (by rfl) (by decide) Z.x_NoWord.gC Z.x_NoWord.nC (fun a oe x f C dd d v pn M1 H1 hz hf hn hm hh hrv => (dss_one (ds_set (i := 14) sc_law.nd rfl (Or.inl rfl) (de_xf (T := exT) Z.tb hz hf hn hm hh hrv (dv 15))))) .nil))
      (dss_one (ds_if (dt_cmp (od_ne hr.units) (dv 14) (dv 13) (nomark _)) (dss_one (ds_ret de_bl)) dss_nil)))))))))))))))
      (dss_one (ds_ret de_bl))), ?_⟩
    unfold sp_law spLaw at h; split at h
    · rename_i d
      obtain ⟨⟨ns, rfl, hd⟩, h⟩ := h
      walk_at "dd"
      rw [show DL.cutD (ns.map Dv.int) none (some 6) = (ns.take 6).map Dv.int from by
        rw [show (6 : Int) = ((6 : Nat) : Int) from rfl, cutD_take, List.map_take]]
      refine i_addL rfl rfl (by rw [List.length_map, List.length_take]; show 2 + min 6 ns.length ≤ _; omega) (fun pl hpl => ?_)
      refine i_fzNew hpl rfl ?_
      rw [show [Dv.int 1, Dv.int 15] ++ (ns.take 6).map Dv.int = (1 :: 15 :: ns.take 6).map Dv.int from rfl]
      walk_at "dd"
      refine fo_fz (fun i sd M' => ∃ (y1_ y2_ y3_ y4_ y5_ y6_ y7_ y8_ y9_ y10_ y11_ y12_ y13_ y14_ y15_ : Option Dv), sd = [some (.lst (ns.map .int)), y1_, y2_, y3_, y4_, y5_, y6_, y7_, y8_, y9_, y10_, y11_, y12_, y13_, y14_, y15_] ∧ (True)) ⟨_, _, _, _, _, _, _, _, _, _, _, _, _, _, _, rfl, trivial⟩ ?_ ?_
      · rintro i d0 sd M0 hd0 ⟨y1_, y2_, y3_, y4_, y5_, y6_, y7_, y8_, y9_, y10_, y11_, y12_, y13_, y14_, y15_, rfl, _⟩
        obtain ⟨cell, hcell, rfl⟩ := map_get hd0
        walk_at "dd"
        rename_i wa va hwa
        refine u_made ⟨_, _, _, mup_same⟩ fun l f rs x1 y1 z1 dr r5 => ?_
        have ok := dr.ok
        rw [mup_mup]
        walk_at "dd"
        refine u_asked ⟨_, _, _, mup_same⟩ dr fun s1 x2 y2 z2 hi1 hl1 => ?_
        have hN : mostB rs s1 ≤ 210 := Nat.mul_le_mul r5 (show s1.length + 1 ≤ 42 by omega)
        have hN2 : mostB rs s1 ≤ 1000000 := by omega
        rw [mup_mup]
        walk_at "dd"
        refine u_lmach ok ?_
        walk_at "dd"
        refine u_lprs ok hN2 ?_
        walk_at "dd"
        refine ⟨(ordB l rs f s1).map (fun e => (((e.1.1 : Nat) : Int), ((e.1.2 : Nat) : Int))), ?_, fun qs hp2 hs2 pn hpn => ?_⟩
        · unfold textD kvP
          rw [List.map_map, List.map_map]
          rfl
        have hol := ordB_len (f := f) (y := s1) ok
        have hql : qs.length ≤ 210 := by
          have := hp2.length_eq
          rw [List.length_map] at this
          omega
        have hzq : ∀ z, z ∈ qs.map (fun q => Dv.tup [Dv.int q.1, .int q.2]) → ThQ z := fun z hz => by
          obtain ⟨q, _, rfl⟩ := List.mem_map.mp hz
          exact thQ_tup (by show (2 : Nat) ≤ 3; decide) fun x hx => by
            simp only [List.mem_cons, List.not_mem_nil, or_false] at hx
            rcases hx with rfl | rfl <;> exact scQ_int _
        have hzl : (qs.map (fun q => Dv.tup [Dv.int q.1, .int q.2])).length ≤ 210 := by rw [List.length_map]; exact hql
        generalize qs.map (fun q => Dv.tup [Dv.int q.1, .int q.2]) = zs at hzq hzl ⊢
        clear hp2 hs2 hql
        walk_at "dd"
        refine fo_rng (n := 4) (fun i sd M' => ∃ (x y z : Int) (y7_ y8_ y9_ y10_ y11_ y12_ y13_ y14_ y15_ : Option Dv), sd = [some (.lst (ns.map .int)), some (.int cell), some (.ref wa), some (mdD l rs f), some (.str s1), some (McO l rs f), some (.lst zs), y7_, y8_, y9_, y10_, y11_, y12_, y13_, y14_, y15_] ∧ (M' = mup M0 wa (.lst [.int x, .int y, .int z]))) ⟨_, _, _, _, _, _, _, _, _, _, _, _, rfl, rfl⟩ ?_ ?_
        · rintro j sd M1 hj ⟨x, y, z, y7_, y8_, y9_, y10_, y11_, y12_, y13_, y14_, y15_, rfl, rfl⟩
          walk_at "dd"
          refine u_lspoil ⟨_, _, _, mup_same⟩ ok (by omega) (by omega) hzq (fun px x5 y5 z5 hpx => ?_)
          rw [mup_mup]
          rcases hpx with ⟨ws, rfl | rfl, hwl, hwq⟩ | rfl | rfl | rfl
          · have hpo : PapOk ws := ⟨hwl, fun d hd => (hwq d hd).1⟩
            walk_at "dd"
            refine u_ldue ok hN2 hpo ?_
            cases hv : papV l rs f s1 ws with
            | none =>
              show kFz Dv.non _ _
              walk_at "dd"
              walk_at "dd"
              refine u_lfound ok hi1 hN2 hpo ?_
              rw [hv]
              show kFz (Dv.tup [.str (Str.ofString "told"), .non]) _ _
              walk_at "dd"
              refine ne_pap (v := none) ?_
              walk_at "dd"
              refine ne_lst hwq ?_
              exact ⟨_, _, _, _, _, _, _, _, _, _, _, _, rfl, rfl⟩
            | some k =>
              show kFz (Dv.int (k : Nat)) _ _
              walk_at "dd"
              walk_at "dd"
              refine u_lfound ok hi1 hN2 hpo ?_
              rw [hv]
              show kFz (Dv.tup [.str (Str.ofString "paper"), .int (k : Nat)]) _ _
              walk_at "dd"
              refine ne_pap (v := some k) ?_
              walk_at "dd"
              refine ne_lst hwq ?_
              exact ⟨_, _, _, _, _, _, _, _, _, _, _, _, rfl, rfl⟩
          · walk_at "dd"
            refine u_ldueN ok hN2 (trivial) (fun _ e => by cases e) ?_
            walk_at "dd"
            refine u_lfoundN ok hi1 hN2 (trivial) (fun _ e => by cases e) ?_
            show kFz (Dv.tup [.str (Str.ofString "paper"), .int 0]) _ _
            walk_at "dd"
            refine ne_pap (v := some 0) ?_
            walk_at "dd"
            refine ne_tup hwq ?_
            exact ⟨_, _, _, _, _, _, _, _, _, _, _, _, rfl, rfl⟩
          · walk_at "dd"
            refine u_ldueN ok hN2 (trivial) (fun _ e => by cases e) ?_
            walk_at "dd"
            refine u_lfoundN ok hi1 hN2 (trivial) (fun _ e => by cases e) ?_
            show kFz (Dv.tup [.str (Str.ofString "paper"), .int 0]) _ _
            walk_at "dd"
            refine ne_pap (v := some 0) ?_
            walk_at "dd"
            refine i_neSame (p := .none) rfl rfl rfl (h := ?_)
            exact ⟨_, _, _, _, _, _, _, _, _, _, _, _, rfl, rfl⟩
          · walk_at "dd"
            refine u_ldueN ok hN2 (trivial) (fun _ e => by cases e) ?_
            walk_at "dd"
            refine u_lfoundN ok hi1 hN2 (trivial) (fun _ e => by cases e) ?_
            show kFz (Dv.tup [.str (Str.ofString "paper"), .int 0]) _ _
            walk_at "dd"
            refine ne_pap (v := some 0) ?_
            walk_at "dd"
            exact ⟨_, _, _, _, _, _, _, _, _, _, _, _, rfl, rfl⟩
          · walk_at "dd"
            refine u_ldueN ok hN2 (by show (4 : Nat) ≤ 1000000; omega) (fun _ e => by cases e) ?_
            walk_at "dd"
            refine u_lfoundN ok hi1 hN2 (by show (4 : Nat) ≤ 1000000; omega) (fun _ e => by cases e) ?_
            show kFz (Dv.tup [.str (Str.ofString "paper"), .int 0]) _ _
            walk_at "dd"
            refine ne_pap (v := some 0) ?_
            walk_at "dd"
            exact ⟨_, _, _, _, _, _, _, _, _, _, _, _, rfl, rfl⟩
        · rintro sd M1 ⟨x, y, z, y7_, y8_, y9_, y10_, y11_, y12_, y13_, y14_, y15_, rfl, rfl⟩
          have hB1 : (Str.ofString "1").length = 1 := rfl
          have hB2 : (Str.ofString "-").length = 1 := rfl
          walk_at "dd"
          rename_i dr5 x6 y6 z6 hd0 hd1
          rcases (by omega : dr5 = 0 ∨ dr5 = 1 ∨ dr5 = 2 ∨ dr5 = 3 ∨ dr5 = 4) with e | e | e | e | e <;> subst e
          · walk_at "dd"
            refine u_lfoundB ok trivial (v := -1) rfl ?_
            walk_at "dd"
            refine ne_wd ?_
            walk_at "dd"
            refine u_Back_bad (x := .non) ok trivial (v := -1) rfl (fun M' hs => ?_)
            refine w_yes sub_NoWord_NoWord fun ad => ?_
            walk_at "dd"
            simp only [List.set_cons_succ, List.set_cons_zero]
            walk_at "dd"
            exact ⟨_, _, _, _, _, _, _, _, _, _, _, _, _, _, _, rfl, trivial⟩
          · walk_at "dd"
            refine u_lfoundB ok trivial (v := -1) rfl ?_
            walk_at "dd"
            refine ne_wd ?_
            walk_at "dd"
            refine u_Back_bad (x := .int 7) ok trivial (v := -1) rfl (fun M' hs => ?_)
            refine w_yes sub_NoWord_NoWord fun ad => ?_
            walk_at "dd"
            simp only [List.set_cons_succ, List.set_cons_zero]
            walk_at "dd"
            exact ⟨_, _, _, _, _, _, _, _, _, _, _, _, _, _, _, rfl, trivial⟩
          · have hT : TgT (.str (s1 ++ Str.ofString "1")) := by
              show (s1 ++ Str.ofString "1").length ≤ 1000000
              rw [str_len, cps_app, List.length_append, ← str_len, ← str_len]
              omega
            obtain ⟨c, hc, hcd⟩ := fst_one hi1
            walk_at "dd"
            refine i_ixS hc (by have : (s1 ++ Str.ofString "1").length ≤ 1000000 := hT; omega) ?_
            walk_at "dd"
            rw [hcd]
            walk_at "dd"
            refine u_lfoundB ok hT (bad_one hi1) ?_
            walk_at "dd"
            refine ne_wd ?_
            walk_at "dd"
            refine u_Back_bad ok hT (bad_one hi1) (fun M' hs => ?_)
            refine w_yes sub_NoWord_NoWord fun ad => ?_
            walk_at "dd"
            simp only [List.set_cons_succ, List.set_cons_zero]
            walk_at "dd"
            rw [if_neg (by simp)]
            exact ⟨_, _, _, _, _, _, _, _, _, _, _, _, _, _, _, rfl, trivial⟩
          · have hT : TgT (.str (Str.ofString "-" ++ s1)) := by
              show (Str.ofString "-" ++ s1).length ≤ 1000000
              rw [str_len, cps_app, List.length_append, ← str_len, ← str_len]
              omega
            walk_at "dd"
            refine i_ixS fst_min (by have : (Str.ofString "-" ++ s1).length ≤ 1000000 := hT; omega) ?_
            walk_at "dd"
            refine u_lfoundB ok hT bad_min ?_
            walk_at "dd"
            refine ne_wd ?_
            walk_at "dd"
            refine u_Back_bad ok hT bad_min (fun M' hs => ?_)
            refine w_yes sub_NoWord_NoWord fun ad => ?_
            walk_at "dd"
            simp only [List.set_cons_succ, List.set_cons_zero]
            walk_at "dd"
            exact ⟨_, _, _, _, _, _, _, _, _, _, _, _, _, _, _, rfl, trivial⟩
          · refine i_ixL (e := .lst [.str s1]) rfl rfl ?_
            walk_at "dd"
            refine u_lfoundB (x := .lst [.str s1]) ok trivial (v := -1) rfl ?_
            walk_at "dd"
            refine ne_wd ?_
            walk_at "dd"
            refine u_Back_bad (x := .lst [.str s1]) ok trivial (v := -1) rfl (fun M' hs => ?_)
            refine w_yes sub_NoWord_NoWord fun ad => ?_
            walk_at "dd"
            simp only [List.set_cons_succ, List.set_cons_zero]
            walk_at "dd"
            exact ⟨_, _, _, _, _, _, _, _, _, _, _, _, _, _, _, rfl, trivial⟩
      · rintro sd M0 ⟨y1_, y2_, y3_, y4_, y5_, y6_, y7_, y8_, y9_, y10_, y11_, y12_, y13_, y14_, y15_, rfl, _⟩
        walk_at "dd"
        exact .here (h _)
    · exact h.elim
end
theorem all_mk {P : Program} {w : World} {K : PySem.W.Frag} {h : Heap} {mg : Str → Option Value} {fa : Addr} (X : K.In h) (G : h.Ns mainGlobals mg) (hfa : mg "law" = some (.ref fa))
    {C_Back C_Machine f1 f2 f3 f4 f5 f6 f7 f8 f9 f10 f11 f12 f13 f14 f15 f16 f17 f18 f19 f20 f21 f22 f23 f24 f25 f26 f27 f28 f29 f30 f31 f32 f33 f34 f35 f36 C_NoWord C_NoRule C_NoPaper C_SeamError I_NoWord I_NoRule I_NoPaper : Addr}
    {fd1 fd2 fd3 fd4 fd5 fd6 fd7 fd8 fd9 fd10 fd11 fd12 fd13 fd14 fd15 fd16 fd17 fd18 fd19 fd20 fd21 fd22 fd23 fd24 fd25 fd26 fd27 fd28 fd29 fd30 fd31 fd32 fd33 fd34 fd35 fd36 jd_NoWord jd_NoRule jd_NoPaper : FuncData}
    (ka_Back : PySem.W.nsIn K mainGlobals "Back" = some (some (.ref C_Back)))
    (ka_Machine : PySem.W.nsIn K mainGlobals "Machine" = some (some (.ref C_Machine)))
    (kg_Back : PySem.W.plainGet K C_Back Str.empty = true)
    (kh_Back : PySem.W.hasDictIn K C_Back = true)
    (kp_Back : PySem.W.plainOver K C_Back = true)
    (ks_Back : PySem.W.findIn K (.ref C_Back) "__setattr__" = some (some (.builtin "object.__setattr__")))
    (kf_Back_ways : PySem.W.findIn K (.ref C_Back) "ways" = some none)
    (kf_Back_begin : PySem.W.findIn K (.ref C_Back) "begin" = some none)
    (kf_Back_met : PySem.W.findIn K (.ref C_Back) "met" = some none)
    (kf_Back_backs : PySem.W.findIn K (.ref C_Back) "backs" = some none)
    (kf_Back_able : PySem.W.findIn K (.ref C_Back) "able" = some none)
    (km_Back : PySem.W.makesIn K C_Back = true)
    (kk_Back : PySem.W.keepIn K (.ref C_Back) = true)
    (kg_Machine : PySem.W.plainGet K C_Machine Str.empty = true)
    (kh_Machine : PySem.W.hasDictIn K C_Machine = true)
    (kp_Machine : PySem.W.plainOver K C_Machine = true)
    (ks_Machine : PySem.W.findIn K (.ref C_Machine) "__setattr__" = some (some (.builtin "object.__setattr__")))
    (kf_Machine_known : PySem.W.findIn K (.ref C_Machine) "known" = some none)
    (kf_Machine_made : PySem.W.findIn K (.ref C_Machine) "made" = some none)
    (kf_Machine_begun : PySem.W.findIn K (.ref C_Machine) "begun" = some none)
    (km_Machine : PySem.W.makesIn K C_Machine = true)
    (kk_Machine : PySem.W.keepIn K (.ref C_Machine) = true)
    (a1 : PySem.W.nsIn K mainGlobals "is_whole" = some (some (.ref f1)))
    (F1 : Fun K "is_whole" "is_whole" s_is_whole f1 fd1)
    (a2 : PySem.W.nsIn K mainGlobals "is_text" = some (some (.ref f2)))
    (F2 : Fun K "is_text" "is_text" s_is_text f2 fd2)
    (a3 : PySem.W.nsIn K mainGlobals "want_letters" = some (some (.ref f3)))
    (F3 : Fun K "want_letters" "want_letters" s_want_letters f3 fd3)
    (a4 : PySem.W.nsIn K mainGlobals "want_word" = some (some (.ref f4)))
    (F4 : FunD K "want_word" "want_word" (defArgs s_want_word) (defBody s_want_word) (defScope s_want_word) [V.non] [] f4 fd4)
    (a5 : PySem.W.findIn K (.ref C_Machine) "first" = some (some (.ref f5)))
    (m5 : PySem.W.isFn K (.ref f5) = true)
    (F5 : Fun K "first" "Machine.first" s_Machine_first f5 fd5)
    (a6 : PySem.W.nsIn K mainGlobals "begin_of" = some (some (.ref f6)))
    (F6 : Fun K "begin_of" "begin_of" s_begin_of f6 fd6)
    (a7 : PySem.W.nsIn K mainGlobals "meets_end" = some (some (.ref f7)))
    (F7 : Fun K "meets_end" "meets_end" s_meets_end f7 fd7)
    (a8 : PySem.W.findIn K (.ref C_Machine) "letters" = some (some (.ref f8)))
    (m8 : PySem.W.isFn K (.ref f8) = true)
    (F8 : Fun K "letters" "Machine.letters" s_Machine_letters f8 fd8)
    (a9 : PySem.W.nsIn K mainGlobals "pairs_from" = some (some (.ref f9)))
    (F9 : Fun K "pairs_from" "pairs_from" s_pairs_from f9 fd9)
    (a10 : PySem.W.nsIn K mainGlobals "pairs_of" = some (some (.ref f10)))
    (F10 : Fun K "pairs_of" "pairs_of" s_pairs_of f10 fd10)
    (a11 : PySem.W.nsIn K mainGlobals "backs_of" = some (some (.ref f11)))
    (F11 : Fun K "backs_of" "backs_of" s_backs_of f11 fd11)
    (a12 : PySem.W.nsIn K mainGlobals "able_of" = some (some (.ref f12)))
    (F12 : Fun K "able_of" "able_of" s_able_of f12 fd12)
    (a13 : PySem.W.findIn K (.ref C_Back) "__init__" = some (some (.ref f13)))
    (m13 : PySem.W.isFn K (.ref f13) = true)
    (F13 : Fun K "__init__" "Back.__init__" s_Back___init__ f13 fd13)
    (a14 : PySem.W.findIn K (.ref C_Machine) "__len__" = some (some (.ref f14)))
    (m14 : PySem.W.isFn K (.ref f14) = true)
    (F14 : Fun K "__len__" "Machine.__len__" s_Machine___len__ f14 fd14)
    (a15 : PySem.W.nsIn K mainGlobals "is_pair_of" = some (some (.ref f15)))
    (F15 : Fun K "is_pair_of" "is_pair_of" s_is_pair_of f15 fd15)
    (a16 : PySem.W.nsIn K mainGlobals "check_shut" = some (some (.ref f16)))
    (F16 : Fun K "check_shut" "check_shut" s_check_shut f16 fd16)
    (a17 : PySem.W.nsIn K mainGlobals "is_way" = some (some (.ref f17)))
    (F17 : Fun K "is_way" "is_way" s_is_way f17 fd17)
    (a18 : PySem.W.nsIn K mainGlobals "is_room" = some (some (.ref f18)))
    (F18 : Fun K "is_room" "is_room" s_is_room f18 fd18)
    (a19 : PySem.W.findIn K (.ref C_Machine) "__init__" = some (some (.ref f19)))
    (m19 : PySem.W.isFn K (.ref f19) = true)
    (F19 : FunD K "__init__" "Machine.__init__" (defArgs s_Machine___init__) (defBody s_Machine___init__) (defScope s_Machine___init__) [V.str ""] [] f19 fd19)
    (a20 : PySem.W.nsIn K mainGlobals "_law_well" = some (some (.ref f20)))
    (F20 : Fun K "_law_well" "_law_well" s__law_well f20 fd20)
    (a21 : PySem.W.nsIn K mainGlobals "_law_draw" = some (some (.ref f21)))
    (F21 : Fun K "_law_draw" "_law_draw" s__law_draw f21 fd21)
    (a22 : PySem.W.nsIn K mainGlobals "_law_signs" = some (some (.ref f22)))
    (F22 : Fun K "_law_signs" "_law_signs" s__law_signs f22 fd22)
    (a23 : PySem.W.nsIn K mainGlobals "_law_text" = some (some (.ref f23)))
    (F23 : Fun K "_law_text" "_law_text" s__law_text f23 fd23)
    (a24 : PySem.W.nsIn K mainGlobals "_law_made" = some (some (.ref f24)))
    (F24 : Fun K "_law_made" "_law_made" s__law_made f24 fd24)
    (a25 : PySem.W.nsIn K mainGlobals "_law_machine" = some (some (.ref f25)))
    (F25 : Fun K "_law_machine" "_law_machine" s__law_machine f25 fd25)
    (a26 : PySem.W.nsIn K mainGlobals "_law_walk" = some (some (.ref f26)))
    (F26 : Fun K "_law_walk" "_law_walk" s__law_walk f26 fd26)
    (a27 : PySem.W.nsIn K mainGlobals "_law_row" = some (some (.ref f27)))
    (F27 : Fun K "_law_row" "_law_row" s__law_row f27 fd27)
    (a28 : PySem.W.nsIn K mainGlobals "_law_asked" = some (some (.ref f28)))
    (F28 : Fun K "_law_asked" "_law_asked" s__law_asked f28 fd28)
    (a29 : PySem.W.nsIn K mainGlobals "_law_steps" = some (some (.ref f29)))
    (F29 : Fun K "_law_steps" "_law_steps" s__law_steps f29 fd29)
    (a30 : PySem.W.nsIn K mainGlobals "_law_pairs" = some (some (.ref f30)))
    (F30 : Fun K "_law_pairs" "_law_pairs" s__law_pairs f30 fd30)
    (a31 : PySem.W.nsIn K mainGlobals "_law_is_pair" = some (some (.ref f31)))
    (F31 : Fun K "_law_is_pair" "_law_is_pair" s__law_is_pair f31 fd31)
    (a32 : PySem.W.nsIn K mainGlobals "_law_due" = some (some (.ref f32)))
    (F32 : Fun K "_law_due" "_law_due" s__law_due f32 fd32)
    (a33 : PySem.W.nsIn K mainGlobals "_law_odd" = some (some (.ref f33)))
    (F33 : Fun K "_law_odd" "_law_odd" s__law_odd f33 fd33)
    (a34 : PySem.W.nsIn K mainGlobals "_law_spoiled" = some (some (.ref f34)))
    (F34 : Fun K "_law_spoiled" "_law_spoiled" s__law_spoiled f34 fd34)
    (a35 : PySem.W.nsIn K mainGlobals "_law_found" = some (some (.ref f35)))
    (F35 : Fun K "_law_found" "_law_found" s__law_found f35 fd35)
    (a36 : PySem.W.nsIn K mainGlobals "law" = some (some (.ref f36)))
    (F36 : Fun K "law" "law" s_law f36 fd36)
    (z_all : PySem.W.nsIn K mainGlobals "all" = some none)
    (z_bool : PySem.W.nsIn K mainGlobals "bool" = some none)
    (z_dict : PySem.W.nsIn K mainGlobals "dict" = some none)
    (z_enumerate : PySem.W.nsIn K mainGlobals "enumerate" = some none)
    (z_int : PySem.W.nsIn K mainGlobals "int" = some none)
    (z_isinstance : PySem.W.nsIn K mainGlobals "isinstance" = some none)
    (z_len : PySem.W.nsIn K mainGlobals "len" = some none)
    (z_list : PySem.W.nsIn K mainGlobals "list" = some none)
    (z_max : PySem.W.nsIn K mainGlobals "max" = some none)
    (z_range : PySem.W.nsIn K mainGlobals "range" = some none)
    (z_set : PySem.W.nsIn K mainGlobals "set" = some none)
    (z_sorted : PySem.W.nsIn K mainGlobals "sorted" = some none)
    (z_str : PySem.W.nsIn K mainGlobals "str" = some none)
    (z_tuple : PySem.W.nsIn K mainGlobals "tuple" = some none)
    (z_zip : PySem.W.nsIn K mainGlobals "zip" = some none)
    (v_MOST_LETTERS : ∃ t, mg "MOST_LETTERS" = some (.int 16 t))
    (v_MOST_ROOMS : ∃ t, mg "MOST_ROOMS" = some (.int 200 t))
    (v_SIGNS : ∃ t, mg "SIGNS" = some (.str "ABCDEFGHIJKLMNOPQRSTUVWXYZabcdefghijklmnopqrstuvwxyz" t))
    (ea_NoWord : PySem.W.nsIn K mainGlobals "NoWord" = some (some (.ref C_NoWord)))
    (ea_NoRule : PySem.W.nsIn K mainGlobals "NoRule" = some (some (.ref C_NoRule)))
    (ea_NoPaper : PySem.W.nsIn K mainGlobals "NoPaper" = some (some (.ref C_NoPaper)))
    (ea_SeamError : PySem.W.nsIn K mainGlobals "SeamError" = some (some (.ref C_SeamError)))
    (br_SeamError : PySem.W.readsIn K C_SeamError (.type "type") = true)
    (bg_SeamError : PySem.W.specialIn K (.ref C_SeamError) "__getattribute__" = some (some (.builtin "type.__getattribute__")))
    (bv_SeamError : PySem.W.findCls K (.ref C_SeamError) (.type "type") "__init__" = some (.val (.builtin "ValueError.__init__")))
    (TX_NoWord : OexC K C_NoWord)
    (J_NoWord : Fun K "__init__" "NoWord.__init__" i_NoWord I_NoWord jd_NoWord)
    (et_NoWord : PySem.W.typeIn K (.ref C_NoWord) = some (.type "type"))
    (ee_NoWord : PySem.W.subIn K (.ref C_NoWord) (.type "BaseException") = some true)
    (ei_NoWord : PySem.W.findIn K (.ref C_NoWord) "__init__" = some (some (.ref I_NoWord)))
    (ef_NoWord : PySem.W.typeIn K (.ref I_NoWord) = some (.type "function"))
    (en_NoWord : PySem.W.findIn K (.ref C_NoWord) "at" = some none)
    (xg_NoWord : PySem.W.findIn K (.ref C_NoWord) "__getattribute__" = some (some (.builtin "BaseException.__getattribute__")))
    (xk_NoWord : PySem.W.findIn K (.ref C_NoWord) "__getattr__" = some none)
    (xh_NoWord : PySem.W.hasDictIn K C_NoWord = true)
    (TX_NoRule : OexC K C_NoRule)
    (J_NoRule : Fun K "__init__" "NoRule.__init__" i_NoRule I_NoRule jd_NoRule)
    (et_NoRule : PySem.W.typeIn K (.ref C_NoRule) = some (.type "type"))
    (ee_NoRule : PySem.W.subIn K (.ref C_NoRule) (.type "BaseException") = some true)
    (ei_NoRule : PySem.W.findIn K (.ref C_NoRule) "__init__" = some (some (.ref I_NoRule)))
    (ef_NoRule : PySem.W.typeIn K (.ref I_NoRule) = some (.type "function"))
    (en_NoRule : PySem.W.findIn K (.ref C_NoRule) "what" = some none)
    (xg_NoRule : PySem.W.findIn K (.ref C_NoRule) "__getattribute__" = some (some (.builtin "BaseException.__getattribute__")))
    (xk_NoRule : PySem.W.findIn K (.ref C_NoRule) "__getattr__" = some none)
    (xh_NoRule : PySem.W.hasDictIn K C_NoRule = true)
    (TX_NoPaper : OexC K C_NoPaper)
    (J_NoPaper : Fun K "__init__" "NoPaper.__init__" i_NoPaper I_NoPaper jd_NoPaper)
    (et_NoPaper : PySem.W.typeIn K (.ref C_NoPaper) = some (.type "type"))
    (ee_NoPaper : PySem.W.subIn K (.ref C_NoPaper) (.type "BaseException") = some true)
    (ei_NoPaper : PySem.W.findIn K (.ref C_NoPaper) "__init__" = some (some (.ref I_NoPaper)))
    (ef_NoPaper : PySem.W.typeIn K (.ref I_NoPaper) = some (.type "function"))
    (en_NoPaper : PySem.W.findIn K (.ref C_NoPaper) "at" = some none)
    (xg_NoPaper : PySem.W.findIn K (.ref C_NoPaper) "__getattribute__" = some (some (.builtin "BaseException.__getattribute__")))
    (xk_NoPaper : PySem.W.findIn K (.ref C_NoPaper) "__getattr__" = some none)
    (xh_NoPaper : PySem.W.hasDictIn K C_NoPaper = true)
    (sb_NoWord_NoWord : PySem.W.subIn K (.ref C_NoWord) (.ref C_NoWord) = some true)
    (sb_NoWord_NoPaper : PySem.W.subIn K (.ref C_NoWord) (.ref C_NoPaper) = some false)
    (sb_NoRule_NoWord : PySem.W.subIn K (.ref C_NoRule) (.ref C_NoWord) = some false)
    (sb_NoRule_NoPaper : PySem.W.subIn K (.ref C_NoRule) (.ref C_NoPaper) = some false)
    (sb_NoPaper_NoWord : PySem.W.subIn K (.ref C_NoPaper) (.ref C_NoWord) = some false)
    (sb_NoPaper_NoPaper : PySem.W.subIn K (.ref C_NoPaper) (.ref C_NoPaper) = some true)
    : ∃ fd : FuncData, (∀ (s : Shared) (v : Value), BindsTo s fd ⟨[v], []⟩ [("_law_script", v)]) ∧ ∀ base : Heap, K.In base → base.Ns mainGlobals mg → FnOk P w K mg base (L2.CX P w) 7 fa fd ["_law_script"] (LSp K sp_law) := by
  have e := hfa.symm.trans (PySem.W.mg_of X G a36)
  cases e
  have T : Tn mg := ⟨PySem.W.mg_none_of X G z_all, PySem.W.mg_none_of X G z_bool, PySem.W.mg_none_of X G z_dict, PySem.W.mg_none_of X G z_enumerate, PySem.W.mg_none_of X G z_int, PySem.W.mg_none_of X G z_isinstance, PySem.W.mg_none_of X G z_len, PySem.W.mg_none_of X G z_list, PySem.W.mg_none_of X G z_max, PySem.W.mg_none_of X G z_range, PySem.W.mg_none_of X G z_set, PySem.W.mg_none_of X G z_sorted, PySem.W.mg_none_of X G z_str, PySem.W.mg_none_of X G z_tuple, PySem.W.mg_none_of X G z_zip, v_MOST_LETTERS, v_MOST_ROOMS, v_SIGNS⟩
  have ZZ : ∀ base : Heap, ∃ cA, Exs P w K mg base cA := fun base => by
    have uq : ∀ {x : Str} {A B : Addr}, PySem.W.nsIn K mainGlobals x = some (some (.ref A)) → PySem.W.nsIn K mainGlobals x = some (some (.ref B)) → A = B := fun p q => by
      rw [p] at q; cases q; rfl
    have T_NoWord := TX_NoWord
    have X_NoWord : ExcD P w K mg base "NoWord" "at" C_NoWord := exc_mk (PySem.W.mg_of X G ea_NoWord) ea_NoWord T_NoWord ei_NoWord ef_NoWord (J_NoWord.binds (ps := ["self", "at"]) (fun _ _ _ _ _ _ us hl => match us, hl with | [_, _], _ => rfl)) (oki_NoWord J_NoWord (PySem.W.mg_of X G ea_SeamError) ⟨br_SeamError, bg_SeamError⟩ bv_SeamError T_NoWord en_NoWord)
    have T_NoRule := TX_NoRule
    have X_NoRule : ExcD P w K mg base "NoRule" "what" C_NoRule := exc_mk (PySem.W.mg_of X G ea_NoRule) ea_NoRule T_NoRule ei_NoRule ef_NoRule (J_NoRule.binds (ps := ["self", "what"]) (fun _ _ _ _ _ _ us hl => match us, hl with | [_, _], _ => rfl)) (oki_NoRule J_NoRule (PySem.W.mg_of X G ea_SeamError) ⟨br_SeamError, bg_SeamError⟩ bv_SeamError T_NoRule en_NoRule)
    have T_NoPaper := TX_NoPaper
    have X_NoPaper : ExcD P w K mg base "NoPaper" "at" C_NoPaper := exc_mk (PySem.W.mg_of X G ea_NoPaper) ea_NoPaper T_NoPaper ei_NoPaper ef_NoPaper (J_NoPaper.binds (ps := ["self", "at"]) (fun _ _ _ _ _ _ us hl => match us, hl with | [_, _], _ => rfl)) (oki_NoPaper J_NoPaper (PySem.W.mg_of X G ea_SeamError) ⟨br_SeamError, bg_SeamError⟩ bv_SeamError T_NoPaper en_NoPaper)
    refine ⟨fun x => if x = "NoWord" then C_NoWord else if x = "NoRule" then C_NoRule else if x = "NoPaper" then C_NoPaper else 0, X_NoWord, X_NoRule, X_NoPaper, ⟨fun x c b hb C Cc h1 h2 => ?_, fun x f hm C h1 => ?_⟩⟩
    · unfold exT at hb; dsimp only at hb
      by_cases q : x = "NoWord" ∧ c = "NoWord"
      · rw [if_pos q] at hb; obtain ⟨rfl, rfl⟩ := q; cases hb; cases uq h1 ea_NoWord; cases uq h2 ea_NoWord; exact PySem.W.exm_ref ee_NoWord xh_NoWord et_NoWord sb_NoWord_NoWord
      rw [if_neg q] at hb; clear q
      by_cases q : x = "NoWord" ∧ c = "NoPaper"
      · rw [if_pos q] at hb; obtain ⟨rfl, rfl⟩ := q; cases hb; cases uq h1 ea_NoWord; cases uq h2 ea_NoPaper; exact PySem.W.exm_ref ee_NoPaper xh_NoPaper et_NoPaper sb_NoWord_NoPaper
      rw [if_neg q] at hb; clear q
      by_cases q : x = "NoRule" ∧ c = "NoWord"
      · rw [if_pos q] at hb; obtain ⟨rfl, rfl⟩ := q; cases hb; cases uq h1 ea_NoRule; cases uq h2 ea_NoWord; exact PySem.W.exm_ref ee_NoWord xh_NoWord et_NoWord sb_NoRule_NoWord
      rw [if_neg q] at hb; clear q
      by_cases q : x = "NoRule" ∧ c = "NoPaper"
      · rw [if_pos q] at hb; obtain ⟨rfl, rfl⟩ := q; cases hb; cases uq h1 ea_NoRule; cases uq h2 ea_NoPaper; exact PySem.W.exm_ref ee_NoPaper xh_NoPaper et_NoPaper sb_NoRule_NoPaper
      rw [if_neg q] at hb; clear q
      by_cases q : x = "NoPaper" ∧ c = "NoWord"
      · rw [if_pos q] at hb; obtain ⟨rfl, rfl⟩ := q; cases hb; cases uq h1 ea_NoPaper; cases uq h2 ea_NoWord; exact PySem.W.exm_ref ee_NoWord xh_NoWord et_NoWord sb_NoPaper_NoWord
      rw [if_neg q] at hb; clear q
      by_cases q : x = "NoPaper" ∧ c = "NoPaper"
      · rw [if_pos q] at hb; obtain ⟨rfl, rfl⟩ := q; cases hb; cases uq h1 ea_NoPaper; cases uq h2 ea_NoPaper; exact PySem.W.exm_ref ee_NoPaper xh_NoPaper et_NoPaper sb_NoPaper_NoPaper
      rw [if_neg q] at hb; clear q
      cases hb
    · unfold exT at hm; dsimp only at hm
      repeat (rcases List.mem_cons.mp hm with q | hm; · (cases q; first | (cases uq h1 ea_NoWord; exact ⟨⟨xg_NoWord, xk_NoWord, ee_NoWord, xh_NoWord⟩, en_NoWord⟩) | (cases uq h1 ea_NoRule; exact ⟨⟨xg_NoRule, xk_NoRule, ee_NoRule, xh_NoRule⟩, en_NoRule⟩) | (cases uq h1 ea_NoPaper; exact ⟨⟨xg_NoPaper, xk_NoPaper, ee_NoPaper, xh_NoPaper⟩, en_NoPaper⟩)))
      all_goals cases hm
  refine ⟨_, fun s v => bind1 (ps := ["_law_script"]) F36 (fun _ _ _ _ _ _ us hl => match us, hl with | [_], _ => rfl) s [v] rfl, fun base _ _ => ?_⟩
  obtain ⟨cA, Z⟩ := ZZ base
  have L_Back : Cls K C_Back := ⟨kg_Back, kh_Back, kp_Back, ks_Back⟩
  have L_Machine : Cls K C_Machine := ⟨kg_Machine, kh_Machine, kp_Machine, ks_Machine⟩
  have uqC : ∀ {x : Str} {A B : Addr}, PySem.W.nsIn K mainGlobals x = some (some (.ref A)) → PySem.W.nsIn K mainGlobals x = some (some (.ref B)) → A = B := fun p q => by
    rw [p] at q; cases q; rfl
  have ZC : Clz K mg (fun x => if x = "Back" then C_Back else if x = "Machine" then C_Machine else 0) := ⟨⟨fun c f hm C h1 => by
    have uq : ∀ {x : Str} {A B : Addr}, PySem.W.nsIn K mainGlobals x = some (some (.ref A)) → PySem.W.nsIn K mainGlobals x = some (some (.ref B)) → A = B := fun p q => by
      rw [p] at q; cases q; rfl
    unfold fldT at hm
    repeat (rcases List.mem_cons.mp hm with q | hm; · (cases q; first | (cases uq h1 ka_Back; exact ⟨L_Back, kf_Back_ways⟩) | (cases uq h1 ka_Back; exact ⟨L_Back, kf_Back_begin⟩) | (cases uq h1 ka_Back; exact ⟨L_Back, kf_Back_met⟩) | (cases uq h1 ka_Back; exact ⟨L_Back, kf_Back_backs⟩) | (cases uq h1 ka_Back; exact ⟨L_Back, kf_Back_able⟩) | (cases uq h1 ka_Machine; exact ⟨L_Machine, kf_Machine_known⟩) | (cases uq h1 ka_Machine; exact ⟨L_Machine, kf_Machine_made⟩) | (cases uq h1 ka_Machine; exact ⟨L_Machine, kf_Machine_begun⟩)))
    all_goals cases hm⟩⟩
  have G_is_whole := ok_is_whole (P := P) (w := w) (base := base) T F1 ZC Z (PySem.W.mg_of X G a1)
  have G_is_text := ok_is_text (P := P) (w := w) (base := base) T F2 ZC Z (PySem.W.mg_of X G a2)
  have G_want_letters := ok_want_letters (P := P) (w := w) (base := base) T F3 ZC Z G_is_text (PySem.W.mg_of X G a3)
  have G_want_word := ok_want_word (P := P) (w := w) (base := base) T F4 ZC Z G_want_letters (PySem.W.mg_of X G a4)
  have G_Machine_first := ok_Machine_first (P := P) (w := w) (base := base) T F5 ZC Z ka_Machine L_Machine ⟨a5, m5, F5.kp⟩
  have G_begin_of := ok_begin_of (P := P) (w := w) (base := base) T F6 ZC Z G_Machine_first (PySem.W.mg_of X G a6)
  have G_meets_end := ok_meets_end (P := P) (w := w) (base := base) T F7 ZC Z (PySem.W.mg_of X G a7)
  have G_Machine_letters := ok_Machine_letters (P := P) (w := w) (base := base) T F8 ZC Z ka_Machine L_Machine ⟨a8, m8, F8.kp⟩
  have G_pairs_from := ok_pairs_from (P := P) (w := w) (base := base) T F9 ZC Z G_Machine_letters (PySem.W.mg_of X G a9)
  have G_pairs_of := ok_pairs_of (P := P) (w := w) (base := base) T F10 ZC Z G_pairs_from G_begin_of (PySem.W.mg_of X G a10)
  have G_backs_of := ok_backs_of (P := P) (w := w) (base := base) T F11 ZC Z (PySem.W.mg_of X G a11)
  have G_able_of := ok_able_of (P := P) (w := w) (base := base) T F12 ZC Z (PySem.W.mg_of X G a12)
  have G_Back___init__ := ok_Back___init__ (P := P) (w := w) (base := base) T F13 ZC Z G_able_of G_backs_of G_meets_end G_begin_of G_pairs_of G_want_word ka_Back (PySem.W.mg_of X G ka_Back) ⟨km_Back, a13, m13, kk_Back⟩
  have G_Machine___len__ := ok_Machine___len__ (P := P) (w := w) (base := base) T F14 ZC Z ka_Machine L_Machine ⟨a14, m14, F14.kp⟩
  have G_is_pair_of := ok_is_pair_of (P := P) (w := w) (base := base) T F15 ZC Z G_Machine___len__ G_is_whole (PySem.W.mg_of X G a15)
  have G_check_shut := ok_check_shut (P := P) (w := w) (base := base) T F16 ZC Z G_begin_of G_pairs_from G_meets_end G_is_pair_of G_want_word (PySem.W.mg_of X G a16)
  have G_is_way := ok_is_way (P := P) (w := w) (base := base) T F17 ZC Z G_is_whole G_is_text (PySem.W.mg_of X G a17)
  have G_is_room := ok_is_room (P := P) (w := w) (base := base) T F18 ZC Z G_is_way G_is_text (PySem.W.mg_of X G a18)
  have G_Machine___init__ := ok_Machine___init__ (P := P) (w := w) (base := base) T F19 ZC Z G_is_text G_is_room G_want_letters ka_Machine (PySem.W.mg_of X G ka_Machine) ⟨km_Machine, a19, m19, kk_Machine⟩
  have G__law_well := ok__law_well (P := P) (w := w) (base := base) T F20 ZC Z (PySem.W.mg_of X G a20)
  have G__law_draw := ok__law_draw (P := P) (w := w) (base := base) T F21 ZC Z (PySem.W.mg_of X G a21)
  have G__law_signs := ok__law_signs (P := P) (w := w) (base := base) T F22 ZC Z G__law_draw (PySem.W.mg_of X G a22)
  have G__law_text := ok__law_text (P := P) (w := w) (base := base) T F23 ZC Z G__law_draw (PySem.W.mg_of X G a23)
  have G__law_made := ok__law_made (P := P) (w := w) (base := base) T F24 ZC Z G__law_text G__law_draw G__law_signs (PySem.W.mg_of X G a24)
  have G__law_machine := ok__law_machine (P := P) (w := w) (base := base) T F25 ZC Z G_Machine___init__ (PySem.W.mg_of X G a25)
  have G__law_walk := ok__law_walk (P := P) (w := w) (base := base) T F26 ZC Z (PySem.W.mg_of X G a26)
  have G__law_row := ok__law_row (P := P) (w := w) (base := base) T F27 ZC Z G__law_walk (PySem.W.mg_of X G a27)
  have G__law_asked := ok__law_asked (P := P) (w := w) (base := base) T F28 ZC Z G__law_text G__law_draw G__law_signs G__law_row (PySem.W.mg_of X G a28)
  have G__law_steps := ok__law_steps (P := P) (w := w) (base := base) T F29 ZC Z (PySem.W.mg_of X G a29)
  have G__law_pairs := ok__law_pairs (P := P) (w := w) (base := base) T F30 ZC Z G__law_steps (PySem.W.mg_of X G a30)
  have G__law_is_pair := ok__law_is_pair (P := P) (w := w) (base := base) T F31 ZC Z (PySem.W.mg_of X G a31)
  have G__law_due := ok__law_due (P := P) (w := w) (base := base) T F32 ZC Z G__law_steps G__law_is_pair (PySem.W.mg_of X G a32)
  have G__law_odd := ok__law_odd (P := P) (w := w) (base := base) T F33 ZC Z G__law_draw (PySem.W.mg_of X G a33)
  have G__law_spoiled := ok__law_spoiled (P := P) (w := w) (base := base) T F34 ZC Z G__law_odd G__law_draw (PySem.W.mg_of X G a34)
  have G__law_found := ok__law_found (P := P) (w := w) (base := base) T F35 ZC Z G_check_shut (PySem.W.mg_of X G a35)
  exact ok_law (P := P) (w := w) (base := base) T F36 ZC Z G_Back___init__ G__law_found G__law_draw G__law_due G__law_spoiled G__law_pairs G__law_machine G__law_asked G__law_made G__law_well
theorem facts_ {w : World} {K : PySem.W.Frag} {h : Heap} {mg : Str → Option Value} {fa : Addr} (X : K.In h) (G : h.Ns mainGlobals mg) (hfa : mg ("law" : Str) = some (.ref fa)) (c : He.SaysX [] fnL [] [] e1_ w h K) : ∃ fd : FuncData, (∀ (s : Shared) (v : Value), BindsTo s fd ⟨[v], []⟩ [("_law_script", v)]) ∧ ∀ base : Heap, K.In base → base.Ns mainGlobals mg → FnOk PySem.Challenge.rw_markseam_k56_papers_that_shut_nothing.prog w K mg base (L2.CX PySem.Challenge.rw_markseam_k56_papers_that_shut_nothing.prog w) 7 fa fd ["_law_script"] (LSp K sp_law) := by
  have hB : e1_ K = true := c.more
  obtain ⟨hB, hg0⟩ := He.ba hB
  unfold g0_ at hg0
  obtain ⟨hg0, h3_⟩ := He.ba hg0
  obtain ⟨hg0, h2_⟩ := He.ba hg0
  obtain ⟨hg0, h1_⟩ := He.ba hg0
  have h0_ := hg0
  clear hg0
  have z_ka_Back : PySem.W.nsIn K mainGlobals "Back" = some (some (.ref (He.ga K "Back"))) := of_decide_eq_true (fact_at h0_ 0 rfl)
  have z_ka_Machine : PySem.W.nsIn K mainGlobals "Machine" = some (some (.ref (He.ga K "Machine"))) := of_decide_eq_true (fact_at h0_ 1 rfl)
  have z_kg_Back : PySem.W.plainGet K (He.ga K "Back") Str.empty = true := of_decide_eq_true (fact_at h0_ 2 rfl)
  have z_kh_Back : PySem.W.hasDictIn K (He.ga K "Back") = true := of_decide_eq_true (fact_at h0_ 3 rfl)
  have z_kp_Back : PySem.W.plainOver K (He.ga K "Back") = true := of_decide_eq_true (fact_at h0_ 4 rfl)
  have z_ks_Back : PySem.W.findIn K (.ref (He.ga K "Back")) "__setattr__" = some (some (.builtin "object.__setattr__")) := of_decide_eq_true (fact_at h0_ 5 rfl)
  have z_kf_Back_ways : PySem.W.findIn K (.ref (He.ga K "Back")) "ways" = some none := of_decide_eq_true (fact_at h0_ 6 rfl)
  have z_kf_Back_begin : PySem.W.findIn K (.ref (He.ga K "Back")) "begin" = some none := of_decide_eq_true (fact_at h0_ 7 rfl)
  have z_kf_Back_met : PySem.W.findIn K (.ref (He.ga K "Back")) "met" = some none := of_decide_eq_true (fact_at h0_ 8 rfl)
  have z_kf_Back_backs : PySem.W.findIn K (.ref (He.ga K "Back")) "backs" = some none := of_decide_eq_true (fact_at h0_ 9 rfl)
  have z_kf_Back_able : PySem.W.findIn K (.ref (He.ga K "Back")) "able" = some none := of_decide_eq_true (fact_at h0_ 10 rfl)
  have z_km_Back : PySem.W.makesIn K (He.ga K "Back") = true := of_decide_eq_true (fact_at h0_ 11 rfl)
  have z_kk_Back : PySem.W.keepIn K (.ref (He.ga K "Back")) = true := of_decide_eq_true (fact_at h0_ 12 rfl)
  have z_kg_Machine : PySem.W.plainGet K (He.ga K "Machine") Str.empty = true := of_decide_eq_true (fact_at h0_ 13 rfl)
  have z_kh_Machine : PySem.W.hasDictIn K (He.ga K "Machine") = true := of_decide_eq_true (fact_at h0_ 14 rfl)
  have z_kp_Machine : PySem.W.plainOver K (He.ga K "Machine") = true := of_decide_eq_true (fact_at h0_ 15 rfl)
  have z_ks_Machine : PySem.W.findIn K (.ref (He.ga K "Machine")) "__setattr__" = some (some (.builtin "object.__setattr__")) := of_decide_eq_true (fact_at h0_ 16 rfl)
  have z_kf_Machine_known : PySem.W.findIn K (.ref (He.ga K "Machine")) "known" = some none := of_decide_eq_true (fact_at h0_ 17 rfl)
  have z_kf_Machine_made : PySem.W.findIn K (.ref (He.ga K "Machine")) "made" = some none := of_decide_eq_true (fact_at h0_ 18 rfl)
  have z_kf_Machine_begun : PySem.W.findIn K (.ref (He.ga K "Machine")) "begun" = some none := of_decide_eq_true (fact_at h0_ 19 rfl)
  have z_km_Machine : PySem.W.makesIn K (He.ga K "Machine") = true := of_decide_eq_true (fact_at h0_ 20 rfl)
  have z_kk_Machine : PySem.W.keepIn K (.ref (He.ga K "Machine")) = true := of_decide_eq_true (fact_at h0_ 21 rfl)
  have z_a1 : PySem.W.nsIn K mainGlobals "is_whole" = some (some (.ref (He.fAd K ("is_whole", none)))) := of_decide_eq_true (fact_at h0_ 22 rfl)
  have z_F1 : Fun K "is_whole" "is_whole" s_is_whole (He.fAd K ("is_whole", none)) _ := fun_of (c.t.d.def_ 0 (d := d1_) rfl).choose_spec
  have z_a2 : PySem.W.nsIn K mainGlobals "is_text" = some (some (.ref (He.fAd K ("is_text", none)))) := of_decide_eq_true (fact_at h0_ 23 rfl)
  have z_F2 : Fun K "is_text" "is_text" s_is_text (He.fAd K ("is_text", none)) _ := fun_of (c.t.d.def_ 1 (d := d2_) rfl).choose_spec
  have z_a3 : PySem.W.nsIn K mainGlobals "want_letters" = some (some (.ref (He.fAd K ("want_letters", none)))) := of_decide_eq_true (fact_at h0_ 24 rfl)
  have z_F3 : Fun K "want_letters" "want_letters" s_want_letters (He.fAd K ("want_letters", none)) _ := fun_of (c.t.d.def_ 2 (d := d3_) rfl).choose_spec
  have z_a4 : PySem.W.nsIn K mainGlobals "want_word" = some (some (.ref (He.fAd K ("want_word", none)))) := of_decide_eq_true (fact_at h0_ 25 rfl)
  have z_F4 : FunD K "want_word" "want_word" (defArgs s_want_word) (defBody s_want_word) (defScope s_want_word) [V.non] [] (He.fAd K ("want_word", none)) _ := (c.t.d.def_ 3 (d := d4_) rfl).choose_spec
  have z_a5 : PySem.W.findIn K (.ref (He.ga K "Machine")) "first" = some (some (.ref (He.fAd K ("Machine", some "first")))) := of_decide_eq_true (fact_at h0_ 26 rfl)
  have z_m5 : PySem.W.isFn K (.ref (He.fAd K ("Machine", some "first"))) = true := of_decide_eq_true (fact_at h0_ 27 rfl)
  have z_F5 : Fun K "first" "Machine.first" s_Machine_first (He.fAd K ("Machine", some "first")) _ := fun_of (c.t.d.def_ 4 (d := d5_) rfl).choose_spec
  have z_a6 : PySem.W.nsIn K mainGlobals "begin_of" = some (some (.ref (He.fAd K ("begin_of", none)))) := of_decide_eq_true (fact_at h0_ 28 rfl)
  have z_F6 : Fun K "begin_of" "begin_of" s_begin_of (He.fAd K ("begin_of", none)) _ := fun_of (c.t.d.def_ 5 (d := d6_) rfl).choose_spec
  have z_a7 : PySem.W.nsIn K mainGlobals "meets_end" = some (some (.ref (He.fAd K ("meets_end", none)))) := of_decide_eq_true (fact_at h0_ 29 rfl)
  have z_F7 : Fun K "meets_end" "meets_end" s_meets_end (He.fAd K ("meets_end", none)) _ := fun_of (c.t.d.def_ 6 (d := d7_) rfl).choose_spec
  have z_a8 : PySem.W.findIn K (.ref (He.ga K "Machine")) "letters" = some (some (.ref (He.fAd K ("Machine", some "letters")))) := of_decide_eq_true (fact_at h0_ 30 rfl)
  have z_m8 : PySem.W.isFn K (.ref (He.fAd K ("Machine", some "letters"))) = true := of_decide_eq_true (fact_at h0_ 31 rfl)
  have z_F8 : Fun K "letters" "Machine.letters" s_Machine_letters (He.fAd K ("Machine", some "letters")) _ := fun_of (c.t.d.def_ 7 (d := d8_) rfl).choose_spec
  have z_a9 : PySem.W.nsIn K mainGlobals "pairs_from" = some (some (.ref (He.fAd K ("pairs_from", none)))) := of_decide_eq_true (fact_at h0_ 32 rfl)
  have z_F9 : Fun K "pairs_from" "pairs_from" s_pairs_from (He.fAd K ("pairs_from", none)) _ := fun_of (c.t.d.def_ 8 (d := d9_) rfl).choose_spec
  have z_a10 : PySem.W.nsIn K mainGlobals "pairs_of" = some (some (.ref (He.fAd K ("pairs_of", none)))) := of_decide_eq_true (fact_at h0_ 33 rfl)
  have z_F10 : Fun K "pairs_of" "pairs_of" s_pairs_of (He.fAd K ("pairs_of", none)) _ := fun_of (c.t.d.def_ 9 (d := d10_) rfl).choose_spec
  have z_a11 : PySem.W.nsIn K mainGlobals "backs_of" = some (some (.ref (He.fAd K ("backs_of", none)))) := of_decide_eq_true (fact_at h0_ 34 rfl)
  have z_F11 : Fun K "backs_of" "backs_of" s_backs_of (He.fAd K ("backs_of", none)) _ := fun_of (c.t.d.def_ 10 (d := d11_) rfl).choose_spec
  have z_a12 : PySem.W.nsIn K mainGlobals "able_of" = some (some (.ref (He.fAd K ("able_of", none)))) := of_decide_eq_true (fact_at h0_ 35 rfl)
  have z_F12 : Fun K "able_of" "able_of" s_able_of (He.fAd K ("able_of", none)) _ := fun_of (c.t.d.def_ 11 (d := d12_) rfl).choose_spec
  have z_a13 : PySem.W.findIn K (.ref (He.ga K "Back")) "__init__" = some (some (.ref (He.fAd K ("Back", some "__init__")))) := of_decide_eq_true (fact_at h0_ 36 rfl)
  have z_m13 : PySem.W.isFn K (.ref (He.fAd K ("Back", some "__init__"))) = true := of_decide_eq_true (fact_at h0_ 37 rfl)
  have z_F13 : Fun K "__init__" "Back.__init__" s_Back___init__ (He.fAd K ("Back", some "__init__")) _ := fun_of (c.t.d.def_ 12 (d := d13_) rfl).choose_spec
  have z_a14 : PySem.W.findIn K (.ref (He.ga K "Machine")) "__len__" = some (some (.ref (He.fAd K ("Machine", some "__len__")))) := of_decide_eq_true (fact_at h0_ 38 rfl)
  have z_m14 : PySem.W.isFn K (.ref (He.fAd K ("Machine", some "__len__"))) = true := of_decide_eq_true (fact_at h0_ 39 rfl)
  have z_F14 : Fun K "__len__" "Machine.__len__" s_Machine___len__ (He.fAd K ("Machine", some "__len__")) _ := fun_of (c.t.d.def_ 13 (d := d14_) rfl).choose_spec
  have z_a15 : PySem.W.nsIn K mainGlobals "is_pair_of" = some (some (.ref (He.fAd K ("is_pair_of", none)))) := of_decide_eq_true (fact_at h1_ 0 rfl)
  have z_F15 : Fun K "is_pair_of" "is_pair_of" s_is_pair_of (He.fAd K ("is_pair_of", none)) _ := fun_of (c.t.d.def_ 14 (d := d15_) rfl).choose_spec
  have z_a16 : PySem.W.nsIn K mainGlobals "check_shut" = some (some (.ref (He.fAd K ("check_shut", none)))) := of_decide_eq_true (fact_at h1_ 1 rfl)
  have z_F16 : Fun K "check_shut" "check_shut" s_check_shut (He.fAd K ("check_shut", none)) _ := fun_of (c.t.d.def_ 15 (d := d16_) rfl).choose_spec
  have z_a17 : PySem.W.nsIn K mainGlobals "is_way" = some (some (.ref (He.fAd K ("is_way", none)))) := of_decide_eq_true (fact_at h1_ 2 rfl)
  have z_F17 : Fun K "is_way" "is_way" s_is_way (He.fAd K ("is_way", none)) _ := fun_of (c.t.d.def_ 16 (d := d17_) rfl).choose_spec
  have z_a18 : PySem.W.nsIn K mainGlobals "is_room" = some (some (.ref (He.fAd K ("is_room", none)))) := of_decide_eq_true (fact_at h1_ 3 rfl)
  have z_F18 : Fun K "is_room" "is_room" s_is_room (He.fAd K ("is_room", none)) _ := fun_of (c.t.d.def_ 17 (d := d18_) rfl).choose_spec
  have z_a19 : PySem.W.findIn K (.ref (He.ga K "Machine")) "__init__" = some (some (.ref (He.fAd K ("Machine", some "__init__")))) := of_decide_eq_true (fact_at h1_ 4 rfl)
  have z_m19 : PySem.W.isFn K (.ref (He.fAd K ("Machine", some "__init__"))) = true := of_decide_eq_true (fact_at h1_ 5 rfl)
  have z_F19 : FunD K "__init__" "Machine.__init__" (defArgs s_Machine___init__) (defBody s_Machine___init__) (defScope s_Machine___init__) [V.str ""] [] (He.fAd K ("Machine", some "__init__")) _ := (c.t.d.def_ 18 (d := d19_) rfl).choose_spec
  have z_a20 : PySem.W.nsIn K mainGlobals "_law_well" = some (some (.ref (He.fAd K ("_law_well", none)))) := of_decide_eq_true (fact_at h1_ 6 rfl)
  have z_F20 : Fun K "_law_well" "_law_well" s__law_well (He.fAd K ("_law_well", none)) _ := fun_of (c.t.d.def_ 19 (d := d20_) rfl).choose_spec
  have z_a21 : PySem.W.nsIn K mainGlobals "_law_draw" = some (some (.ref (He.fAd K ("_law_draw", none)))) := of_decide_eq_true (fact_at h1_ 7 rfl)
  have z_F21 : Fun K "_law_draw" "_law_draw" s__law_draw (He.fAd K ("_law_draw", none)) _ := fun_of (c.t.d.def_ 20 (d := d21_) rfl).choose_spec
  have z_a22 : PySem.W.nsIn K mainGlobals "_law_signs" = some (some (.ref (He.fAd K ("_law_signs", none)))) := of_decide_eq_true (fact_at h1_ 8 rfl)
  have z_F22 : Fun K "_law_signs" "_law_signs" s__law_signs (He.fAd K ("_law_signs", none)) _ := fun_of (c.t.d.def_ 21 (d := d22_) rfl).choose_spec
  have z_a23 : PySem.W.nsIn K mainGlobals "_law_text" = some (some (.ref (He.fAd K ("_law_text", none)))) := of_decide_eq_true (fact_at h1_ 9 rfl)
  have z_F23 : Fun K "_law_text" "_law_text" s__law_text (He.fAd K ("_law_text", none)) _ := fun_of (c.t.d.def_ 22 (d := d23_) rfl).choose_spec
  have z_a24 : PySem.W.nsIn K mainGlobals "_law_made" = some (some (.ref (He.fAd K ("_law_made", none)))) := of_decide_eq_true (fact_at h1_ 10 rfl)
  have z_F24 : Fun K "_law_made" "_law_made" s__law_made (He.fAd K ("_law_made", none)) _ := fun_of (c.t.d.def_ 23 (d := d24_) rfl).choose_spec
  have z_a25 : PySem.W.nsIn K mainGlobals "_law_machine" = some (some (.ref (He.fAd K ("_law_machine", none)))) := of_decide_eq_true (fact_at h1_ 11 rfl)
  have z_F25 : Fun K "_law_machine" "_law_machine" s__law_machine (He.fAd K ("_law_machine", none)) _ := fun_of (c.t.d.def_ 24 (d := d25_) rfl).choose_spec
  have z_a26 : PySem.W.nsIn K mainGlobals "_law_walk" = some (some (.ref (He.fAd K ("_law_walk", none)))) := of_decide_eq_true (fact_at h1_ 12 rfl)
  have z_F26 : Fun K "_law_walk" "_law_walk" s__law_walk (He.fAd K ("_law_walk", none)) _ := fun_of (c.t.d.def_ 25 (d := d26_) rfl).choose_spec
  have z_a27 : PySem.W.nsIn K mainGlobals "_law_row" = some (some (.ref (He.fAd K ("_law_row", none)))) := of_decide_eq_true (fact_at h1_ 13 rfl)
  have z_F27 : Fun K "_law_row" "_law_row" s__law_row (He.fAd K ("_law_row", none)) _ := fun_of (c.t.d.def_ 26 (d := d27_) rfl).choose_spec
  have z_a28 : PySem.W.nsIn K mainGlobals "_law_asked" = some (some (.ref (He.fAd K ("_law_asked", none)))) := of_decide_eq_true (fact_at h1_ 14 rfl)
  have z_F28 : Fun K "_law_asked" "_law_asked" s__law_asked (He.fAd K ("_law_asked", none)) _ := fun_of (c.t.d.def_ 27 (d := d28_) rfl).choose_spec
  have z_a29 : PySem.W.nsIn K mainGlobals "_law_steps" = some (some (.ref (He.fAd K ("_law_steps", none)))) := of_decide_eq_true (fact_at h1_ 15 rfl)
  have z_F29 : Fun K "_law_steps" "_law_steps" s__law_steps (He.fAd K ("_law_steps", none)) _ := fun_of (c.t.d.def_ 28 (d := d29_) rfl).choose_spec
  have z_a30 : PySem.W.nsIn K mainGlobals "_law_pairs" = some (some (.ref (He.fAd K ("_law_pairs", none)))) := of_decide_eq_true (fact_at h1_ 16 rfl)
  have z_F30 : Fun K "_law_pairs" "_law_pairs" s__law_pairs (He.fAd K ("_law_pairs", none)) _ := fun_of (c.t.d.def_ 29 (d := d30_) rfl).choose_spec
  have z_a31 : PySem.W.nsIn K mainGlobals "_law_is_pair" = some (some (.ref (He.fAd K ("_law_is_pair", none)))) := of_decide_eq_true (fact_at h1_ 17 rfl)
  have z_F31 : Fun K "_law_is_pair" "_law_is_pair" s__law_is_pair (He.fAd K ("_law_is_pair", none)) _ := fun_of (c.t.d.def_ 30 (d := d31_) rfl).choose_spec
  have z_a32 : PySem.W.nsIn K mainGlobals "_law_due" = some (some (.ref (He.fAd K ("_law_due", none)))) := of_decide_eq_true (fact_at h1_ 18 rfl)
  have z_F32 : Fun K "_law_due" "_law_due" s__law_due (He.fAd K ("_law_due", none)) _ := fun_of (c.t.d.def_ 31 (d := d32_) rfl).choose_spec
  have z_a33 : PySem.W.nsIn K mainGlobals "_law_odd" = some (some (.ref (He.fAd K ("_law_odd", none)))) := of_decide_eq_true (fact_at h1_ 19 rfl)
  have z_F33 : Fun K "_law_odd" "_law_odd" s__law_odd (He.fAd K ("_law_odd", none)) _ := fun_of (c.t.d.def_ 32 (d := d33_) rfl).choose_spec
  have z_a34 : PySem.W.nsIn K mainGlobals "_law_spoiled" = some (some (.ref (He.fAd K ("_law_spoiled", none)))) := of_decide_eq_true (fact_at h1_ 20 rfl)
  have z_F34 : Fun K "_law_spoiled" "_law_spoiled" s__law_spoiled (He.fAd K ("_law_spoiled", none)) _ := fun_of (c.t.d.def_ 33 (d := d34_) rfl).choose_spec
  have z_a35 : PySem.W.nsIn K mainGlobals "_law_found" = some (some (.ref (He.fAd K ("_law_found", none)))) := of_decide_eq_true (fact_at h1_ 21 rfl)
  have z_F35 : Fun K "_law_found" "_law_found" s__law_found (He.fAd K ("_law_found", none)) _ := fun_of (c.t.d.def_ 34 (d := d35_) rfl).choose_spec
  have z_a36 : PySem.W.nsIn K mainGlobals "law" = some (some (.ref (He.fAd K ("law", none)))) := of_decide_eq_true (fact_at h1_ 22 rfl)
  have z_F36 : Fun K "law" "law" s_law (He.fAd K ("law", none)) _ := fun_of (c.t.d.def_ 35 (d := d36_) rfl).choose_spec
  have z_z_all : PySem.W.nsIn K mainGlobals "all" = some none := of_decide_eq_true (fact_at h1_ 23 rfl)
  have z_z_bool : PySem.W.nsIn K mainGlobals "bool" = some none := of_decide_eq_true (fact_at h1_ 24 rfl)
  have z_z_dict : PySem.W.nsIn K mainGlobals "dict" = some none := of_decide_eq_true (fact_at h1_ 25 rfl)
  have z_z_enumerate : PySem.W.nsIn K mainGlobals "enumerate" = some none := of_decide_eq_true (fact_at h1_ 26 rfl)
  have z_z_int : PySem.W.nsIn K mainGlobals "int" = some none := of_decide_eq_true (fact_at h1_ 27 rfl)
  have z_z_isinstance : PySem.W.nsIn K mainGlobals "isinstance" = some none := of_decide_eq_true (fact_at h1_ 28 rfl)
  have z_z_len : PySem.W.nsIn K mainGlobals "len" = some none := of_decide_eq_true (fact_at h1_ 29 rfl)
  have z_z_list : PySem.W.nsIn K mainGlobals "list" = some none := of_decide_eq_true (fact_at h1_ 30 rfl)
  have z_z_max : PySem.W.nsIn K mainGlobals "max" = some none := of_decide_eq_true (fact_at h1_ 31 rfl)
  have z_z_range : PySem.W.nsIn K mainGlobals "range" = some none := of_decide_eq_true (fact_at h1_ 32 rfl)
  have z_z_set : PySem.W.nsIn K mainGlobals "set" = some none := of_decide_eq_true (fact_at h1_ 33 rfl)
  have z_z_sorted : PySem.W.nsIn K mainGlobals "sorted" = some none := of_decide_eq_true (fact_at h1_ 34 rfl)
  have z_z_str : PySem.W.nsIn K mainGlobals "str" = some none := of_decide_eq_true (fact_at h1_ 35 rfl)
  have z_z_tuple : PySem.W.nsIn K mainGlobals "tuple" = some none := of_decide_eq_true (fact_at h1_ 36 rfl)
  have z_z_zip : PySem.W.nsIn K mainGlobals "zip" = some none := of_decide_eq_true (fact_at h1_ 37 rfl)
  have z_v_MOST_LETTERS : ∃ t, mg "MOST_LETTERS" = some (.int 16 t) := He.int_ok X G (fact_at h1_ 38 rfl)
  have z_v_MOST_ROOMS : ∃ t, mg "MOST_ROOMS" = some (.int 200 t) := He.int_ok X G (fact_at h1_ 39 rfl)
  have z_v_SIGNS : ∃ t, mg "SIGNS" = some (.str "ABCDEFGHIJKLMNOPQRSTUVWXYZabcdefghijklmnopqrstuvwxyz" t) := He.str_ok X G (fact_at h2_ 0 rfl)
  have z_ea_NoWord : PySem.W.nsIn K mainGlobals "NoWord" = some (some (.ref (He.ga K "NoWord"))) := of_decide_eq_true (fact_at h2_ 1 rfl)
  have z_ea_NoRule : PySem.W.nsIn K mainGlobals "NoRule" = some (some (.ref (He.ga K "NoRule"))) := of_decide_eq_true (fact_at h2_ 2 rfl)
  have z_ea_NoPaper : PySem.W.nsIn K mainGlobals "NoPaper" = some (some (.ref (He.ga K "NoPaper"))) := of_decide_eq_true (fact_at h2_ 3 rfl)
  have z_ea_SeamError : PySem.W.nsIn K mainGlobals "SeamError" = some (some (.ref (He.ga K "SeamError"))) := of_decide_eq_true (fact_at h2_ 4 rfl)
  have z_br_SeamError : PySem.W.readsIn K (He.ga K "SeamError") (.type "type") = true := of_decide_eq_true (fact_at h2_ 5 rfl)
  have z_bg_SeamError : PySem.W.specialIn K (.ref (He.ga K "SeamError")) "__getattribute__" = some (some (.builtin "type.__getattribute__")) := of_decide_eq_true (fact_at h2_ 6 rfl)
  have z_bv_SeamError := fcB_ok (fact_at h2_ 7 rfl)
  have z_TX_NoWord : OexC K (He.ga K "NoWord") := ⟨oexIn_ok (fact_at h2_ 8 rfl), of_decide_eq_true (fact_at h2_ 9 rfl), of_decide_eq_true (fact_at h2_ 10 rfl), of_decide_eq_true (fact_at h2_ 11 rfl), of_decide_eq_true (fact_at h2_ 12 rfl)⟩
  have z_J_NoWord : Fun K "__init__" "NoWord.__init__" i_NoWord (He.fAd K ("NoWord", some "__init__")) _ := fun_of (c.t.d.def_ 36 (d := di_NoWord) rfl).choose_spec
  have z_et_NoWord : PySem.W.typeIn K (.ref (He.ga K "NoWord")) = some (.type "type") := of_decide_eq_true (fact_at h2_ 13 rfl)
  have z_ee_NoWord : PySem.W.subIn K (.ref (He.ga K "NoWord")) (.type "BaseException") = some true := of_decide_eq_true (fact_at h2_ 14 rfl)
  have z_ei_NoWord : PySem.W.findIn K (.ref (He.ga K "NoWord")) "__init__" = some (some (.ref (He.fAd K ("NoWord", some "__init__")))) := of_decide_eq_true (fact_at h2_ 15 rfl)
  have z_ef_NoWord : PySem.W.typeIn K (.ref (He.fAd K ("NoWord", some "__init__"))) = some (.type "function") := of_decide_eq_true (fact_at h2_ 16 rfl)
  have z_en_NoWord : PySem.W.findIn K (.ref (He.ga K "NoWord")) "at" = some none := of_decide_eq_true (fact_at h2_ 17 rfl)
  have z_xg_NoWord : PySem.W.findIn K (.ref (He.ga K "NoWord")) "__getattribute__" = some (some (.builtin "BaseException.__getattribute__")) := of_decide_eq_true (fact_at h2_ 18 rfl)
  have z_xk_NoWord : PySem.W.findIn K (.ref (He.ga K "NoWord")) "__getattr__" = some none := of_decide_eq_true (fact_at h2_ 19 rfl)
  have z_xh_NoWord : PySem.W.hasDictIn K (He.ga K "NoWord") = true := of_decide_eq_true (fact_at h2_ 20 rfl)
  have z_TX_NoRule : OexC K (He.ga K "NoRule") := ⟨oexIn_ok (fact_at h2_ 21 rfl), of_decide_eq_true (fact_at h2_ 22 rfl), of_decide_eq_true (fact_at h2_ 23 rfl), of_decide_eq_true (fact_at h2_ 24 rfl), of_decide_eq_true (fact_at h2_ 25 rfl)⟩
  have z_J_NoRule : Fun K "__init__" "NoRule.__init__" i_NoRule (He.fAd K ("NoRule", some "__init__")) _ := fun_of (c.t.d.def_ 37 (d := di_NoRule) rfl).choose_spec
  have z_et_NoRule : PySem.W.typeIn K (.ref (He.ga K "NoRule")) = some (.type "type") := of_decide_eq_true (fact_at h2_ 26 rfl)
  have z_ee_NoRule : PySem.W.subIn K (.ref (He.ga K "NoRule")) (.type "BaseException") = some true := of_decide_eq_true (fact_at h2_ 27 rfl)
  have z_ei_NoRule : PySem.W.findIn K (.ref (He.ga K "NoRule")) "__init__" = some (some (.ref (He.fAd K ("NoRule", some "__init__")))) := of_decide_eq_true (fact_at h2_ 28 rfl)
  have z_ef_NoRule : PySem.W.typeIn K (.ref (He.fAd K ("NoRule", some "__init__"))) = some (.type "function") := of_decide_eq_true (fact_at h2_ 29 rfl)
  have z_en_NoRule : PySem.W.findIn K (.ref (He.ga K "NoRule")) "what" = some none := of_decide_eq_true (fact_at h2_ 30 rfl)
  have z_xg_NoRule : PySem.W.findIn K (.ref (He.ga K "NoRule")) "__getattribute__" = some (some (.builtin "BaseException.__getattribute__")) := of_decide_eq_true (fact_at h2_ 31 rfl)
  have z_xk_NoRule : PySem.W.findIn K (.ref (He.ga K "NoRule")) "__getattr__" = some none := of_decide_eq_true (fact_at h2_ 32 rfl)
  have z_xh_NoRule : PySem.W.hasDictIn K (He.ga K "NoRule") = true := of_decide_eq_true (fact_at h2_ 33 rfl)
  have z_TX_NoPaper : OexC K (He.ga K "NoPaper") := ⟨oexIn_ok (fact_at h2_ 34 rfl), of_decide_eq_true (fact_at h2_ 35 rfl), of_decide_eq_true (fact_at h2_ 36 rfl), of_decide_eq_true (fact_at h2_ 37 rfl), of_decide_eq_true (fact_at h2_ 38 rfl)⟩
  have z_J_NoPaper : Fun K "__init__" "NoPaper.__init__" i_NoPaper (He.fAd K ("NoPaper", some "__init__")) _ := fun_of (c.t.d.def_ 38 (d := di_NoPaper) rfl).choose_spec
  have z_et_NoPaper : PySem.W.typeIn K (.ref (He.ga K "NoPaper")) = some (.type "type") := of_decide_eq_true (fact_at h2_ 39 rfl)
  have z_ee_NoPaper : PySem.W.subIn K (.ref (He.ga K "NoPaper")) (.type "BaseException") = some true := of_decide_eq_true (fact_at h3_ 0 rfl)
  have z_ei_NoPaper : PySem.W.findIn K (.ref (He.ga K "NoPaper")) "__init__" = some (some (.ref (He.fAd K ("NoPaper", some "__init__")))) := of_decide_eq_true (fact_at h3_ 1 rfl)
  have z_ef_NoPaper : PySem.W.typeIn K (.ref (He.fAd K ("NoPaper", some "__init__"))) = some (.type "function") := of_decide_eq_true (fact_at h3_ 2 rfl)
  have z_en_NoPaper : PySem.W.findIn K (.ref (He.ga K "NoPaper")) "at" = some none := of_decide_eq_true (fact_at h3_ 3 rfl)
  have z_xg_NoPaper : PySem.W.findIn K (.ref (He.ga K "NoPaper")) "__getattribute__" = some (some (.builtin "BaseException.__getattribute__")) := of_decide_eq_true (fact_at h3_ 4 rfl)
  have z_xk_NoPaper : PySem.W.findIn K (.ref (He.ga K "NoPaper")) "__getattr__" = some none := of_decide_eq_true (fact_at h3_ 5 rfl)
  have z_xh_NoPaper : PySem.W.hasDictIn K (He.ga K "NoPaper") = true := of_decide_eq_true (fact_at h3_ 6 rfl)
  have z_sb_NoWord_NoWord : PySem.W.subIn K (.ref (He.ga K "NoWord")) (.ref (He.ga K "NoWord")) = some true := of_decide_eq_true (fact_at h3_ 7 rfl)
  have z_sb_NoWord_NoPaper : PySem.W.subIn K (.ref (He.ga K "NoWord")) (.ref (He.ga K "NoPaper")) = some false := of_decide_eq_true (fact_at h3_ 8 rfl)
  have z_sb_NoRule_NoWord : PySem.W.subIn K (.ref (He.ga K "NoRule")) (.ref (He.ga K "NoWord")) = some false := of_decide_eq_true (fact_at h3_ 9 rfl)
  have z_sb_NoRule_NoPaper : PySem.W.subIn K (.ref (He.ga K "NoRule")) (.ref (He.ga K "NoPaper")) = some false := of_decide_eq_true (fact_at h3_ 10 rfl)
  have z_sb_NoPaper_NoWord : PySem.W.subIn K (.ref (He.ga K "NoPaper")) (.ref (He.ga K "NoWord")) = some false := of_decide_eq_true (fact_at h3_ 11 rfl)
  have z_sb_NoPaper_NoPaper : PySem.W.subIn K (.ref (He.ga K "NoPaper")) (.ref (He.ga K "NoPaper")) = some true := of_decide_eq_true (fact_at h3_ 12 rfl)
  exact all_mk X G hfa z_ka_Back z_ka_Machine z_kg_Back z_kh_Back z_kp_Back z_ks_Back z_kf_Back_ways z_kf_Back_begin z_kf_Back_met z_kf_Back_backs z_kf_Back_able z_km_Back z_kk_Back z_kg_Machine z_kh_Machine z_kp_Machine z_ks_Machine z_kf_Machine_known z_kf_Machine_made z_kf_Machine_begun z_km_Machine z_kk_Machine z_a1 z_F1 z_a2 z_F2 z_a3 z_F3 z_a4 z_F4 z_a5 z_m5 z_F5 z_a6 z_F6 z_a7 z_F7 z_a8 z_m8 z_F8 z_a9 z_F9 z_a10 z_F10 z_a11 z_F11 z_a12 z_F12 z_a13 z_m13 z_F13 z_a14 z_m14 z_F14 z_a15 z_F15 z_a16 z_F16 z_a17 z_F17 z_a18 z_F18 z_a19 z_m19 z_F19 z_a20 z_F20 z_a21 z_F21 z_a22 z_F22 z_a23 z_F23 z_a24 z_F24 z_a25 z_F25 z_a26 z_F26 z_a27 z_F27 z_a28 z_F28 z_a29 z_F29 z_a30 z_F30 z_a31 z_F31 z_a32 z_F32 z_a33 z_F33 z_a34 z_F34 z_a35 z_F35 z_a36 z_F36 z_z_all z_z_bool z_z_dict z_z_enumerate z_z_int z_z_isinstance z_z_len z_z_list z_z_max z_z_range z_z_set z_z_sorted z_z_str z_z_tuple z_z_zip z_v_MOST_LETTERS z_v_MOST_ROOMS z_v_SIGNS z_ea_NoWord z_ea_NoRule z_ea_NoPaper z_ea_SeamError z_br_SeamError z_bg_SeamError z_bv_SeamError z_TX_NoWord z_J_NoWord z_et_NoWord z_ee_NoWord z_ei_NoWord z_ef_NoWord z_en_NoWord z_xg_NoWord z_xk_NoWord z_xh_NoWord z_TX_NoRule z_J_NoRule z_et_NoRule z_ee_NoRule z_ei_NoRule z_ef_NoRule z_en_NoRule z_xg_NoRule z_xk_NoRule z_xh_NoRule z_TX_NoPaper z_J_NoPaper z_et_NoPaper z_ee_NoPaper z_ei_NoPaper z_ef_NoPaper z_en_NoPaper z_xg_NoPaper z_xk_NoPaper z_xh_NoPaper z_sb_NoWord_NoWord z_sb_NoWord_NoPaper z_sb_NoRule_NoWord z_sb_NoRule_NoPaper z_sb_NoPaper_NoWord z_sb_NoPaper_NoPaper
end Lw
open PySem PySem.W PyProof.Rows
set_option maxHeartbeats 0 in
theorem PySem.Challenge.cw_markseam_k56_papers_that_shut_nothing_holds : PySem.Challenge.rw_markseam_k56_papers_that_shut_nothing.Holds := by
  w_on; o_law
  refine HandSHeadRun.head_any (r := OpenLaw.row PySem.Challenge.rw_markseam_k56_papers_that_shut_nothing) (q := view (OpenLaw.row PySem.Challenge.rw_markseam_k56_papers_that_shut_nothing).prog [47]) (H := Lw.hk_) (ob := Lw.ob_) (M := 6000) (loose := Lw.nms_) (d := HandSHeadRun.topDef (OpenLaw.row PySem.Challenge.rw_markseam_k56_papers_that_shut_nothing).prog 47) (kwd := []) Lw.ob_eq_ (by kernel_rfl) (fun s => by kernel_rfl) Lw.run_ (by kernel_rfl) (by kernel_rfl) (by kernel_rfl) (by rfl) (by first | assumption | decide +kernel) (by decide +kernel) ⟨rfl, rfl, rfl, rfl, rfl, by decide +kernel⟩ ?hw ?hc
  case hw => w_witness2
  case hc =>
    refine DL.walk_ofEW (l := PySem.Challenge.rw_markseam_k56_papers_that_shut_nothing) (n := 63) (k := 7) (x := "_law_script") (CX := fun w => L2.CX PySem.Challenge.rw_markseam_k56_papers_that_shut_nothing.prog w) rfl (by decide) (by kernel_rfl) ⟨rfl, by decide, by decide⟩ ?F (fun _ _ _ _ _ h => DL.hcx_law h)
    intro w mg fa h Y G hmg0
    obtain ⟨K, KX, c⟩ := Y
    have hmg : mg ("law" : PySem.Str) = some (.ref fa) := by
      have e : (HandSHeadRun.topDef (OpenLaw.row PySem.Challenge.rw_markseam_k56_papers_that_shut_nothing).prog 47).name = ("law" : PySem.Str) := by kernel_rfl
      rw [← e]
      exact hmg0
    obtain ⟨fd, hb, hF⟩ := Lw.facts_ (w := w) KX G hmg c
    exact ⟨K, fd, DL.LSp K Lw.sp_law, KX, hb, fun H a ns hl hO hS => DL.hsp_law hl hO hS, hF⟩
