import PyProof.Rows.All
import Wide.All
import OpenK.AllK
import Wide.FinOn
import Lean
import HandS.Base
import HandS.Call
import HandS.Ends
import HandS.More
import HandS.Words
import HandS.WordsExc
import HandS.Defaults
import HandS.Head0
import HandS.Head1
import HandS.Head2
import HandS.HeadEnd
import HandS.HeadHook1
import HandS.HeadHook2
import KE.DataEq
import HandS.ForMost
import HandS.TupAny
import HandS.IsInst
import HandS.TupLen
import HandS.TupLe
import HandS.Zip
import HandS.ExcOwn
import KE.DataMinMax
import HandS.FStr
import HandS.RaiseMore
import PyProof.ReprLen
import KE.DatumOrd
import HandS.MakeKwOnly
import HandS.ExcIs
import HandS.TryOnly
import PyProof.StrLawsIn
import HandS.OwnIter
import HandS.IterVal
import KE.KExcSuper
import HandS.ExcInit
import HandS.ExcField
import HandS.DictTup
import HandS.HotCalls
import HandS.DeepEq
import HandS.DictComp
import HandS.TryMany
import KE.DataFind
import HandS.Deep
import HandS.Rev
import PySem.Challenge.RW_joinedends_k16_moved_and_instantiated
set_option Elab.async false
set_option linter.all false
set_option maxRecDepth 100000
set_option maxHeartbeats 0

/-! DL1: data, worlds, what a heap holds of them. -/
namespace DL
open PySem PySem.Spec PyProof.Rows L2

inductive D where
  | non | bl (b : Bool) | int (i : Int) | str (x : Str) | ty (n : String) | ptr (a : Addr)
  | tup (ds : List D) | lst (ds : List D) | flst (ds : List D) | dk (kds : List (Key × D)) | dt (kds : List (List Key × D))
  | fobj (n : Str) (fs : List (Str × D))

/-! ### what stands for good: a dict may be locked and unlocked again -/
def dkC : HO → Option (List (Key × V))
  | .dK kvs => some kvs
  | .frz _ (.dK kvs) => some kvs
  | _ => none
def dtC : HO → Option (List (List Key × V))
  | .dT kvs => some kvs
  | .frz _ (.dT kvs) => some kvs
  | _ => none
def Alike (o o' : HO) : Prop := o' = o ∨ (∃ kvs, dkC o = some kvs ∧ dkC o' = some kvs) ∨ ∃ kvs, dtC o = some kvs ∧ dtC o' = some kvs
theorem dk_dt {o : HO} {kvs : List (Key × V)} {kvs' : List (List Key × V)} (h : dkC o = some kvs) (h' : dtC o = some kvs') : False := by
  unfold dkC at h
  split at h
  · cases h'
  · cases h'
  · cases h
theorem Alike.trans {o o' o'' : HO} (h : Alike o o') (h' : Alike o' o'') : Alike o o'' := by
  rcases h with rfl | ⟨kvs, a, b⟩ | ⟨kvs, a, b⟩
  · exact h'
  · rcases h' with rfl | ⟨kvs', a', b'⟩ | ⟨kvs', a', b'⟩
    · exact .inr (.inl ⟨kvs, a, b⟩)
    · rw [b] at a'; cases a'; exact .inr (.inl ⟨kvs, a, b'⟩)
    · exact (dk_dt b a').elim
  · rcases h' with rfl | ⟨kvs', a', b'⟩ | ⟨kvs', a', b'⟩
    · exact .inr (.inr ⟨kvs, a, b⟩)
    · exact (dk_dt a' b).elim
    · rw [b] at a'; cases a'; exact .inr (.inr ⟨kvs, a, b'⟩)
/-- dicts may have been locked or unlocked -/
def SameL (G G' : Hp) : Prop := ∀ b o, G b = some o → ∃ o', G' b = some o' ∧ Alike o o'
theorem SameL.at {G G' : Hp} (h : SameL G G') {b : Addr} {o : HO} (e : G b = some o) (hk : dkC o = none) (ht : dtC o = none) : G' b = some o := by
  obtain ⟨o', e', rfl | ⟨_, a, _⟩ | ⟨_, a, _⟩⟩ := h b o e
  · exact e'
  · rw [hk] at a; cases a
  · rw [ht] at a; cases a
/-- dicts may have been locked -/
def Locked (o o' : HO) : Prop := o' = o ∨ (∃ kvs u, o = .dK kvs ∧ o' = .frz u (.dK kvs)) ∨ ∃ kvs u, o = .dT kvs ∧ o' = .frz u (.dT kvs)
def Same (G G' : Hp) : Prop := ∀ b o, G b = some o → ∃ o', G' b = some o' ∧ Locked o o'
theorem Locked.trans {o o' o'' : HO} (h : Locked o o') (h' : Locked o' o'') : Locked o o'' := by
  rcases h with rfl | ⟨kvs, u, rfl, rfl⟩ | ⟨kvs, u, rfl, rfl⟩
  · exact h'
  · rcases h' with rfl | ⟨_, _, e, _⟩ | ⟨_, _, e, _⟩
    · exact .inr (.inl ⟨kvs, u, rfl, rfl⟩)
    · cases e
    · cases e
  · rcases h' with rfl | ⟨_, _, e, _⟩ | ⟨_, _, e, _⟩
    · exact .inr (.inr ⟨kvs, u, rfl, rfl⟩)
    · cases e
    · cases e
theorem Same.refl (G : Hp) : Same G G := fun _ o e => ⟨o, e, .inl rfl⟩
theorem Same.trans {G G' G'' : Hp} (h : Same G G') (h' : Same G' G'') : Same G G'' := fun b o e =>
  let ⟨o', e', a⟩ := h b o e
  let ⟨o'', e'', a'⟩ := h' b o' e'
  ⟨o'', e'', a.trans a'⟩
theorem Same.l {G G' : Hp} (h : Same G G') : SameL G G' := fun b o e => by
  obtain ⟨o', e', a⟩ := h b o e
  refine ⟨o', e', ?_⟩
  rcases a with rfl | ⟨kvs, u, rfl, rfl⟩ | ⟨kvs, u, rfl, rfl⟩
  · exact .inl rfl
  · exact .inr (.inl ⟨kvs, rfl, rfl⟩)
  · exact .inr (.inr ⟨kvs, rfl, rfl⟩)
theorem Same.at {G G' : Hp} (h : Same G G') {b : Addr} {o : HO} (e : G b = some o) (hk : dkC o = none) (ht : dtC o = none) : G' b = some o := h.l.at e hk ht
theorem Same.frz {G G' : Hp} (h : Same G G') {b : Addr} {u : Obj} {o : HO} (e : G b = some (.frz u o)) : G' b = some (.frz u o) := by
  obtain ⟨o', e', rfl | ⟨_, _, a, _⟩ | ⟨_, _, a, _⟩⟩ := h b _ e
  · exact e'
  · cases a
  · cases a
section
variable (K : PySem.W.Frag) (G : Hp)
def FK (a : Addr) (kvs : List (Key × V)) : Prop := ∃ o, G a = some o ∧ dkC o = some kvs
def FT (a : Addr) (kvs : List (List Key × V)) : Prop := ∃ o, G a = some o ∧ dtC o = some kvs
/-- a list stands at a for good -/
def FA (a : Addr) (vs : List V) : Prop := (∃ o, G a = some (.frz o (.lst vs))) ∨ SqL K (fun _ => none) a vs
mutual
def IsD : D → V → Prop
  | .non, v => v = .non
  | .bl b, v => v = .bl b
  | .int i, v => v = .int i
  | .str x, v => v = .str x
  | .ty n, v => v = .ty n
  | .ptr a, v => v = .ref a
  | .tup ds, v => ∃ a vs, v = .ref a ∧ G a = some (.tup vs) ∧ IsDs ds vs
  | .lst ds, v => ∃ a vs, v = .ref a ∧ G a = some (.lst vs) ∧ IsDs ds vs
  | .flst ds, v => ∃ a vs, v = .ref a ∧ FA K G a vs ∧ IsDs ds vs
  | .dk kds, v => ∃ a kvs, v = .ref a ∧ FK G a kvs ∧ IsKs kds kvs
  | .dt kds, v => ∃ a kvs, v = .ref a ∧ FT G a kvs ∧ IsTs kds kvs
  | .fobj n fs, v => ∃ a dx vs, v = .ref a ∧ G a = some (.ins (He.ga K n) dx vs) ∧ IsFs fs vs
def IsDs : List D → List V → Prop
  | [], vs => vs = []
  | d :: ds, vs => ∃ v r, vs = v :: r ∧ IsD d v ∧ IsDs ds r
def IsKs : List (Key × D) → List (Key × V) → Prop
  | [], kvs => kvs = []
  | (k, d) :: ds, kvs => ∃ v r, kvs = (k, v) :: r ∧ IsD d v ∧ IsKs ds r
def IsTs : List (List Key × D) → List (List Key × V) → Prop
  | [], kvs => kvs = []
  | (k, d) :: ds, kvs => ∃ v r, kvs = (k, v) :: r ∧ IsD d v ∧ IsTs ds r
def IsFs : List (Str × D) → List (Str × V) → Prop
  | [], kvs => kvs = []
  | (k, d) :: ds, kvs => ∃ v r, kvs = (k, v) :: r ∧ IsD d v ∧ IsFs ds r
end
end
section
variable {K : PySem.W.Frag} {G G' : Hp}
theorem FA.upL {a : Addr} {vs : List V} (s : SameL G G') (h : FA K G a vs) : FA K G' a vs := h.imp (fun ⟨o, e⟩ => ⟨o, s.at e rfl rfl⟩) id
theorem FK.upL {a : Addr} {kvs : List (Key × V)} (s : SameL G G') (h : FK G a kvs) : FK G' a kvs := by
  obtain ⟨o, e, c⟩ := h
  obtain ⟨o', e', rfl | ⟨_, x, y⟩ | ⟨_, x, y⟩⟩ := s _ _ e
  · exact ⟨o', e', c⟩
  · rw [c] at x; cases x; exact ⟨o', e', y⟩
  · exact (dk_dt c x).elim
theorem FT.upL {a : Addr} {kvs : List (List Key × V)} (s : SameL G G') (h : FT G a kvs) : FT G' a kvs := by
  obtain ⟨o, e, c⟩ := h
  obtain ⟨o', e', rfl | ⟨_, x, y⟩ | ⟨_, x, y⟩⟩ := s _ _ e
  · exact ⟨o', e', c⟩
  · exact (dk_dt x c).elim
  · rw [c] at x; cases x; exact ⟨o', e', y⟩
mutual
theorem IsD.upL (s : SameL G G') : ∀ (d : D) (v : V), IsD K G d v → IsD K G' d v
  | .non, _, h => h
  | .bl _, _, h => h
  | .int _, _, h => h
  | .str _, _, h => h
  | .ty _, _, h => h
  | .ptr _, _, h => h
  | .tup ds, _, h => by
    obtain ⟨a, vs, e, h1, h2⟩ := h
    exact ⟨a, vs, e, s.at h1 rfl rfl, IsDs.upL s ds vs h2⟩
  | .lst ds, _, h => by
    obtain ⟨a, vs, e, h1, h2⟩ := h
    exact ⟨a, vs, e, s.at h1 rfl rfl, IsDs.upL s ds vs h2⟩
  | .flst ds, _, h => by
    obtain ⟨a, vs, e, h1, h2⟩ := h
    exact ⟨a, vs, e, h1.upL s, IsDs.upL s ds vs h2⟩
  | .dk kds, _, h => by
    obtain ⟨a, vs, e, h1, h2⟩ := h
    exact ⟨a, vs, e, h1.upL s, IsKs.upL s kds vs h2⟩
  | .dt kds, _, h => by
    obtain ⟨a, vs, e, h1, h2⟩ := h
    exact ⟨a, vs, e, h1.upL s, IsTs.upL s kds vs h2⟩
  | .fobj _ fs, _, h => by
    obtain ⟨a, dx, vs, e, h1, h2⟩ := h
    exact ⟨a, dx, vs, e, s.at h1 rfl rfl, IsFs.upL s fs vs h2⟩
theorem IsDs.upL (s : SameL G G') : ∀ (ds : List D) (vs : List V), IsDs K G ds vs → IsDs K G' ds vs
  | [], _, h => h
  | d :: ds, _, h => by
    obtain ⟨v, r, e, h1, h2⟩ := h
    exact ⟨v, r, e, IsD.upL s d v h1, IsDs.upL s ds r h2⟩
theorem IsKs.upL (s : SameL G G') : ∀ (ds : List (Key × D)) (vs : List (Key × V)), IsKs K G ds vs → IsKs K G' ds vs
  | [], _, h => h
  | (k, d) :: ds, _, h => by
    obtain ⟨v, r, e, h1, h2⟩ := h
    exact ⟨v, r, e, IsD.upL s d v h1, IsKs.upL s ds r h2⟩
theorem IsTs.upL (s : SameL G G') : ∀ (ds : List (List Key × D)) (vs : List (List Key × V)), IsTs K G ds vs → IsTs K G' ds vs
  | [], _, h => h
  | (k, d) :: ds, _, h => by
    obtain ⟨v, r, e, h1, h2⟩ := h
    exact ⟨v, r, e, IsD.upL s d v h1, IsTs.upL s ds r h2⟩
theorem IsFs.upL (s : SameL G G') : ∀ (ds : List (Str × D)) (vs : List (Str × V)), IsFs K G ds vs → IsFs K G' ds vs
  | [], _, h => h
  | (k, d) :: ds, _, h => by
    obtain ⟨v, r, e, h1, h2⟩ := h
    exact ⟨v, r, e, IsD.upL s d v h1, IsFs.upL s ds r h2⟩
end
theorem FA.up {a : Addr} {vs : List V} (s : Same G G') (h : FA K G a vs) : FA K G' a vs := h.upL s.l
theorem FK.up {a : Addr} {kvs : List (Key × V)} (s : Same G G') (h : FK G a kvs) : FK G' a kvs := h.upL s.l
theorem FT.up {a : Addr} {kvs : List (List Key × V)} (s : Same G G') (h : FT G a kvs) : FT G' a kvs := h.upL s.l
theorem IsD.up (s : Same G G') (d : D) (v : V) (h : IsD K G d v) : IsD K G' d v := IsD.upL s.l d v h
theorem IsDs.up (s : Same G G') (ds : List D) (vs : List V) (h : IsDs K G ds vs) : IsDs K G' ds vs := IsDs.upL s.l ds vs h
theorem IsKs.up (s : Same G G') (ds : List (Key × D)) (vs : List (Key × V)) (h : IsKs K G ds vs) : IsKs K G' ds vs := IsKs.upL s.l ds vs h
theorem IsTs.up (s : Same G G') (ds : List (List Key × D)) (vs : List (List Key × V)) (h : IsTs K G ds vs) : IsTs K G' ds vs := IsTs.upL s.l ds vs h
theorem IsDs.length : ∀ {ds : List D} {vs : List V}, IsDs K G ds vs → ds.length = vs.length
  | [], _, h => by cases h; rfl
  | d :: ds, _, h => by
    obtain ⟨v, r, e, _, h2⟩ := h
    rw [e, List.length_cons, List.length_cons, IsDs.length h2]
theorem IsDs.get : ∀ {ds : List D} {vs : List V} {i : Nat} {d : D}, IsDs K G ds vs → ds[i]? = some d → ∃ v, vs[i]? = some v ∧ IsD K G d v
  | [], _, _, _, _, e => by simp at e
  | d :: ds, _, 0, d', h, e => by
    obtain ⟨v, r, e2, h1, _⟩ := h
    subst e2
    have e3 : d = d' := by simpa using e
    exact ⟨v, rfl, e3 ▸ h1⟩
  | d :: ds, _, i + 1, d', h, e => by
    obtain ⟨v, r, e2, _, h2⟩ := h
    subst e2
    obtain ⟨u, h3, h4⟩ := IsDs.get (i := i) (d := d') h2 (by simpa using e)
    exact ⟨u, by simpa using h3, h4⟩
theorem IsDs.append : ∀ {ds es : List D} {vs us : List V}, IsDs K G ds vs → IsDs K G es us → IsDs K G (ds ++ es) (vs ++ us)
  | [], _, _, _, h, h' => by cases h; exact h'
  | d :: ds, _, _, _, h, h' => by
    obtain ⟨v, r, e2, h1, h2⟩ := h
    subst e2
    exact ⟨v, r ++ _, rfl, h1, h2.append h'⟩
theorem IsDs.take : ∀ (n : Nat) {ds : List D} {vs : List V}, IsDs K G ds vs → IsDs K G (ds.take n) (vs.take n)
  | 0, _, _, _ => by simp [IsDs]
  | _ + 1, [], _, h => by cases h; simp [IsDs]
  | n + 1, d :: ds, _, h => by
    obtain ⟨v, r, e2, h1, h2⟩ := h
    subst e2
    exact ⟨v, r.take n, rfl, h1, h2.take n⟩
theorem IsDs.drop : ∀ (n : Nat) {ds : List D} {vs : List V}, IsDs K G ds vs → IsDs K G (ds.drop n) (vs.drop n)
  | 0, _, _, h => h
  | _ + 1, [], _, h => by cases h; simp [IsDs]
  | n + 1, d :: ds, _, h => by
    obtain ⟨v, r, e2, h1, h2⟩ := h
    subst e2
    exact h2.drop n
theorem IsDs.reverse {ds : List D} {vs : List V} (h : IsDs K G ds vs) : IsDs K G ds.reverse vs.reverse := by
  induction ds generalizing vs with
  | nil => cases h; simp [IsDs]
  | cons d ds ih =>
    obtain ⟨v, r, e2, h1, h2⟩ := h
    subst e2
    rw [List.reverse_cons, List.reverse_cons]
    exact (ih h2).append ⟨v, [], rfl, h1, rfl⟩
theorem IsDs.set {d : D} {v : V} (hd : IsD K G d v) : ∀ (i : Nat) {ds : List D} {vs : List V}, IsDs K G ds vs → IsDs K G (ds.set i d) (vs.set i v)
  | _, [], _, h => by cases h; simp [IsDs]
  | 0, _ :: _, _, h => by
    obtain ⟨u, r, e2, _, h2⟩ := h
    subst e2
    exact ⟨v, r, rfl, hd, h2⟩
  | i + 1, _ :: _, _, h => by
    obtain ⟨u, r, e2, h1, h2⟩ := h
    subst e2
    exact ⟨u, r.set i v, rfl, h1, h2.set hd i⟩
theorem IsDs.ints : ∀ {ns : List Int} {vs : List V}, IsDs K G (ns.map D.int) vs ↔ vs = ns.map V.int
  | [], vs => by simp [IsDs]
  | n :: ns, vs => by
    constructor
    · rintro ⟨v, r, e, h1, h2⟩
      have h3 : v = V.int n := h1
      rw [e, h3, IsDs.ints.mp h2]
      rfl
    · intro e
      exact ⟨.int n, ns.map V.int, e, rfl, IsDs.ints.mpr rfl⟩
theorem IsDs.strs : ∀ {ns : List Str} {vs : List V}, IsDs K G (ns.map D.str) vs ↔ vs = ns.map V.str
  | [], vs => by simp [IsDs]
  | n :: ns, vs => by
    constructor
    · rintro ⟨v, r, e, h1, h2⟩
      have h3 : v = V.str n := h1
      rw [e, h3, IsDs.strs.mp h2]
      rfl
    · intro e
      exact ⟨.str n, ns.map V.str, e, rfl, IsDs.strs.mpr rfl⟩
end

/-! ### what is owned: cells that change -/
inductive MO where
  | lst (ds : List D) | dk (kds : List (Key × D)) | dt (kds : List (List Key × D)) | obj (n : Str) (fs : List (Str × D))
abbrev Wd := Addr → Option MO
def Wd.set (W : Wd) (l : Addr) (m : MO) : Wd := fun b => if b = l then some m else W b
def Wd.del (W : Wd) (l : Addr) : Wd := fun b => if b = l then none else W b
@[simp] theorem Wd.set_same (W : Wd) (l : Addr) (m : MO) : (W.set l m) l = some m := by simp [Wd.set]
theorem Wd.set_ne {W : Wd} {l b : Addr} {m : MO} (h : b ≠ l) : (W.set l m) b = W b := by simp [Wd.set, h]
@[simp] theorem Wd.set_set (W : Wd) (l : Addr) (m m' : MO) : (W.set l m).set l m' = W.set l m' := by
  funext b; simp only [Wd.set]; split <;> rfl
theorem Wd.set_comm {W : Wd} {l b : Addr} {m m' : MO} (h : l ≠ b) : (W.set l m).set b m' = (W.set b m').set l m := by
  funext c; simp only [Wd.set]; split
  · rename_i e; subst e; rw [if_neg (Ne.symm h)]
  · rfl
theorem Wd.del_set {W : Wd} {l : Addr} {m : MO} (h : W l = none) : (W.set l m).del l = W := by
  funext b; simp only [Wd.set, Wd.del]; split
  · rename_i e; rw [e, h]
  · rfl
theorem Wd.set_self {W : Wd} {l : Addr} {m : MO} (h : W l = some m) : W.set l m = W := by
  funext b; simp only [Wd.set]; split
  · rename_i e; rw [e, h]
  · rfl
section
variable (K : PySem.W.Frag) (G : Hp)
def IsMO : MO → HO → Prop
  | .lst ds, o => ∃ vs, o = .lst vs ∧ IsDs K G ds vs
  | .dk kds, o => ∃ kvs, o = .dK kvs ∧ IsKs K G kds kvs
  | .dt kds, o => ∃ kvs, o = .dT kvs ∧ IsTs K G kds kvs
  | .obj n fs, o => ∃ dx vs, o = .ins (He.ga K n) dx vs ∧ IsFs K G fs vs
def dctO : HO → Bool
  | .dK _ => true
  | .dT _ => true
  | _ => false
/-- what stands for good is there (a dict may be walked at the moment) -/
def RdG (H : Hp) (b : Addr) (o : HO) : Prop := H b = some o ∨ ∃ u, H b = some (.frz u o) ∧ dctO o = true
structure Rel (H : Hp) (W : Wd) : Prop where
  st : ∀ b o, G b = some o → RdG H b o
  own : ∀ l m, W l = some m → G l = none ∧ ∃ o, H l = some o ∧ IsMO K G m o
/-- slots -/
abbrev Sl := List (Option D)
structure IsSl (δ : Sl) (σ : L2.St) : Prop where
  len : δ.length = σ.length
  get : ∀ (i : Nat) (d : D), δ[i]? = some (some d) → ∃ v, σ[i]? = some (some v) ∧ IsD K G d v
end
section
variable {K : PySem.W.Frag} {G G' H : Hp} {W : Wd}
theorem IsMO.upL (s : SameL G G') {m : MO} {o : HO} (h : IsMO K G m o) : IsMO K G' m o := by
  cases m with
  | lst ds => obtain ⟨vs, e, q⟩ := h; exact ⟨vs, e, IsDs.upL s _ _ q⟩
  | dk ds => obtain ⟨vs, e, q⟩ := h; exact ⟨vs, e, IsKs.upL s _ _ q⟩
  | dt ds => obtain ⟨vs, e, q⟩ := h; exact ⟨vs, e, IsTs.upL s _ _ q⟩
  | obj C fs => obtain ⟨dx, vs, e, q⟩ := h; exact ⟨dx, vs, e, IsFs.upL s _ _ q⟩
theorem IsSl.upL {δ : Sl} {σ : L2.St} (s : SameL G G') (h : IsSl K G δ σ) : IsSl K G' δ σ :=
  ⟨h.len, fun i d e => let ⟨v, e2, q⟩ := h.get i d e; ⟨v, e2, IsD.upL s d v q⟩⟩
theorem IsFs.up (s : Same G G') {ds : List (Str × D)} {vs : List (Str × V)} (h : IsFs K G ds vs) : IsFs K G' ds vs := IsFs.upL s.l _ _ h
theorem IsMO.up (s : Same G G') {m : MO} {o : HO} (h : IsMO K G m o) : IsMO K G' m o := h.upL s.l
theorem IsSl.up {δ : Sl} {σ : L2.St} (s : Same G G') (h : IsSl K G δ σ) : IsSl K G' δ σ := h.upL s.l
theorem IsSl.set {δ : Sl} {σ : L2.St} {d : D} {v : V} (h : IsSl K G δ σ) (i : Nat) (q : IsD K G d v) : IsSl K G (δ.set i (some d)) (σ.set i (some v)) := by
  refine ⟨by rw [List.length_set, List.length_set, h.len], fun j e he => ?_⟩
  by_cases hj : i = j
  · subst hj
    by_cases hl : i < δ.length
    · rw [List.getElem?_set_self hl] at he
      have e1 : d = e := by simpa using he
      exact ⟨v, by rw [List.getElem?_set_self (h.len ▸ hl)], e1 ▸ q⟩
    · rw [List.getElem?_set, if_pos rfl, if_neg hl] at he
      cases he
  · rw [List.getElem?_set_ne hj] at he
    rw [List.getElem?_set_ne hj]
    exact h.get j e he
/-- weaker slots -/
theorem IsSl.weak {δ δ' : Sl} {σ : L2.St} (h : IsSl K G δ σ) (hl : δ'.length = δ.length) (w : ∀ (i : Nat) d, δ'[i]? = some (some d) → δ[i]? = some (some d)) : IsSl K G δ' σ :=
  ⟨hl.trans h.len, fun i d e => h.get i d (w i d e)⟩
theorem rd_some {b : Addr} {o : HO} (h : RdG H b o) : H b ≠ none := by
  rcases h with h | ⟨u, h, _⟩ <;> rw [h] <;> exact fun z => nomatch z
theorem Rel.freeG (R : Rel K G H W) {p : Addr} (h : H p = none) : G p = none := by
  cases q : G p with
  | none => rfl
  | some o => exact absurd h (rd_some (R.st p o q))
theorem Rel.freeW (R : Rel K G H W) {p : Addr} (h : H p = none) : W p = none := by
  cases q : W p with
  | none => rfl
  | some m =>
    obtain ⟨_, o, e, _⟩ := R.own p m q
    rw [h] at e
    cases e
theorem rd_upd {b p : Addr} {o o' : HO} (h : RdG H b o) (hp : H p = none) : RdG (upd H p o') b o := by
  have ne : b ≠ p := fun e => rd_some h (e ▸ hp)
  rcases h with h | ⟨u, h, q⟩
  · exact .inl (by rw [upd_ne ne]; exact h)
  · exact .inr ⟨u, by rw [upd_ne ne]; exact h, q⟩
theorem RdG.rd {b : Addr} {o : HO} (h : RdG H b o) : Rd H b o := h.imp id fun ⟨u, e, _⟩ => ⟨u, e⟩
theorem RdG.eq {b : Addr} {o : HO} (h : RdG H b o) (d : dctO o = false) : H b = some o := by
  rcases h with h | ⟨u, _, q⟩
  · exact h
  · rw [d] at q
    cases q
theorem same_updG (h : G p = none) {o : HO} : Same G (upd G p o) := fun b x e => by
  rw [upd_ne (ne_of_none e h)]
  exact ⟨x, e, .inl rfl⟩
/-- a new object that stays as it is -/
theorem Rel.new (R : Rel K G H W) {p : Addr} {o : HO} (h : H p = none) : Same G (upd G p o) ∧ Rel K (upd G p o) (upd H p o) W := by
  have s := same_updG (R.freeG h) (o := o)
  refine ⟨s, ⟨fun b u e => ?_, fun l m e => ?_⟩⟩
  · by_cases hb : b = p
    · subst hb
      rw [upd_same] at e
      cases e
      exact .inl upd_same
    · rw [upd_ne hb] at e
      exact rd_upd (R.st b u e) h
  · obtain ⟨g, u, e1, q⟩ := R.own l m e
    have ne : l ≠ p := ne_of_none e1 h
    exact ⟨by rw [upd_ne ne]; exact g, u, by rw [upd_ne ne]; exact e1, q.up s⟩
/-- a new object that is owned -/
theorem Rel.newOwn (R : Rel K G H W) {p : Addr} {o : HO} {m : MO} (h : H p = none) (q : IsMO K G m o) : Rel K G (upd H p o) (W.set p m) := by
  refine ⟨fun b u e => rd_upd (R.st b u e) h, fun l m' e => ?_⟩
  by_cases hl : l = p
  · subst hl
    rw [Wd.set_same] at e
    cases e
    exact ⟨R.freeG h, o, upd_same, q⟩
  · rw [Wd.set_ne hl] at e
    obtain ⟨g, u, e1, q⟩ := R.own l m' e
    exact ⟨g, u, by rw [upd_ne hl]; exact e1, q⟩
/-- an owned object is written -/
theorem Rel.put (R : Rel K G H W) {p : Addr} {o : HO} {m m0 : MO} (h : W p = some m0) (q : IsMO K G m o) : Rel K G (upd H p o) (W.set p m) := by
  obtain ⟨gp, _⟩ := R.own p m0 h
  refine ⟨fun b u e => ?_, fun l m' e => ?_⟩
  · have ne : b ≠ p := fun z => by
      rw [z, gp] at e
      cases e
    rcases R.st b u e with h1 | ⟨w, h1, q1⟩
    · exact .inl (by rw [upd_ne ne]; exact h1)
    · exact .inr ⟨w, by rw [upd_ne ne]; exact h1, q1⟩
  · by_cases hl : l = p
    · subst hl
      rw [Wd.set_same] at e
      cases e
      exact ⟨gp, o, upd_same, q⟩
    · rw [Wd.set_ne hl] at e
      obtain ⟨g, u, e1, q⟩ := R.own l m' e
      exact ⟨g, u, by rw [upd_ne hl]; exact e1, q⟩
/-- an owned object is owned no more -/
theorem Rel.freeze (R : Rel K G H W) {p : Addr} {m : MO} (h : W p = some m) : ∃ o, H p = some o ∧ IsMO K G m o ∧ Same G (upd G p o) ∧ Rel K (upd G p o) H (W.del p) := by
  obtain ⟨gp, o, e, q⟩ := R.own p m h
  have s := same_updG gp (o := o)
  refine ⟨o, e, q, s, ⟨fun b u e1 => ?_, fun l m' e1 => ?_⟩⟩
  · by_cases hb : b = p
    · subst hb
      rw [upd_same] at e1
      cases e1
      exact .inl e
    · rw [upd_ne hb] at e1
      exact R.st b u e1
  · by_cases hl : l = p
    · subst hl
      simp [Wd.del] at e1
    · have e2 : W l = some m' := by simpa [Wd.del, hl] using e1
      obtain ⟨g, u, e3, q2⟩ := R.own l m' e2
      exact ⟨by rw [upd_ne hl]; exact g, u, e3, q2.up s⟩
theorem Rel.drop (R : Rel K G H W) (p : Addr) : Rel K G H (W.del p) :=
  ⟨R.st, fun l m e => R.own l m (by
    by_cases hl : l = p
    · subst hl; simp [Wd.del] at e
    · simpa [Wd.del, hl] using e)⟩
/-- a list, a tuple to be read -/
theorem FA.sq (R : Rel K G H W) {a : Addr} {vs : List V} (h : FA K G a vs) : SqL K H a vs := by
  rcases h with ⟨o, h⟩ | h
  · exact .inl (.inr ⟨o, (R.st _ _ h).eq rfl⟩)
  · rcases h with h | h
    · rcases h with h | ⟨_, h⟩ <;> cases h
    · exact .inr h
theorem Rel.fk (R : Rel K G H W) {a : Addr} {kvs : List (Key × V)} (h : FK G a kvs) : Rd H a (.dK kvs) := by
  obtain ⟨o, e, c⟩ := h
  have r := R.st _ _ e
  unfold dkC at c
  split at c
  · cases c; exact r.rd
  · rename_i u _
    cases c
    exact .inr ⟨u, r.eq rfl⟩
  · cases c
theorem Rel.ft (R : Rel K G H W) {a : Addr} {kvs : List (List Key × V)} (h : FT G a kvs) : Rd H a (.dT kvs) := by
  obtain ⟨o, e, c⟩ := h
  have r := R.st _ _ e
  unfold dtC at c
  split at c
  · cases c; exact r.rd
  · rename_i u _
    cases c
    exact .inr ⟨u, r.eq rfl⟩
  · cases c
theorem Rel.tup (R : Rel K G H W) {a : Addr} {vs : List V} (h : G a = some (.tup vs)) : H a = some (.tup vs) := (R.st _ _ h).eq rfl
theorem Rel.lst (R : Rel K G H W) {a : Addr} {vs : List V} (h : G a = some (.lst vs)) : H a = some (.lst vs) := (R.st _ _ h).eq rfl
end

/-! ### data that == reads -/
mutual
def D.py : D → PyData
  | .non => .none
  | .bl b => .bool b
  | .int i => .int i
  | .str x => .str x
  | .tup ds => .tuple (D.pys ds)
  | .lst ds => .list (D.pys ds)
  | .flst ds => .list (D.pys ds)
  | _ => .dict []
def D.pys : List D → List PyData
  | [] => []
  | d :: ds => d.py :: D.pys ds
end
mutual
def D.plain : D → Bool
  | .non => true
  | .bl _ => true
  | .int _ => true
  | .str _ => true
  | .tup ds => D.plains ds
  | .lst ds => D.plains ds
  | .flst ds => D.plains ds
  | _ => false
def D.plains : List D → Bool
  | [] => true
  | d :: ds => d.plain && D.plains ds
end
def D.eqv (x y : D) : Bool := PyData.eqv x.py y.py
theorem D.plains_all : ∀ (ds : List D), D.plains ds = ds.all D.plain
  | [] => rfl
  | d :: ds => by rw [D.plains, List.all_cons, D.plains_all ds]
section
variable {K : PySem.W.Frag} {G H : Hp} {W : Wd}
mutual
theorem IsD.dp (R : Rel K G H W) : ∀ (d : D) (v : V), d.plain = true → IsD K G d v → Dp K H v d.py
  | .non, _, _, h => by cases h; exact .non
  | .bl b, _, _, h => by cases h; exact .bl b
  | .int i, _, _, h => by cases h; exact .int i
  | .str x, _, _, h => by cases h; exact .str x
  | .tup ds, _, p, h => by
    obtain ⟨a, vs, e, h1, h2⟩ := h
    subst e
    exact .tup (SqT.of (R.tup h1)) (IsDs.dp R ds vs p h2)
  | .lst ds, _, p, h => by
    obtain ⟨a, vs, e, h1, h2⟩ := h
    subst e
    exact .lst (SqL.of (R.lst h1)) (IsDs.dp R ds vs p h2)
  | .flst ds, _, p, h => by
    obtain ⟨a, vs, e, h1, h2⟩ := h
    subst e
    exact .lst (h1.sq R) (IsDs.dp R ds vs p h2)
  | .ty _, _, p, _ => by cases p
  | .ptr _, _, p, _ => by cases p
  | .dk _, _, p, _ => by cases p
  | .dt _, _, p, _ => by cases p
  | .fobj _ _, _, p, _ => by cases p
theorem IsDs.dp (R : Rel K G H W) : ∀ (ds : List D) (vs : List V), D.plains ds = true → IsDs K G ds vs → DpAll K H vs (D.pys ds)
  | [], _, _, h => by cases h; exact .nil
  | d :: ds, _, p, h => by
    obtain ⟨v, r, e, h1, h2⟩ := h
    subst e
    have p1 := Bool.and_eq_true_iff.mp p
    exact .cons (IsD.dp R d v p1.1 h1) (IsDs.dp R ds r p1.2 h2)
end
end
mutual
theorem D.plain_py : ∀ (d : D), d.plain = true → d.py.plain = true
  | .non, _ => by simp [D.py, PyData.plain]
  | .bl b, _ => by simp [D.py, PyData.plain]
  | .int i, _ => by simp [D.py, PyData.plain]
  | .str x, _ => by simp [D.py, PyData.plain]
  | .tup ds, p => by
    have h := D.plains_py ds p
    simp [D.py, PyData.plain, h]
  | .lst ds, p => by
    have h := D.plains_py ds p
    simp [D.py, PyData.plain, h]
  | .flst ds, p => by
    have h := D.plains_py ds p
    simp [D.py, PyData.plain, h]
  | .ty _, p => by cases p
  | .ptr _, p => by cases p
  | .dk _, p => by cases p
  | .dt _, p => by cases p
  | .fobj _ _, p => by cases p
theorem D.plains_py : ∀ (ds : List D), D.plains ds = true → PyData.plainAll (D.pys ds) = true
  | [], _ => by simp [D.pys, PyData.plainAll]
  | d :: ds, p => by
    have p1 := Bool.and_eq_true_iff.mp p
    have h1 := D.plain_py d p1.1
    have h2 := D.plains_py ds p1.2
    simp [D.pys, PyData.plainAll, h1, h2]
end
end DL

/-! DL2: readings over data: expressions. -/
namespace DL
open PySem PySem.Spec PyProof.Rows L2

abbrev DQ := D → Wd → Prop
abbrev AE := Sl → Wd → DQ → Prop
abbrev AT := Sl → Wd → (Bool → Wd → Prop) → Prop
abbrev AA := Sl → Wd → (List D → Wd → Prop) → Prop
abbrev AO := Sl → Wd → (Option Int → Wd → Prop) → Prop
abbrev RD1 := D → Wd → DQ → Prop
abbrev RD2 := D → D → Wd → DQ → Prop
abbrev RDC := List D → Wd → DQ → Prop
section
variable (K : PySem.W.Frag) (G0 G : Hp)
def Kont (QD : DQ) (Q : VK) : Prop := ∀ v d G' H' W', Same G G' → Rel K G' H' W' → IsD K G' d v → QD d W' → Q v H'
def KontT (QD : Bool → Wd → Prop) (Q : Bool → Hp → Prop) : Prop := ∀ b G' H' W', Same G G' → Rel K G' H' W' → QD b W' → Q b H'
def KontA (QD : List D → Wd → Prop) (Q : List V → Hp → Prop) : Prop := ∀ vs ds G' H' W', Same G G' → Rel K G' H' W' → IsDs K G' ds vs → QD ds W' → Q vs H'
def KontO (QD : Option Int → Wd → Prop) (Q : Option Int → Hp → Prop) : Prop := ∀ o G' H' W', Same G G' → Rel K G' H' W' → QD o W' → Q o H'
def SimE (t : TE) (a : AE) : Prop := ∀ σ H Q G δ W QD, Same G0 G → Rel K G H W → IsSl K G δ σ → a δ W QD → Kont K G QD Q → t σ H Q
def SimT (t : TT) (a : AT) : Prop := ∀ σ H Q G δ W QD, Same G0 G → Rel K G H W → IsSl K G δ σ → a δ W QD → KontT K G QD Q → t σ H Q
def SimA (t : L2.TA) (a : AA) : Prop := ∀ σ H Q G δ W QD, Same G0 G → Rel K G H W → IsSl K G δ σ → a δ W QD → KontA K G QD Q → t σ H Q
def SimO (t : TO) (a : AO) : Prop := ∀ σ H Q G δ W QD, Same G0 G → Rel K G H W → IsSl K G δ σ → a δ W QD → KontO K G QD Q → t σ H Q
def SimR1 (r : V → Hp → VK → Prop) (a : RD1) : Prop := ∀ G H W x dx Q QD, Rel K G H W → IsD K G dx x → a dx W QD → Kont K G QD Q → r x H Q
def SimR2 (r : R2) (a : RD2) : Prop := ∀ G H W x y dx dy Q QD, Rel K G H W → IsD K G dx x → IsD K G dy y → a dx dy W QD → Kont K G QD Q → r x y H Q
def SimRC (r : List V → Hp → VK → Prop) (a : RDC) : Prop := ∀ G H W xs ds Q QD, Rel K G H W → IsDs K G ds xs → a ds W QD → Kont K G QD Q → r xs H Q
end
structure DE (X : Cx) (G0 : Hp) (e : Expr) (t : TE) (a : AE) : Prop where
  pe : PE X e t
  sim : SimE X.K G0 t a
structure DT (X : Cx) (G0 : Hp) (e : Expr) (t : TT) (a : AT) : Prop where
  pt : PT X e t
  sim : SimT X.K G0 t a
structure DW (X : Cx) (G0 : Hp) (e : Expr) (t : TT) (a : AT) : Prop where
  pw : PW X e t
  sim : SimT X.K G0 t a
structure DA (X : Cx) (G0 : Hp) (es : List Expr) (t : L2.TA) (a : AA) : Prop where
  pa : PA X es t
  sim : SimA X.K G0 t a
structure DO (X : Cx) (G0 : Hp) (e : Option Expr) (t : TO) (a : AO) : Prop where
  po : PO X e t
  sim : SimO X.K G0 t a
section
variable {K : PySem.W.Frag} {G0 G G1 : Hp}
theorem Kont.up {QD : DQ} {Q : VK} (s : Same G G1) (h : Kont K G QD Q) : Kont K G1 QD Q := fun v d G' H' W' s' => h v d G' H' W' (s.trans s')
theorem Kont.here {QD : DQ} {Q : VK} {H : Hp} {W : Wd} {v : V} {d : D} (h : Kont K G QD Q) (R : Rel K G H W) (q : IsD K G d v) (k : QD d W) : Q v H := h v d G H W (Same.refl G) R q k
/-- a new object for good -/
theorem Kont.new {QD : DQ} {Q : VK} {H : Hp} {W : Wd} {d : D} {p : Addr} {o : HO} (h : Kont K G QD Q) (R : Rel K G H W) (hp : H p = none) (q : IsD K (upd G p o) d (.ref p)) (k : QD d W) : Q (.ref p) (upd H p o) :=
  let ⟨s, R'⟩ := R.new hp
  h _ _ _ _ _ s R' q k
end

/-! ### what data are by kinds -/
def lstOf (W : Wd) : D → Option (List D)
  | .lst ds => some ds
  | .ptr l => match W l with
    | some (.lst ds) => some ds
    | _ => none
  | _ => none
@[simp] theorem lstOf_lst (W : Wd) (ds : List D) : lstOf W (.lst ds) = some ds := rfl
theorem lstOf_ptr {W : Wd} {l : Addr} {ds : List D} (h : W l = some (.lst ds)) : lstOf W (.ptr l) = some ds := by simp [lstOf, h]
/-- a list that is read: a foreign one too -/
def lstRd (W : Wd) : D → Option (List D)
  | .flst ds => some ds
  | d => lstOf W d
@[simp] theorem lstRd_lst (W : Wd) (ds : List D) : lstRd W (.lst ds) = some ds := rfl
@[simp] theorem lstRd_flst (W : Wd) (ds : List D) : lstRd W (.flst ds) = some ds := rfl
theorem lstRd_ptr {W : Wd} {l : Addr} {ds : List D} (h : W l = some (.lst ds)) : lstRd W (.ptr l) = some ds := by simp [lstRd, lstOf, h]
section
variable {K : PySem.W.Frag} {G H : Hp} {W : Wd}
theorem lstOf_at (R : Rel K G H W) {d : D} {v : V} {ds : List D} (h : IsD K G d v) (e : lstOf W d = some ds) : ∃ a vs, v = .ref a ∧ H a = some (.lst vs) ∧ IsDs K G ds vs := by
  unfold lstOf at e
  split at e
  · cases e
    obtain ⟨a, vs, e1, e2, e3⟩ := h
    exact ⟨a, vs, e1, R.lst e2, e3⟩
  · rename_i l
    split at e
    · rename_i hw
      cases e
      obtain ⟨_, o, e1, vs, e2, e3⟩ := R.own _ _ hw
      subst e2
      have e4 : v = .ref l := h
      exact ⟨l, vs, e4, e1, e3⟩
    · cases e
  · cases e
theorem lstRd_at (R : Rel K G H W) {d : D} {v : V} {ds : List D} (h : IsD K G d v) (e : lstRd W d = some ds) : ∃ a vs, v = .ref a ∧ SqL K H a vs ∧ IsDs K G ds vs := by
  unfold lstRd at e
  split at e
  · cases e
    obtain ⟨a, vs, e1, e2, e3⟩ := h
    exact ⟨a, vs, e1, e2.sq R, e3⟩
  · obtain ⟨a, vs, e1, e2, e3⟩ := lstOf_at R h e
    exact ⟨a, vs, e1, SqL.of e2, e3⟩
theorem tup_at (R : Rel K G H W) {v : V} {ds : List D} (h : IsD K G (.tup ds) v) : ∃ a vs, v = .ref a ∧ SqT K H a vs ∧ IsDs K G ds vs := by
  obtain ⟨a, vs, e1, e2, e3⟩ := h
  exact ⟨a, vs, e1, SqT.of (R.tup e2), e3⟩
end
/-- a new list: for good, or owned -/
def newL (own : Bool) (ds : List D) (W : Wd) (Q : DQ) : Prop := if own = true then ∀ p, W p = none → Q (.ptr p) (W.set p (.lst ds)) else Q (.lst ds) W
@[simp] theorem newL_f (ds : List D) (W : Wd) (Q : DQ) : newL false ds W Q = Q (.lst ds) W := by simp [newL]
@[simp] theorem newL_t (ds : List D) (W : Wd) (Q : DQ) : newL true ds W Q = ∀ p, W p = none → Q (.ptr p) (W.set p (.lst ds)) := by simp [newL]
section
variable {K : PySem.W.Frag} {G H : Hp} {W : Wd}
theorem newL.go {own : Bool} {ds : List D} {vs : List V} {QD : DQ} {Q : VK} (R : Rel K G H W) (q : IsDs K G ds vs) (h : newL own ds W QD) (k : Kont K G QD Q) (p : Addr) (hp : H p = none) : Q (.ref p) (upd H p (.lst vs)) := by
  cases own with
  | true =>
    rw [newL_t] at h
    exact k _ (.ptr p) G _ _ (Same.refl G) (R.newOwn (m := .lst ds) hp ⟨vs, rfl, q⟩) rfl (h p (R.freeW hp))
  | false =>
    rw [newL_f] at h
    exact k.new (d := .lst ds) R hp ⟨p, vs, rfl, upd_same, IsDs.up (same_updG (R.freeG hp)) _ _ q⟩ h
end

/-! ### names, constants -/
section
variable {X : Cx} {G0 : Hp}
def aVar (i : Nat) : AE := fun δ W Q => ∃ d, δ[i]? = some (some d) ∧ Q d W
/-- an owned list is read for good -/
def frzD : MO → Option D
  | .lst ds => some (.lst ds)
  | .dk ds => some (.dk ds)
  | .dt ds => some (.dt ds)
  | .obj n fs => some (.fobj n fs)
theorem frz_at {K : PySem.W.Frag} {G H : Hp} {W : Wd} (R : Rel K G H W) {l : Addr} {m : MO} {d : D} (e : W l = some m) (f : frzD m = some d) : ∃ G', Same G G' ∧ Rel K G' H (W.del l) ∧ IsD K G' d (.ref l) := by
  obtain ⟨o, _, q, s, R2⟩ := R.freeze e
  refine ⟨_, s, R2, ?_⟩
  cases m with
  | lst ds => obtain ⟨vs, rfl, q⟩ := q; cases f; exact ⟨l, vs, rfl, upd_same, IsDs.up s _ _ q⟩
  | dk ds => obtain ⟨vs, rfl, q⟩ := q; cases f; exact ⟨l, vs, rfl, ⟨_, upd_same, rfl⟩, IsKs.up s _ _ q⟩
  | dt ds => obtain ⟨vs, rfl, q⟩ := q; cases f; exact ⟨l, vs, rfl, ⟨_, upd_same, rfl⟩, IsTs.up s _ _ q⟩
  | obj n fs => obtain ⟨dx, vs, rfl, q⟩ := q; cases f; exact ⟨l, dx, vs, rfl, upd_same, IsFs.up s q⟩
def aVarF (i : Nat) : AE := fun δ W Q => ∃ l m d, δ[i]? = some (some (.ptr l)) ∧ W l = some m ∧ frzD m = some d ∧ Q d (W.del l)
def aC (d : D) : AE := fun _ W Q => Q d W
theorem de_of {e : Expr} {i : Nat} (h : PE X e (tVar i)) : DE X G0 e (tVar i) (aVar i) := ⟨h, fun σ H Q G δ W QD s0 R S h k => by
  obtain ⟨d, e, q⟩ := h
  obtain ⟨v, e2, q2⟩ := S.get i d e
  exact ⟨v, e2, k.here R q2 q⟩⟩
theorem dv (i : Nat) {x : Str} {pos : Pos} (hN : X.N[i]? = some x := by rfl) (hv : Vis X.env.scope x := by first | exact Or.inl rfl | exact Or.inr (Or.inl rfl) | exact Or.inr (Or.inr rfl)) (hd : (x == ("__debug__" : Str)) = false := by decide)
    (hcd : (x == ("__classdict__" : Str)) = false := by decide) : DE X G0 (.Name x pos) (tVar i) (aVar i) := de_of (pe_var hN hv hd hcd)
theorem dvF (i : Nat) {x : Str} {pos : Pos} (hN : X.N[i]? = some x := by rfl) (hv : Vis X.env.scope x := by first | exact Or.inl rfl | exact Or.inr (Or.inl rfl) | exact Or.inr (Or.inr rfl)) (hd : (x == ("__debug__" : Str)) = false := by decide)
    (hcd : (x == ("__classdict__" : Str)) = false := by decide) : DE X G0 (.Name x pos) (tVar i) (aVarF i) := ⟨pe_var hN hv hd hcd, fun σ H Q G δ W QD s0 R S h k => by
  obtain ⟨l, m, d, e, e2, f, q⟩ := h
  obtain ⟨v, e3, q3⟩ := S.get i _ e
  obtain ⟨G', s, R2, q5⟩ := frz_at R e2 f
  cases (show v = .ref l from q3)
  exact ⟨_, e3, k _ d _ _ _ s R2 q5 q⟩⟩
theorem sim_c {K : PySem.W.Frag} {v : V} {d : D} (hd : ∀ G, IsD K G d v) : SimE K G0 (tC v) (aC d) := fun σ H Q G δ W QD s0 R S h k => k.here R (hd G) h
theorem de_int {i j pos} : DE X G0 (.Constant (.int i) j pos) (tC (.int i)) (aC (.int i)) := ⟨pe_int, sim_c fun _ => rfl⟩
theorem de_bl {b j pos} : DE X G0 (.Constant (.bool b) j pos) (tC (.bl b)) (aC (.bl b)) := ⟨pe_bl, sim_c fun _ => rfl⟩
theorem de_non {j pos} : DE X G0 (.Constant .none j pos) (tC .non) (aC .non) := ⟨pe_non, sim_c fun _ => rfl⟩
theorem de_str {x j pos} : DE X G0 (.Constant (.str x) j pos) (tC (.str x)) (aC (.str x)) := ⟨pe_str, sim_c fun _ => rfl⟩
theorem de_gint {x : Str} {i : Int} {pos : Pos} (hg : Gl X x) (hm : ∃ t, X.mg x = some (.int i t)) (hd : (x == ("__debug__" : Str)) = false := by decide) : DE X G0 (.Name x pos) (tC (.int i)) (aC (.int i)) := by
  obtain ⟨t, hm⟩ := hm
  exact ⟨pe_glob hg hm ⟨t, rfl⟩ hd, sim_c fun _ => rfl⟩
theorem de_gstr {x z : Str} {pos : Pos} (hg : Gl X x) (hm : ∃ t, X.mg x = some (.str z t)) (hd : (x == ("__debug__" : Str)) = false := by decide) : DE X G0 (.Name x pos) (tC (.str z)) (aC (.str z)) := by
  obtain ⟨t, hm⟩ := hm
  exact ⟨pe_glob hg hm ⟨t, rfl⟩ hd, sim_c fun _ => rfl⟩
/-- a class of the text, a def, as a value -/
theorem de_gref {x : Str} {C : Addr} {pos : Pos} (hg : Gl X x) (hm : X.mg x = some (.ref C)) (hd : (x == ("__debug__" : Str)) = false := by decide) : DE X G0 (.Name x pos) (tC (.ref C)) (aC (.ptr C)) :=
  ⟨pe_glob hg hm rfl hd, sim_c fun _ => rfl⟩
/-- a built-in class as a value -/
theorem de_bty {x : Str} {n : String} {pos : Pos} (hg : Gl X x) (hm : X.mg x = none) (hv : bootBuiltins x = some (.type n)) (hn : x ≠ "__name__" := by decide) (hd : (x == ("__debug__" : Str)) = false := by decide) : DE X G0 (.Name x pos) (tC (.ty n)) (aC (.ty n)) :=
  ⟨pe_bltn hg hm hv rfl hn hd, sim_c fun _ => rfl⟩

/-! ### operators -/
def aOp (r : RD2) (a b : AE) : AE := fun δ W Q => a δ W fun x W1 => b δ W1 fun y W2 => r x y W2 Q
def aUn (r : RD1) (a : AE) : AE := fun δ W Q => a δ W fun x W1 => r x W1 Q
theorem sim_op {K : PySem.W.Frag} {r : R2} {rd : RD2} {ta tb : TE} {aa ab : AE} (hr : SimR2 K r rd) (ha : SimE K G0 ta aa) (hb : SimE K G0 tb ab) : SimE K G0 (tOp r ta tb) (aOp rd aa ab) := fun σ H Q G δ W QD s0 R S h k => by
  refine ha σ H _ G δ W _ s0 R S h fun x dx G1 H1 W1 s1 R1 d1 h1 => ?_
  refine hb σ H1 _ G1 δ W1 _ (s0.trans s1) R1 (S.up s1) h1 fun y dy G2 H2 W2 s2 R2 d2 h2 => ?_
  exact hr G2 H2 W2 x y dx dy Q QD R2 (IsD.up s2 _ _ d1) d2 h2 (k.up (s1.trans s2))
theorem sim_un {K : PySem.W.Frag} {r : V → Hp → VK → Prop} {rd : RD1} {ta : TE} {aa : AE} (hr : SimR1 K r rd) (ha : SimE K G0 ta aa) : SimE K G0 (tUn r ta) (aUn rd aa) := fun σ H Q G δ W QD s0 R S h k => by
  refine ha σ H _ G δ W _ s0 R S h fun x dx G1 H1 W1 s1 R1 d1 h1 => ?_
  exact hr G1 H1 W1 x dx Q QD R1 d1 h1 (k.up s1)
variable {a b c : Expr} {ta tb tc : TE} {aa ab ac : AE} {pos : Pos}
theorem de_op {op : Operator} {r : R2} {rd : RD2} (ho : OpR X (binaryOp op) r) (hr : SimR2 X.K r rd) (ha : DE X G0 a ta aa) (hb : DE X G0 b tb ab) : DE X G0 (.BinOp a op b pos) (tOp r ta tb) (aOp rd aa ab) := ⟨pe_op ho ha.pe hb.pe, sim_op hr ha.sim hb.sim⟩
theorem de_un {op : UnaryOp} {r : V → Hp → VK → Prop} {rd : RD1} (ho : UnR X (unaryOp op) r) (hr : SimR1 X.K r rd) (ha : DE X G0 a ta aa) : DE X G0 (.UnaryOp op a pos) (tUn r ta) (aUn rd aa) := ⟨pe_un ho ha.pe, sim_un hr ha.sim⟩
theorem de_cmp {op : CmpOp} {r : R2} {rd : RD2} (ho : OpR X (compareOp op) r) (hr : SimR2 X.K r rd) (ha : DE X G0 a ta aa) (hb : DE X G0 b tb ab) (hm : behindInMarks op b = false) : DE X G0 (.Compare a [op] [b] pos) (tOp r ta tb) (aOp rd aa ab) := ⟨pe_cmpR ho ha.pe hb.pe hm, sim_op hr ha.sim hb.sim⟩
/-- as a test -/
def aTest (a : AE) : AT := fun δ W Q => a δ W fun x W1 => ∃ k, x = .bl k ∧ Q k W1
theorem sim_test {K : PySem.W.Frag} (ha : SimE K G0 ta aa) : SimT K G0 (tTest ta) (aTest aa) := fun σ H Q G δ W QD s0 R S h k => by
  refine ha σ H _ G δ W _ s0 R S h fun x dx G1 H1 W1 s1 R1 d1 h1 => ?_
  obtain ⟨b, e, q⟩ := h1
  subst e
  exact ⟨b, d1, k b G1 H1 W1 s1 R1 q⟩
theorem dt_cmp {op : CmpOp} {r : R2} {rd : RD2} (ho : OpR X (compareOp op) r) (hr : SimR2 X.K r rd) (ha : DE X G0 a ta aa) (hb : DE X G0 b tb ab) (hm : behindInMarks op b = false) : DT X G0 (.Compare a [op] [b] pos) (tTest (tOp r ta tb)) (aTest (aOp rd aa ab)) := ⟨pt_cmpR ho ha.pe hb.pe hm, sim_test (sim_op hr ha.sim hb.sim)⟩
theorem dt_val {e : Expr} {t : TE} {a' : AE} (h : DE X G0 e t a') (he : ∀ whole, isTrue e X.env whole = (do let v ← whole; standAt e.pos; holding [v] (truthy v)) := by intro _; rfl) : DT X G0 e (tB t) (aTest a') := ⟨pt_val h.pe he, sim_test h.sim⟩
/-- a < b < c -/
def aChain (r r' : RD2) (a b c : AE) : AE := fun δ W Q => a δ W fun x W1 => b δ W1 fun y W2 => r x y W2 fun z W3 => ∃ k, z = .bl k ∧ (if k = true then c δ W3 fun u W4 => r' y u W4 Q else Q (.bl false) W3)
theorem sim_chain {K : PySem.W.Frag} {r r' : R2} {rd rd' : RD2} (hr : SimR2 K r rd) (hr' : SimR2 K r' rd') (ha : SimE K G0 ta aa) (hb : SimE K G0 tb ab) (hc : SimE K G0 tc ac) : SimE K G0 (tChain r r' ta tb tc) (aChain rd rd' aa ab ac) := fun σ H Q G δ W QD s0 R S h k => by
  refine ha σ H _ G δ W _ s0 R S h fun x dx G1 H1 W1 s1 R1 d1 h1 => ?_
  refine hb σ H1 _ G1 δ W1 _ (s0.trans s1) R1 (S.up s1) h1 fun y dy G2 H2 W2 s2 R2 d2 h2 => ?_
  refine hr G2 H2 W2 x y dx dy _ _ R2 (IsD.up s2 _ _ d1) d2 h2 fun z dz G3 H3 W3 s3 R3 d3 h3 => ?_
  obtain ⟨b, e, q⟩ := h3
  subst e
  refine ⟨b, d3, ?_⟩
  cases b with
  | false => exact (k.up (s1.trans (s2.trans s3))).here (d := .bl false) R3 rfl (by simpa using q)
  | true =>
    rw [if_pos rfl] at q ⊢
    refine hc σ H3 _ G3 δ W3 _ (s0.trans (s1.trans (s2.trans s3))) R3 (S.up (s1.trans (s2.trans s3))) q fun u du G4 H4 W4 s4 R4 d4 h4 => ?_
    exact hr' G4 H4 W4 y u dy du Q QD R4 (IsD.up (s3.trans s4) _ _ d2) d4 h4 (k.up (s1.trans (s2.trans (s3.trans s4))))
theorem de_chain {op op' : CmpOp} {r r' : R2} {rd rd' : RD2} (ho : OpR X (compareOp op) r) (ho' : OpR X (compareOp op') r') (hr : SimR2 X.K r rd) (hr' : SimR2 X.K r' rd') (ha : DE X G0 a ta aa) (hb : DE X G0 b tb ab) (hc : DE X G0 c tc ac) (hm : lastMarks [op, op'] [b, c] = false := by with_unfolding_all rfl) : DE X G0 (.Compare a [op, op'] [b, c] pos) (tChain r r' ta tb tc) (aChain rd rd' aa ab ac) :=
  ⟨pe_chain ho ho' ha.pe hb.pe hc.pe hm, sim_chain hr hr' ha.sim hb.sim hc.sim⟩
theorem dt_chain {op op' : CmpOp} {r r' : R2} {rd rd' : RD2} (ho : OpR X (compareOp op) r) (ho' : OpR X (compareOp op') r') (hr : SimR2 X.K r rd) (hr' : SimR2 X.K r' rd') (ha : DE X G0 a ta aa) (hb : DE X G0 b tb ab) (hc : DE X G0 c tc ac) (hm : lastMarks [op, op'] [b, c] = false := by with_unfolding_all rfl) : DT X G0 (.Compare a [op, op'] [b, c] pos) (tTest (tChain r r' ta tb tc)) (aTest (aChain rd rd' aa ab ac)) :=
  ⟨pt_chain ho ho' ha.pe hb.pe hc.pe hm, sim_test (sim_chain hr hr' ha.sim hb.sim hc.sim)⟩

/-! ### and, or, not, if -/
variable {tA tB' : TT} {aA aB : AT} {rest : List Expr}
def aAnd (t u : AT) : AT := fun δ W Q => t δ W fun c W1 => if c = true then u δ W1 Q else Q false W1
def aOr (t u : AT) : AT := fun δ W Q => t δ W fun c W1 => if c = true then Q true W1 else u δ W1 Q
def aNot (t : AT) : AT := fun δ W Q => t δ W fun c W1 => Q (!c) W1
def aIf (t : AT) (a b : AE) : AE := fun δ W Q => t δ W fun c W1 => if c = true then a δ W1 Q else b δ W1 Q
def aAndV (a b : AE) : AE := fun δ W Q => a δ W fun x W1 => ∃ c, x = .bl c ∧ if c = true then b δ W1 Q else Q (.bl false) W1
def aOrV (a b : AE) : AE := fun δ W Q => a δ W fun x W1 => ∃ c, x = .bl c ∧ if c = true then Q (.bl true) W1 else b δ W1 Q
def aNotV (a : AE) : AE := fun δ W Q => a δ W fun x W1 => ∃ c, x = .bl c ∧ Q (.bl (!c)) W1
theorem sim_and {K : PySem.W.Frag} (ha : SimT K G0 tA aA) (hb : SimT K G0 tB' aB) : SimT K G0 (tAnd tA tB') (aAnd aA aB) := fun σ H Q G δ W QD s0 R S h k => by
  refine ha σ H _ G δ W _ s0 R S h fun c G1 H1 W1 s1 R1 h1 => ?_
  cases c with
  | true => exact iteT (hb σ H1 _ G1 δ W1 _ (s0.trans s1) R1 (S.up s1) (by simpa using h1) fun c2 G2 H2 W2 s2 R2 h2 => k c2 G2 H2 W2 (s1.trans s2) R2 h2)
  | false => exact iteF (k false G1 H1 W1 s1 R1 (by simpa using h1))
theorem sim_or {K : PySem.W.Frag} (ha : SimT K G0 tA aA) (hb : SimT K G0 tB' aB) : SimT K G0 (tOr tA tB') (aOr aA aB) := fun σ H Q G δ W QD s0 R S h k => by
  refine ha σ H _ G δ W _ s0 R S h fun c G1 H1 W1 s1 R1 h1 => ?_
  cases c with
  | false => exact iteF (hb σ H1 _ G1 δ W1 _ (s0.trans s1) R1 (S.up s1) (by simpa using h1) fun c2 G2 H2 W2 s2 R2 h2 => k c2 G2 H2 W2 (s1.trans s2) R2 h2)
  | true => exact iteT (k true G1 H1 W1 s1 R1 (by simpa using h1))
theorem sim_not {K : PySem.W.Frag} (ha : SimT K G0 tA aA) : SimT K G0 (tNot tA) (aNot aA) := fun σ H Q G δ W QD s0 R S h k =>
  ha σ H _ G δ W _ s0 R S h fun c G1 H1 W1 s1 R1 h1 => k (!c) G1 H1 W1 s1 R1 h1
theorem sim_if {K : PySem.W.Frag} (hc : SimT K G0 tA aA) (ha : SimE K G0 ta aa) (hb : SimE K G0 tb ab) : SimE K G0 (tIf tA ta tb) (aIf aA aa ab) := fun σ H Q G δ W QD s0 R S h k => by
  refine hc σ H _ G δ W _ s0 R S h fun c G1 H1 W1 s1 R1 h1 => ?_
  cases c with
  | true => exact iteT (ha σ H1 _ G1 δ W1 _ (s0.trans s1) R1 (S.up s1) (by simpa using h1) (k.up s1))
  | false => exact iteF (hb σ H1 _ G1 δ W1 _ (s0.trans s1) R1 (S.up s1) (by simpa using h1) (k.up s1))
theorem sim_andV {K : PySem.W.Frag} (ha : SimE K G0 ta aa) (hb : SimE K G0 tb ab) : SimE K G0 (tAndV ta tb) (aAndV aa ab) := fun σ H Q G δ W QD s0 R S h k => by
  refine ha σ H _ G δ W _ s0 R S h fun x dx G1 H1 W1 s1 R1 d1 h1 => ?_
  obtain ⟨c, e, q⟩ := h1
  subst e
  refine ⟨c, d1, ?_⟩
  cases c with
  | true => exact iteT (hb σ H1 _ G1 δ W1 _ (s0.trans s1) R1 (S.up s1) (by simpa using q) (k.up s1))
  | false => exact iteF ((k.up s1).here (d := .bl false) R1 rfl (by simpa using q))
theorem sim_orV {K : PySem.W.Frag} (ha : SimE K G0 ta aa) (hb : SimE K G0 tb ab) : SimE K G0 (tOrV ta tb) (aOrV aa ab) := fun σ H Q G δ W QD s0 R S h k => by
  refine ha σ H _ G δ W _ s0 R S h fun x dx G1 H1 W1 s1 R1 d1 h1 => ?_
  obtain ⟨c, e, q⟩ := h1
  subst e
  refine ⟨c, d1, ?_⟩
  cases c with
  | false => exact iteF (hb σ H1 _ G1 δ W1 _ (s0.trans s1) R1 (S.up s1) (by simpa using q) (k.up s1))
  | true => exact iteT ((k.up s1).here (d := .bl true) R1 rfl (by simpa using q))
theorem sim_notV {K : PySem.W.Frag} (ha : SimE K G0 ta aa) : SimE K G0 (tNotV ta) (aNotV aa) := fun σ H Q G δ W QD s0 R S h k => by
  refine ha σ H _ G δ W _ s0 R S h fun x dx G1 H1 W1 s1 R1 d1 h1 => ?_
  obtain ⟨c, e, q⟩ := h1
  subst e
  exact ⟨c, d1, (k.up s1).here (d := .bl (!c)) R1 rfl q⟩
theorem DW.dt {e : Expr} (h : DW X G0 e tA aA) : DT X G0 e tA aA := ⟨h.pw.pt, h.sim⟩
theorem dw_and1 (ha : DT X G0 a tA aA) : DW X G0 (.BoolOp .And [a] pos) tA aA := ⟨pw_and1 ha.pt, ha.sim⟩
theorem dw_or1 (ha : DT X G0 a tA aA) : DW X G0 (.BoolOp .Or [a] pos) tA aA := ⟨pw_or1 ha.pt, ha.sim⟩
theorem dw_and (ha : DT X G0 a tA aA) (hb : DW X G0 (.BoolOp .And (b :: rest) pos) tB' aB) : DW X G0 (.BoolOp .And (a :: b :: rest) pos) (tAnd tA tB') (aAnd aA aB) := ⟨pw_and ha.pt hb.pw, sim_and ha.sim hb.sim⟩
theorem dw_or (ha : DT X G0 a tA aA) (hb : DW X G0 (.BoolOp .Or (b :: rest) pos) tB' aB) : DW X G0 (.BoolOp .Or (a :: b :: rest) pos) (tOr tA tB') (aOr aA aB) := ⟨pw_or ha.pt hb.pw, sim_or ha.sim hb.sim⟩
theorem dt_not (ha : DT X G0 a tA aA) : DT X G0 (.UnaryOp .Not a pos) (tNot tA) (aNot aA) := ⟨pt_not ha.pt, sim_not ha.sim⟩
theorem de_one {op} {t : TE} {a' : AE} (h : DE X G0 a t a') : DE X G0 (.BoolOp op [a] pos) t a' := ⟨pe_one h.pe, h.sim⟩
theorem de_and (ha : DE X G0 a ta aa) (hb : DE X G0 (.BoolOp .And (b :: rest) pos) tb ab) : DE X G0 (.BoolOp .And (a :: b :: rest) pos) (tAndV ta tb) (aAndV aa ab) := ⟨pe_and ha.pe hb.pe, sim_andV ha.sim hb.sim⟩
theorem de_or (ha : DE X G0 a ta aa) (hb : DE X G0 (.BoolOp .Or (b :: rest) pos) tb ab) : DE X G0 (.BoolOp .Or (a :: b :: rest) pos) (tOrV ta tb) (aOrV aa ab) := ⟨pe_or ha.pe hb.pe, sim_orV ha.sim hb.sim⟩
theorem de_not (ha : DE X G0 a ta aa) : DE X G0 (.UnaryOp .Not a pos) (tNotV ta) (aNotV aa) := ⟨pe_not ha.pe, sim_notV ha.sim⟩
theorem de_ifExp {c : Expr} (hc : DT X G0 c tA aA) (ha : DE X G0 a ta aa) (hb : DE X G0 b tb ab) : DE X G0 (.IfExp c a b pos) (tIf tA ta tb) (aIf aA aa ab) := ⟨pe_ifExp hc.pt ha.pe hb.pe, sim_if hc.sim ha.sim hb.sim⟩

/-! ### argument lists, displays -/
variable {e : Expr} {es : List Expr} {te : TE} {ae : AE} {t : L2.TA} {at' : AA}
def aNil : AA := fun _ W Q => Q [] W
def aCons (a : AE) (r : AA) : AA := fun δ W Q => a δ W fun x W1 => r δ W1 fun xs W2 => Q (x :: xs) W2
theorem sim_nil {K : PySem.W.Frag} : SimA K G0 tNil aNil := fun σ H Q G δ W QD s0 R S h k => k [] [] G H W (Same.refl G) R rfl h
theorem sim_cons {K : PySem.W.Frag} (ha : SimE K G0 te ae) (hr : SimA K G0 t at') : SimA K G0 (tCons te t) (aCons ae at') := fun σ H Q G δ W QD s0 R S h k => by
  refine ha σ H _ G δ W _ s0 R S h fun x dx G1 H1 W1 s1 R1 d1 h1 => ?_
  refine hr σ H1 _ G1 δ W1 _ (s0.trans s1) R1 (S.up s1) h1 fun xs ds G2 H2 W2 s2 R2 d2 h2 => ?_
  exact k _ (dx :: ds) G2 H2 W2 (s1.trans s2) R2 ⟨x, xs, rfl, IsD.up s2 _ _ d1, d2⟩ h2
theorem da_nil : DA X G0 [] tNil aNil := ⟨pa_nil, sim_nil⟩
theorem da_cons (ha : DE X G0 e te ae) (hr : DA X G0 es t at') (hs : starEach (e :: es) X.env = (false, eval e X.env) :: starEach es X.env := by rfl) : DA X G0 (e :: es) (tCons te t) (aCons ae at') := ⟨pa_cons ha.pe hr.pa hs, sim_cons ha.sim hr.sim⟩
def aTup (t : AA) : AE := fun δ W Q => t δ W fun ds W1 => ds.length ≤ sizeLine ∧ Q (.tup ds) W1
def aLst (own : Bool) (t : AA) : AE := fun δ W Q => t δ W fun ds W1 => ds.length ≤ sizeLine ∧ newL own ds W1 Q
theorem sim_tup {K : PySem.W.Frag} (h : SimA K G0 t at') : SimE K G0 (tTup t) (aTup at') := fun σ H Q G δ W QD s0 R S q k => by
  refine h σ H _ G δ W _ s0 R S q fun vs ds G1 H1 W1 s1 R1 d1 h1 => ?_
  refine ⟨by rw [← d1.length]; exact h1.1, fun p hp => ?_⟩
  exact (k.up s1).new (d := .tup ds) R1 hp ⟨p, vs, rfl, upd_same, IsDs.up (same_updG (R1.freeG hp)) _ _ d1⟩ h1.2
theorem sim_lst {K : PySem.W.Frag} {own : Bool} (h : SimA K G0 t at') : SimE K G0 (tLst t) (aLst own at') := fun σ H Q G δ W QD s0 R S q k => by
  refine h σ H _ G δ W _ s0 R S q fun vs ds G1 H1 W1 s1 R1 d1 h1 => ?_
  exact ⟨by rw [← d1.length]; exact h1.1, fun p hp => newL.go R1 d1 h1.2 (k.up s1) p hp⟩
theorem de_tup {x1} (h : DA X G0 es t at') : DE X G0 (.Tuple es x1 pos) (tTup t) (aTup at') := ⟨pe_tup h.pa, sim_tup h.sim⟩
theorem de_lst (own : Bool) (h : DA X G0 es t at') : DE X G0 (.List es pos) (tLst t) (aLst own at') := ⟨pe_lst h.pa, sim_lst h.sim⟩

/-! ### subscripts, slices -/
theorem de_ix {r : R2} {rd : RD2} (ho : IxR X r) (hr : SimR2 X.K r rd) (ha : DE X G0 a ta aa) (hb : DE X G0 b tb ab) (hs : PlainIx b := by exact fun _ _ => rfl) : DE X G0 (.Subscript a b pos) (tOp r ta tb) (aOp rd aa ab) := ⟨pe_ix ho ha.pe hb.pe hs, sim_op hr ha.sim hb.sim⟩
def aNoPart : AO := fun _ W Q => Q none W
def aPart (a : AE) : AO := fun δ W Q => a δ W fun x W1 => ∃ i, x = .int i ∧ Q (some i) W1
def aSl (r : D → Option Int → Option Int → Wd → DQ → Prop) (a : AE) (l u : AO) : AE := fun δ W Q => a δ W fun x W1 => l δ W1 fun lo W2 => u δ W2 fun hi W3 => r x lo hi W3 Q
theorem do_none : DO X G0 none tNoPart aNoPart := ⟨po_none, fun σ H Q G δ W QD s0 R S h k => k none G H W (Same.refl G) R h⟩
theorem do_some (h : DE X G0 e te ae) : DO X G0 (some e) (tPart te) (aPart ae) := ⟨po_some h.pe, fun σ H Q G δ W QD s0 R S q k => by
  refine h.sim σ H _ G δ W _ s0 R S q fun x dx G1 H1 W1 s1 R1 d1 h1 => ?_
  obtain ⟨i, e, q⟩ := h1
  subst e
  exact ⟨i, d1, k (some i) G1 H1 W1 s1 R1 q⟩⟩
def SimSl (K : PySem.W.Frag) (r : V → Option Int → Option Int → Hp → VK → Prop) (a : D → Option Int → Option Int → Wd → DQ → Prop) : Prop := ∀ G H W x dx lo hi Q QD, Rel K G H W → IsD K G dx x → a dx lo hi W QD → Kont K G QD Q → r x lo hi H Q
theorem de_slice {lo hi : Option Expr} {tl th : TO} {al ah : AO} {p2 : Pos} {r : V → Option Int → Option Int → Hp → VK → Prop} {rd : D → Option Int → Option Int → Wd → DQ → Prop} (ho : SlR X r) (hr : SimSl X.K r rd) (he : DE X G0 e te ae) (hl : DO X G0 lo tl al) (hu : DO X G0 hi th ah) :
    DE X G0 (.Subscript e (.Slice lo hi none p2) pos) (tSl r te tl th) (aSl rd ae al ah) := ⟨pe_slice ho he.pe hl.po hu.po, fun σ H Q G δ W QD s0 R S h k => by
  refine he.sim σ H _ G δ W _ s0 R S h fun x dx G1 H1 W1 s1 R1 d1 h1 => ?_
  refine hl.sim σ H1 _ G1 δ W1 _ (s0.trans s1) R1 (S.up s1) h1 fun l G2 H2 W2 s2 R2 h2 => ?_
  refine hu.sim σ H2 _ G2 δ W2 _ (s0.trans (s1.trans s2)) R2 (S.up (s1.trans s2)) h2 fun u G3 H3 W3 s3 R3 h3 => ?_
  exact hr G3 H3 W3 x dx l u Q QD R3 (IsD.up (s2.trans s3) _ _ d1) h3 (k.up (s1.trans (s2.trans s3)))⟩
end
end DL

/-! DL3: operators, subscripts, built-in functions over data. -/
namespace DL
open PySem PySem.Spec PyProof.Rows L2

/-! ### ints, texts -/
def dI0 (g : Int → Int → D) : RD2 := fun x y W Q => ∃ i j, x = .int i ∧ y = .int j ∧ Q (g i j) W
def dIC (C : Int → Int → Prop) (g : Int → Int → D) : RD2 := fun x y W Q => ∃ i j, x = .int i ∧ y = .int j ∧ C i j ∧ Q (g i j) W
def dU (g : Int → D) : RD1 := fun x W Q => ∃ i, x = .int i ∧ Q (g i) W
section
variable {K : PySem.W.Frag}
theorem sr_i0 {f : Int → Int → Int} : SimR2 K (rI0 fun i j => .int (f i j)) (dI0 fun i j => .int (f i j)) := fun G H W x y dx dy Q QD R hx hy h k => by
  obtain ⟨i, j, rfl, rfl, q⟩ := h
  exact ⟨i, j, hx, hy, k.here (d := .int _) R rfl q⟩
theorem sr_b0 {f : Int → Int → Bool} : SimR2 K (rI0 fun i j => .bl (f i j)) (dI0 fun i j => .bl (f i j)) := fun G H W x y dx dy Q QD R hx hy h k => by
  obtain ⟨i, j, rfl, rfl, q⟩ := h
  exact ⟨i, j, hx, hy, k.here (d := .bl _) R rfl q⟩
theorem sr_iC {C : Int → Int → Prop} {f : Int → Int → Int} : SimR2 K (rI C fun i j => .int (f i j)) (dIC C fun i j => .int (f i j)) := fun G H W x y dx dy Q QD R hx hy h k => by
  obtain ⟨i, j, rfl, rfl, c, q⟩ := h
  exact ⟨i, j, hx, hy, c, k.here (d := .int _) R rfl q⟩
theorem sr_u {f : Int → Int} : SimR1 K (rU fun i => .int (f i)) (dU fun i => .int (f i)) := fun G H W x dx Q QD R hx h k => by
  obtain ⟨i, rfl, q⟩ := h
  exact ⟨i, hx, k.here (d := .int _) R rfl q⟩
end
/-- the items of xs[lo:hi] -/
def cutD (xs : List D) (lo hi : Option Int) : List D := (xs.drop (HT.sIx xs.length 0 lo)).take (HT.sIx xs.length xs.length hi - HT.sIx xs.length 0 lo)
theorem IsDs.cut {K : PySem.W.Frag} {G : Hp} {ds : List D} {vs : List V} (h : IsDs K G ds vs) (lo hi : Option Int) : IsDs K G (cutD ds lo hi) (cutV vs lo hi) := by
  unfold cutD cutV
  rw [h.length]
  exact (h.drop _).take _

/-! ### + -/
def dAdd (own : Bool) : RD2 := fun x y W Q => match x with
  | .int i => ∃ j, y = .int j ∧ Q (.int (i + j)) W
  | .str i => ∃ j, y = .str j ∧ i.length + j.length ≤ sizeLine ∧ Q (.str (i ++ j)) W
  | .tup ds => ∃ es, y = .tup es ∧ ds.length + es.length ≤ sizeLine ∧ Q (.tup (ds ++ es)) W
  | x => ∃ ds es, lstOf W x = some ds ∧ lstOf W y = some es ∧ ds.length + es.length ≤ sizeLine ∧ newL own (ds ++ es) W Q
def rAddA (K : PySem.W.Frag) : R2 := fun x y H Q => (rI0 fun i j => .int (i + j)) x y H Q ∨ (∃ i j, x = .str i ∧ y = .str j ∧ i.length + j.length ≤ sizeLine ∧ Q (.str (i ++ j)) H) ∨ rCatA K x y H Q ∨ rCat x y H Q
section
variable {X : Cx}
theorem op_addA : OpR X (binaryOp .Add) (rAddA X.K) := op_add.or (op_add_str.or (op_catA.or op_cat))
end
section
variable {K : PySem.W.Frag}
theorem cat_lists {G H : Hp} {W : Wd} {x y : V} {dx dy : D} {ds es : List D} {own : Bool} {Q : VK} {QD : DQ} (R : Rel K G H W) (hx : IsD K G dx x) (hy : IsD K G dy y) (e1 : lstOf W dx = some ds) (e2 : lstOf W dy = some es) (z : ds.length + es.length ≤ sizeLine) (q : newL own (ds ++ es) W QD) (k : Kont K G QD Q) : rCat x y H Q := by
  obtain ⟨a, vs, rfl, ha, qa⟩ := lstOf_at R hx e1
  obtain ⟨b, us, rfl, hb, qb⟩ := lstOf_at R hy e2
  exact ⟨a, b, vs, us, rfl, rfl, ha, hb, by rw [← qa.length, ← qb.length]; exact z, fun p hp => newL.go R (qa.append qb) q k p hp⟩
theorem sr_add {own : Bool} : SimR2 K (rAddA K) (dAdd own) := fun G H W x y dx dy Q QD R hx hy h k => by
  unfold dAdd at h
  split at h
  · obtain ⟨j, rfl, q⟩ := h
    exact .inl ⟨_, j, hx, hy, k.here (d := .int _) R rfl q⟩
  · obtain ⟨j, rfl, z, q⟩ := h
    exact .inr (.inl ⟨_, j, hx, hy, z, k.here (d := .str _) R rfl q⟩)
  · rename_i ds
    obtain ⟨es, rfl, z, q⟩ := h
    obtain ⟨a, vs, rfl, ha, qa⟩ := hx
    obtain ⟨b, us, rfl, hb, qb⟩ := hy
    refine .inr (.inr (.inl ⟨a, b, vs, us, rfl, rfl, SqT.of (R.tup ha), SqT.of (R.tup hb), by rw [← qa.length, ← qb.length]; exact z, fun e => ?_, fun _ e => ?_, fun _ _ p hp => ?_⟩))
    · subst e
      have e0 : ds = [] := List.eq_nil_of_length_eq_zero (by rw [qa.length]; rfl)
      subst e0
      exact k.here (d := .tup es) R ⟨b, us, rfl, hb, qb⟩ q
    · subst e
      have e0 : es = [] := List.eq_nil_of_length_eq_zero (by rw [qb.length]; rfl)
      subst e0
      rw [List.append_nil] at q
      exact k.here (d := .tup ds) R ⟨a, vs, rfl, ha, qa⟩ q
    · exact k.new (d := .tup (ds ++ es)) R hp ⟨p, _, rfl, upd_same, IsDs.up (same_updG (R.freeG hp)) _ _ (qa.append qb)⟩ q
  · obtain ⟨ds, es, e1, e2, z, q⟩ := h
    exact .inr (.inr (.inr (cat_lists R hx hy e1 e2 z q k)))
end
/-! ### * of ints, of a text, a list -/
def dMul : RD2 := dIC CMul fun i j => .int (i * j)

/-! ### == -/
def D.near (x y : D) : Prop := x.plain = true ∧ y.plain = true ∧ min x.py.depth y.py.depth ≤ 150
def dEq : RD2 := fun x y W Q => x.near y ∧ Q (.bl (x.eqv y)) W
def dNe : RD2 := fun x y W Q => x.near y ∧ Q (.bl (!x.eqv y)) W
def rEqP (K : PySem.W.Frag) (neg : Bool) : R2 := fun x y H Q => ∃ d e, Dp K H x d ∧ Dp K H y e ∧ d.plain = true ∧ e.plain = true ∧ min d.depth e.depth ≤ 150 ∧ Q (.bl (if neg = true then !PyData.eqv d e else PyData.eqv d e)) H
theorem hu151 {A : Around} {k : Nat} (hr : Room k A) : A.units + 151 < cLine := by have := hr.un; omega
section
variable {X : Cx}
theorem op_eqP (hu : X.A.units + 151 < cLine) : OpR X (compareOp .Eq) (rEqP X.K false) := by
  intro pins s σ H x y v u Q I rx ry h
  obtain ⟨d, e, hd, he, pd, pe, z, q⟩ := h
  obtain ⟨as, r1⟩ := Dp.reads I d x v hd rx
  obtain ⟨bs, r2⟩ := Dp.reads I e y u he ry
  exact PySem.SeqAt.eq_plain r1 r2 pd pe (by omega) ⟨.bl _, H, I, rfl, q⟩
theorem op_neP (hu : X.A.units + 151 < cLine) : OpR X (compareOp .NotEq) (rEqP X.K true) := by
  intro pins s σ H x y v u Q I rx ry h
  obtain ⟨d, e, hd, he, pd, pe, z, q⟩ := h
  obtain ⟨as, r1⟩ := Dp.reads I d x v hd rx
  obtain ⟨bs, r2⟩ := Dp.reads I e y u he ry
  exact PySem.SeqAt.ne_plain r1 r2 pd pe (by omega) ⟨.bl _, H, I, rfl, q⟩
end
section
variable {K : PySem.W.Frag}
theorem sr_eq : SimR2 K (rEqP K false) dEq := fun G H W x y dx dy Q QD R hx hy h k => by
  obtain ⟨⟨p1, p2, z⟩, q⟩ := h
  exact ⟨dx.py, dy.py, IsD.dp R _ _ p1 hx, IsD.dp R _ _ p2 hy, D.plain_py _ p1, D.plain_py _ p2, z, k.here (d := .bl (dx.eqv dy)) R rfl q⟩
theorem sr_ne : SimR2 K (rEqP K true) dNe := fun G H W x y dx dy Q QD R hx hy h k => by
  obtain ⟨⟨p1, p2, z⟩, q⟩ := h
  exact ⟨dx.py, dy.py, IsD.dp R _ _ p1 hx, IsD.dp R _ _ p2 hy, D.plain_py _ p1, D.plain_py _ p2, z, k.here (d := .bl (!dx.eqv dy)) R rfl q⟩
end
/-! ### is -/
def isNon : D → Bool
  | .non => true
  | _ => false
theorem isD_non {K : PySem.W.Frag} {G : Hp} {d : D} {v : V} (h : IsD K G d v) : decide (v = .non) = isNon d := by
  cases d with
  | non => cases (show v = .non from h); rfl
  | bl b => cases (show v = .bl b from h); rfl
  | int b => cases (show v = .int b from h); rfl
  | str b => cases (show v = .str b from h); rfl
  | ty b => cases (show v = .ty b from h); rfl
  | ptr b => cases (show v = .ref b from h); rfl
  | tup b => obtain ⟨a, _, rfl, _⟩ := h; rfl
  | lst b => obtain ⟨a, _, rfl, _⟩ := h; rfl
  | flst b => obtain ⟨a, _, rfl, _⟩ := h; rfl
  | dk b => obtain ⟨a, _, rfl, _⟩ := h; rfl
  | dt b => obtain ⟨a, _, rfl, _⟩ := h; rfl
  | fobj n b => obtain ⟨a, _, _, rfl, _⟩ := h; rfl
def dIs (neg : Bool) : RD2 := fun x y W Q => (y = .non ∧ Q (.bl (if neg = true then !isNon x else isNon x)) W) ∨ (∃ a b, x = .bl a ∧ y = .bl b ∧ Q (.bl (if neg = true then !decide (a = b) else decide (a = b))) W)
def rIsA (neg : Bool) : R2 := fun x y H Q => (y = .non ∧ Q (.bl (if neg = true then !decide (x = .non) else decide (x = .non))) H) ∨ (∃ a b, x = .bl a ∧ y = .bl b ∧ Q (.bl (if neg = true then !decide (a = b) else decide (a = b))) H)
section
variable {X : Cx}
theorem op_isA : OpR X (compareOp .Is) (rIsA false) := op_isN.or op_is_bl
theorem op_isnotA : OpR X (compareOp .IsNot) (rIsA true) := op_notN.or op_isnot_bl
end
section
variable {K : PySem.W.Frag}
theorem sr_is {neg : Bool} : SimR2 K (rIsA neg) (dIs neg) := fun G H W x y dx dy Q QD R hx hy h k => by
  rcases h with ⟨rfl, q⟩ | ⟨a, b, rfl, rfl, q⟩
  · refine .inl ⟨hy, ?_⟩
    rw [isD_non hx]
    exact k.here (d := .bl _) R rfl q
  · exact .inr ⟨a, b, hx, hy, k.here (d := .bl _) R rfl q⟩
end

/-! ### dicts that are read -/
def look {κ α : Type} [DecidableEq κ] (kds : List (κ × α)) (k : κ) : Option α := (kds.find? fun kv => decide (kv.1 = k)).map (·.2)
def dkOf (W : Wd) : D → Option (List (Key × D))
  | .dk kds => some kds
  | .ptr l => match W l with
    | some (.dk kds) => some kds
    | _ => none
  | _ => none
def dtOf (W : Wd) : D → Option (List (List Key × D))
  | .dt kds => some kds
  | .ptr l => match W l with
    | some (.dt kds) => some kds
    | _ => none
  | _ => none
@[simp] theorem dkOf_dk (W : Wd) (k : List (Key × D)) : dkOf W (.dk k) = some k := rfl
@[simp] theorem dtOf_dt (W : Wd) (k : List (List Key × D)) : dtOf W (.dt k) = some k := rfl
theorem dkOf_ptr {W : Wd} {l : Addr} {ds : List (Key × D)} (h : W l = some (.dk ds)) : dkOf W (.ptr l) = some ds := by simp [dkOf, h]
theorem dtOf_ptr {W : Wd} {l : Addr} {ds : List (List Key × D)} (h : W l = some (.dt ds)) : dtOf W (.ptr l) = some ds := by simp [dtOf, h]
def keyOf : D → Option Key
  | .int i => some (.inl i)
  | .str x => some (.inr x)
  | _ => none
def keysOf : List D → Option (List Key)
  | [] => some []
  | d :: ds => match keyOf d, keysOf ds with
    | some k, some ks => some (k :: ks)
    | _, _ => none
/-- d[y], by what d is -/
def dGet (W : Wd) (d y : D) (r : Option D) : Prop := (∃ kds k, dkOf W d = some kds ∧ keyOf y = some k ∧ r = look kds k) ∨ (∃ kds ks k, dtOf W d = some kds ∧ y = .tup ks ∧ keysOf ks = some k ∧ r = look kds k)
section
variable {K : PySem.W.Frag} {G H : Hp} {W : Wd}
theorem IsKs.look : ∀ {kds : List (Key × D)} {kvs : List (Key × V)} (k : Key), IsKs K G kds kvs → (∃ d v, DL.look kds k = some d ∧ valV kvs k = some v ∧ IsD K G d v) ∨ (DL.look kds k = none ∧ valV kvs k = none)
  | [], _, k, h => by
    cases h
    exact .inr ⟨rfl, rfl⟩
  | (k', d) :: r, _, k, h => by
    obtain ⟨v, r', rfl, h1, h2⟩ := h
    by_cases e : k' = k
    · exact .inl ⟨d, v, by simp [DL.look, e], valV_pos e, h1⟩
    · rcases IsKs.look k h2 with ⟨d', v', e1, e2, q⟩ | ⟨e1, e2⟩
      · exact .inl ⟨d', v', by rw [← e1]; simp [DL.look, e], by rw [valV_neg e]; exact e2, q⟩
      · exact .inr ⟨by rw [← e1]; simp [DL.look, e], by rw [valV_neg e]; exact e2⟩
theorem IsTs.look : ∀ {kds : List (List Key × D)} {kvs : List (List Key × V)} (k : List Key), IsTs K G kds kvs → (∃ d v, DL.look kds k = some d ∧ valV kvs k = some v ∧ IsD K G d v) ∨ (DL.look kds k = none ∧ valV kvs k = none)
  | [], _, k, h => by
    cases h
    exact .inr ⟨rfl, rfl⟩
  | (k', d) :: r, _, k, h => by
    obtain ⟨v, r', rfl, h1, h2⟩ := h
    by_cases e : k' = k
    · exact .inl ⟨d, v, by simp [DL.look, e], valV_pos e, h1⟩
    · rcases IsTs.look k h2 with ⟨d', v', e1, e2, q⟩ | ⟨e1, e2⟩
      · exact .inl ⟨d', v', by rw [← e1]; simp [DL.look, e], by rw [valV_neg e]; exact e2, q⟩
      · exact .inr ⟨by rw [← e1]; simp [DL.look, e], by rw [valV_neg e]; exact e2⟩
theorem dkOf_at (R : Rel K G H W) {d : D} {v : V} {kds : List (Key × D)} (h : IsD K G d v) (e : dkOf W d = some kds) : ∃ a kvs, v = .ref a ∧ Rd H a (.dK kvs) ∧ IsKs K G kds kvs := by
  unfold dkOf at e
  split at e
  · cases e
    obtain ⟨a, vs, e1, e2, e3⟩ := h
    exact ⟨a, vs, e1, R.fk e2, e3⟩
  · rename_i l
    split at e
    · rename_i hw
      cases e
      obtain ⟨_, o, e1, vs, e2, e3⟩ := R.own _ _ hw
      subst e2
      exact ⟨l, vs, h, .inl e1, e3⟩
    · cases e
  · cases e
theorem dtOf_at (R : Rel K G H W) {d : D} {v : V} {kds : List (List Key × D)} (h : IsD K G d v) (e : dtOf W d = some kds) : ∃ a kvs, v = .ref a ∧ Rd H a (.dT kvs) ∧ IsTs K G kds kvs := by
  unfold dtOf at e
  split at e
  · cases e
    obtain ⟨a, vs, e1, e2, e3⟩ := h
    exact ⟨a, vs, e1, R.ft e2, e3⟩
  · rename_i l
    split at e
    · rename_i hw
      cases e
      obtain ⟨_, o, e1, vs, e2, e3⟩ := R.own _ _ hw
      subst e2
      exact ⟨l, vs, h, .inl e1, e3⟩
    · cases e
  · cases e
theorem keyOf_at {d : D} {v : V} {k : Key} (h : IsD K G d v) (e : keyOf d = some k) : v = kV k := by
  unfold keyOf at e
  split at e
  · cases e; exact h
  · cases e; exact h
  · cases e
theorem keysOf_at : ∀ {ds : List D} {vs : List V} {ks : List Key}, IsDs K G ds vs → keysOf ds = some ks → vs = ks.map kV
  | [], _, _, h, e => by
    cases h
    cases e
    rfl
  | d :: ds, _, ks, h, e => by
    obtain ⟨v, r, rfl, h1, h2⟩ := h
    unfold keysOf at e
    split at e
    · rename_i e1 e2
      cases e
      rw [List.map_cons, ← keyOf_at h1 e1, ← keysOf_at h2 e2]
    · cases e
theorem dGet_at (R : Rel K G H W) {d y : D} {v u : V} {r : Option D} (hd : IsD K G d v) (hy : IsD K G y u) (e : dGet W d y r) :
    ∃ a r', v = .ref a ∧ DGet H a u r' ∧ ((∃ d v, r = some d ∧ r' = some v ∧ IsD K G d v) ∨ (r = none ∧ r' = none)) := by
  rcases e with ⟨kds, k, e1, e2, rfl⟩ | ⟨kds, ks, k, e1, rfl, e2, rfl⟩
  · obtain ⟨a, kvs, rfl, ha, qa⟩ := dkOf_at R hd e1
    exact ⟨a, valV kvs k, rfl, .inl ⟨kvs, k, ha, keyOf_at hy e2, rfl⟩, qa.look k⟩
  · obtain ⟨a, kvs, rfl, ha, qa⟩ := dtOf_at R hd e1
    obtain ⟨b, us, rfl, hb, qb⟩ := hy
    exact ⟨a, valV kvs k, rfl, .inr ⟨kvs, k, b, ha, rfl, by rw [R.tup hb, keysOf_at qb e2], rfl⟩, qa.look k⟩
end
end DL

/-! DL3b: subscripts, in, len, isinstance, calls of built-in functions. -/
namespace DL
open PySem PySem.Spec PyProof.Rows L2

/-! ### xs[i], t[i], s[i], d[k] -/
def rIxD : R2 := fun x y H Q => ∃ a v, x = .ref a ∧ DGet H a y (some v) ∧ Q v H
section
variable {X : Cx}
theorem ix_dict (hu : X.A.units + 1 < cLine) : IxR X rIxD := by
  intro value slice pins s σ H x y v u Q I rx ry h hs
  obtain ⟨a, w, rfl, g, q⟩ := h
  cases rx
  exact PyProof.Rows.tail_any (dict_typeIs I g) PySem.F.slot_dict_getitem.lookup (d_getItem hu I g ry fun w' s3 I3 rw' => ⟨w, H, I3, rw', q⟩) hs
def rIxA (K : PySem.W.Frag) : R2 := fun x y H Q => rIx K x y H Q ∨ rIxD x y H Q
theorem ix_all (hu : X.A.units + 1 < cLine) : IxR X (rIxA X.K) := ix_seq.or (ix_dict hu)
end
def dIx : RD2 := fun x y W Q => match x with
  | .tup ds => ∃ i d, y = .int i ∧ atI ds i = some d ∧ Q d W
  | .str z => ∃ i c, y = .int i ∧ z.length ≤ sizeLine ∧ atI z.cps.toList i = some c ∧ Q (.str ⟨#[c]⟩) W
  | x => (∃ ds i d, lstRd W x = some ds ∧ y = .int i ∧ atI ds i = some d ∧ Q d W) ∨ ∃ d, dGet W x y (some d) ∧ Q d W
theorem IsDs.atI {K : PySem.W.Frag} {G : Hp} {ds : List D} {vs : List V} {i : Int} {d : D} (h : IsDs K G ds vs) (e : L2.atI ds i = some d) : ∃ v, L2.atI vs i = some v ∧ IsD K G d v := by
  unfold L2.atI at e ⊢
  rw [← h.length]
  cases q : ixN ds.length i with
  | none => rw [q] at e; cases e
  | some j =>
    rw [q] at e
    exact h.get e
section
variable {K : PySem.W.Frag}
theorem sr_ix : SimR2 K (rIxA K) dIx := fun G H W x y dx dy Q QD R hx hy h k => by
  unfold dIx at h
  split at h
  · obtain ⟨i, d, rfl, e, q⟩ := h
    obtain ⟨a, vs, rfl, ha, qa⟩ := hx
    obtain ⟨v, e2, q2⟩ := qa.atI e
    exact .inl (.inr (.inl ⟨a, vs, i, v, rfl, hy, SqT.of (R.tup ha), e2, k.here R q2 q⟩))
  · obtain ⟨i, c, rfl, z, e, q⟩ := h
    exact .inl (.inr (.inr ⟨_, i, c, hx, hy, z, e, k.here (d := .str _) R rfl q⟩))
  · rcases h with ⟨ds, i, d, e1, rfl, e, q⟩ | ⟨d, g, q⟩
    · obtain ⟨a, vs, rfl, ha, qa⟩ := lstRd_at R hx e1
      obtain ⟨v, e2, q2⟩ := qa.atI e
      exact .inl (.inl ⟨a, vs, i, v, rfl, hy, ha, e2, k.here R q2 q⟩)
    · obtain ⟨a, r', rfl, g', qq⟩ := dGet_at R hx hy g
      rcases qq with ⟨d', v, e1, rfl, q3⟩ | ⟨e1, _⟩
      · cases e1
        exact .inr ⟨a, v, rfl, g', k.here R q3 q⟩
      · cases e1
end

/-! ### slices -/
def dSl (own : Bool) : D → Option Int → Option Int → Wd → DQ → Prop := fun x lo hi W Q => match x with
  | .tup ds => Q (.tup (cutD ds lo hi)) W
  | .str z => z.length ≤ sizeLine ∧ Q (.str (cutS z lo hi)) W
  | x => ∃ ds, lstRd W x = some ds ∧ newL own (cutD ds lo hi) W Q
def rSl (K : PySem.W.Frag) : V → Option Int → Option Int → Hp → VK → Prop := fun x lo hi H Q => rSlA K x lo hi H Q ∨ rSlS x lo hi H Q ∨ rSlL K x lo hi H Q
theorem sl_all {X : Cx} : SlR X (rSl X.K) := sl_tupA.or (sl_str.or sl_list)
theorem cutV_whole {vs : List V} {lo hi : Option Int} (h : HT.sIx vs.length 0 lo = 0 ∧ HT.sIx vs.length vs.length hi = vs.length) : cutV vs lo hi = vs := by
  unfold cutV
  rw [h.1, h.2, List.drop_zero, Nat.sub_zero, List.take_length]
theorem cutD_whole {vs : List D} {lo hi : Option Int} (h : HT.sIx vs.length 0 lo = 0 ∧ HT.sIx vs.length vs.length hi = vs.length) : cutD vs lo hi = vs := by
  unfold cutD
  rw [h.1, h.2, List.drop_zero, Nat.sub_zero, List.take_length]
theorem sl_sim {K : PySem.W.Frag} {own : Bool} : SimSl K (rSl K) (dSl own) := fun G H W x dx lo hi Q QD R hx h k => by
  unfold dSl at h
  split at h
  · rename_i ds
    obtain ⟨a, vs, rfl, ha, qa⟩ := hx
    refine .inl ⟨a, vs, rfl, SqT.of (R.tup ha), fun e => ?_, fun _ p hp => ?_⟩
    · rw [cutD_whole (by rw [qa.length]; exact e)] at h
      exact k.here (d := .tup ds) R ⟨a, vs, rfl, ha, qa⟩ h
    · exact k.new (d := .tup (cutD ds lo hi)) R hp ⟨p, _, rfl, upd_same, IsDs.up (same_updG (R.freeG hp)) _ _ (qa.cut lo hi)⟩ h
  · exact .inr (.inl ⟨_, hx, h.1, k.here (d := .str _) R rfl h.2⟩)
  · obtain ⟨ds, e, q⟩ := h
    obtain ⟨a, vs, rfl, ha, qa⟩ := lstRd_at R hx e
    exact .inr (.inr ⟨a, vs, rfl, ha, fun p hp => newL.go R (qa.cut lo hi) q k p hp⟩)

/-! ### x in y -/
def rInP (K : PySem.W.Frag) (neg : Bool) : R2 := fun x y H Q => ∃ d ds, Dp K H x d ∧ (Dp K H y (.list ds) ∨ Dp K H y (.tuple ds)) ∧ d.plain = true ∧ PyData.plainAll ds = true ∧ min (PyData.depthAll ds) d.depth ≤ 150 ∧ Q (.bl (if neg = true then !(ds.any fun z => PyData.eqv z d) else ds.any fun z => PyData.eqv z d)) H
def rInDk (neg : Bool) : R2 := fun x y H Q => ∃ a ov, y = .ref a ∧ DGet H a x ov ∧ Q (.bl (if neg = true then !ov.isSome else ov.isSome)) H
def rInS (neg : Bool) : R2 := fun x y H Q => ∃ i j, x = .str i ∧ y = .str j ∧ Q (.bl (if neg = true then !(!(Builtin.Str.occurrences j i 0 j.length 1).isEmpty) else !(Builtin.Str.occurrences j i 0 j.length 1).isEmpty)) H
def rInA (K : PySem.W.Frag) (neg : Bool) : R2 := fun x y H Q => rInP K neg x y H Q ∨ rInDk neg x y H Q ∨ rInS neg x y H Q
section
variable {X : Cx}
theorem op_inA (hu : X.A.units + 151 < cLine) : OpR X (compareOp .In) (rInA X.K false) := by
  intro pins s σ H x y v u Q I rx ry h
  rcases h with ⟨d, ds, hd, he, pd, pe, z, q⟩ | ⟨a, ov, rfl, g, q⟩ | h
  · obtain ⟨as, r1⟩ := Dp.reads I d x v hd rx
    rcases he with he | he
    · obtain ⟨bs, r2⟩ := Dp.reads I (.list ds) y u he ry
      exact PySem.SeqAt.in_list_data r2 r1 pe pd (by omega) ⟨.bl _, H, I, rfl, q⟩
    · obtain ⟨bs, r2⟩ := Dp.reads I (.tuple ds) y u he ry
      exact PySem.SeqAt.in_tuple_data r2 r1 pe pd (by omega) ⟨.bl _, H, I, rfl, q⟩
  · cases ry
    exact d_in (by omega) I g rx fun s3 I3 => ⟨.bl _, H, I3, rfl, q⟩
  · exact op_in_str pins s σ H x y v u Q I rx ry h
theorem op_notInA (hu : X.A.units + 151 < cLine) : OpR X (compareOp .NotIn) (rInA X.K true) := by
  intro pins s σ H x y v u Q I rx ry h
  rcases h with ⟨d, ds, hd, he, pd, pe, z, q⟩ | ⟨a, ov, rfl, g, q⟩ | h
  · obtain ⟨as, r1⟩ := Dp.reads I d x v hd rx
    rcases he with he | he
    · obtain ⟨bs, r2⟩ := Dp.reads I (.list ds) y u he ry
      exact PySem.SeqAt.notIn_list_data r2 r1 pe pd (by omega) ⟨.bl _, H, I, rfl, q⟩
    · obtain ⟨bs, r2⟩ := Dp.reads I (.tuple ds) y u he ry
      exact PySem.SeqAt.notIn_tuple_data r2 r1 pe pd (by omega) ⟨.bl _, H, I, rfl, q⟩
  · cases ry
    exact d_notIn (by omega) I g rx fun s3 I3 => ⟨.bl _, H, I3, rfl, q⟩
  · exact op_notin_str pins s σ H x y v u Q I rx ry h
end
def D.within (x : D) (ds : List D) : Bool := ds.any fun z => z.eqv x
def D.nears (x : D) (ds : List D) : Prop := x.plain = true ∧ D.plains ds = true ∧ min (PyData.depthAll (D.pys ds)) x.py.depth ≤ 150
def dIn (neg : Bool) : RD2 := fun x y W Q => match y with
  | .tup ds => x.nears ds ∧ Q (.bl (if neg = true then !x.within ds else x.within ds)) W
  | .str j => ∃ i, x = .str i ∧ Q (.bl (if neg = true then !(!(Builtin.Str.occurrences j i 0 j.length 1).isEmpty) else !(Builtin.Str.occurrences j i 0 j.length 1).isEmpty)) W
  | y => (∃ ds, lstRd W y = some ds ∧ x.nears ds ∧ Q (.bl (if neg = true then !x.within ds else x.within ds)) W) ∨ ∃ r, dGet W y x r ∧ Q (.bl (if neg = true then !r.isSome else r.isSome)) W
theorem pys_any (d : D) : ∀ ds : List D, ((D.pys ds).any fun z => PyData.eqv z d.py) = d.within ds
  | [] => rfl
  | e :: ds => by
    have h := pys_any d ds
    unfold D.within at h ⊢
    rw [D.pys, List.any_cons, List.any_cons, h]
    rfl
theorem sr_in {K : PySem.W.Frag} {neg : Bool} : SimR2 K (rInA K neg) (dIn neg) := fun G H W x y dx dy Q QD R hx hy h k => by
  unfold dIn at h
  split at h
  · obtain ⟨⟨p1, p2, z⟩, q⟩ := h
    obtain ⟨a, vs, rfl, ha, qa⟩ := hy
    refine .inl ⟨dx.py, _, IsD.dp R _ _ p1 hx, .inr (.tup (SqT.of (R.tup ha)) (IsDs.dp R _ _ p2 qa)), D.plain_py _ p1, D.plains_py _ p2, z, ?_⟩
    rw [pys_any]
    exact k.here (d := .bl _) R rfl q
  · obtain ⟨i, rfl, q⟩ := h
    exact .inr (.inr ⟨i, _, hx, hy, k.here (d := .bl _) R rfl q⟩)
  · rcases h with ⟨ds, e, ⟨p1, p2, z⟩, q⟩ | ⟨r, g, q⟩
    · obtain ⟨a, vs, rfl, ha, qa⟩ := lstRd_at R hy e
      refine .inl ⟨dx.py, _, IsD.dp R _ _ p1 hx, .inl (.lst ha (IsDs.dp R _ _ p2 qa)), D.plain_py _ p1, D.plains_py _ p2, z, ?_⟩
      rw [pys_any]
      exact k.here (d := .bl _) R rfl q
    · obtain ⟨a, r', rfl, g', qq⟩ := dGet_at R hy hx g
      refine .inr (.inl ⟨a, r', rfl, g', ?_⟩)
      have e : r'.isSome = r.isSome := by
        rcases qq with ⟨_, _, rfl, rfl, _⟩ | ⟨rfl, rfl⟩ <;> rfl
      rw [e]
      exact k.here (d := .bl _) R rfl q

/-! ### calls of built-in functions -/
section
variable {X : Cx} {G0 : Hp} {x : Str} {p pos : Pos} {e : Expr} {es : List Expr} {t : L2.TA} {at' : AA} {id T : String} {r r' : List V → Hp → VK → Prop} {rd : RDC}
def aCB (r : RDC) (t : AA) : AE := fun δ W Q => t δ W fun ds W1 => r ds W1 Q
theorem sim_cb {K : PySem.W.Frag} (hr : SimRC K r rd) (h : SimA K G0 t at') : SimE K G0 (tCB r t) (aCB rd at') := fun σ H Q G δ W QD s0 R S q k => by
  refine h σ H _ G δ W _ s0 R S q fun vs ds G1 H1 W1 s1 R1 d1 h1 => ?_
  exact hr G1 H1 W1 vs ds Q QD R1 d1 h1 (k.up s1)
theorem de_callB (hc : CallR X (.builtin id) r) (hr : SimRC X.K r rd) (hg : Gl X x) (hm : X.mg x = none) (hv : bootBuiltins x = some (.builtin id)) (ha : DA X G0 (e :: es) t at') (hn : x ≠ "__name__" := by decide) (hdb : (x == ("__debug__" : Str)) = false := by decide)
    (he : starEach (e :: es) X.env = (false, eval e X.env) :: starEach es X.env := by rfl) (hpl : (backTo pos (starEach es X.env)).any (·.1) = false := by rfl) : DE X G0 (.Call (.Name x p) (e :: es) [] pos) (tCB r t) (aCB rd at') :=
  ⟨pe_callB hc hg hm hv ha.pa hn hdb he hpl, sim_cb hr ha.sim⟩
theorem de_callTy (hc : CallR X (.type T) r) (hr : SimRC X.K r rd) (hg : Gl X x) (hm : X.mg x = none) (hv : bootBuiltins x = some (.type T)) (ha : DA X G0 (e :: es) t at') (hn : x ≠ "__name__" := by decide) (hdb : (x == ("__debug__" : Str)) = false := by decide)
    (he : starEach (e :: es) X.env = (false, eval e X.env) :: starEach es X.env := by rfl) (hpl : (backTo pos (starEach es X.env)).any (·.1) = false := by rfl) : DE X G0 (.Call (.Name x p) (e :: es) [] pos) (tCB r t) (aCB rd at') :=
  ⟨pe_callTy hc hg hm hv ha.pa hn hdb he hpl, sim_cb hr ha.sim⟩
theorem callR_or {f : Value} (h : CallR X f r) (h' : CallR X f r') : CallR X f (fun xs H Q => r xs H Q ∨ r' xs H Q) := fun pins s σ H xs us Q I rs q => by
  rcases q with q | q
  · exact h pins s σ H xs us Q I rs q
  · exact h' pins s σ H xs us Q I rs q
end
/-! len -/
def rLenA (K : PySem.W.Frag) : List V → Hp → VK → Prop := fun xs H Q => (∃ x n, xs = [x] ∧ LenV K x H n ∧ Q (.int n) H) ∨ (∃ a kvs, xs = [V.ref a] ∧ Rd H a (.dK kvs) ∧ Q (.int kvs.length) H) ∨ rLenT xs H Q
theorem call_lenR {X : Cx} : CallR X (.builtin "len") (fun xs H Q => ∃ a kvs, xs = [V.ref a] ∧ Rd H a (.dK kvs) ∧ Q (.int kvs.length) H) := by
  rintro pins s σ H xs us Q I r ⟨a, kvs, rfl, ha, q⟩
  obtain ⟨u, rfl, ru⟩ := vals1 r
  cases ru
  exact d_len I ha fun t s' I' => ⟨V.int kvs.length, H, I', ⟨t, rfl⟩, q⟩
theorem call_lenA {X : Cx} : CallR X (.builtin "len") (rLenA X.K) := callR_or call_len (callR_or call_lenR call_len_dT)
def lenOf (W : Wd) : D → Option Nat
  | .str z => if z.length ≤ sizeLine then some z.length else none
  | .tup ds => some ds.length
  | .lst ds => some ds.length
  | .flst ds => some ds.length
  | .ptr l => match W l with
    | some (.lst ds) => some ds.length
    | some (.dk ds) => some ds.length
    | some (.dt ds) => some ds.length
    | _ => none
  | .dk ds => some ds.length
  | _ => none
def dLen : RDC := fun ds W Q => ∃ d n, ds = [d] ∧ lenOf W d = some n ∧ Q (.int n) W
theorem IsKs.length {K : PySem.W.Frag} {G : Hp} : ∀ {kds : List (Key × D)} {kvs : List (Key × V)}, IsKs K G kds kvs → kds.length = kvs.length
  | [], _, h => by cases h; rfl
  | (k, d) :: ds, _, h => by
    obtain ⟨v, r, e, _, h2⟩ := h
    rw [e, List.length_cons, List.length_cons, h2.length]
theorem IsTs.length {K : PySem.W.Frag} {G : Hp} : ∀ {kds : List (List Key × D)} {kvs : List (List Key × V)}, IsTs K G kds kvs → kds.length = kvs.length
  | [], _, h => by cases h; rfl
  | (k, d) :: ds, _, h => by
    obtain ⟨v, r, e, _, h2⟩ := h
    rw [e, List.length_cons, List.length_cons, h2.length]
theorem one_of {K : PySem.W.Frag} {G : Hp} {d : D} {vs : List V} (h : IsDs K G [d] vs) : ∃ v, vs = [v] ∧ IsD K G d v := by
  obtain ⟨v, r, rfl, h1, h2⟩ := h
  cases h2
  exact ⟨v, rfl, h1⟩
theorem two_of {K : PySem.W.Frag} {G : Hp} {d e : D} {vs : List V} (h : IsDs K G [d, e] vs) : ∃ v u, vs = [v, u] ∧ IsD K G d v ∧ IsD K G e u := by
  obtain ⟨v, r, rfl, h1, h2⟩ := h
  obtain ⟨u, rfl, h3⟩ := one_of h2
  exact ⟨v, u, rfl, h1, h3⟩
theorem sc_len {K : PySem.W.Frag} : SimRC K (rLenA K) dLen := fun G H W xs ds Q QD R hx h k => by
  obtain ⟨d, n, rfl, e, q⟩ := h
  obtain ⟨v, rfl, hv⟩ := one_of hx
  have fin : Q (.int n) H := k.here (d := .int n) R rfl q
  unfold lenOf at e
  split at e
  · split at e
    · cases e
      cases (show v = _ from hv)
      exact .inl ⟨_, _, rfl, ⟨by assumption, rfl⟩, fin⟩
    · cases e
  · cases e
    obtain ⟨a, vs, rfl, ha, qa⟩ := hv
    exact .inl ⟨_, _, rfl, .inr ⟨vs, SqT.of (R.tup ha), qa.length⟩, fin⟩
  · cases e
    obtain ⟨a, vs, rfl, ha, qa⟩ := hv
    exact .inl ⟨_, _, rfl, .inl ⟨vs, SqL.of (R.lst ha), qa.length⟩, fin⟩
  · cases e
    obtain ⟨a, vs, rfl, ha, qa⟩ := hv
    exact .inl ⟨_, _, rfl, .inl ⟨vs, ha.sq R, qa.length⟩, fin⟩
  · rename_i l
    cases (show v = _ from hv)
    split at e
    · rename_i hw
      cases e
      obtain ⟨_, o, e1, vs, e2, e3⟩ := R.own _ _ hw
      subst e2
      exact .inl ⟨_, _, rfl, .inl ⟨vs, SqL.of e1, e3.length⟩, fin⟩
    · rename_i hw
      cases e
      obtain ⟨_, o, e1, vs, e2, e3⟩ := R.own _ _ hw
      subst e2
      rw [e3.length] at fin
      exact .inr (.inl ⟨l, vs, rfl, .inl e1, fin⟩)
    · rename_i hw
      cases e
      obtain ⟨_, o, e1, vs, e2, e3⟩ := R.own _ _ hw
      subst e2
      rw [e3.length] at fin
      exact .inr (.inr ⟨l, vs, rfl, e1, fin⟩)
    · cases e
  · cases e
    obtain ⟨a, vs, rfl, ha, qa⟩ := hv
    rw [qa.length] at fin
    exact .inr (.inl ⟨a, vs, rfl, R.fk ha, fin⟩)
  · cases e
/-! isinstance against built-in classes -/
def tyOf (W : Wd) : D → Option String
  | .non => some "NoneType"
  | .bl _ => some "bool"
  | .int _ => some "int"
  | .str _ => some "str"
  | .tup _ => some "tuple"
  | .lst _ => some "list"
  | .flst _ => some "list"
  | .ptr l => match W l with
    | some (.lst _) => some "list"
    | some (.dk _) => some "dict"
    | some (.dt _) => some "dict"
    | _ => none
  | .dk _ => some "dict"
  | _ => none
def isiB (a b : String) : Bool := decide (a = b) || (decide (a = "bool") && decide (b = "int"))
def dIsi : RDC := fun ds W Q => match ds with
  | [d, .ty n] => ∃ a, tyOf W d = some a ∧ (n = "int" ∨ n = "bool" ∨ n = "str" ∨ n = "tuple" ∨ n = "list" ∨ n = "dict") ∧ Q (.bl (isiB a n)) W
  | _ => False
theorem tyOf_names {W : Wd} {d : D} {a : String} (h : tyOf W d = some a) : a = "NoneType" ∨ a = "bool" ∨ a = "int" ∨ a = "str" ∨ a = "tuple" ∨ a = "list" ∨ a = "dict" := by
  unfold tyOf at h
  split at h
  all_goals first | (cases h; done) | (cases h; simp; done) | (split at h <;> cases h <;> simp)
theorem isi_ok {K : PySem.W.Frag} {a n : String} (ha : a = "NoneType" ∨ a = "bool" ∨ a = "int" ∨ a = "str" ∨ a = "tuple" ∨ a = "list" ∨ a = "dict") (hn : n = "int" ∨ n = "bool" ∨ n = "str" ∨ n = "tuple" ∨ n = "list" ∨ n = "dict") : PySem.W.kitOne K (.type a) (.type n) = some (isiB a n) := by
  rcases ha with rfl | rfl | rfl | rfl | rfl | rfl | rfl <;> rcases hn with rfl | rfl | rfl | rfl | rfl | rfl <;> exact kit_ty (by decide +kernel)
theorem tyX_of {K : PySem.W.Frag} {G H : Hp} {W : Wd} (R : Rel K G H W) {d : D} {v : V} {a : String} (hd : IsD K G d v) (h : tyOf W d = some a) : TyX K H v (.type a) := by
  unfold tyOf at h
  split at h
  · cases h; cases (show v = _ from hd); exact .base .non
  · cases h; cases (show v = _ from hd); exact .base (.bl _)
  · cases h; cases (show v = _ from hd); exact .base (.int _)
  · cases h; cases (show v = _ from hd); exact .base (.str _)
  · cases h; obtain ⟨a, vs, rfl, ha, _⟩ := hd; exact .base (.tup (R.tup ha))
  · cases h; obtain ⟨a, vs, rfl, ha, _⟩ := hd; exact .base (.lst (R.lst ha))
  · cases h
    obtain ⟨a, vs, rfl, ha, _⟩ := hd
    rcases ha with ⟨o, ha⟩ | (ha | ⟨_, ha⟩) | ⟨o, its, n, l1, l2, _⟩
    · exact .base (.frz ((R.st _ _ ha).eq rfl))
    · cases ha
    · cases ha
    · exact .kList l1 l2
  · rename_i l
    cases (show v = _ from hd)
    split at h
    · rename_i hw
      cases h
      obtain ⟨_, o, e1, vs, e2, e3⟩ := R.own _ _ hw
      subst e2
      exact .base (.lst e1)
    · rename_i hw
      cases h
      obtain ⟨_, o, e1, vs, e2, e3⟩ := R.own _ _ hw
      subst e2
      exact .base (.dK e1)
    · rename_i hw
      cases h
      obtain ⟨_, o, e1, vs, e2, e3⟩ := R.own _ _ hw
      subst e2
      exact .base (.dT e1)
    · cases h
  · cases h
    obtain ⟨a, vs, rfl, ha, qa⟩ := hd
    rcases R.fk ha with h1 | ⟨o, h1⟩
    · exact .base (.dK h1)
    · exact .fDict h1
  · cases h
theorem sc_isi {K : PySem.W.Frag} : SimRC K (rIsi K) dIsi := fun G H W xs ds Q QD R hx h k => by
  unfold dIsi at h
  split at h
  · rename_i d n
    obtain ⟨a, e1, e2, q⟩ := h
    obtain ⟨v, u, rfl, hv, hu⟩ := two_of hx
    cases (show u = _ from hu)
    exact ⟨v, .ty n, _, _, _, rfl, .ty n, tyX_of R hv e1, isi_ok (tyOf_names e1) e2, k.here (d := .bl _) R rfl q⟩
  · cases h
/-! int, bool of a value, str -/
def rIntA : List V → Hp → VK → Prop := fun xs H Q => ((∃ i, xs = [.int i] ∧ Q (.int i) H) ∨ ∃ k, xs = [.bl k] ∧ Q (.int (if k then 1 else 0)) H) ∨ (∃ a n, xs = [.str a] ∧ PySem.intText? a = some n ∧ a.length ≤ 640 ∧ Q (.int n) H)
theorem call_intA {X : Cx} : CallR X (.type "int") rIntA := callR_or call_int1 call_int_str
def dInt : RDC := fun ds W Q => match ds with
  | [.int i] => Q (.int i) W
  | [.bl k] => Q (.int (if k = true then 1 else 0)) W
  | [.str a] => ∃ n, PySem.intText? a = some n ∧ a.length ≤ 640 ∧ Q (.int n) W
  | _ => False
theorem sc_int {K : PySem.W.Frag} : SimRC K rIntA dInt := fun G H W xs ds Q QD R hx h k => by
  unfold dInt at h
  split at h
  · obtain ⟨v, rfl, hv⟩ := one_of hx
    cases (show v = _ from hv)
    exact .inl (.inl ⟨_, rfl, k.here (d := .int _) R rfl h⟩)
  · obtain ⟨v, rfl, hv⟩ := one_of hx
    cases (show v = _ from hv)
    exact .inl (.inr ⟨_, rfl, k.here (d := .int _) R rfl h⟩)
  · obtain ⟨v, rfl, hv⟩ := one_of hx
    cases (show v = _ from hv)
    obtain ⟨n, e1, e2, q⟩ := h
    exact .inr ⟨_, n, rfl, e1, e2, k.here (d := .int _) R rfl q⟩
  · cases h
/-! max, min of two ints -/
def dMax2 : RDC := fun ds W Q => ∃ i j, ds = [.int i, .int j] ∧ Q (.int (if j > i then j else i)) W
def dMin2 : RDC := fun ds W Q => ∃ i j, ds = [.int i, .int j] ∧ Q (.int (if j < i then j else i)) W
theorem sc_max2 {K : PySem.W.Frag} : SimRC K (fun xs H Q => ∃ i j, xs = [V.int i, V.int j] ∧ Q (V.int (if j > i then j else i)) H) dMax2 := fun G H W xs ds Q QD R hx h k => by
  obtain ⟨i, j, rfl, q⟩ := h
  obtain ⟨v, u, rfl, hv, hu⟩ := two_of hx
  cases (show v = _ from hv)
  cases (show u = _ from hu)
  exact ⟨i, j, rfl, k.here (d := .int _) R rfl q⟩
theorem sc_min2 {K : PySem.W.Frag} : SimRC K (fun xs H Q => ∃ i j, xs = [V.int i, V.int j] ∧ Q (V.int (if j < i then j else i)) H) dMin2 := fun G H W xs ds Q QD R hx h k => by
  obtain ⟨i, j, rfl, q⟩ := h
  obtain ⟨v, u, rfl, hv, hu⟩ := two_of hx
  cases (show v = _ from hv)
  cases (show u = _ from hu)
  exact ⟨i, j, rfl, k.here (d := .int _) R rfl q⟩
/-! sum, max, min of a list of ints -/
def dSum : RDC := fun ds W Q => ∃ (d : D) (ns : List Int), ds = [d] ∧ lstRd W d = some (ns.map D.int) ∧ Q (.int ns.sum) W
def dMaxL : RDC := fun ds W Q => ∃ (d : D) (ns : List Int), ds = [d] ∧ lstRd W d = some (ns.map D.int) ∧ 0 < ns.length ∧ ∀ m, m ∈ ns → (∀ y, y ∈ ns → y ≤ m) → Q (.int m) W
theorem sc_sum {K : PySem.W.Frag} : SimRC K (rSum K) dSum := fun G H W xs ds Q QD R hx h k => by
  obtain ⟨d, ns, rfl, e, q⟩ := h
  obtain ⟨v, rfl, hv⟩ := one_of hx
  obtain ⟨a, vs, rfl, ha, qa⟩ := lstRd_at R hv e
  cases IsDs.ints.mp qa
  exact ⟨a, ns, rfl, ha, k.here (d := .int _) R rfl q⟩
theorem sc_maxL {K : PySem.W.Frag} : SimRC K (rMax K) dMaxL := fun G H W xs ds Q QD R hx h k => by
  obtain ⟨d, ns, rfl, e, z, q⟩ := h
  obtain ⟨v, rfl, hv⟩ := one_of hx
  obtain ⟨a, vs, rfl, ha, qa⟩ := lstRd_at R hv e
  cases IsDs.ints.mp qa
  exact ⟨a, ns, rfl, ha, z, fun m h1 h2 => k.here (d := .int m) R rfl (q m h1 h2)⟩
/-! list(xs), list(t), tuple(xs), tuple(t) -/
def rListA (K : PySem.W.Frag) : List V → Hp → VK → Prop := fun xs H Q => ∃ p ys, xs = [.ref p] ∧ (SqL K H p ys ∨ SqT K H p ys) ∧ ∀ l, H l = none → Q (.ref l) (upd H l (.lst ys))
def dList (own : Bool) : RDC := fun ds W Q => ∃ d es, ds = [d] ∧ (lstRd W d = some es ∨ d = .tup es) ∧ newL own es W Q
theorem sc_list {K : PySem.W.Frag} {own : Bool} : SimRC K (rListA K) (dList own) := fun G H W xs ds Q QD R hx h k => by
  obtain ⟨d, es, rfl, e, q⟩ := h
  obtain ⟨v, rfl, hv⟩ := one_of hx
  rcases e with e | rfl
  · obtain ⟨a, vs, rfl, ha, qa⟩ := lstRd_at R hv e
    exact ⟨a, vs, rfl, .inl ha, fun p hp => newL.go R qa q k p hp⟩
  · obtain ⟨a, vs, rfl, ha, qa⟩ := hv
    exact ⟨a, vs, rfl, .inr (SqT.of (R.tup ha)), fun p hp => newL.go R qa q k p hp⟩
def rTupleA (K : PySem.W.Frag) : List V → Hp → VK → Prop := fun xs H Q => ∃ p ys, xs = [.ref p] ∧ ((SqL K H p ys ∧ ∀ l, H l = none → Q (.ref l) (upd H l (.tup ys))) ∨ (SqT K H p ys ∧ Q (.ref p) H))
def dTuple : RDC := fun ds W Q => ∃ d es, ds = [d] ∧ (lstRd W d = some es ∨ d = .tup es) ∧ Q (.tup es) W
theorem sc_tuple {K : PySem.W.Frag} : SimRC K (rTupleA K) dTuple := fun G H W xs ds Q QD R hx h k => by
  obtain ⟨d, es, rfl, e, q⟩ := h
  obtain ⟨v, rfl, hv⟩ := one_of hx
  rcases e with e | rfl
  · obtain ⟨a, vs, rfl, ha, qa⟩ := lstRd_at R hv e
    exact ⟨a, vs, rfl, .inl ⟨ha, fun p hp => k.new (d := .tup es) R hp ⟨p, _, rfl, upd_same, IsDs.up (same_updG (R.freeG hp)) _ _ qa⟩ q⟩⟩
  · obtain ⟨a, vs, rfl, ha, qa⟩ := hv
    exact ⟨a, vs, rfl, .inr ⟨SqT.of (R.tup ha), k.here (d := .tup es) R ⟨a, vs, rfl, ha, qa⟩ q⟩⟩
end DL

/-! DL4: statements, targets, loops over data. -/
namespace DL
open PySem PySem.Spec PyProof.Rows L2

structure AEnds where
  nx : Sl → Wd → Prop
  rt : DQ
  bk : Sl → Wd → Prop := fun _ _ => False
  ct : Sl → Wd → Prop := fun _ _ => False
abbrev AS := AEnds → Sl → Wd → Prop
abbrev AG := D → Sl → Wd → (Sl → Wd → Prop) → Prop
abbrev AGs := List D → Sl → Wd → (Sl → Wd → Prop) → Prop
section
variable (K : PySem.W.Frag) (G0 G : Hp)
def KontS (N : Sl → Wd → Prop) (M : L2.St → Hp → Prop) : Prop := ∀ σ δ G' H' W', Same G G' → Rel K G' H' W' → IsSl K G' δ σ → N δ W' → M σ H'
structure EndsOk (E : Ends) (A : AEnds) : Prop where
  nx : KontS K G A.nx E.nx
  rt : Kont K G A.rt E.rt
  bk : KontS K G A.bk E.bk
  ct : KontS K G A.ct E.ct
def SimS (t : TS) (a : AS) : Prop := ∀ E A σ H G δ W, Same G0 G → Rel K G H W → IsSl K G δ σ → EndsOk K G E A → a A δ W → t E σ H
def SimG (g : TG) (a : AG) : Prop := ∀ x d σ H M G δ W N, Same G0 G → Rel K G H W → IsSl K G δ σ → IsD K G d x → a d δ W N → KontS K G N M → g x σ H M
def SimGs (g : TGs) (a : AGs) : Prop := ∀ xs ds σ H M G δ W N, Same G0 G → Rel K G H W → IsSl K G δ σ → IsDs K G ds xs → a ds δ W N → KontS K G N M → g xs σ H M
end
structure DS (X : Cx) (G0 : Hp) (st : Stmt) (t : TS) (a : AS) : Prop where
  ps : PS X st t
  sim : SimS X.K G0 t a
structure DSs (X : Cx) (G0 : Hp) (st : List Stmt) (t : TS) (a : AS) : Prop where
  ps : PSs X st t
  sim : SimS X.K G0 t a
structure DG (X : Cx) (G0 : Hp) (tg : Expr) (g : TG) (a : AG) : Prop where
  pg : PG X tg g
  sim : SimG X.K G0 g a
structure DGs (X : Cx) (G0 : Hp) (tg : List Expr) (g : TGs) (a : AGs) : Prop where
  pg : PGs X tg g
  sim : SimGs X.K G0 g a
section
variable {K : PySem.W.Frag} {G0 G G1 : Hp}
theorem KontS.up {N : Sl → Wd → Prop} {M : L2.St → Hp → Prop} (s : Same G G1) (h : KontS K G N M) : KontS K G1 N M := fun σ δ G' H' W' s' => h σ δ G' H' W' (s.trans s')
theorem EndsOk.up {E : Ends} {A : AEnds} (s : Same G G1) (h : EndsOk K G E A) : EndsOk K G1 E A := ⟨h.nx.up s, h.rt.up s, h.bk.up s, h.ct.up s⟩
end

section
variable {X : Cx} {G0 : Hp} {st : Stmt} {rest : List Stmt} {t u : TS} {a b : AS} {e : Expr} {te : TE} {ae : AE} {pos : Pos}
def aNext : AS := fun A δ W => A.nx δ W
def aSeq (t u : AS) : AS := fun A δ W => t { A with nx := fun δ W => u A δ W } δ W
theorem sim_seq {K : PySem.W.Frag} (h1 : SimS K G0 t a) (h2 : SimS K G0 u b) : SimS K G0 (tSeq t u) (aSeq a b) := fun E A σ H G δ W s0 R S eo h =>
  h1 { E with nx := u E } { A with nx := fun δ W => b A δ W } σ H G δ W s0 R S ⟨fun σ' δ' G' H' W' s R' S' h' => h2 E A σ' H' G' δ' W' (s0.trans s) R' S' (eo.up s) h', eo.rt, eo.bk, eo.ct⟩ h
theorem dss_nil : DSs X G0 [] tNext aNext := ⟨pss_nil, fun E A σ H G δ W s0 R S eo h => eo.nx σ δ G H W (Same.refl G) R S h⟩
theorem dss_cons (h1 : DS X G0 st t a) (h2 : DSs X G0 rest u b) : DSs X G0 (st :: rest) (tSeq t u) (aSeq a b) := ⟨pss_cons h1.ps h2.ps, sim_seq h1.sim h2.sim⟩
theorem dss_one (h1 : DS X G0 st t a) : DSs X G0 [st] t a := ⟨pss_one h1.ps, h1.sim⟩
/-- the owned list in slot i is owned no more from here on -/
def aFrz (i : Nat) (b : AS) : AS := fun A δ W => ∃ l m d, δ[i]? = some (some (.ptr l)) ∧ W l = some m ∧ frzD m = some d ∧ b A (δ.set i (some d)) (W.del l)
theorem dss_frz (i : Nat) {sts : List Stmt} (h : DSs X G0 sts t a) : DSs X G0 sts t (aFrz i a) := ⟨h.ps, fun E A σ H G δ W s0 R S eo q => by
  obtain ⟨l, m, d, e1, e2, f, q⟩ := q
  obtain ⟨v, e3, q3⟩ := S.get i _ e1
  obtain ⟨G', s, R2, q5⟩ := frz_at R e2 f
  cases (show v = .ref l from q3)
  refine h.sim E A σ H _ _ _ (s0.trans s) R2 ?_ (eo.up s) q
  have S2 := (S.up s).set i (d := d) (v := .ref l) q5
  have e6 : σ.set i (some (.ref l)) = σ := by
    apply List.ext_getElem?
    intro j
    by_cases hj : i = j
    · subst hj
      rw [List.getElem?_set]
      split
      · split
        · rw [e3]
        · rename_i hlt
          rw [List.getElem?_eq_none (by omega)] at e3
          cases e3
      · rfl
    · rw [List.getElem?_set_ne hj]
  rw [e6] at S2
  exact S2⟩
theorem ds_pass : DS X G0 (.Pass pos) tNext aNext := ⟨ps_pass, fun E A σ H G δ W s0 R S eo h => eo.nx σ δ G H W (Same.refl G) R S h⟩
def aBreak : AS := fun A δ W => A.bk δ W
def aCont : AS := fun A δ W => A.ct δ W
theorem ds_break : DS X G0 (.Break pos) tBreak aBreak := ⟨ps_break, fun E A σ H G δ W s0 R S eo h => eo.bk σ δ G H W (Same.refl G) R S h⟩
theorem ds_continue : DS X G0 (.Continue pos) tCont aCont := ⟨ps_continue, fun E A σ H G δ W s0 R S eo h => eo.ct σ δ G H W (Same.refl G) R S h⟩
def aDrop (a : AE) : AS := fun A δ W => a δ W fun _ W1 => A.nx δ W1
theorem ds_expr (he : DE X G0 e te ae) (hs : swapsWith e none pos.line X.env = pure false := by rfl) : DS X G0 (.Expr e pos) (tDrop te) (aDrop ae) := ⟨ps_expr he.pe hs, fun E A σ H G δ W s0 R S eo h =>
  he.sim σ H _ G δ W _ s0 R S h fun x d G1 H1 W1 s1 R1 d1 h1 => eo.nx σ δ G1 H1 W1 s1 R1 (S.up s1) h1⟩
def aRet (a : AE) : AS := fun A δ W => a δ W A.rt
theorem ds_ret (he : DE X G0 e te ae) : DS X G0 (.Return (some e) pos) (tRet te) (aRet ae) := ⟨ps_ret he.pe, fun E A σ H G δ W s0 R S eo h => he.sim σ H _ G δ W _ s0 R S h eo.rt⟩
def aRetN : AS := fun A _ W => A.rt .non W
theorem ds_retN : DS X G0 (.Return none pos) tRetN aRetN := ⟨ps_retN, fun E A σ H G δ W s0 R S eo h => eo.rt.here (d := .non) R rfl h⟩
def aIfS (c : AT) (t u : AS) : AS := fun A δ W => c δ W fun b W1 => if b = true then t A δ W1 else u A δ W1
theorem ds_if {c : Expr} {sa sb : List Stmt} {tc : TT} {ac : AT} (hc : DT X G0 c tc ac) (ha : DSs X G0 sa t a) (hb : DSs X G0 sb u b) : DS X G0 (.If c sa sb pos) (tIfS tc t u) (aIfS ac a b) := ⟨ps_if hc.pt ha.ps hb.ps, fun E A σ H G δ W s0 R S eo h => by
  refine hc.sim σ H _ G δ W _ s0 R S h fun k G1 H1 W1 s1 R1 h1 => ?_
  cases k with
  | true => exact iteT (ha.sim E A σ H1 G1 δ W1 (s0.trans s1) R1 (S.up s1) (eo.up s1) (by simpa using h1))
  | false => exact iteF (hb.sim E A σ H1 G1 δ W1 (s0.trans s1) R1 (S.up s1) (eo.up s1) (by simpa using h1))⟩
def aNever : AS := fun _ _ _ => False
theorem ds_never : DS X G0 st tNever aNever := ⟨ps_never, fun _ _ _ _ _ _ _ _ _ _ _ h => h.elim⟩
theorem dss_never {sts : List Stmt} : DSs X G0 sts tNever aNever := ⟨pss_never, fun _ _ _ _ _ _ _ _ _ _ _ h => h.elim⟩

/-! ### targets -/
def agName (i : Nat) : AG := fun d δ W N => N (δ.set i (some d)) W
theorem dg_name {i : Nat} {x : Str} (hN : X.N.Nodup) (hi : X.N[i]? = some x) (hx : Loc X.env.scope x) (hf : X.fn x = true ∨ X.env.scope.names.lookup x = some .local := by first | exact .inl rfl | exact .inr rfl | assumption) : DG X G0 (.Name x pos) (gName i) (agName i) :=
  ⟨pg_name hN hi hx hf, fun x d σ H M G δ W N s0 R S hd h k => k _ _ G H W (Same.refl G) R (S.set i hd) h⟩
def agNil : AGs := fun ds δ W N => ds = [] ∧ N δ W
def agCons (t : AG) (u : AGs) : AGs := fun ds δ W N => ∃ d r, ds = d :: r ∧ t d δ W fun δ' W' => u r δ' W' N
theorem dgs_nil : DGs X G0 [] gNil agNil := ⟨pgs_nil, fun xs ds σ H M G δ W N s0 R S hd h k => by
  obtain ⟨rfl, q⟩ := h
  cases hd
  exact ⟨rfl, k _ _ G H W (Same.refl G) R S q⟩⟩
theorem dgs_cons {e : Expr} {es : List Expr} {t : TG} {u : TGs} {at' : AG} {au : AGs} (h1 : DG X G0 e t at') (h2 : DGs X G0 es u au)
    (hs : (assignEach (e :: es) X.env).map (·.2) = assign e X.env :: (assignEach es X.env).map (·.2) := by rfl) : DGs X G0 (e :: es) (gCons t u) (agCons at' au) := ⟨pgs_cons h1.pg h2.pg hs, fun xs ds σ H M G δ W N s0 R S hd h k => by
  obtain ⟨d, r, rfl, q⟩ := h
  obtain ⟨v, r', rfl, q1, q2⟩ := hd
  refine ⟨v, r', rfl, ?_⟩
  refine h1.sim v d σ H _ G δ W _ s0 R S q1 q fun σ' δ' G' H' W' s R' S' q' => ?_
  exact h2.sim r' r σ' H' M G' δ' W' N (s0.trans s) R' S' (IsDs.up s _ _ q2) q' (k.up s)⟩
def agTup (n : Nat) (t : AGs) : AG := fun d δ W N => ∃ ds, d = .tup ds ∧ ds.length = n ∧ t ds δ W N
theorem dg_tup {es : List Expr} {k : Nat} {t : TGs} {at' : AGs} {n : Nat} (hc : X.calm = true) (h : DGs X G0 es t at') (hn : (assignEach es X.env).length = n := by rfl) (hst : (assignEach es X.env).findIdx? (·.1) = none := by rfl) : DG X G0 (.Tuple es k pos) (gTup X.K n t) (agTup n at') := ⟨pg_tup hc h.pg hn hst, fun x d σ H M G δ W N s0 R S hd q k => by
  obtain ⟨ds, rfl, e, q⟩ := q
  obtain ⟨a, vs, rfl, ha, qa⟩ := hd
  exact ⟨a, vs, rfl, SqT.of (R.tup ha), by rw [← qa.length]; exact e, h.sim vs ds σ H M G δ W N s0 R S qa q k⟩⟩
abbrev DSet := D → D → D → Wd → (Wd → Prop) → Prop
def SimSet (K : PySem.W.Frag) (t : TSet) (a : DSet) : Prop := ∀ G H W o i v d e f M N, Rel K G H W → IsD K G d o → IsD K G e i → IsD K G f v → a d e f W N → (∀ H' W', Rel K G H' W' → N W' → M H') → t o i v H M
def agSub (o i : AE) (t : DSet) : AG := fun d δ W N => o δ W fun x W1 => i δ W1 fun y W2 => t x y d W2 fun W3 => N δ W3
theorem dg_sub {o i : Expr} {to ti : TE} {ao ai : AE} {t : TSet} {at' : DSet} (ho : DE X G0 o to ao) (hi : DE X G0 i ti ai) (hs : PSet X t) (hr : SimSet X.K t at')
    (hasg : ∀ v, assign (.Subscript o i pos) X.env v = (do let ov ← holding [v] (eval o X.env); let iv ← holding [v, ov] (eval i X.env); standAt pos; holding [v, ov, iv] (setItem ov iv v); release [v, ov, iv] []) := by intro _; rfl) : DG X G0 (.Subscript o i pos) (gSub to ti t) (agSub ao ai at') := ⟨pg_sub ho.pe hi.pe hs hasg, fun x d σ H M G δ W N s0 R S hd q k => by
  refine ho.sim σ H _ G δ W _ s0 R S q fun v dv G1 H1 W1 s1 R1 d1 h1 => ?_
  refine hi.sim σ H1 _ G1 δ W1 _ (s0.trans s1) R1 (S.up s1) h1 fun u du G2 H2 W2 s2 R2 d2 h2 => ?_
  exact hr G2 H2 W2 v u x dv du d _ _ R2 (IsD.up s2 _ _ d1) d2 (IsD.up (s1.trans s2) _ _ hd) h2 fun H3 W3 R3 h3 => k σ δ G2 H3 W3 (s1.trans s2) R3 (S.up (s1.trans s2)) h3⟩

/-! ### target = value -/
def aAsg (a : AE) (g : AG) : AS := fun A δ W => a δ W fun x W1 => g x δ W1 A.nx
theorem sim_asg {K : PySem.W.Frag} {g : TG} {ag : AG} (he : SimE K G0 te ae) (hg : SimG K G0 g ag) : SimS K G0 (tAsg te g) (aAsg ae ag) := fun E A σ H G δ W s0 R S eo h => by
  refine he σ H _ G δ W _ s0 R S h fun x d G1 H1 W1 s1 R1 d1 h1 => ?_
  exact hg x d σ H1 _ G1 δ W1 _ (s0.trans s1) R1 (S.up s1) d1 h1 (eo.nx.up s1)
theorem ds_asg {tg : Expr} {g : TG} {ag : AG} (he : DE X G0 e te ae) (hg : DG X G0 tg g ag) (hs : swapsWithSole [tg] e pos.line X.env = pure false := by rfl) (hw : swappedStores [tg] e X.env = pure none := by rfl)
    (h1 : (assignEach [tg] X.env).map (·.2) = [assign tg X.env] := by rfl) : DS X G0 (.Assign [tg] e pos) (tAsg te g) (aAsg ae ag) := ⟨ps_asg he.pe hg.pg hs hw h1, sim_asg he.sim hg.sim⟩
theorem ds_set {i : Nat} {x : Str} {pos' : Pos} (hN : X.N.Nodup) (hi : X.N[i]? = some x) (hx : Loc X.env.scope x) (he : DE X G0 e te ae) (hs : swapsWith e (some (.Name x pos')) pos.line X.env = pure false := by rfl) (hf : X.fn x = true ∨ X.env.scope.names.lookup x = some .local := by first | exact .inl rfl | exact .inr rfl | assumption) :
    DS X G0 (.Assign [.Name x pos'] e pos) (tAsg te (gName i)) (aAsg ae (agName i)) :=
  ⟨ps_set hN hi hx he.pe hs hf, sim_asg he.sim fun x d σ H M G δ W N s0 R S hd h k => k _ _ G H W (Same.refl G) R (S.set i hd) h⟩
/-- name op= e -/
def aAug (i : Nat) (a : AE) (r : RD2) : AS := fun A δ W => ∃ d, δ[i]? = some (some d) ∧ a δ W fun e W1 => r d e W1 fun f W2 => A.nx (δ.set i (some f)) W2
theorem ds_aug {i : Nat} {x : Str} {op : Operator} {ti : TIp} {rd : RD2} {pos' : Pos} (hN : X.N.Nodup) (hi : X.N[i]? = some x) (hx : Loc X.env.scope x) (he : DE X G0 e te ae) (ho : PIp X op ti) (hr : SimR2 X.K ti rd) (hf : X.fn x = true ∨ X.env.scope.names.lookup x = some .local := by first | exact .inl rfl | exact .inr rfl | assumption) :
    DS X G0 (.AugAssign (.Name x pos') op e pos) (tAug i te ti) (aAug i ae rd) := ⟨ps_aug hN hi hx he.pe ho hf, fun E A σ H G δ W s0 R S eo h => by
  obtain ⟨d, e1, q⟩ := h
  obtain ⟨v, e2, q2⟩ := S.get i d e1
  refine ⟨v, e2, ?_⟩
  refine he.sim σ H _ G δ W _ s0 R S q fun x' d' G1 H1 W1 s1 R1 d1 h1 => ?_
  refine hr G1 H1 W1 v x' d d' _ _ R1 (IsD.up s1 _ _ q2) d1 h1 fun z f G2 H2 W2 s2 R2 d2 h2 => ?_
  exact eo.nx _ _ G2 H2 W2 (s1.trans s2) R2 ((S.up (s1.trans s2)).set i d2) h2⟩
theorem sr_ip {K : PySem.W.Frag} {f : Int → Int → Int} : SimR2 K (ipI f) (dI0 fun i j => .int (f i j)) := fun G H W x y dx dy Q QD R hx hy h k => by
  obtain ⟨i, j, rfl, rfl, q⟩ := h
  exact ⟨i, j, hx, hy, k.here (d := .int _) R rfl q⟩

/-! ### while -/
def aWhile (c : AT) (b : AS) : AS := fun A δ W => ∃ I : Nat → Sl → Wd → Prop, (∃ m, I m δ W) ∧ ∀ m δ W, I m δ W →
  c δ W fun k W1 => if k = true then b { A with nx := fun δ' W' => ∃ m', m' < m ∧ I m' δ' W', ct := fun δ' W' => ∃ m', m' < m ∧ I m' δ' W', bk := A.nx } δ W1 else A.nx δ W1
theorem ds_while {c : Expr} {body : List Stmt} {tc : TT} {ac : AT} {tb : TS} {ab : AS} (hp : PassesOwn (model X.prog X.w) X.A X.env X.xe) (hc : DT X G0 c tc ac) (hb : DSs X G0 body tb ab) : DS X G0 (.While c body [] pos) (tWhile tc tb) (aWhile ac ab) := ⟨ps_while hp hc.pt hb.ps, fun E A σ H G δ W s0 R S eo h => by
  obtain ⟨I, ⟨m0, h0⟩, turn⟩ := h
  refine ⟨fun m σ H => ∃ G1 δ1 W1, Same G G1 ∧ Rel X.K G1 H W1 ∧ IsSl X.K G1 δ1 σ ∧ I m δ1 W1, ⟨m0, G, δ, W, Same.refl G, R, S, h0⟩, ?_⟩
  rintro m σ1 H1 ⟨G1, δ1, W1, s1, R1, S1, h1⟩
  refine hc.sim σ1 H1 _ G1 δ1 W1 _ (s0.trans s1) R1 S1 (turn m δ1 W1 h1) fun k G2 H2 W2 s2 R2 h2 => ?_
  cases k with
  | true =>
    refine iteT ⟨fun σ' H' => ∃ m', m' < m ∧ ∃ G3 δ3 W3, Same G G3 ∧ Rel X.K G3 H' W3 ∧ IsSl X.K G3 δ3 σ' ∧ I m' δ3 W3, fun _ _ q => q, ?_⟩
    have nx : KontS X.K G2 (fun δ' W' => ∃ m', m' < m ∧ I m' δ' W') (fun σ' H' => ∃ m', m' < m ∧ ∃ G3 δ3 W3, Same G G3 ∧ Rel X.K G3 H' W3 ∧ IsSl X.K G3 δ3 σ' ∧ I m' δ3 W3) :=
      fun σ' δ' G' H' W' s' R' S' ⟨m', hm, q⟩ => ⟨m', hm, G', δ', W', s1.trans (s2.trans s'), R', S', q⟩
    exact hb.sim _ { A with nx := fun δ' W' => ∃ m', m' < m ∧ I m' δ' W', ct := fun δ' W' => ∃ m', m' < m ∧ I m' δ' W', bk := A.nx } σ1 H2 G2 δ1 W2 (s0.trans (s1.trans s2)) R2 (S1.up s2) ⟨nx, eo.rt.up (s1.trans s2), eo.nx.up (s1.trans s2), nx⟩ (by simpa using h2)
  | false => exact iteF (eo.nx σ1 δ1 G2 H2 W2 (s1.trans s2) R2 (S1.up s2) (by simpa using h2))⟩

/-! ### for -/
/-- what is walked: its items, what the world must keep meanwhile -/
abbrev AI := Sl → Wd → (List D → (Wd → Prop) → Wd → Prop) → Prop
structure Walks (K : PySem.W.Frag) (G : Hp) (J : It) (items : List D) (ok : Wd → Prop) : Prop where
  go : ∀ i G' H W, Same G G' → Rel K G' H W → ok W → i < items.length → J.go i H
  stop : ∀ i G' H W, Same G G' → Rel K G' H W → ok W → items.length ≤ i → J.stop i H
  yld : ∀ i G' H W x H', Same G G' → Rel K G' H W → ok W → i < items.length → J.yld i H x H' → ∃ d G'', items[i]? = some d ∧ Same G' G'' ∧ Rel K G'' H' W ∧ IsD K G'' d x
theorem Walks.up {K : PySem.W.Frag} {G G1 : Hp} {J : It} {items : List D} {ok : Wd → Prop} (s : Same G G1) (h : Walks K G J items ok) : Walks K G1 J items ok :=
  ⟨fun i G' H W s' => h.go i G' H W (s.trans s'), fun i G' H W s' => h.stop i G' H W (s.trans s'), fun i G' H W x H' s' => h.yld i G' H W x H' (s.trans s')⟩
def SimI (K : PySem.W.Frag) (G0 : Hp) (wi : TI) (a : AI) : Prop := ∀ σ H M G δ W N, Same G0 G → Rel K G H W → IsSl K G δ σ → a δ W N →
  (∀ J items ok G' H' W', Same G G' → Rel K G' H' W' → Walks K G' J items ok → N items ok W' → M J H') → wi σ H M
structure DI (X : Cx) (G0 : Hp) (tg it : Expr) (wi : TI) (a : AI) : Prop where
  pi : PI X tg it wi
  sim : SimI X.K G0 wi a
def forL (g : AG) (b : AS) (A : AEnds) (ok : Wd → Prop) : List D → Sl → Wd → Prop
  | [], δ, W => ok W ∧ A.nx δ W
  | d :: ds, δ, W => ok W ∧ g d δ W fun δ' W' => b { A with nx := fun δ W => forL g b A ok ds δ W, ct := fun δ W => forL g b A ok ds δ W, bk := A.nx } δ' W'
def aFor (ai : AI) (g : AG) (b : AS) : AS := fun A δ W => ai δ W fun items ok W1 => forL g b A ok items δ W1
theorem sim_for {K : PySem.W.Frag} {wi : TI} {ai : AI} {g : TG} {ag : AG} {tb : TS} {ab : AS} (hi : SimI K G0 wi ai) (hg : SimG K G0 g ag) (hb : SimS K G0 tb ab) : SimS K G0 (tFor wi g tb) (aFor ai ag ab) := fun E A σ H G δ W s0 R S eo h => by
  refine hi σ H _ G δ W _ s0 R S h fun J items ok G1 H1 W1 s1 R1 wk h1 => ?_
  refine ⟨fun i m σ H => m = items.length - i ∧ i ≤ items.length ∧ ∃ G2 δ2 W2, Same G1 G2 ∧ Rel K G2 H W2 ∧ IsSl K G2 δ2 σ ∧ forL ag ab A ok (items.drop i) δ2 W2,
    ⟨_, rfl, Nat.zero_le _, G1, δ, W1, Same.refl G1, R1, S.up s1, by simpa using h1⟩, ?_⟩
  rintro i m σ2 H2 ⟨rfl, hle, G2, δ2, W2, s2, R2, S2, h2⟩
  by_cases hlt : i < items.length
  · rw [List.drop_eq_getElem_cons hlt] at h2
    obtain ⟨hok, q⟩ := h2
    refine .inr ⟨wk.go i G2 H2 W2 s2 R2 hok hlt, fun σ' H' => ∃ G3 δ3 W3, Same G1 G3 ∧ Rel K G3 H' W3 ∧ IsSl K G3 δ3 σ' ∧ forL ag ab A ok (items.drop (i + 1)) δ3 W3, fun σ' H' q' => ⟨items.length - (i + 1), by omega, rfl, by omega, q'⟩, fun x H' hy => ?_⟩
    obtain ⟨d, G3, e3, s3, R3, d3⟩ := wk.yld i G2 H2 W2 x H' s2 R2 hok hlt hy
    rw [List.getElem?_eq_getElem hlt] at e3
    cases e3
    refine hg x _ σ2 H' _ G3 δ2 W2 _ (s0.trans (s1.trans (s2.trans s3))) R3 (S2.up s3) d3 q fun σ4 δ4 G4 H4 W4 s4 R4 S4 q4 => ?_
    have s5 := s2.trans (s3.trans s4)
    have nx : KontS K G4 (fun δ W => forL ag ab A ok (items.drop (i + 1)) δ W) (fun σ' H' => ∃ G3 δ3 W3, Same G1 G3 ∧ Rel K G3 H' W3 ∧ IsSl K G3 δ3 σ' ∧ forL ag ab A ok (items.drop (i + 1)) δ3 W3) :=
      fun σ' δ' G' H' W' s' R' S' q' => ⟨G', δ', W', s5.trans s', R', S', q'⟩
    exact hb _ { A with nx := fun δ W => forL ag ab A ok (items.drop (i + 1)) δ W, ct := fun δ W => forL ag ab A ok (items.drop (i + 1)) δ W, bk := A.nx } σ4 H4 G4 δ4 W4 (s0.trans (s1.trans s5)) R4 S4 ⟨nx, eo.rt.up (s1.trans s5), eo.nx.up (s1.trans s5), nx⟩ q4
  · have e : i = items.length := by omega
    subst e
    rw [List.drop_length] at h2
    exact .inl ⟨wk.stop _ G2 H2 W2 s2 R2 h2.1 (Nat.le_refl _), eo.nx σ2 δ2 G2 H2 W2 (s1.trans s2) R2 S2 h2.2⟩
theorem ds_for {tg it : Expr} {body : List Stmt} {wi : TI} {ai : AI} {g : TG} {ag : AG} {tb : TS} {ab : AS} (hp : PassesOwn (model X.prog X.w) X.A X.env X.xe) (hc : X.calm = true) (hi : DI X G0 tg it wi ai) (hg : DG X G0 tg g ag) (hb : DSs X G0 body tb ab)
    (hs : ∀ x, foldedSetIterable it X.env x = pure x := by intro _; rfl) : DS X G0 (.For tg it body [] pos) (tFor wi g tb) (aFor ai ag ab) := ⟨ps_for hp hc hi.pi hg.pg hb.ps hs, sim_for hi.sim hg.sim hb.sim⟩
/-! what is walked -/
variable {tg : Expr}
/-- a list: for good, foreign, or owned and left as it is meanwhile -/
def okOf (d : D) (ds : List D) : Wd → Prop := fun W => match d with
  | .ptr l => W l = some (.lst ds)
  | _ => True
def aiList (a : AE) : AI := fun δ W N => a δ W fun d W1 => ∃ ds, lstRd W1 d = some ds ∧ N ds (okOf d ds) W1
theorem lstRd_later {K : PySem.W.Frag} {G G' H H' : Hp} {W W' : Wd} {d : D} {a : Addr} {ds : List D} (R : Rel K G H W) (s : Same G G') (R' : Rel K G' H' W') (hd : IsD K G d (.ref a)) (e : lstRd W d = some ds) (ok : okOf d ds W') : ∃ vs, SqL K H' a vs ∧ IsDs K G' ds vs := by
  have e' : lstRd W' d = some ds := by
    cases d with
    | ptr l => exact lstRd_ptr ok
    | lst _ => exact e
    | flst _ => exact e
    | _ => cases e
  obtain ⟨a', vs, ea, h1, h2⟩ := lstRd_at R' (IsD.up s _ _ hd) e'
  cases ea
  exact ⟨vs, h1, h2⟩
theorem okOf_now {W : Wd} {d : D} {ds : List D} (e : lstRd W d = some ds) : okOf d ds W := by
  cases d with
  | ptr l =>
    unfold okOf
    simp only [lstRd, lstOf] at e
    split at e
    · rename_i q; cases e; exact q
    · cases e
  | _ => trivial
theorem walks_list {K : PySem.W.Frag} {G H : Hp} {W : Wd} {d : D} {a : Addr} {ds : List D} (R : Rel K G H W) (hd : IsD K G d (.ref a)) (e : lstRd W d = some ds) : Walks K G (Itl K a) ds (okOf d ds) := by
  refine ⟨fun i G' H' W' s R' ok hi => ?_, fun i G' H' W' s R' ok hi => ?_, fun i G' H' W' x H2 s R' ok hi hy => ?_⟩
  · obtain ⟨vs, h1, h2⟩ := lstRd_later R s R' hd e ok
    have hl : i < vs.length := by rw [← h2.length]; exact hi
    exact ⟨vs, vs[i], h1, List.getElem?_eq_getElem hl⟩
  · obtain ⟨vs, h1, h2⟩ := lstRd_later R s R' hd e ok
    exact ⟨vs, h1, by rw [← h2.length]; exact hi⟩
  · obtain ⟨vs, h1, h2⟩ := lstRd_later R s R' hd e ok
    obtain ⟨rfl, hy⟩ := hy
    have e1 := hy vs h1
    obtain ⟨v, e2, q⟩ := h2.get (List.getElem?_eq_getElem hi)
    rw [e1] at e2
    cases e2
    exact ⟨ds[i], G', List.getElem?_eq_getElem hi, Same.refl _, R', q⟩
end
end DL

/-! DL5: what is walked, comprehensions. -/
namespace DL
open PySem PySem.Spec PyProof.Rows L2
section
variable {X : Cx} {G0 : Hp} {tg e : Expr} {te : TE} {ae : AE} {pos p : Pos}

/-! ### a list, a tuple or a text -/
def iSeq (K : PySem.W.Frag) (tl : TE) : TI := fun σ H M => tl σ H fun x H1 => (∃ a, x = .ref a ∧ (∃ xs, SqL K H1 a xs) ∧ M (Itl K a) H1) ∨ (∃ a, x = .ref a ∧ (∃ xs, SqT K H1 a xs) ∧ M (Itt K a) H1) ∨ (∃ z, x = .str z ∧ M (Its z) H1)
theorem pi_seq (hl : PE X e te) : PI X tg e (iSeq X.K te) := ⟨fun pins s σ H M I h => thn (hl.run pins s σ H _ I h) fun v s1 ⟨x, H1, I1, r1, q1⟩ => by
  have fp : ∀ b ∈ [s1.heap.objs.size], FpOk X pins H1 b := fun b hb => by
    cases List.mem_singleton.mp hb
    exact I1.fpOk (Nat.le_refl _) (I1.hok.fresh (Nat.le_refl _))
  rcases q1 with ⟨a, e1, ⟨xs, hq⟩, q⟩ | ⟨a, e1, ⟨xs, hq⟩, q⟩ | ⟨z, e1, q⟩
  · subst e1
    cases r1
    obtain ⟨its, rv, pl, _⟩ := I1.list hq
    exact wpAny_pyIter_list pl.isList ⟨_, _, _, _, H1, rfl, I1.kept (t' := s1.toks) fun b o e => Heap.get?_push_of_some _ e, turn_list a _, ⟨_, Heap.get?_push_size _ rfl, rfl, rfl⟩, fp, q⟩
  · subst e1
    cases r1
    obtain ⟨its, rv, pl, _⟩ := I1.tuple hq
    exact wpAny_pyIter_tuple pl ⟨_, _, _, _, H1, rfl, I1.kept (t' := s1.toks) fun b o e => Heap.get?_push_of_some _ e, turn_tuple a _, ⟨_, Heap.get?_push_size _ rfl, rfl, rfl⟩, fp, q⟩
  · subst e1
    obtain ⟨t, rfl⟩ := r1
    cases ha : z.cps.all (· < 128)
    · exact wpAny_pyIter_wide ha (pi_one (tk := s1.toks) I1 _ (turn_str _ z t "str_iterator" (.inr rfl)) ⟨_, Heap.get?_push_size _ rfl, rfl, rfl⟩ q)
    · exact wpAny_pyIter_ascii ha (pi_one (tk := s1.toks) I1 _ (turn_str _ z t "str_ascii_iterator" (.inl rfl)) ⟨_, Heap.get?_push_size _ rfl, rfl, rfl⟩ q)⟩
def signsOf (z : Str) : List D := z.cps.toList.map fun c => D.str ⟨#[c]⟩
def walkD (d : D) (W1 : Wd) (N : List D → (Wd → Prop) → Wd → Prop) : Prop := match d with
  | .tup ds => N ds (fun _ => True) W1
  | .str z => N (signsOf z) (fun _ => True) W1
  | d => ∃ ds, lstRd W1 d = some ds ∧ N ds (okOf d ds) W1
def aiSeq (a : AE) : AI := fun δ W N => a δ W fun d W1 => walkD d W1 N
theorem walks_tup {K : PySem.W.Frag} {G : Hp} {a : Addr} {vs : List V} {ds : List D} (ha : G a = some (.tup vs)) (qa : IsDs K G ds vs) : Walks K G (Itt K a) ds (fun _ => True) := by
  refine ⟨fun i G' H' W' s R' ok hi => ?_, fun i G' H' W' s R' ok hi => ?_, fun i G' H' W' x H2 s R' ok hi hy => ?_⟩
  · exact ⟨vs, vs[i]'(by rw [← qa.length]; exact hi), SqT.of (R'.tup (s.at ha rfl rfl)), List.getElem?_eq_getElem _⟩
  · exact ⟨vs, SqT.of (R'.tup (s.at ha rfl rfl)), by rw [← qa.length]; exact hi⟩
  · obtain ⟨rfl, hy⟩ := hy
    have e1 := hy vs (SqT.of (R'.tup (s.at ha rfl rfl)))
    obtain ⟨v, e2, q⟩ := qa.get (List.getElem?_eq_getElem hi)
    rw [e1] at e2
    cases e2
    exact ⟨ds[i], G', List.getElem?_eq_getElem hi, Same.refl _, R', IsD.up s _ _ q⟩
theorem walks_str {K : PySem.W.Frag} {G : Hp} {z : Str} : Walks K G (Its z) (signsOf z) (fun _ => True) := by
  have hl : (signsOf z).length = z.cps.size := by unfold signsOf; rw [List.length_map, Array.length_toList]
  refine ⟨fun i G' H' W' s R' ok hi => by rw [hl] at hi; exact hi, fun i G' H' W' s R' ok hi => by rw [hl] at hi; exact hi, fun i G' H' W' x H2 s R' ok hi hy => ?_⟩
  obtain ⟨rfl, c, e, rfl⟩ := hy
  exact ⟨.str ⟨#[c]⟩, G', by unfold signsOf; simp [e], Same.refl _, R', rfl⟩
theorem di_seq (he : DE X G0 e te ae) : DI X G0 tg e (iSeq X.K te) (aiSeq ae) := ⟨pi_seq he.pe, fun σ H M G δ W N s0 R S h k => by
  refine he.sim σ H _ G δ W _ s0 R S h fun x d G1 H1 W1 s1 R1 d1 h1 => ?_
  cases d with
  | tup ds =>
    obtain ⟨a, vs, rfl, ha, qa⟩ := d1
    exact .inr (.inl ⟨a, rfl, ⟨vs, SqT.of (R1.tup ha)⟩, k _ ds _ G1 H1 W1 s1 R1 (walks_tup ha qa) h1⟩)
  | str z => exact .inr (.inr ⟨z, d1, k _ _ _ G1 H1 W1 s1 R1 walks_str h1⟩)
  | lst ds =>
    obtain ⟨es, e1, q⟩ := h1
    obtain ⟨a, vs, rfl, ha, qa⟩ := lstRd_at R1 d1 e1
    exact .inl ⟨a, rfl, ⟨vs, ha⟩, k _ es _ G1 H1 W1 s1 R1 (walks_list R1 d1 e1) q⟩
  | flst ds =>
    obtain ⟨es, e1, q⟩ := h1
    obtain ⟨a, vs, rfl, ha, qa⟩ := lstRd_at R1 d1 e1
    exact .inl ⟨a, rfl, ⟨vs, ha⟩, k _ es _ G1 H1 W1 s1 R1 (walks_list R1 d1 e1) q⟩
  | ptr l =>
    obtain ⟨es, e1, q⟩ := h1
    obtain ⟨a, vs, rfl, ha, qa⟩ := lstRd_at R1 d1 e1
    exact .inl ⟨a, rfl, ⟨vs, ha⟩, k _ es _ G1 H1 W1 s1 R1 (walks_list R1 d1 e1) q⟩
  | non => obtain ⟨es, e1, q⟩ := h1; cases e1
  | bl _ => obtain ⟨es, e1, q⟩ := h1; cases e1
  | int _ => obtain ⟨es, e1, q⟩ := h1; cases e1
  | ty _ => obtain ⟨es, e1, q⟩ := h1; cases e1
  | dk _ => obtain ⟨es, e1, q⟩ := h1; cases e1
  | dt _ => obtain ⟨es, e1, q⟩ := h1; cases e1
  | fobj _ _ => obtain ⟨es, e1, q⟩ := h1; cases e1⟩

/-! ### range -/
def rangeD (lo : Int) (n : Nat) : List D := (List.range n).map fun i => D.int (lo + (i : Nat))
theorem rangeD_length (lo : Int) (n : Nat) : (rangeD lo n).length = n := by unfold rangeD; rw [List.length_map, List.length_range]
theorem walks_range {K : PySem.W.Frag} {G : Hp} {lo : Int} {n : Nat} : Walks K G (Itr lo n) (rangeD lo n) (fun _ => True) := by
  refine ⟨fun i G' H' W' s R' ok hi => by rw [rangeD_length] at hi; exact hi, fun i G' H' W' s R' ok hi => by rw [rangeD_length] at hi; exact hi, fun i G' H' W' x H2 s R' ok hi hy => ?_⟩
  obtain ⟨rfl, rfl⟩ := hy
  rw [rangeD_length] at hi
  exact ⟨.int (lo + (i : Nat)), G', by unfold rangeD; simp [hi], Same.refl _, R', rfl⟩
variable {ta : L2.TA} {aa : AA} {a b c : Expr}
def aiRng1 (t : AA) : AI := fun δ W N => t δ W fun ds W1 => ∃ j : Int, ds = [.int j] ∧ (-(2 ^ 62) ≤ j ∧ j < 2 ^ 62) ∧ N (rangeD 0 j.toNat) (fun _ => True) W1
def aiRng2 (t : AA) : AI := fun δ W N => t δ W fun ds W1 => ∃ i j : Int, ds = [.int i, .int j] ∧ (-(2 ^ 62) ≤ i ∧ i < 2 ^ 62 ∧ -(2 ^ 62) ≤ j ∧ j < 2 ^ 62) ∧ N (rangeD i (j - i).toNat) (fun _ => True) W1
theorem di_range1 (hg : Gl X "range") (hm : X.mg "range" = none) (ha : DA X G0 [a] ta aa) (hs : starEach [a] X.env = [(false, eval a X.env)] := by rfl) : DI X G0 tg (.Call (.Name "range" p) [a] [] pos) (iRng1 ta) (aiRng1 aa) := ⟨pi_range1 hg hm ha.pa hs, fun σ H M G δ W N s0 R S h k => by
  refine ha.sim σ H _ G δ W _ s0 R S h fun vs ds G1 H1 W1 s1 R1 d1 h1 => ?_
  obtain ⟨j, rfl, ⟨b1, b2⟩, q⟩ := h1
  obtain ⟨v, rfl, hv⟩ := one_of d1
  cases (show v = _ from hv)
  exact ⟨j, rfl, b1, b2, k _ _ _ G1 H1 W1 s1 R1 walks_range q⟩⟩
theorem di_range2 (hg : Gl X "range") (hm : X.mg "range" = none) (ha : DA X G0 [a, b] ta aa) (hs : starEach [a, b] X.env = [(false, eval a X.env), (false, eval b X.env)] := by rfl) (hs2 : starEach [b] X.env = [(false, eval b X.env)] := by rfl) : DI X G0 tg (.Call (.Name "range" p) [a, b] [] pos) (iRng2 ta) (aiRng2 aa) := ⟨pi_range2 hg hm ha.pa hs hs2, fun σ H M G δ W N s0 R S h k => by
  refine ha.sim σ H _ G δ W _ s0 R S h fun vs ds G1 H1 W1 s1 R1 d1 h1 => ?_
  obtain ⟨i, j, rfl, bs, q⟩ := h1
  obtain ⟨v, u, rfl, hv, hu⟩ := two_of d1
  cases (show v = _ from hv)
  cases (show u = _ from hu)
  exact ⟨i, j, rfl, bs, k _ _ _ G1 H1 W1 s1 R1 walks_range q⟩⟩

/-! ### comprehensions -/
def wipeD (δ : Sl) : List Nat → Sl
  | [] => δ
  | v :: vs => (wipeD δ vs).set v none
theorem wipeD_length (δ : Sl) : ∀ vs : List Nat, (wipeD δ vs).length = δ.length
  | [] => rfl
  | v :: vs => by unfold wipeD; rw [List.length_set, wipeD_length δ vs]
theorem IsSl.wipe {K : PySem.W.Frag} {G : Hp} {δ : Sl} {σ : L2.St} (S : IsSl K G δ σ) : ∀ vs : List Nat, IsSl K G (wipeD δ vs) (wipe σ vs)
  | [] => S
  | v :: vs => by
    have ih := S.wipe vs
    refine ⟨by unfold wipeD L2.wipe; rw [List.length_set, List.length_set, ih.len], fun i d e => ?_⟩
    unfold wipeD at e
    unfold L2.wipe
    by_cases hi : v = i
    · subst hi
      rw [List.getElem?_set, if_pos rfl] at e
      split at e <;> cases e
    · rw [List.getElem?_set_ne hi] at e ⊢
      exact ih.get i d e
/-- the turns of a comprehension whose list is owned at L -/
def lcL (g : AG) (t : AT) (e : AE) (ok : Wd → Prop) (δ : Sl) (L : Addr) (Q : Wd → Prop) : List D → Wd → Prop
  | [], W => ok W ∧ Q W
  | d :: ds, W => ok W ∧ g d δ W fun δ' W' => t δ' W' fun k W2 => if k = true then e δ' W2 fun y W3 => ∃ acc, W3 L = some (.lst acc) ∧ acc.length < sizeLine ∧ lcL g t e ok δ L Q ds (W3.set L (.lst (acc ++ [y]))) else lcL g t e ok δ L Q ds W2
def lcE (own : Bool) (g : AG) (t : AT) (e : AE) (ok : Wd → Prop) (δ : Sl) (items : List D) (W : Wd) (Q : DQ) : Prop := ∀ L, W L = none → lcL g t e ok δ L (fun W2 => ∃ acc, W2 L = some (.lst acc) ∧ (if own = true then Q (.ptr L) W2 else Q (.lst acc) (W2.del L))) items (W.set L (.lst []))
def aLc (own : Bool) (ai : AI) (g : AG) (t : AT) (e : AE) (vs : List Nat) : AE := fun δ W Q => ai δ W fun items ok W1 => lcE own g t e ok (wipeD δ vs) items W1 Q
def aYes : AT := fun _ W Q => Q true W
theorem sim_lc {K : PySem.W.Frag} {own : Bool} {wi : TI} {ai : AI} {g : TG} {ag : AG} {tt : TT} {at' : AT} {vs : List Nat} (hi : SimI K G0 wi ai) (hg : SimG K G0 g ag) (ht : SimT K G0 tt at') (he : SimE K G0 te ae)
    (hw : ∀ x σ H N, g x (wipe σ vs) H N → g x (wipe σ vs) H fun σ' H' => wipe σ' vs = wipe σ vs ∧ N σ' H') : SimE K G0 (tLc wi g tt te vs) (aLc own ai ag at' ae vs) := fun σ H Q G δ W QD s0 R S h k => by
  refine hi σ H _ G δ W _ s0 R S h fun J items ok G1 H1 W1 s1 R1 wk h1 L hL => ?_
  have q0 := h1 L (R1.freeW hL)
  refine ⟨fun i m H => m = items.length - i ∧ i ≤ items.length ∧ ∃ G2 W2, Same G1 G2 ∧ Rel K G2 H W2 ∧ lcL ag at' ae ok (wipeD δ vs) L (fun W2 => ∃ acc, W2 L = some (.lst acc) ∧ (if own = true then QD (.ptr L) W2 else QD (.lst acc) (W2.del L))) (items.drop i) W2,
    ⟨_, rfl, Nat.zero_le _, G1, _, Same.refl G1, R1.newOwn (m := .lst []) hL ⟨[], rfl, rfl⟩, by simpa using q0⟩, ?_⟩
  rintro i m H2 ⟨rfl, hle, G2, W2, s2, R2, h2⟩
  by_cases hlt : i < items.length
  · rw [List.drop_eq_getElem_cons hlt] at h2
    obtain ⟨hok, q⟩ := h2
    refine .inr ⟨wk.go i G2 H2 W2 s2 R2 hok hlt, fun H' => ∃ G3 W3, Same G1 G3 ∧ Rel K G3 H' W3 ∧ lcL ag at' ae ok (wipeD δ vs) L (fun W2 => ∃ acc, W2 L = some (.lst acc) ∧ (if own = true then QD (.ptr L) W2 else QD (.lst acc) (W2.del L))) (items.drop (i + 1)) W3, fun H' q' => ⟨items.length - (i + 1), by omega, rfl, by omega, q'⟩, fun x H' hy => ?_⟩
    obtain ⟨d, G3, e3, s3, R3, d3⟩ := wk.yld i G2 H2 W2 x H' s2 R2 hok hlt hy
    rw [List.getElem?_eq_getElem hlt] at e3
    cases e3
    have s03 := s0.trans (s1.trans (s2.trans s3))
    refine hw x σ H' _ (hg x _ _ H' _ G3 _ W2 _ s03 R3 ((S.up (s1.trans (s2.trans s3))).wipe vs) d3 q fun σ4 δ4 G4 H4 W4 s4 R4 S4 q4 => ?_)
    refine ht σ4 H4 _ G4 δ4 W4 _ (s03.trans s4) R4 S4 q4 fun b G5 H5 W5 s5 R5 q5 => ?_
    cases b with
    | false => exact iteF ⟨G5, W5, s2.trans (s3.trans (s4.trans s5)), R5, by simpa using q5⟩
    | true =>
      refine iteT (he σ4 H5 _ G5 δ4 W5 _ (s03.trans (s4.trans s5)) R5 (S4.up s5) (by simpa using q5) fun y dy G6 H6 W6 s6 R6 d6 h6 => ?_)
      obtain ⟨acc, e6, z6, q6⟩ := h6
      obtain ⟨_, o, e7, us, e8, e9⟩ := R6.own _ _ e6
      subst e8
      refine ⟨us, e7, by rw [← e9.length]; exact z6, G6, _, s2.trans (s3.trans (s4.trans (s5.trans s6))), R6.put (m := .lst (acc ++ [dy])) e6 ⟨us ++ [y], rfl, e9.append ⟨y, [], rfl, d6, rfl⟩⟩, q6⟩
  · have e : i = items.length := by omega
    subst e
    rw [List.drop_length] at h2
    obtain ⟨hok, acc, e2, q⟩ := h2
    refine .inl ⟨wk.stop _ G2 H2 W2 s2 R2 hok (Nat.le_refl _), ?_⟩
    cases own with
    | true => exact (k.up (s1.trans s2)).here (d := .ptr L) R2 rfl (by simpa using q)
    | false =>
      obtain ⟨o, e7, ⟨us, e8, e9⟩, s3, R3⟩ := R2.freeze e2
      subst e8
      exact k _ (.lst acc) _ _ _ (s1.trans (s2.trans s3)) R3 ⟨L, us, rfl, upd_same, IsDs.up s3 _ _ e9⟩ (by simpa using q)
theorem wipe_name {i : Nat} (x : V) (σ : L2.St) (H : Hp) (N : L2.St → Hp → Prop) (h : gName i x (wipe σ [i]) H N) : gName i x (wipe σ [i]) H fun σ' H' => wipe σ' [i] = wipe σ [i] ∧ N σ' H' := ⟨by simp [L2.wipe], h⟩
theorem wipe_two {K : PySem.W.Frag} {i j : Nat} (x : V) (σ : L2.St) (H : Hp) (N : L2.St → Hp → Prop) (h : gTup K 2 (gCons (gName i) (gCons (gName j) gNil)) x (wipe σ [i, j]) H N) :
    gTup K 2 (gCons (gName i) (gCons (gName j) gNil)) x (wipe σ [i, j]) H fun σ' H' => wipe σ' [i, j] = wipe σ [i, j] ∧ N σ' H' := by
  obtain ⟨a, xs, e, h1, h2, v, r, e1, v', r', e2, e3, h3⟩ := h
  refine ⟨a, xs, e, h1, h2, v, r, e1, v', r', e2, e3, ?_, h3⟩
  apply List.ext_getElem?
  intro k
  simp only [L2.wipe, List.getElem?_set, List.length_set]
  by_cases h1 : i = k
  · simp [h1]
  · by_cases h2 : j = k
    · simp [h1, h2]
    · simp [h1, h2]
theorem wipe_three {K : PySem.W.Frag} {i j l : Nat} (x : V) (σ : L2.St) (H : Hp) (N : L2.St → Hp → Prop) (h : gTup K 3 (gCons (gName i) (gCons (gName j) (gCons (gName l) gNil))) x (wipe σ [i, j, l]) H N) :
    gTup K 3 (gCons (gName i) (gCons (gName j) (gCons (gName l) gNil))) x (wipe σ [i, j, l]) H fun σ' H' => wipe σ' [i, j, l] = wipe σ [i, j, l] ∧ N σ' H' := by
  obtain ⟨a, xs, e, h1, h2, v, r, e1, v', r', e2, v3, r3, e3, e4, h3⟩ := h
  refine ⟨a, xs, e, h1, h2, v, r, e1, v', r', e2, v3, r3, e3, e4, ?_, h3⟩
  apply List.ext_getElem?
  intro k
  simp only [L2.wipe, List.getElem?_set, List.length_set]
  by_cases h1 : i = k
  · simp [h1]
  · by_cases h2 : j = k
    · simp [h1, h2]
    · by_cases h4 : l = k
      · simp [h1, h2, h4]
      · simp [h1, h2, h4]
/-- the parts of a comprehension's block -/
structure DC (X : Cx) (G0 : Hp) (scope : Scope) (tg : Expr) (ifs : List Expr) (elt : Expr) (g : TG) (tt : TT) (te : TE) (ag : AG) (at' : AT) (ae : AE) : Prop where
  pg : ∀ (s : Shared) (H : Hp) (C : Addr) (cl : List (Str × Addr)) (fp : List Addr), PG (X.blk s H scope (compEnvC scope cl C X.env) fp) tg g
  pt : ∀ (s : Shared) (H : Hp) (C : Addr) (cl : List (Str × Addr)) (fp : List Addr), PTs (X.blk s H scope (compEnvC scope cl C X.env) fp) ifs tt
  pe : ∀ (s : Shared) (H : Hp) (C : Addr) (cl : List (Str × Addr)) (fp : List Addr), PE (X.blk s H scope (compEnvC scope cl C X.env) fp) elt te
  sg : SimG X.K G0 g ag
  st : SimT X.K G0 tt at'
  se : SimE X.K G0 te ae
structure DTs (X : Cx) (G0 : Hp) (es : List Expr) (t : TT) (a : AT) : Prop where
  pt : PTs X es t
  sim : SimT X.K G0 t a
theorem dts_nil : DTs X G0 [] tYes aYes := ⟨pts_nil, fun σ H Q G δ W QD s0 R S h k => k true G H W (Same.refl G) R h⟩
theorem dts_one {c : Expr} {t : TT} {a' : AT} (h : DT X G0 c t a') : DTs X G0 [c] t a' := ⟨pts_one h.pt, h.sim⟩
theorem dc_of {scope : Scope} {ifs : List Expr} {elt : Expr} {g : TG} {tt : TT} {ag : AG} {at' : AT}
    (hg : ∀ (s : Shared) (H : Hp) (C : Addr) (cl : List (Str × Addr)) (fp : List Addr), DG (X.blk s H scope (compEnvC scope cl C X.env) fp) G0 tg g ag)
    (ht : ∀ (s : Shared) (H : Hp) (C : Addr) (cl : List (Str × Addr)) (fp : List Addr), DTs (X.blk s H scope (compEnvC scope cl C X.env) fp) G0 ifs tt at')
    (he : ∀ (s : Shared) (H : Hp) (C : Addr) (cl : List (Str × Addr)) (fp : List Addr), DE (X.blk s H scope (compEnvC scope cl C X.env) fp) G0 elt te ae) : DC X G0 scope tg ifs elt g tt te ag at' ae :=
  ⟨fun s H C cl fp => (hg s H C cl fp).pg, fun s H C cl fp => (ht s H C cl fp).pt, fun s H C cl fp => (he s H C cl fp).pe, (hg X.s_0 X.H_0 0 [] []).sim, (ht X.s_0 X.H_0 0 [] []).sim, (he X.s_0 X.H_0 0 [] []).sim⟩
theorem de_lc (own' : Bool) {elt iter : Expr} {ifs : List Expr} {scope : Scope} {own : List (Str × Nat)} {wi : TI} {ai : AI} {g : TG} {tt : TT} {ag : AG} {at' : AT} (hc : X.calm = true) (hN : X.N.Nodup) (hi : DI X G0 tg iter wi ai) (ok : BlkOk X.N X.env.scope scope own)
    (hd : DC X G0 scope tg ifs elt g tt te ag at' ae) (hw : ∀ x σ H N, g x (wipe σ (own.map (·.2))) H N → g x (wipe σ (own.map (·.2))) H fun σ' H' => wipe σ' (own.map (·.2)) = wipe σ (own.map (·.2)) ∧ N σ' H') (hs : ∀ x, foldedSetIterable iter X.env x = pure x := by intro _; rfl) :
    DE X G0 (.ListComp elt [⟨tg, iter, ifs, 0⟩] scope pos) (tLc wi g tt te (own.map (·.2))) (aLc own' ai ag at' ae (own.map (·.2))) := ⟨pe_lc hc hN hi.pi ok hd.pg hd.pt hd.pe hs, sim_lc hi.sim hd.sg hd.st hd.se hw⟩
theorem ds_setLc (own' : Bool) {i : Nat} {y : Str} {py : Pos} {elt iter : Expr} {ifs : List Expr} {scope : Scope} {own : List (Str × Nat)} {spos : Pos} {wi : TI} {ai : AI} {g : TG} {tt : TT} {ag : AG} {at' : AT} (hc : X.calm = true) (hN : X.N.Nodup) (hy : X.N[i]? = some y) (hyl : X.env.scope.names.lookup y = some .local)
    (hsw : swapsWith (.ListComp elt [⟨tg, iter, ifs, 0⟩] scope pos) (some (.Name y py)) spos.line X.env = pure true) (hi : DI X G0 tg iter wi ai) (ok : BlkOk X.N X.env.scope scope own)
    (hd : DC X G0 scope tg ifs elt g tt te ag at' ae) (hw : ∀ x σ H N, g x (wipe σ (own.map (·.2))) H N → g x (wipe σ (own.map (·.2))) H fun σ' H' => wipe σ' (own.map (·.2)) = wipe σ (own.map (·.2)) ∧ N σ' H') (hs : ∀ x, foldedSetIterable iter X.env x = pure x := by intro _; rfl) :
    DS X G0 (.Assign [.Name y py] (.ListComp elt [⟨tg, iter, ifs, 0⟩] scope pos) spos) (tAsg (tLc wi g tt te (own.map (·.2))) (gName i)) (aAsg (aLc own' ai ag at' ae (own.map (·.2))) (agName i)) :=
  ⟨ps_setLc hc hN hy hyl hsw hi.pi ok hd.pg hd.pt hd.pe hs, sim_asg (sim_lc hi.sim hd.sg hd.st hd.se hw) fun x d σ H M G δ W N s0 R S hd h k => k _ _ G H W (Same.refl G) R (S.set i hd) h⟩
end
end DL

/-! DL6: methods of lists and texts, stores, calls of the text's own defs, a def's promise, the law's end. -/
namespace DL
open PySem PySem.Spec PyProof.Rows L2
abbrev RDM := D → List D → Wd → DQ → Prop
def SimM (K : PySem.W.Frag) (r : V → List V → Hp → VK → Prop) (a : RDM) : Prop := ∀ G H W x dx xs ds Q QD, Rel K G H W → IsD K G dx x → IsDs K G ds xs → a dx ds W QD → Kont K G QD Q → r x xs H Q
section
variable {X : Cx} {G0 : Hp} {o e : Expr} {es : List Expr} {to te : TE} {ao ae : AE} {t : L2.TA} {at' : AA} {name : Str} {apos cpos pos : Pos} {T id : String} {r : V → List V → Hp → VK → Prop} {rd : RDM}
def aBM (ty : D → Wd → Prop) (r : RDM) (o : AE) (t : AA) : AE := fun δ W Q => o δ W fun x W1 => ty x W1 ∧ t δ W1 fun ds W2 => r x ds W2 Q
theorem sim_bm {K : PySem.W.Frag} {ty : D → Wd → Prop} (hty : ∀ G H W d v, Rel K G H W → IsD K G d v → ty d W → tyV K T v H) (hr : SimM K r rd) (ho : SimE K G0 to ao) (ht : SimA K G0 t at') : SimE K G0 (tBM K T r to t) (aBM ty rd ao at') := fun σ H Q G δ W QD s0 R S h k => by
  refine ho σ H _ G δ W _ s0 R S h fun x dx G1 H1 W1 s1 R1 d1 h1 => ⟨hty G1 H1 W1 dx x R1 d1 h1.1, ?_⟩
  refine ht σ H1 _ G1 δ W1 _ (s0.trans s1) R1 (S.up s1) h1.2 fun xs ds G2 H2 W2 s2 R2 d2 h2 => ?_
  exact hr G2 H2 W2 x dx xs ds Q QD R2 (IsD.up s2 _ _ d1) d2 h2 (k.up (s1.trans s2))
theorem sim_bm0 {K : PySem.W.Frag} {ty : D → Wd → Prop} (hty : ∀ G H W d v, Rel K G H W → IsD K G d v → ty d W → tyV K T v H) (hr : SimM K r rd) (ho : SimE K G0 to ao) : SimE K G0 (tBM0 K T r to) (aBM ty rd ao aNil) := fun σ H Q G δ W QD s0 R S h k => by
  refine ho σ H _ G δ W _ s0 R S h fun x dx G1 H1 W1 s1 R1 d1 h1 => ⟨hty G1 H1 W1 dx x R1 d1 h1.1, ?_⟩
  exact hr G1 H1 W1 x dx [] [] Q QD R1 d1 rfl h1.2 (k.up s1)
def tyL : D → Wd → Prop := fun d W => ∃ ds, lstRd W d = some ds
theorem tyL_ok {K : PySem.W.Frag} (G H : Hp) (W : Wd) (d : D) (v : V) (R : Rel K G H W) (hd : IsD K G d v) (h : tyL d W) : tyV K "list" v H := by
  obtain ⟨ds, e⟩ := h
  obtain ⟨a, vs, rfl, ha, _⟩ := lstRd_at R hd e
  exact .inl ⟨rfl, vs, ha⟩
theorem de_lm (slot : Slot "list" name id) (hty : typeOf (.builtin id) = pure (.type "method_descriptor")) (hm : MtR X id r) (hr : SimM X.K r rd) (ho : DE X G0 o to ao) (ha : DA X G0 (e :: es) t at')
    (hbase : attributeBase o name X.env (eval o X.env) = eval o X.env := by rfl)
    (hfew : ((backTo cpos (starEach (e :: es) X.env)).all (fun x => !x.1) && (backToKw cpos (keywordEach [] X.env)).all (fun x => x.1.isSome) && decide ((e :: es).length + ([] : List Keyword).length + (if ([] : List Keyword).isEmpty then 0 else 1) < 30)) = true := by rfl)
    (hline : (apos.endLine == cpos.line) = true := by rfl) (hs : starEach (e :: es) X.env = (false, eval e X.env) :: starEach es X.env := by rfl) (hplain : (backTo cpos (starEach es X.env)).any (·.1) = false := by rfl) :
    DE X G0 (.Call (.Attribute o name apos) (e :: es) [] cpos) (tBM X.K "list" r to t) (aBM tyL rd ao at') := ⟨pe_bm PySem.F.plainAttrs_list slot hty hm ho.pe ha.pa hbase hfew hline hs hplain, sim_bm tyL_ok hr ho.sim ha.sim⟩
theorem de_lm0 (slot : Slot "list" name id) (hty : typeOf (.builtin id) = pure (.type "method_descriptor")) (hm : MtR X id r) (hr : SimM X.K r rd) (ho : DE X G0 o to ao)
    (hbase : attributeBase o name X.env (eval o X.env) = eval o X.env := by rfl) (hline : (apos.endLine == cpos.line) = true := by rfl) :
    DE X G0 (.Call (.Attribute o name apos) [] [] cpos) (tBM0 X.K "list" r to) (aBM tyL rd ao aNil) := ⟨pe_bm0 PySem.F.plainAttrs_list slot hty hm ho.pe hbase hline, sim_bm0 tyL_ok hr ho.sim⟩
/-! lists -/
def dAppend : RDM := fun x vs W Q => ∃ l ds d, x = .ptr l ∧ vs = [d] ∧ W l = some (.lst ds) ∧ ds.length < sizeLine ∧ Q .non (W.set l (.lst (ds ++ [d])))
def dExtend : RDM := fun x vs W Q => ∃ l ds d es, x = .ptr l ∧ vs = [d] ∧ W l = some (.lst ds) ∧ lstOf W d = some es ∧ ds.length + es.length ≤ sizeLine ∧ Q .non (W.set l (.lst (ds ++ es)))
def dPop : RDM := fun x vs W Q => ∃ l ds d, x = .ptr l ∧ vs = [] ∧ W l = some (.lst ds) ∧ ds[ds.length - 1]? = some d ∧ Q d (W.set l (.lst ds.dropLast))
def dInsert : RDM := fun x vs W Q => ∃ l ds i d, x = .ptr l ∧ vs = [.int i, d] ∧ W l = some (.lst ds) ∧ ds.length < sizeLine ∧ 0 ≤ i ∧ i < 2 ^ 63 ∧ Q .non (W.set l (.lst (ds.take i.toNat ++ [d] ++ ds.drop i.toNat)))
theorem owned_at {K : PySem.W.Frag} {G H : Hp} {W : Wd} {l : Addr} {ds : List D} (R : Rel K G H W) (h : W l = some (.lst ds)) : ∃ vs, H l = some (.lst vs) ∧ IsDs K G ds vs := by
  obtain ⟨_, o, e1, vs, e2, e3⟩ := R.own _ _ h
  subst e2
  exact ⟨vs, e1, e3⟩
theorem sm_append {K : PySem.W.Frag} : SimM K rAppend dAppend := fun G H W x dx xs ds Q QD R hx hds h k => by
  obtain ⟨l, cs, d, rfl, rfl, hw, z, q⟩ := h
  obtain ⟨v, rfl, hv⟩ := one_of hds
  obtain ⟨vs, e1, e3⟩ := owned_at R hw
  cases (show x = _ from hx)
  exact ⟨l, vs, v, rfl, rfl, e1, by rw [← e3.length]; exact z, k _ .non _ _ _ (Same.refl G) (R.put (m := .lst (cs ++ [d])) hw ⟨_, rfl, e3.append ⟨v, [], rfl, hv, rfl⟩⟩) rfl q⟩
theorem sm_extend {K : PySem.W.Frag} : SimM K rExtend dExtend := fun G H W x dx xs ds Q QD R hx hds h k => by
  obtain ⟨l, cs, d, es, rfl, rfl, hw, he, z, q⟩ := h
  obtain ⟨v, rfl, hv⟩ := one_of hds
  obtain ⟨vs, e1, e3⟩ := owned_at R hw
  obtain ⟨b, us, rfl, hb, qb⟩ := lstOf_at R hv he
  cases (show x = _ from hx)
  exact ⟨l, b, vs, us, rfl, rfl, e1, hb, by rw [← e3.length, ← qb.length]; exact z, k _ .non _ _ _ (Same.refl G) (R.put (m := .lst (cs ++ es)) hw ⟨_, rfl, e3.append qb⟩) rfl q⟩
theorem IsDs.dropLast {K : PySem.W.Frag} {G : Hp} {ds : List D} {vs : List V} (h : IsDs K G ds vs) : IsDs K G ds.dropLast vs.dropLast := by
  rw [List.dropLast_eq_take, List.dropLast_eq_take, h.length]
  exact h.take _
theorem sm_pop {K : PySem.W.Frag} : SimM K rPop dPop := fun G H W x dx xs ds Q QD R hx hds h k => by
  obtain ⟨l, cs, d, rfl, rfl, hw, e, q⟩ := h
  cases hds
  obtain ⟨vs, e1, e3⟩ := owned_at R hw
  cases (show x = _ from hx)
  obtain ⟨v, e4, hv⟩ := e3.get e
  exact ⟨l, vs, v, rfl, rfl, e1, by rw [← e3.length]; exact e4, k _ d _ _ _ (Same.refl G) (R.put (m := .lst cs.dropLast) hw ⟨_, rfl, e3.dropLast⟩) hv q⟩
theorem sm_insert {K : PySem.W.Frag} : SimM K (fun x vs H Q => ∃ (l : Addr) (xs : List V) (i : Int) (y : V), x = .ref l ∧ vs = [.int i, y] ∧ H l = some (.lst xs) ∧ xs.length < sizeLine ∧ 0 ≤ i ∧ i < 2 ^ 63 ∧ Q .non (upd H l (.lst (xs.take i.toNat ++ [y] ++ xs.drop i.toNat)))) dInsert := fun G H W x dx xs ds Q QD R hx hds h k => by
  obtain ⟨l, cs, i, d, rfl, rfl, hw, z, i0, i1, q⟩ := h
  obtain ⟨u, v, rfl, hu, hv⟩ := two_of hds
  obtain ⟨vs, e1, e3⟩ := owned_at R hw
  cases (show x = _ from hx)
  cases (show u = _ from hu)
  exact ⟨l, vs, i, v, rfl, rfl, e1, by rw [← e3.length]; exact z, i0, i1, k _ .non _ _ _ (Same.refl G) (R.put (m := .lst (cs.take i.toNat ++ [d] ++ cs.drop i.toNat)) hw ⟨_, rfl, ((e3.take _).append (es := [d]) (us := [v]) ⟨v, [], rfl, hv, rfl⟩).append (e3.drop _)⟩) rfl q⟩
theorem de_append (ho : DE X G0 o to ao) (ha : DA X G0 [e] t at') (hbase : attributeBase o "append" X.env (eval o X.env) = eval o X.env := by rfl)
    (hfew : ((backTo cpos (starEach [e] X.env)).all (fun x => !x.1) && (backToKw cpos (keywordEach [] X.env)).all (fun x => x.1.isSome) && decide ([e].length + ([] : List Keyword).length + (if ([] : List Keyword).isEmpty then 0 else 1) < 30)) = true := by rfl)
    (hline : (apos.endLine == cpos.line) = true := by rfl) (hs : starEach [e] X.env = (false, eval e X.env) :: starEach [] X.env := by rfl) :
    DE X G0 (.Call (.Attribute o "append" apos) [e] [] cpos) (tBM X.K "list" rAppend to t) (aBM tyL dAppend ao at') := de_lm PySem.F.slot_list_append PySem.F.type_list_append mt_append sm_append ho ha hbase hfew hline hs rfl
theorem de_extend (ho : DE X G0 o to ao) (ha : DA X G0 [e] t at') (hbase : attributeBase o "extend" X.env (eval o X.env) = eval o X.env := by rfl)
    (hfew : ((backTo cpos (starEach [e] X.env)).all (fun x => !x.1) && (backToKw cpos (keywordEach [] X.env)).all (fun x => x.1.isSome) && decide ([e].length + ([] : List Keyword).length + (if ([] : List Keyword).isEmpty then 0 else 1) < 30)) = true := by rfl)
    (hline : (apos.endLine == cpos.line) = true := by rfl) (hs : starEach [e] X.env = (false, eval e X.env) :: starEach [] X.env := by rfl) :
    DE X G0 (.Call (.Attribute o "extend" apos) [e] [] cpos) (tBM X.K "list" rExtend to t) (aBM tyL dExtend ao at') := de_lm PySem.F.slot_list_extend PySem.F.type_list_extend mt_extend sm_extend ho ha hbase hfew hline hs rfl
theorem de_pop (ho : DE X G0 o to ao) (hbase : attributeBase o "pop" X.env (eval o X.env) = eval o X.env := by rfl) (hline : (apos.endLine == cpos.line) = true := by rfl) :
    DE X G0 (.Call (.Attribute o "pop" apos) [] [] cpos) (tBM0 X.K "list" rPop to) (aBM tyL dPop ao aNil) := de_lm0 PySem.F.slot_list_pop PySem.F.type_list_pop mt_pop sm_pop ho hbase hline
/-! texts -/
def aM1 (r : RDM) (o a : AE) : AE := fun δ W Q => o δ W fun x W1 => (∃ z, x = .str z) ∧ a δ W1 fun y W2 => r x [y] W2 Q
def dJoin : RDM := fun x vs W Q => ∃ a d ys, x = .str a ∧ vs = [d] ∧ (lstRd W d = some (ys.map D.str) ∨ d = .tup (ys.map D.str)) ∧ (ys.map (·.length)).sum + ys.length * a.length ≤ 16777216 ∧ Q (.str (Txt.join a ys)) W
def rJoinA (K : PySem.W.Frag) : V → List V → Hp → VK → Prop := fun x xs H Q => ∃ a p, ∃ ys : List Str, x = .str a ∧ xs = [.ref p] ∧ (SqL K H p (ys.map V.str) ∨ SqT K H p (ys.map V.str)) ∧ (ys.map (·.length)).sum + ys.length * a.length ≤ 16777216 ∧ Q (.str (Txt.join a ys)) H
theorem sm_join {K : PySem.W.Frag} : SimM K (rJoinA K) dJoin := fun G H W x dx xs ds Q QD R hx hds h k => by
  obtain ⟨a, d, ys, rfl, rfl, hd, z, q⟩ := h
  obtain ⟨v, rfl, hv⟩ := one_of hds
  cases (show x = _ from hx)
  rcases hd with hd | rfl
  · obtain ⟨p, vs, rfl, hp, qp⟩ := lstRd_at R hv hd
    cases IsDs.strs.mp qp
    exact ⟨a, p, ys, rfl, rfl, .inl hp, z, k.here (d := .str _) R rfl q⟩
  · obtain ⟨p, vs, rfl, hp, qp⟩ := hv
    cases IsDs.strs.mp qp
    exact ⟨a, p, ys, rfl, rfl, .inr (SqT.of (R.tup hp)), z, k.here (d := .str _) R rfl q⟩
theorem sim_m1 {K : PySem.W.Frag} (hr : SimM K r rd) (ho : SimE K G0 to ao) (ha : SimE K G0 te ae) : SimE K G0 (tM1 r to te) (aM1 rd ao ae) := fun σ H Q G δ W QD s0 R S h k => by
  refine ho σ H _ G δ W _ s0 R S h fun x dx G1 H1 W1 s1 R1 d1 h1 => ?_
  obtain ⟨⟨z, rfl⟩, q⟩ := h1
  refine ⟨⟨z, d1⟩, ?_⟩
  refine ha σ H1 _ G1 δ W1 _ (s0.trans s1) R1 (S.up s1) q fun y dy G2 H2 W2 s2 R2 d2 h2 => ?_
  exact hr G2 H2 W2 x (.str z) [y] [dy] Q QD R2 (IsD.up s2 _ _ d1) ⟨y, [], rfl, d2, rfl⟩ h2 (k.up (s1.trans s2))
theorem de_join (ho : DE X G0 o to ao) (he : DE X G0 e te ae) (hs : starEach [e] X.env = [(false, eval e X.env)] := by rfl) (hbase : attributeBase o "join" X.env (eval o X.env) = eval o X.env := by rfl) (hline : (apos.endLine == pos.line) = true := by rfl) :
    DE X G0 (.Call (.Attribute o "join" apos) [e] [] pos) (tM1 (rJoinA X.K) to te) (aM1 dJoin ao ae) := ⟨pe_join ho.pe he.pe hs hbase hline, sim_m1 sm_join ho.sim he.sim⟩

/-! ### stores xs[i] = v, d[k] = v -/
def dput {κ α : Type} [DecidableEq κ] (kds : List (κ × α)) (k : κ) (v : α) : List (κ × α) :=
  if (kds.any fun kv => decide (kv.1 = k)) = true then kds.map (fun kv => if kv.1 = k then (kv.1, v) else kv) else kds ++ [(k, v)]
def rSetD : TSet := fun o i v H Q => ∃ a H', o = .ref a ∧ DPut H a i v H' ∧ Q H'
theorem set_dict (hu : X.A.units + 1 < cLine) : PSet X rSetD := fun pins s σ H o i v ov iv u Q I ro ri rv h => by
  obtain ⟨a, H', rfl, g, q⟩ := h
  cases ro
  exact d_setItem hu I g ri rv fun s' I' => ⟨H', I', q⟩
def rSetA : TSet := fun o i v H Q => rSetL o i v H Q ∨ rSetD o i v H Q
theorem set_all (hu : X.A.units + 1 < cLine) : PSet X rSetA := fun pins s σ H o i v ov iv u Q I ro ri rv h => by
  rcases h with h | h
  · exact set_list pins s σ H o i v ov iv u Q I ro ri rv h
  · exact set_dict hu pins s σ H o i v ov iv u Q I ro ri rv h
def dSet : DSet := fun o i v W N => ∃ l, o = .ptr l ∧ ((∃ ds k j, W l = some (.lst ds) ∧ i = .int k ∧ ixN ds.length k = some j ∧ N (W.set l (.lst (ds.set j v)))) ∨
  (∃ kds k, W l = some (.dk kds) ∧ keyOf i = some k ∧ kds.length < sizeLine ∧ N (W.set l (.dk (dput kds k v)))) ∨
  (∃ kds ks k, W l = some (.dt kds) ∧ i = .tup ks ∧ keysOf ks = some k ∧ kds.length < sizeLine ∧ N (W.set l (.dt (dput kds k v)))))
theorem IsKs.any {K : PySem.W.Frag} {G : Hp} (k : Key) : ∀ {kds : List (Key × D)} {kvs : List (Key × V)}, IsKs K G kds kvs → (kds.any fun kv => decide (kv.1 = k)) = (kvs.any fun kv => decide (kv.1 = k))
  | [], _, h => by cases h; rfl
  | (k', d) :: r, _, h => by
    obtain ⟨v, r', rfl, h1, h2⟩ := h
    rw [List.any_cons, List.any_cons, h2.any k]
theorem IsTs.any {K : PySem.W.Frag} {G : Hp} (k : List Key) : ∀ {kds : List (List Key × D)} {kvs : List (List Key × V)}, IsTs K G kds kvs → (kds.any fun kv => decide (kv.1 = k)) = (kvs.any fun kv => decide (kv.1 = k))
  | [], _, h => by cases h; rfl
  | (k', d) :: r, _, h => by
    obtain ⟨v, r', rfl, h1, h2⟩ := h
    rw [List.any_cons, List.any_cons, h2.any k]
theorem IsKs.app {K : PySem.W.Frag} {G : Hp} {d : D} {v : V} (k : Key) (hd : IsD K G d v) : ∀ {kds : List (Key × D)} {kvs : List (Key × V)}, IsKs K G kds kvs → IsKs K G (kds ++ [(k, d)]) (kvs ++ [(k, v)])
  | [], _, h => by cases h; exact ⟨v, [], rfl, hd, rfl⟩
  | (k', d') :: r, _, h => by
    obtain ⟨v', r', rfl, h1, h2⟩ := h
    exact ⟨v', _, rfl, h1, h2.app k hd⟩
theorem IsTs.app {K : PySem.W.Frag} {G : Hp} {d : D} {v : V} (k : List Key) (hd : IsD K G d v) : ∀ {kds : List (List Key × D)} {kvs : List (List Key × V)}, IsTs K G kds kvs → IsTs K G (kds ++ [(k, d)]) (kvs ++ [(k, v)])
  | [], _, h => by cases h; exact ⟨v, [], rfl, hd, rfl⟩
  | (k', d') :: r, _, h => by
    obtain ⟨v', r', rfl, h1, h2⟩ := h
    exact ⟨v', _, rfl, h1, h2.app k hd⟩
theorem IsKs.map {K : PySem.W.Frag} {G : Hp} {d : D} {v : V} (k : Key) (hd : IsD K G d v) : ∀ {kds : List (Key × D)} {kvs : List (Key × V)}, IsKs K G kds kvs → IsKs K G (kds.map fun kv => if kv.1 = k then (kv.1, d) else kv) (kvs.map fun kv => if kv.1 = k then (kv.1, v) else kv)
  | [], _, h => by cases h; rfl
  | (k', d') :: r, _, h => by
    obtain ⟨v', r', rfl, h1, h2⟩ := h
    rw [List.map_cons, List.map_cons]
    by_cases e : k' = k
    · rw [if_pos e, if_pos e]
      exact ⟨v, _, rfl, hd, h2.map k hd⟩
    · rw [if_neg e, if_neg e]
      exact ⟨v', _, rfl, h1, h2.map k hd⟩
theorem IsTs.map {K : PySem.W.Frag} {G : Hp} {d : D} {v : V} (k : List Key) (hd : IsD K G d v) : ∀ {kds : List (List Key × D)} {kvs : List (List Key × V)}, IsTs K G kds kvs → IsTs K G (kds.map fun kv => if kv.1 = k then (kv.1, d) else kv) (kvs.map fun kv => if kv.1 = k then (kv.1, v) else kv)
  | [], _, h => by cases h; rfl
  | (k', d') :: r, _, h => by
    obtain ⟨v', r', rfl, h1, h2⟩ := h
    rw [List.map_cons, List.map_cons]
    by_cases e : k' = k
    · rw [if_pos e, if_pos e]
      exact ⟨v, _, rfl, hd, h2.map k hd⟩
    · rw [if_neg e, if_neg e]
      exact ⟨v', _, rfl, h1, h2.map k hd⟩
theorem IsKs.put {K : PySem.W.Frag} {G : Hp} {d : D} {v : V} (k : Key) (hd : IsD K G d v) {kds : List (Key × D)} {kvs : List (Key × V)} (h : IsKs K G kds kvs) : IsKs K G (dput kds k d) (putK kvs k v) := by
  unfold dput putK
  rw [h.any k]
  split
  · exact h.map k hd
  · exact h.app k hd
theorem IsTs.put {K : PySem.W.Frag} {G : Hp} {d : D} {v : V} (k : List Key) (hd : IsD K G d v) {kds : List (List Key × D)} {kvs : List (List Key × V)} (h : IsTs K G kds kvs) : IsTs K G (dput kds k d) (putK kvs k v) := by
  unfold dput putK
  rw [h.any k]
  split
  · exact h.map k hd
  · exact h.app k hd
theorem set_sim {K : PySem.W.Frag} : SimSet K rSetA dSet := fun G H W o i v d e f M N R ho hi hv h k => by
  obtain ⟨l, rfl, h⟩ := h
  cases (show o = _ from ho)
  rcases h with ⟨ds, j, n, hw, rfl, e1, q⟩ | ⟨kds, key, hw, e1, z, q⟩ | ⟨kds, ks, key, hw, rfl, e1, z, q⟩
  · obtain ⟨vs, e2, e3⟩ := owned_at R hw
    cases (show i = _ from hi)
    exact .inl ⟨l, vs, j, n, rfl, rfl, e2, by rw [← e3.length]; exact e1, k _ _ (R.put (m := .lst (ds.set n f)) hw ⟨_, rfl, e3.set hv n⟩) q⟩
  · obtain ⟨_, u, e2, vs, e3, e4⟩ := R.own _ _ hw
    subst e3
    exact .inr ⟨l, _, rfl, .inl ⟨vs, key, e2, keyOf_at hi e1, by rw [← e4.length]; exact z, rfl⟩, k _ _ (R.put (m := .dk (dput kds key f)) hw ⟨_, rfl, e4.put key hv⟩) q⟩
  · obtain ⟨_, u, e2, vs, e3, e4⟩ := R.own _ _ hw
    subst e3
    obtain ⟨b, us, rfl, hb, qb⟩ := hi
    exact .inr ⟨l, _, rfl, .inr ⟨vs, key, b, e2, rfl, by rw [R.tup hb, keysOf_at qb e1], by rw [← e4.length]; exact z, rfl⟩, k _ _ (R.put (m := .dt (dput kds key f)) hw ⟨_, rfl, e4.put key hv⟩) q⟩

/-! ### what a def promises, over data -/
/-- an exception: its class, its own fields -/
abbrev DX := Str → List (Str × D) → Wd → Prop
abbrev SpD := List D → Wd → DQ → DX → Prop
def XD (K : PySem.W.Frag) (G : Hp) (od : Option Addr) (fs : List (Str × D)) : Prop := (fs = [] ∧ od = none) ∨ ∃ a vs, fs ≠ [] ∧ od = some a ∧ G a = some (.xd vs) ∧ IsFs K G fs vs
def LiftX (K : PySem.W.Frag) (G : Hp) (E : XK) (ED : DX) : Prop := ∀ n fs od G' H' W', Same G G' → Rel K G' H' W' → XD K G' od fs → ED n fs W' → E (.ref (He.ga K n)) od H'
def liftSp (K : PySem.W.Frag) (sp : SpD) : Sp := fun vs H Q E => ∃ G W ds QD ED, Rel K G H W ∧ IsDs K G ds vs ∧ sp ds W QD ED ∧ Kont K G QD Q ∧ LiftX K G E ED
theorem LiftX.up {K : PySem.W.Frag} {G G1 : Hp} {E : XK} {ED : DX} (s : Same G G1) (h : LiftX K G E ED) : LiftX K G1 E ED := fun cls fs od G' H' W' s' => h cls fs od G' H' W' (s.trans s')
def ED0 : DX := fun _ _ _ => False
theorem liftX0 {K : PySem.W.Frag} {G : Hp} {E : XK} : LiftX K G E ED0 := fun _ _ _ _ _ _ _ _ _ h => h.elim
variable {CX : CXT} {k : Nat} {f : Addr} {fd : FuncData} {ps : List Str} {sp : SpD} {dvs : List V} {dds : List D} {ds : List Value} {E : XK} {ED : DX} {x : Str} {p : Pos}
def aCall (sp : SpD) (dds : List D) (ED : DX) (t : AA) : AE := fun δ W Q => t δ W fun ds W1 => sp (ds ++ dds) W1 Q ED
theorem sim_call {K : PySem.W.Frag} (hl : LiftX K G0 E ED) (hd : ∀ G, IsDs K G dds dvs) (ht : SimA K G0 t at') : SimE K G0 (tCall (liftSp K sp) dvs E t) (aCall sp dds ED at') := fun σ H Q G δ W QD s0 R S h k => by
  refine ht σ H _ G δ W _ s0 R S h fun vs ds G1 H1 W1 s1 R1 d1 h1 => ?_
  exact ⟨G1, W1, ds ++ dds, QD, ED, R1, d1.append (hd G1), h1, k.up s1, hl.up (s0.trans s1)⟩
theorem de_call (F : FnOk X.prog X.w X.K X.mg X.base CX k f fd ps (liftSp X.K sp)) (hr : Room k X.A) (hg : Gl X x) (hm : X.mg x = some (.ref f)) (hk : PySem.W.keepIn X.K (.ref f) = true) (hb : Binds X.K fd ps ds) (hd : Vals dvs ds) (hdd : ∀ G, IsDs X.K G dds dvs) (hx : Passes CX X E) (hl : LiftX X.K G0 E ED)
    (ha : DA X G0 (e :: es) t at') (hdb : (x == ("__debug__" : Str)) = false := by decide) (he : starEach (e :: es) X.env = (false, eval e X.env) :: starEach es X.env := by rfl) (hpl : (backTo pos (starEach es X.env)).any (·.1) = false := by rfl) :
    DE X G0 (.Call (.Name x p) (e :: es) [] pos) (tCall (liftSp X.K sp) dvs E t) (aCall sp dds ED at') := ⟨pe_call F hr hg hm hk hb hd hx ha.pa hdb he hpl, sim_call hl hdd ha.sim⟩
/-- a call of a def that lets nothing out -/
theorem de_call' (F : FnOk X.prog X.w X.K X.mg X.base CX0 k f fd ps (liftSp X.K sp)) (hr : Room k X.A) (hm : X.mg x = some (.ref f)) (hk : PySem.W.keepIn X.K (.ref f) = true) (hb : Binds X.K fd ps []) (ha : DA X G0 (e :: es) t at') (hg : Gl X x := by rfl)
    (hdb : (x == ("__debug__" : Str)) = false := by decide) (he : starEach (e :: es) X.env = (false, eval e X.env) :: starEach es X.env := by rfl) (hpl : (backTo pos (starEach es X.env)).any (·.1) = false := by rfl) :
    DE X G0 (.Call (.Name x p) (e :: es) [] pos) (tCall (liftSp X.K sp) [] E0 t) (aCall sp [] ED0 at') := de_call F hr hg hm hk hb .nil (fun _ => rfl) pass0 liftX0 ha hdb he hpl
end
def startD (N : List Str) (ds : List D) : Sl := ds.map some ++ List.replicate (N.length - ds.length) none
theorem isSl_start {K : PySem.W.Frag} {G : Hp} {N : List Str} {ds : List D} {vs : List V} (h : IsDs K G ds vs) : IsSl K G (startD N ds) (L2.start N vs) := by
  have hl := h.length
  refine ⟨by unfold startD L2.start; simp [hl], fun i d e => ?_⟩
  unfold startD at e
  unfold L2.start
  by_cases hi : i < ds.length
  · rw [List.getElem?_append_left (by simpa using hi), List.getElem?_map] at e
    rw [List.getElem?_append_left (by simpa [← hl] using hi), List.getElem?_map]
    cases q : ds[i]? with
    | none => rw [q] at e; cases e
    | some d' =>
      rw [q] at e
      cases e
      obtain ⟨v, e2, q2⟩ := h.get q
      exact ⟨v, by rw [e2]; rfl, q2⟩
  · rw [List.getElem?_append_right (by simpa using hi), List.getElem?_replicate] at e
    split at e <;> cases e
section
variable {P : Program} {w : World} {K : PySem.W.Frag} {mg : Str → Option Value} {base : Heap}
/-- a def that lets nothing out keeps its promise -/
theorem okD {x qual : Str} {st : Stmt} {f : Addr} {fd : FuncData} {N ps : List Str} {k : Nat} {sp : SpD} (F : Fun K x qual st f fd) (S : FnScope N ps (defScope st)) (len : ∀ ds W Q E, sp ds W Q E → ds.length = ps.length)
    (hbody : ∀ (cdv : Value) (A : Around) (outer : List Env) (s : Shared) (H : Hp) (E : XK) (G : Hp), Room k (A.deeper (envOfC qual (defScope st) s.heap.objs.size f cdv)) →
      ∃ t a, DSs (cxOf CX0 P w K mg base N qual (defScope st) f cdv A outer s H E).nox G (defBody st) t a ∧ ∀ ds W QD ED, sp ds W QD ED → a { nx := fun _ W' => QD .non W', rt := QD } (startD N ds) W) : FnOk P w K mg base CX0 (k + 1) f fd ps (liftSp K sp) := by
  refine F.ok S (fun vs H Q E h => ?_) (fun cdv A outer s H vs Q E hr h => ?_)
  · obtain ⟨G, W, ds, QD, ED, _, d, h, _⟩ := h
    rw [← d.length]
    exact len _ _ _ _ h
  · obtain ⟨G, W, ds, QD, ED, R, d, h, kt, _⟩ := h
    obtain ⟨t, a, db, hb⟩ := hbody cdv A outer s H E G hr
    refine ⟨t, db.ps, db.sim _ { nx := fun _ W' => QD .non W', rt := QD } _ H G _ W (Same.refl G) R (isSl_start d) ⟨?_, kt, ?_, ?_⟩ (hb ds W QD ED h)⟩
    · exact fun σ δ G' H' W' s' R' S' q => kt _ .non G' H' W' s' R' rfl q
    · exact fun _ _ _ _ _ _ _ _ q => q.elim
    · exact fun _ _ _ _ _ _ _ _ q => q.elim
/-- the law's promise gives what the end asks -/
def spLawD : SpD := fun ds W Q E => ∃ ns : List Int, ds = [.flst (ns.map D.int)] ∧ ns.length ≤ 63 ∧ (∀ l, W l = none) ∧ ∀ W', Q (.bl true) W'
theorem law_end {H : Hp} {a : Addr} {ns : List Int} (hn : ns.length ≤ 63) (hO : Only H) (hS : SqL K H a (ns.map V.int)) : liftSp K spLawD [.ref a] H (fun v _ => v = .bl true) fun _ _ _ => False := by
  refine ⟨H, fun _ => none, [.flst (ns.map D.int)], fun d _ => d = .bl true, ED0, ⟨fun b o e => .inl e, fun l m e => by cases e⟩, ⟨.ref a, [], rfl, ⟨a, _, rfl, ?_, IsDs.ints.mpr rfl⟩, rfl⟩, ⟨ns, rfl, hn, fun _ => rfl, fun _ => rfl⟩, fun v d G' H' W' _ _ h e => by subst e; exact h, liftX0⟩
  rcases hS with (h | ⟨o, h⟩) | h
  · rcases hO a with h' | ⟨o, xs, h'⟩
    · rw [h] at h'; cases h'
    · rw [h] at h'; cases h'
  · exact .inl ⟨o, h⟩
  · exact .inr (.inr h)
end
end DL

/-! DLh: promises that are kept where no built-in repr is under way (so that repr can be told). -/
namespace DL
open PySem PySem.Spec PyProof.Rows L2
structure GR (k : Nat) (A : Around) : Prop where
  rm : Room k A
  gd : A.guards = some []
theorem GR.mono {j k : Nat} {A : Around} (r : GR k A) (h : j ≤ k) : GR j A := ⟨r.rm.mono h, r.gd⟩
theorem GR.deeper {k : Nat} {A : Around} (r : GR (k + 1) A) (env : Env) : GR k (A.deeper env) := ⟨r.rm.deeper env, r.gd⟩
theorem GR.make {k : Nat} {A : Around} (r : GR (k + 1) A) (C : Addr) (us : List Value) (kw : List (Str × Value)) : GR k (A.under (.builtin "type.__call__" ⟨.ref C :: us, kw⟩)) := by
  refine ⟨r.rm.make C us kw, ?_⟩
  have e : (Code.builtin "type.__call__" ⟨.ref C :: us, kw⟩).guards = [] := by simp [Code.guards, Code.isGuard, guardIds]
  have e2 : (A.under (.builtin "type.__call__" ⟨.ref C :: us, kw⟩)).guards = pushGuards (Code.builtin "type.__call__" ⟨.ref C :: us, kw⟩).guards A.guards := by first | rfl | simp [Around.under]
  rw [e2, e, r.gd]; first | rfl | simp [pushGuards]
structure FnG (P : Program) (w : World) (K : PySem.W.Frag) (mg : Str → Option Value) (base : Heap) (CX : CXT) (k : Nat) (f : Addr) (fd : FuncData) (ps : List Str) (sp : Sp) : Prop where
  len : ∀ vs H Q E, sp vs H Q E → vs.length = ps.length
  go : ∀ {A : Around} {outer : List Env} {s : Shared} {H : Hp} {args : Args} {us : List Value} {vs : List V} {Q : VK} {E : XK}, GR k A → Env0 P w K mg base A outer s H → BindsTo s fd args (ps.zip us) → Vals vs us → sp vs H Q E → codeAny (model P w) A (.call (.ref f) args) (CR CX outer P w H s Q E) s
section
variable {P : Program} {w : World} {K : PySem.W.Frag} {mg : Str → Option Value} {base : Heap} {CX : CXT} {j k : Nat} {f : Addr} {fd : FuncData} {ps : List Str} {sp sp' : Sp}
theorem FnG.mono (F : FnG P w K mg base CX j f fd ps sp) (h : j ≤ k) : FnG P w K mg base CX k f fd ps sp := ⟨F.len, fun r e b v q => F.go (r.mono h) e b v q⟩
theorem FnG.imp (F : FnG P w K mg base CX k f fd ps sp) (h : ∀ vs H Q E, sp' vs H Q E → sp vs H Q E) : FnG P w K mg base CX k f fd ps sp' := ⟨fun vs H Q E q => F.len vs H Q E (h _ _ _ _ q), fun r e b v q => F.go r e b v (h _ _ _ _ q)⟩
/-- the rule for a def by its body -/
theorem fnG_of {name qual : Str} {params : Arguments} {body : List Stmt} {scope : Scope} {dV kV doc pm cdv ct oc : Value} {an od : Option Addr} {osl : Array (Option Value)} {N : List Str}
    (lk : K.lookup f = some ⟨oc, od, .func (PySem.W.fnOf name qual params body scope dV kV doc pm an cdv ct), osl⟩) (code : PySem.W.codeIn K cdv qual = true) (S : FnScope N ps scope) (len : ∀ vs H Q E, sp vs H Q E → vs.length = ps.length)
    (hbody : ∀ (A : Around) (outer : List Env) (s : Shared) (H : Hp) (vs : List V) (Q : VK) (E : XK), GR k (A.deeper (envOfC qual scope s.heap.objs.size f cdv)) → sp vs H Q E → ∃ t, PSs (cxOf CX P w K mg base N qual scope f cdv A outer s H E) body t ∧ t { nx := fun _ J => Q .non J, rt := Q } (start N vs) H) :
    FnG P w K mg base CX (k + 1) f (PySem.W.fnOf name qual params body scope dV kV doc pm an cdv ct) ps sp := by
  refine ⟨len, fun {A outer s H args us vs Q E} room ent bnd rel q => ?_⟩
  have inK : K.In s.heap := ent.mod.kin.keeps fun a o z => (ent.bs a o z).1
  have noL : s.heap.NoLimit := ent.mod.nolimit.keeps fun a o z => (ent.bs a o z).1
  have kinds : ∀ z ∈ ps.zip us, scope.names.lookup z.1 = some .local ∨ (scope.names.lookup z.1 = some .cell ∧ ((cellsFrom (s.heap.objs.size + 1) scope.names []).lookup z.1).isSome = true) := by
    rintro ⟨x, v⟩ hz
    exact (S.par x (List.of_mem_zip hz).1).imp id fun c => ⟨c, PySem.W.cellsFrom_some _ _ _ (.inl c)⟩
  refine codeAny_call_function room.rm.depth (inK _ _ lk) rfl S.co S.gen rfl (PySem.W.codeRec_of inK code) (bnd _ _ _ _ (wpAny_newFunctionEnv_cells S.kind kinds fun env he s1 x => ?_))
  subst he
  obtain ⟨t, body', q'⟩ := hbody A outer s H vs Q E (room.deeper _) q
  refine ⟨noL.keeps x.toInCall.keep, codeAny_func (wpAny_mono (body'.run [] s1 (start N vs) H _ (inv_start S room.rm.hd ent (len _ _ _ _ q) rel x) q') (fun fl s' z => ?_) fun _ _ z => z)⟩
  cases fl with
  | ret u => obtain ⟨v, _, J, I, rv, z⟩ := z; exact ⟨v, J, I.os, I.bare, I.base, I.hok, rv, z⟩
  | next => obtain ⟨_, J, I, z⟩ := z; exact ⟨.non, J, I.os, I.bare, I.base, I.hok, rfl, z⟩
  | brk => obtain ⟨_, _, _, z⟩ := z; exact z.elim
  | cont => obtain ⟨_, _, _, z⟩ := z; exact z.elim
theorem FunD.okG {x qual : Str} {params : Arguments} {body : List Stmt} {scope : Scope} {dvs : List V} {kws : List (Str × V)} {N : List Str} (F : FunD K x qual params body scope dvs kws f fd) (S : FnScope N ps scope) (len : ∀ vs H Q E, sp vs H Q E → vs.length = ps.length)
    (hbody : ∀ (cdv : Value) (A : Around) (outer : List Env) (s : Shared) (H : Hp) (vs : List V) (Q : VK) (E : XK), GR k (A.deeper (envOfC qual scope s.heap.objs.size f cdv)) → sp vs H Q E → ∃ t, PSs (cxOf CX P w K mg base N qual scope f cdv A outer s H E) body t ∧ t { nx := fun _ J => Q .non J, rt := Q } (start N vs) H) :
    FnG P w K mg base CX (k + 1) f fd ps sp := by
  obtain ⟨oc, od, dV, kV, doc, pm, an, cdv, ct, osl, rfl, lk, code, _, _⟩ := F.ex
  exact fnG_of lk code S len fun A outer s H vs Q E => hbody cdv A outer s H vs Q E
end
section
variable {X : Cx} {CX : CXT} {k n : Nat} {f C : Addr} {fd : FuncData} {ps ks : List Str} {sp : Sp} {x m : Str} {p pos apos : Pos} {e o : Expr} {es : List Expr} {ta : TE} {t tk : TA} {ds : List Value} {dvs : List V} {E : L2.St → XK} {kws : List Keyword} {g : List Value → List Value → List Value} {gV : List V → List V → List V}
/-- the callee runs -/
theorem fnG_run {pins : List (Addr × Obj)} {σ : L2.St} {H : Hp} {s : Shared} {Q : VK} {us all : List Value} {kw : List (Str × Value)} {vs : List V} (F : FnG X.prog X.w X.K X.mg X.base CX k f fd ps sp) (hr : GR k X.A) (hb : BindsTo s fd ⟨us, kw⟩ (ps.zip all)) (hx : PassesAt CX X σ (E σ))
    (I : Inv X pins σ H s) (r : Vals vs all) (h : sp vs H Q (E σ)) : wpAny (model X.prog X.w) X.A (call (.ref f) us kw) (EP X pins σ Q) X.xe s := by
  refine wpAny_call (codeAny_mono (F.go hr I.env0 hb r h) fun res s' z => ?_)
  cases res with
  | error err => exact hx pins H s err s' I z
  | ok fl => cases fl with
    | ret u => exact I.after z
    | next => exact z.elim
    | brk => exact z.elim
    | cont => exact z.elim
theorem fnG_pos {pins : List (Addr × Obj)} {σ : L2.St} {H : Hp} {s : Shared} {Q : VK} {us : List Value} {vs : List V} (F : FnG X.prog X.w X.K X.mg X.base CX k f fd ps sp) (hr : GR k X.A) (hb : Binds X.K fd ps ds) (hd : Vals dvs ds) (hx : PassesAt CX X σ (E σ))
    (I : Inv X pins σ H s) (r : Vals vs us) (h : sp (vs ++ dvs) H Q (E σ)) : wpAny (model X.prog X.w) X.A (call (.ref f) us) (EP X pins σ Q) X.xe s := by
  have r2 : Vals (vs ++ dvs) (us ++ ds) := r.append hd
  exact fnG_run F hr (hb s us I.kIn (by rw [← r2.length]; exact F.len _ _ _ _ h)) hx I r2 h
/-- f(e, ..), its defaults behind; what it lets out is wished by E, at the slots -/
def tCallD (sp : Sp) (dvs : List V) (E : L2.St → XK) (t : TA) : TE := fun σ H Q => t σ H fun vs J => sp (vs ++ dvs) J Q (E σ)
theorem pe_callG (F : FnG X.prog X.w X.K X.mg X.base CX k f fd ps sp) (hr : GR k X.A) (hg : Gl X x) (hm : X.mg x = some (.ref f)) (hk : PySem.W.keepIn X.K (.ref f) = true) (hb : Binds X.K fd ps ds) (hd : Vals dvs ds) (hx : ∀ σ, PassesAt CX X σ (E σ))
    (ha : PA X (e :: es) t) (hdb : (x == ("__debug__" : Str)) = false := by decide) (he : starEach (e :: es) X.env = (false, eval e X.env) :: starEach es X.env := by rfl) (hpl : (backTo pos (starEach es X.env)).any (·.1) = false := by rfl) :
    PE X (.Call (.Name x p) (e :: es) [] pos) (tCallD sp dvs E t) := ⟨fun pins s σ H Q I h =>
  wpAny_Call_Name_kw (ld_glob I hg hm (PySem.W.callWith_K (h₀ := X.base) I.ok.mod.kin hk (thn (ha.run pos pins s σ H _ I h) fun us s1 ⟨vs, J, I1, r, q⟩ => ⟨I1.kIn, fnG_pos F hr hb hd (hx σ) I1 r q⟩) he hpl) hdb)⟩
theorem pe_callG0 (F : FnG X.prog X.w X.K X.mg X.base CX k f fd ps sp) (hr : GR k X.A) (hg : Gl X x) (hm : X.mg x = some (.ref f)) (hk : PySem.W.keepIn X.K (.ref f) = true) (hb : Binds X.K fd ps ds) (hd : Vals dvs ds) (hx : ∀ σ, PassesAt CX X σ (E σ))
    (hdb : (x == ("__debug__" : Str)) = false := by decide) : PE X (.Call (.Name x p) [] [] pos) (tCallD sp dvs E tNil) := ⟨fun pins s σ H Q I h =>
  wpAny_Call_Name_kw (ld_glob I hg hm (PySem.W.callWith_K0 I.kIn hk (fnG_pos (us := []) F hr hb hd (hx σ) I .nil h)) hdb)⟩
/-- f(e, .., k = v, ..) -/
def tCallNG (n m : Nat) (sp : Sp) (gV : List V → List V → List V) (E : L2.St → XK) (t tk : TA) : TE := fun σ H Q => t σ H fun vs J => tk σ J fun zs L => vs.length = n ∧ zs.length = m ∧ sp (gV vs zs) L Q (E σ)
theorem pe_callNG (F : FnG X.prog X.w X.K X.mg X.base CX k f fd ps sp) (hr : GR k X.A) (hg : Gl X x) (hm : X.mg x = some (.ref f)) (hk : PySem.W.keepIn X.K (.ref f) = true) (hb : KBn X.K fd ps n ks g gV) (hx : ∀ σ, PassesAt CX X σ (E σ))
    (ha : PA X (e :: es) t) (hkw : PK X kws tk) (hall : (backToKw pos (keywordEach kws X.env)).all (·.1.isSome) = true := by rfl) (hks : (backToKw pos (keywordEach kws X.env)).filterMap (·.1) = ks := by rfl)
    (hdb : (x == ("__debug__" : Str)) = false := by decide) (he : starEach (e :: es) X.env = (false, eval e X.env) :: starEach es X.env := by rfl)
    (hpl : ((backTo pos (starEach (e :: es) X.env)).any (·.1) || (backToKw pos (keywordEach kws X.env)).any (·.1.isNone)) = false := by rfl) :
    PE X (.Call (.Name x p) (e :: es) kws pos) (tCallNG n ks.length sp gV E t tk) := by
  refine ⟨fun pins s σ H Q I h => wpAny_Call_Name_kw (ld_glob I hg hm ?_ hdb)⟩
  refine PySem.W.callWith_KW (h₀ := X.base) I.ok.mod.kin hk hall (thn (ha.run pos pins s σ H _ I h) fun us s1 ⟨vs, J, I1, r, q⟩ => ?_) hpl he
  refine thn (hkw.run pos pins s1 σ J _ I1 q) fun ws s2 ⟨zs, L, I2, rz, l1, l2, q2⟩ => ⟨I2.kIn, ?_⟩
  rw [hks]
  exact fnG_run F hr (hb.to s2 us ws I2.kIn (r.length.symm.trans l1) (rz.length.symm.trans l2)) (hx σ) I2 (hb.rel r rz) q2
/-- o.m(e, ..) of an instance -/
def tMethD (C : Addr) (m : Str) (sp : Sp) (dvs : List V) (E : L2.St → XK) (ta : TE) (t : TA) : TE := fun σ H Q => ta σ H fun x J => ∃ a dx fs, x = .ref a ∧ J a = some (.ins C dx fs) ∧ fs.lookup m = none ∧ t σ J fun vs L => sp (x :: (vs ++ dvs)) L Q (E σ)
theorem pe_methG {pl : Sem Bool} (he : PE X o ta) (c : Cls X.K C) (hm : Meth X.K C m f) (F : FnG X.prog X.w X.K X.mg X.base CX k f fd ps sp) (hr : GR k X.A) (hb : Binds X.K fd ps ds) (hd : Vals dvs ds) (hx : ∀ σ, PassesAt CX X σ (E σ)) (ha : PA X (e :: es) t)
    (hst : starEach (e :: es) X.env = (false, eval e X.env) :: starEach es X.env := by rfl) (hpl : (backTo pos (starEach es X.env)).any (·.1) = false := by rfl)
    (ht : eval (.Call (.Attribute o m apos) (e :: es) [] pos) X.env = (do
      let ov ← eval o X.env
      standAt apos.atName
      let (f, first) ← holding [ov] (getMethod ov m pl)
      callWith pos f first (backTo pos (starEach (e :: es) X.env)) (backToKw pos (keywordEach [] X.env))) := by rfl) :
    PE X (.Call (.Attribute o m apos) (e :: es) [] pos) (tMethD C m sp dvs E ta t) := by
  refine ⟨fun pins s σ H Q I h => PySem.W.methodCall_KW (pl := pl) (thn (he.run pins s σ H _ I h) fun u s1 ⟨x, J, I1, rx, a, dx, fs, ex, ea, l, q⟩ => ?_) ht⟩
  subst ex
  obtain rfl : u = Value.ref a := rx
  exact getmeth_ok I1 ea c hm l (PySem.W.callWith_K (first := [.ref a]) (h₀ := X.base) I.ok.mod.kin hm.kp (thn (ha.run pos pins s1 σ J _ I1 q) fun us s2 ⟨vs, L, I2, r, q2⟩ => ⟨I2.kIn, fnG_pos (us := .ref a :: us) (vs := .ref a :: vs) F hr hb hd (hx σ) I2 (.cons rfl r) q2⟩) hst hpl)
theorem pe_methG0 {pl : Sem Bool} (he : PE X o ta) (c : Cls X.K C) (hm : Meth X.K C m f) (F : FnG X.prog X.w X.K X.mg X.base CX k f fd ps sp) (hr : GR k X.A) (hb : Binds X.K fd ps ds) (hd : Vals dvs ds) (hx : ∀ σ, PassesAt CX X σ (E σ))
    (ht : eval (.Call (.Attribute o m apos) [] [] pos) X.env = (do
      let ov ← eval o X.env
      standAt apos.atName
      let (f, first) ← holding [ov] (getMethod ov m pl)
      callWith pos f first (backTo pos (starEach [] X.env)) (backToKw pos (keywordEach [] X.env))) := by rfl) :
    PE X (.Call (.Attribute o m apos) [] [] pos) (tMethD C m sp dvs E ta tNil) := by
  refine ⟨fun pins s σ H Q I h => PySem.W.methodCall_KW (pl := pl) (thn (he.run pins s σ H _ I h) fun u s1 ⟨x, J, I1, rx, a, dx, fs, ex, ea, l, q⟩ => ?_) ht⟩
  subst ex
  obtain rfl : u = Value.ref a := rx
  exact getmeth_ok I1 ea c hm l (PySem.W.callWith_K0 (first := [.ref a]) I1.kIn hm.kp (fnG_pos (us := [.ref a]) (vs := [.ref a]) F hr hb hd (hx σ) I1 (.cons rfl .nil) q))
/-- o.m(e, .., k = v, ..) -/
def tMethNG (C : Addr) (m : Str) (n l : Nat) (sp : Sp) (gV : List V → List V → List V) (E : L2.St → XK) (ta : TE) (t tk : TA) : TE := fun σ H Q => ta σ H fun x J => ∃ a dx fs, x = .ref a ∧ J a = some (.ins C dx fs) ∧ fs.lookup m = none ∧ t σ J fun vs L => tk σ L fun zs M => vs.length = n ∧ zs.length = l ∧ sp (gV (x :: vs) zs) M Q (E σ)
theorem pe_methNG {pl : Sem Bool} (he : PE X o ta) (c : Cls X.K C) (hm : Meth X.K C m f) (F : FnG X.prog X.w X.K X.mg X.base CX k f fd ps sp) (hr : GR k X.A) (hb : KBn X.K fd ps (n + 1) ks g gV) (hx : ∀ σ, PassesAt CX X σ (E σ)) (ha : PA X (e :: es) t)
    (hkw : PK X kws tk) (hall : (backToKw pos (keywordEach kws X.env)).all (·.1.isSome) = true := by rfl) (hks : (backToKw pos (keywordEach kws X.env)).filterMap (·.1) = ks := by rfl)
    (hst : starEach (e :: es) X.env = (false, eval e X.env) :: starEach es X.env := by rfl)
    (hpl : ((backTo pos (starEach (e :: es) X.env)).any (·.1) || (backToKw pos (keywordEach kws X.env)).any (·.1.isNone)) = false := by rfl)
    (ht : eval (.Call (.Attribute o m apos) (e :: es) kws pos) X.env = (do
      let ov ← eval o X.env
      standAt apos.atName
      let (f, first) ← holding [ov] (getMethod ov m pl)
      callWith pos f first (backTo pos (starEach (e :: es) X.env)) (backToKw pos (keywordEach kws X.env))) := by rfl) :
    PE X (.Call (.Attribute o m apos) (e :: es) kws pos) (tMethNG C m n ks.length sp gV E ta t tk) := by
  refine ⟨fun pins s σ H Q I h => PySem.W.methodCall_KW (pl := pl) (thn (he.run pins s σ H _ I h) fun u s1 ⟨x, J, I1, rx, a, dx, fs, ex, ea, l, q⟩ => ?_) ht⟩
  subst ex
  obtain rfl : u = Value.ref a := rx
  refine getmeth_ok I1 ea c hm l (PySem.W.callWith_KW (first := [.ref a]) (h₀ := X.base) I.ok.mod.kin hm.kp hall (thn (ha.run pos pins s1 σ J _ I1 q) fun us s2 ⟨vs, L, I2, r, q2⟩ => ?_) hpl hst)
  refine thn (hkw.run pos pins s2 σ L _ I2 q2) fun ws s3 ⟨zs, M, I3, rz, l1, l2, q3⟩ => ⟨I3.kIn, ?_⟩
  rw [hks]
  have r' : Vals (.ref a :: vs) (.ref a :: us) := .cons rfl r
  exact fnG_run F hr (hb.to s3 (.ref a :: us) ws I3.kIn (by rw [← r'.length]; exact congrArg Nat.succ l1) (rz.length.symm.trans l2)) (hx σ) I3 (hb.rel r' rz) q3
/-- C(e, ..): a new instance and its dict, then __init__ -/
def tMakeD (C : Addr) (sp : Sp) (dvs : List V) (E : L2.St → XK) (t : TA) : TE := fun σ H Q => t σ H fun vs J => ∀ x dx, J x = none → J dx = none → dx ≠ x →
  sp (.ref x :: (vs ++ dvs)) (upd (upd J dx (.own x)) x (.ins C dx [])) (fun v L => v = .non ∧ Q (.ref x) L) (E σ)
theorem fnG_make {pins : List (Addr × Obj)} {σ : L2.St} {H : Hp} {s : Shared} {Q : VK} {us : List Value} {vs : List V} (M : Mk X.K C f) (F : FnG X.prog X.w X.K X.mg X.base CX k f fd ps sp) (hr : GR (k + 1) X.A) (hb : Binds X.K fd ps ds) (hd : Vals dvs ds)
    (hx : PassesAt CX X σ (E σ)) (I : Inv X pins σ H s) (r : Vals vs us)
    (h : ∀ x dx, H x = none → H dx = none → dx ≠ x → sp (.ref x :: (vs ++ dvs)) (upd (upd H dx (.own x)) x (.ins C dx [])) (fun v L => v = .non ∧ Q (.ref x) L) (E σ)) :
    wpAny (model X.prog X.w) X.A (call (.ref C) us) (EP X pins σ Q) X.xe s := by
  have I2 := Inv.made (C := C) I
  have q := h (s.heap.objs.size + 1) s.heap.objs.size (I.hok.fresh (Nat.le_succ _)) (I.hok.fresh (Nat.le_refl _)) (Nat.ne_of_lt (Nat.lt_succ_self _))
  have r2 : Vals (V.ref (s.heap.objs.size + 1) :: (vs ++ dvs)) (Value.ref (s.heap.objs.size + 1) :: (us ++ ds)) := .cons rfl (r.append hd)
  have hl : (Value.ref (s.heap.objs.size + 1) :: us ++ ds).length = ps.length := by rw [← F.len _ _ _ _ q]; exact r2.length.symm
  refine wpAny_call (make_map (f := f) I.kIn M.makes M.init (beq_iff_eq.mp M.fn) (codeAny_mono (F.go (hr.make C us []) (I2.env0.make C us []) (hb _ (Value.ref (s.heap.objs.size + 1) :: us) I2.kIn hl) r2 q) fun res s' z => ?_))
  cases res with
  | error err => exact hx pins _ _ err s' I2 z
  | ok fl => cases fl with
    | ret u =>
      obtain ⟨v, J, I3, rv, ev, q3⟩ := I2.after z
      subst ev
      exact ⟨rv, .ref (s.heap.objs.size + 1), J, I3, rfl, q3⟩
    | next => exact z.elim
    | brk => exact z.elim
    | cont => exact z.elim
theorem pe_makeG (M : Mk X.K C f) (F : FnG X.prog X.w X.K X.mg X.base CX k f fd ps sp) (hr : GR (k + 1) X.A) (hg : Gl X x) (hm : X.mg x = some (.ref C)) (hb : Binds X.K fd ps ds) (hd : Vals dvs ds) (hx : ∀ σ, PassesAt CX X σ (E σ))
    (ha : PA X (e :: es) t) (hdb : (x == ("__debug__" : Str)) = false := by decide) (he : starEach (e :: es) X.env = (false, eval e X.env) :: starEach es X.env := by rfl) (hpl : (backTo pos (starEach es X.env)).any (·.1) = false := by rfl) :
    PE X (.Call (.Name x p) (e :: es) [] pos) (tMakeD C sp dvs E t) := ⟨fun pins s σ H Q I h =>
  wpAny_Call_Name_kw (ld_glob I hg hm (PySem.W.callWith_K (h₀ := X.base) I.ok.mod.kin M.kp (thn (ha.run pos pins s σ H _ I h) fun us s1 ⟨vs, J, I1, r, q⟩ => ⟨I1.kIn, fnG_make M F hr hb hd (hx σ) I1 r q⟩) he hpl) hdb)⟩
theorem pe_makeG0 (M : Mk X.K C f) (F : FnG X.prog X.w X.K X.mg X.base CX k f fd ps sp) (hr : GR (k + 1) X.A) (hg : Gl X x) (hm : X.mg x = some (.ref C)) (hb : Binds X.K fd ps ds) (hd : Vals dvs ds) (hx : ∀ σ, PassesAt CX X σ (E σ))
    (hdb : (x == ("__debug__" : Str)) = false := by decide) : PE X (.Call (.Name x p) [] [] pos) (tMakeD C sp dvs E tNil) := ⟨fun pins s σ H Q I h =>
  wpAny_Call_Name_kw (ld_glob I hg hm (PySem.W.callWith_K0 I.kIn M.kp (fnG_make (us := []) M F hr hb hd (hx σ) I .nil h)) hdb)⟩
end
/-! ### the law's own call -/
theorem law_callG {P : Program} {w : World} {K : PySem.W.Frag} {mg mb : Str → Option Value} {CX : CXT} {k : Nat} {fa a : Addr} {fd : FuncData} {x : Str} {sp : Sp} {s1 : Shared} {vs : List Value} {ns : List Int}
    (inK : K.In s1.heap) (ns1 : s1.heap.Ns mainGlobals mg) (ns2 : s1.heap.Ns builtinsNs mb) (bts : ∀ x : Str, x ≠ "__name__" → mb x = bootBuiltins x) (noL : s1.heap.NoLimit) (gs : s1.gens = #[])
    (at' : s1.heap.get? a = some { cls := .type "list", data := .seq vs.toArray }) (its : IntsAre vs ns) (short : ns.length ≤ sizeLine) (room : Room k callerA)
    (F : ∀ base : Heap, K.In base → base.Ns mainGlobals mg → FnG P w K mg base CX k fa fd [x] sp) (bnd : ∀ (s : Shared) (u : Value), BindsTo s fd ⟨[u], []⟩ [(x, u)])
    (ask : ∀ H : Hp, Only H → SqL K H a (ns.map V.int) → sp [.ref a] H (fun v _ => v = .bl true) fun _ _ _ => False)
    (noX : ∀ H e s', CX [] H s1 (fun _ _ _ => False) e s' → False) :
    codeAny (model P w) callerA (.call (.ref fa) ⟨[.ref a], []⟩) (fun r s' => r = .ok (.ret (.bool true)) ∧ OldK s1.heap s'.heap ∧ s'.os = s1.os ∧ AllBare s'.gens) s1 := by
  have main : ∀ H : Hp, Only H → SqL K H a (ns.map V.int) → HOk P w H s1.heap → (∀ b, H b ≠ none → b = a ∧ K.lookup a = none) →
      codeAny (model P w) callerA (.call (.ref fa) ⟨[.ref a], []⟩) (fun r s' => r = .ok (.ret (.bool true)) ∧ OldK s1.heap s'.heap ∧ s'.os = s1.os ∧ AllBare s'.gens) s1 := by
    intro H only sq ok at1
    have some1 : ∀ {b : Addr}, ¬ H b = none → b = a ∧ K.lookup a = none := fun {b} z => at1 b z
    have keepD : ∀ {b : Addr} {o : Obj} {es : Array DictEntry} {ep : Nat}, s1.heap.get? b = some o → o.data = .dict es ep → (hidT s1.heap H).get? b = some o := fun {b o es ep} e d => hidT_get e (Classical.byContradiction fun z => by
      obtain ⟨rfl, _⟩ := some1 z
      rw [at'] at e
      cases e
      exact nomatch (show Data.seq vs.toArray _ = Data.dict es ep from d))
    have keepN : ∀ {b : Addr} {m : Str → Option Value}, s1.heap.Ns b m → (hidT s1.heap H).Ns b m := fun ⟨o, es, ep, e, d, r⟩ => ⟨o, es, ep, keepD e d, d, r⟩
    have inB : K.In (hidT s1.heap H) := fun b o e => hidT_get (inK b o e) (Classical.byContradiction fun z => by
      obtain ⟨rfl, n⟩ := some1 z
      rw [n] at e
      cases e)
    have md : Mod K mg (hidT s1.heap H) := ⟨inB, keepN ns1, ⟨mb, keepN ns2, bts⟩, noL.elim fun mc z => ⟨mc, keepN z.1, z.2⟩⟩
    have ent : Env0 P w K mg (hidT s1.heap H) callerA [] s1 H := ⟨rfl, md, fun b o e => of_hidT e, Nat.le_of_eq (hidT_size _ _), trivial, fun b hb => absurd hb (show ¬ b ∈ ([] : List Addr) from List.not_mem_nil), ok, .of_eq gs⟩
    refine codeAny_mono ((F _ inB (keepN ns1)).go (us := [.ref a]) (vs := [.ref a]) ⟨room, rfl⟩ ent (bnd s1 (.ref a)) (.cons rfl .nil) (ask H only sq)) fun r s' h => ?_
    cases r with
    | error e => exact (noX H e s' h).elim
    | ok fl => cases fl with
      | next => exact h.elim
      | brk => exact h.elim
      | cont => exact h.elim
      | ret u =>
        obtain ⟨v, J, os, bare, un, ok2, rv, q⟩ := h
        cases (show v = .bl true from q)
        obtain rfl : u = Value.bool true := rv
        refine ⟨rfl, OldK.of_keep fun b o e => ?_, os, bare⟩
        rcases only b with z | ⟨ob, xs, z⟩
        · exact un.keep b o e z (fun z => absurd z (show ¬ b ∈ ([] : List Addr) from List.not_mem_nil)) (by simp)
        · obtain ⟨e1, _⟩ := ok b _ z
          obtain ⟨e2, _⟩ := ok2 b _ (un.frzs b ob _ z)
          rw [e] at e1
          cases e1
          exact e2
  have rv := vals_ints its
  cases hk : K.lookup a with
  | some o =>
    have e := inK a o hk
    rw [at'] at e
    cases e
    exact main (fun _ => none) (fun _ => .inl rfl) (.inr ⟨_, vs.toArray, _, hk, rfl, rfl, rfl, by rw [List.size_toArray, its.length]; exact short, by simpa using rv⟩) (fun b u z => nomatch (show (none : Option HO) = some u from z)) fun b z => absurd rfl z
  | none =>
    refine main (fun b => if b = a then some (.frz { cls := .type "list", data := .seq vs.toArray } (.lst (ns.map V.int))) else none) (fun b => ?_) (.inl (.inr ⟨{ cls := .type "list", data := .seq vs.toArray }, if_pos rfl⟩)) (fun b u z => ?_) fun b z => ?_
    · by_cases hb : b = a
      · exact .inr ⟨_, _, if_pos hb⟩
      · exact .inl (if_neg hb)
    · by_cases hb : b = a
      · cases (if_pos hb).symm.trans z
        subst hb
        exact ⟨at', by rw [List.length_map]; exact short, vs, _, rv, at'⟩
      · cases (if_neg hb).symm.trans z
    · by_cases hb : b = a
      · exact ⟨hb, hk⟩
      · exact absurd (if_neg hb) z
theorem walk_G {l : PySem.W.OpenLaw} {n k : Nat} {q : Program} {loose : List Str} {XP : (Str → Option Value) → Heap → Prop} {YP : World → Heap → Prop} {d : DefRec} {CX : CXT} {x : Str}
    (hn : l.most = some n) (hn2 : n ≤ sizeLine) (hdf : d.params.defaults = []) (hr : Room k callerA)
    (F : ∀ (w : World) (mg : Str → Option Value) (fa : Addr) (h : Heap), YP w h → h.Ns mainGlobals mg → mg d.name = some (.ref fa) →
      ∃ (K : PySem.W.Frag) (fd : FuncData) (sp : Sp), K.In h ∧ (∀ (s : Shared) (u : Value), BindsTo s fd ⟨[u], []⟩ [(x, u)]) ∧
        (∀ (H : Hp) (a : Addr) (ns : List Int), ns.length ≤ n → Only H → SqL K H a (ns.map V.int) → sp [.ref a] H (fun v _ => v = .bl true) fun _ _ _ => False) ∧
        ∀ base : Heap, K.In base → base.Ns mainGlobals mg → FnG l.prog w K mg base CX k fa fd [x] sp)
    (hCX : ∀ (H : Hp) (s : Shared) (e : Value) (s' : Shared), CX [] H s (fun _ _ _ => False) e s' → False) :
    PySem.W.WalkO q loose XP YP l.row.toRowW d [] (fun f vs => PySem.call f vs) :=
  Att.attach_call hn hdf fun w s0 s1 mg mb fa o pm cd doc a vs ns G Y ho hd hcd hmg hobj hints hlen hg => by
    obtain ⟨K, fd, sp, KX, hb, hsp, hF⟩ := F w mg fa _ Y G.T.g hmg
    exact law_callG KX G.T.g G.T.b G.T.builtins G.T.nolimit hg hobj hints (Nat.le_trans hlen hn2) hr hF hb (fun H hO hS => hsp H a ns hlen hO hS) fun H e s' => hCX H s1 e s'
end DL

/-! DL7: defs by their names; further operators. -/
namespace DL
open PySem PySem.Spec PyProof.Rows L2

/-! ### a def that is known to keep a promise -/
structure Fk (P : Program) (w : World) (K : PySem.W.Frag) (mg : Str → Option Value) (base : Heap) (CX : CXT) (k : Nat) (x : Str) (ps : List Str) (sp : SpD) : Prop where
  ex : ∃ f fd, FnG P w K mg base CX k f fd ps (liftSp K sp) ∧ mg x = some (.ref f) ∧ PySem.W.keepIn K (.ref f) = true ∧ Binds K fd ps []
/-- a def of the top, without defaults -/
structure Df (K : PySem.W.Frag) (mg : Str → Option Value) (x nm : Str) (st : Stmt) : Prop where
  ex : ∃ f fd, FunD K nm nm (defArgs st) (defBody st) (defScope st) [] [] f fd ∧ mg x = some (.ref f)
section
variable {P : Program} {w : World} {K : PySem.W.Frag} {mg : Str → Option Value} {base : Heap}
theorem Fk.mono {CX : CXT} {j k : Nat} {x : Str} {ps : List Str} {sp : SpD} (g : Fk P w K mg base CX j x ps sp) (h : j ≤ k) : Fk P w K mg base CX k x ps sp := by
  obtain ⟨f, fd, F, m⟩ := g.ex
  exact ⟨f, fd, F.mono h, m⟩
theorem liftSp_imp {sp sp' : SpD} (h : ∀ ds W Q E, sp' ds W Q E → sp ds W Q E) (vs : List V) (H : Hp) (Q : VK) (E : XK) (q : liftSp K sp' vs H Q E) : liftSp K sp vs H Q E := by
  obtain ⟨G, W, ds, QD, ED, R, d, q, k⟩ := q
  exact ⟨G, W, ds, QD, ED, R, d, h _ _ _ _ q, k⟩
theorem Fk.imp {CX : CXT} {k : Nat} {x : Str} {ps : List Str} {sp sp' : SpD} (g : Fk P w K mg base CX k x ps sp) (h : ∀ ds W Q E, sp' ds W Q E → sp ds W Q E) : Fk P w K mg base CX k x ps sp' := by
  obtain ⟨f, fd, F, m⟩ := g.ex
  exact ⟨f, fd, F.imp (liftSp_imp h), m⟩
/-- what nobody can ask is kept -/
theorem Fk.none {CX : CXT} {x nm : Str} {st : Stmt} {ps : List Str} {sp : SpD} (F : Df K mg x nm st) (h : ∀ ds W Q E, ¬ sp ds W Q E)
    (hb : ∀ (kV doc pm : Value) (an : Option Addr) (cdv ct : Value) (us : List Value), us.length = ps.length → bindArgs (PySem.W.fnOf nm nm (defArgs st) (defBody st) (defScope st) .none kV doc pm an cdv ct) ⟨us, []⟩ = pure (ps.zip us)) : Fk P w K mg base CX 0 x ps sp := by
  obtain ⟨f, fd, F, m⟩ := F.ex
  have no : ∀ vs H Q E, ¬ liftSp K sp vs H Q E := fun vs H Q E ⟨G, W, ds, QD, ED, _, _, q, _⟩ => h _ _ _ _ q
  exact ⟨f, fd, ⟨fun vs H Q E q => absurd q (no vs H Q E), fun _ _ _ _ q => absurd q (no _ _ _ _)⟩, m, F.kp, F.bindsN hb⟩
theorem okL {nm : Str} {st : Stmt} {N ps : List Str} {k : Nat} {sp : SpD} {f : Addr} {fd : FuncData} (F : FunD K nm nm (defArgs st) (defBody st) (defScope st) [] [] f fd) (S : FnScope N ps (defScope st))
    (len : ∀ ds W Q E, sp ds W Q E → ds.length = ps.length)
    (hbody : ∀ (cdv : Value) (A : Around) (outer : List Env) (s : Shared) (H : Hp) (E : XK) (G : Hp) (f : Addr), Room k (A.deeper (envOfC nm (defScope st) s.heap.objs.size f cdv)) → A.guards = some [] →
      ∃ t a, DSs (cxOf CX0 P w K mg base N nm (defScope st) f cdv A outer s H E).nox G (defBody st) t a ∧ ∀ ds W QD ED, sp ds W QD ED → a { nx := fun _ W' => QD .non W', rt := QD } (startD N ds) W) : FnG P w K mg base CX0 (k + 1) f fd ps (liftSp K sp) := by
  refine FunD.okG F S (fun vs H Q E h => ?_) (fun cdv A outer s H vs Q E hr h => ?_)
  · obtain ⟨G, W, ds, QD, ED, _, d, h, _⟩ := h
    rw [← d.length]
    exact len _ _ _ _ h
  · obtain ⟨G, W, ds, QD, ED, R, d, h, kt, _⟩ := h
    obtain ⟨t, a, db, hb⟩ := hbody cdv A outer s H E G f hr.rm hr.gd
    refine ⟨t, db.ps.nox, db.sim _ { nx := fun _ W' => QD .non W', rt := QD } _ H G _ W (Same.refl G) R (isSl_start d) ⟨?_, kt, ?_, ?_⟩ (hb ds W QD ED h)⟩
    · exact fun σ δ G' H' W' s' R' S' q => kt _ .non G' H' W' s' R' rfl q
    · exact fun _ _ _ _ _ _ _ _ q => q.elim
    · exact fun _ _ _ _ _ _ _ _ q => q.elim
theorem okF {x nm : Str} {st : Stmt} {N ps : List Str} {k : Nat} {sp : SpD} (F : Df K mg x nm st) (S : FnScope N ps (defScope st))
    (hb : ∀ (kV doc pm : Value) (an : Option Addr) (cdv ct : Value) (us : List Value), us.length = ps.length → bindArgs (PySem.W.fnOf nm nm (defArgs st) (defBody st) (defScope st) .none kV doc pm an cdv ct) ⟨us, []⟩ = pure (ps.zip us))
    (len : ∀ ds W Q E, sp ds W Q E → ds.length = ps.length)
    (hbody : ∀ (cdv : Value) (A : Around) (outer : List Env) (s : Shared) (H : Hp) (E : XK) (G : Hp) (f : Addr), Room k (A.deeper (envOfC nm (defScope st) s.heap.objs.size f cdv)) → A.guards = some [] →
      ∃ t a, DSs (cxOf CX0 P w K mg base N nm (defScope st) f cdv A outer s H E).nox G (defBody st) t a ∧ ∀ ds W QD ED, sp ds W QD ED → a { nx := fun _ W' => QD .non W', rt := QD } (startD N ds) W) : Fk P w K mg base CX0 (k + 1) x ps sp := by
  obtain ⟨f, fd, F, m⟩ := F.ex
  exact ⟨f, fd, okL F S len hbody, m, F.kp, F.bindsN hb⟩
end
section
variable {X : Cx} {G0 : Hp} {x : Str} {p pos : Pos} {e : Expr} {es : List Expr} {t : L2.TA} {at' : AA} {k : Nat} {ps : List Str} {sp : SpD}
theorem sim_callD {G0 : Hp} {K : PySem.W.Frag} {dvs : List V} {dds : List D} {E : L2.St → XK} {ED : DX} {t : L2.TA} {at' : AA} (hl : ∀ σ, LiftX K G0 (E σ) ED) (hd : ∀ G, IsDs K G dds dvs) (ht : SimA K G0 t at') : SimE K G0 (tCallD (liftSp K sp) dvs E t) (aCall sp dds ED at') := fun σ H Q G δ W QD s0 R S h k => by
  refine ht σ H _ G δ W _ s0 R S h fun vs ds G1 H1 W1 s1 R1 d1 h1 => ?_
  exact ⟨G1, W1, ds ++ dds, QD, ED, R1, d1.append (hd G1), h1, k.up s1, (hl σ).up (s0.trans s1)⟩
theorem passA0 {X : Cx} {σ : L2.St} {E : XK} : PassesAt CX0 X σ E := fun _ _ _ _ _ _ h => h.elim
theorem de_fn (g : Fk X.prog X.w X.K X.mg X.base CX0 k x ps sp) (hr : Room k X.A) (hgd : X.A.guards = some []) (ha : DA X G0 (e :: es) t at') (hg : Gl X x := by rfl)
    (hdb : (x == ("__debug__" : Str)) = false := by decide) (he : starEach (e :: es) X.env = (false, eval e X.env) :: starEach es X.env := by rfl) (hpl : (backTo pos (starEach es X.env)).any (·.1) = false := by rfl) :
    DE X G0 (.Call (.Name x p) (e :: es) [] pos) (tCallD (liftSp X.K sp) [] (fun _ => E0) t) (aCall sp [] ED0 at') := by
  obtain ⟨f, fd, F, hm, hk, hb⟩ := g.ex
  exact ⟨pe_callG F ⟨hr, hgd⟩ hg hm hk hb .nil (fun _ => passA0) ha.pa hdb he hpl, sim_callD (fun _ => liftX0) (fun _ => rfl) ha.sim⟩
theorem de_fn0 (g : Fk X.prog X.w X.K X.mg X.base CX0 k x ps sp) (hr : Room k X.A) (hgd : X.A.guards = some []) (hg : Gl X x := by rfl) (hdb : (x == ("__debug__" : Str)) = false := by decide) :
    DE X G0 (.Call (.Name x p) [] [] pos) (tCallD (liftSp X.K sp) [] (fun _ => E0) tNil) (aCall sp [] ED0 aNil) := by
  obtain ⟨f, fd, F, hm, hk, hb⟩ := g.ex
  exact ⟨pe_callG0 F ⟨hr, hgd⟩ hg hm hk hb .nil (fun _ => passA0) hdb, sim_callD (fun _ => liftX0) (fun _ => rfl) sim_nil⟩
end
/-! ### < of ints, texts, alike data -/
def D.seqd : D → Bool
  | .tup _ => true
  | .lst _ => true
  | _ => false
def D.alk (x y : D) : Prop := x.plain = true ∧ y.plain = true ∧ PySem.W.alike x.py y.py = true ∧ min x.py.depth y.py.depth ≤ 150
def dLt : RD2 := fun x y W Q => if x.seqd = true then x.alk y ∧ Q (.bl (PySem.W.dataLt x.py y.py)) W else match x with
  | .str i => ∃ j, y = .str j ∧ Q (.bl (decide (i.cps.toList < j.cps.toList))) W
  | x => ∃ i j, x = .int i ∧ y = .int j ∧ Q (.bl (decide (i < j))) W
def rLtP (K : PySem.W.Frag) : R2 := fun x y H Q => ∃ d e, Dp K H x d ∧ Dp K H y e ∧ PySem.W.alike d e = true ∧ d ≠ .none ∧ min d.depth e.depth ≤ 150 ∧ Q (.bl (PySem.W.dataLt d e)) H
def rLtA (K : PySem.W.Frag) : R2 := fun x y H Q => rLtP K x y H Q ∨ (rI0 fun i j => .bl (decide (i < j))) x y H Q ∨ (∃ i j, x = .str i ∧ y = .str j ∧ Q (.bl (decide (i.cps.toList < j.cps.toList))) H)
theorem op_ltP {X : Cx} (hu : X.A.units + 151 < cLine) : OpR X (compareOp .Lt) (rLtP X.K) := by
  intro pins s σ H x y v u Q I rx ry h
  obtain ⟨d, e, hd, he, al, nn, z, q⟩ := h
  obtain ⟨as, r1⟩ := Dp.reads I d x v hd rx
  obtain ⟨bs, r2⟩ := Dp.reads I e y u he ry
  exact PySem.W.lt_data r1 r2 al nn (by omega) ⟨.bl _, H, I, rfl, q⟩
theorem op_ltA {X : Cx} (hu : X.A.units + 151 < cLine) : OpR X (compareOp .Lt) (rLtA X.K) := (op_ltP hu).or (op_lt.or op_lt_str)
theorem sr_lt {K : PySem.W.Frag} : SimR2 K (rLtA K) dLt := fun G H W x y dx dy Q QD R hx hy h k => by
  unfold dLt at h
  split at h
  · rename_i e
    obtain ⟨⟨p1, p2, al, z⟩, q⟩ := h
    refine .inl ⟨dx.py, dy.py, IsD.dp R _ _ p1 hx, IsD.dp R _ _ p2 hy, al, ?_, z, k.here (d := .bl _) R rfl q⟩
    cases dx <;> first | (intro z; cases z; done) | cases e
  · split at h
    · obtain ⟨j, rfl, q⟩ := h
      exact .inr (.inr ⟨_, j, hx, hy, k.here (d := .bl _) R rfl q⟩)
    · obtain ⟨i, j, rfl, rfl, q⟩ := h
      exact .inr (.inl ⟨i, j, hx, hy, k.here (d := .bl _) R rfl q⟩)
/-! ### the same rules with the constants named: for the parts of a comprehension -/
section
variable {X : Cx} {K : PySem.W.Frag}
theorem opK (r : PySem.W.Frag → R2) (K : PySem.W.Frag) {f : Value → Value → Sem Value} (c : OpR X f (r X.K)) (h : X.K = K := by rfl) : OpR X f (r K) := h ▸ c
theorem ixK (K : PySem.W.Frag) (c : IxR X (rIxA X.K)) (h : X.K = K := by rfl) : IxR X (rIxA K) := h ▸ c
theorem slK (K : PySem.W.Frag) (c : SlR X (rSl X.K)) (h : X.K = K := by rfl) : SlR X (rSl K) := h ▸ c
theorem caK (r : PySem.W.Frag → List V → Hp → VK → Prop) (K : PySem.W.Frag) {f : Value} (c : CallR X f (r X.K)) (h : X.K = K := by rfl) : CallR X f (r K) := h ▸ c
theorem de_joinK (K : PySem.W.Frag) {G0 : Hp} {o e : Expr} {to te : TE} {ao ae : AE} {apos pos : Pos} (ho : DE X G0 o to ao) (he : DE X G0 e te ae) (hK : X.K = K := by rfl) (hs : starEach [e] X.env = [(false, eval e X.env)] := by rfl) (hbase : attributeBase o "join" X.env (eval o X.env) = eval o X.env := by rfl) (hline : (apos.endLine == pos.line) = true := by rfl) :
    DE X G0 (.Call (.Attribute o "join" apos) [e] [] pos) (tM1 (rJoinA K) to te) (aM1 dJoin ao ae) := hK ▸ de_join ho he hs hbase hline
theorem di_seqK (K : PySem.W.Frag) {G0 : Hp} {tg e : Expr} {te : TE} {ae : AE} (he : DE X G0 e te ae) (hK : X.K = K := by rfl) : DI X G0 tg e (iSeq K te) (aiSeq ae) := hK ▸ di_seq he
theorem de_fnK {G0 : Hp} {x : Str} {p pos : Pos} {e : Expr} {es : List Expr} {t : L2.TA} {at' : AA} {k : Nat} {ps : List Str} {sp : SpD} (g : Fk X.prog X.w K X.mg X.base CX0 k x ps sp) (hr : Room k X.A) (hgd : X.A.guards = some []) (ha : DA X G0 (e :: es) t at') (hK : X.K = K := by rfl) (hg : Gl X x := by rfl)
    (hdb : (x == ("__debug__" : Str)) = false := by decide) (he : starEach (e :: es) X.env = (false, eval e X.env) :: starEach es X.env := by rfl) (hpl : (backTo pos (starEach es X.env)).any (·.1) = false := by rfl) :
    DE X G0 (.Call (.Name x p) (e :: es) [] pos) (tCallD (liftSp K sp) [] (fun _ => E0) t) (aCall sp [] ED0 at') := by
  subst hK
  exact de_fn g hr hgd ha hg hdb he hpl
end
end DL

/-! DL8: what readings are made of, for simp. -/
namespace DL
open PySem PySem.Spec PyProof.Rows L2
abbrev EN (Q : DQ) : AEnds := { nx := fun _ W' => Q .non W', rt := Q }
@[simp] theorem startD_cons (x : Str) (N : List Str) (d : D) (ds : List D) : startD (x :: N) (d :: ds) = some d :: startD N ds := by simp [startD]
@[simp] theorem startD_nil_cons (x : Str) (N : List Str) : startD (x :: N) [] = none :: startD N [] := by simp [startD, List.replicate_succ]
@[simp] theorem startD_nil (ds : List D) : startD [] ds = ds.map some := by simp [startD]
theorem sizeLine_val : sizeLine = 16777216 := by rw [sizeLine_eq]
theorem cutD_from (ds : List D) (k : Nat) : cutD ds (some (k : Int)) none = ds.drop k := by
  unfold cutD
  rw [HT.sIx_nat, HT.sIx_none]
  by_cases h : k ≤ ds.length
  · rw [Nat.min_eq_left h]
    exact List.take_of_length_le (by rw [List.length_drop]; exact Nat.le_refl _)
  · rw [Nat.min_eq_right (by omega), List.drop_length, List.drop_eq_nil_of_le (by omega)]
    simp
theorem cutD_to (ds : List D) (k : Nat) : cutD ds none (some (k : Int)) = ds.take k := by
  unfold cutD
  rw [HT.sIx_nat, HT.sIx_none, List.drop_zero, Nat.sub_zero]
  by_cases h : k ≤ ds.length
  · rw [Nat.min_eq_left h]
  · rw [Nat.min_eq_right (by omega), List.take_length, List.take_of_length_le (by omega)]
@[simp] theorem cutD_1 (ds : List D) : cutD ds (some 1) none = ds.drop 1 := cutD_from ds 1
theorem cutD_fromI {ds : List D} {i : Int} (h : 0 ≤ i) : cutD ds (some i) none = ds.drop i.toNat := by
  have e := cutD_from ds i.toNat
  rwa [Int.toNat_of_nonneg h] at e
theorem cutD_toI {ds : List D} {i : Int} (h : 0 ≤ i) : cutD ds none (some i) = ds.take i.toNat := by
  have e := cutD_to ds i.toNat
  rwa [Int.toNat_of_nonneg h] at e
theorem atI_of {α : Type} {xs : List α} {i : Int} (h : 0 ≤ i) : atI xs i = xs[i.toNat]? := by
  unfold atI ixN
  rw [if_pos h]
  by_cases h2 : i < (xs.length : Int)
  · rw [if_pos h2]; rfl
  · rw [if_neg h2]
    exact (List.getElem?_eq_none (by omega)).symm
@[simp] theorem atI_0 {α : Type} (xs : List α) : atI xs 0 = xs[0]? := atI_of (i := 0) (by decide)
@[simp] theorem atI_1 {α : Type} (xs : List α) : atI xs 1 = xs[1]? := atI_of (i := 1) (by decide)
@[simp] theorem atI_2 {α : Type} (xs : List α) : atI xs 2 = xs[2]? := atI_of (i := 2) (by decide)
@[simp] theorem atI_3 {α : Type} (xs : List α) : atI xs 3 = xs[3]? := atI_of (i := 3) (by decide)
@[simp] theorem atI_4 {α : Type} (xs : List α) : atI xs 4 = xs[4]? := atI_of (i := 4) (by decide)
@[simp] theorem ixN_0 (n : Nat) : ixN (n + 1) 0 = some 0 := by simp [ixN]
theorem ixN_of {n : Nat} {i : Int} (h : 0 ≤ i) (h2 : i < n) : ixN n i = some i.toNat := by unfold ixN; rw [if_pos h, if_pos h2]
section
variable (W : Wd) (Q : DQ)
@[simp] theorem tyOf_non : tyOf W .non = some "NoneType" := rfl
@[simp] theorem tyOf_bl (b : Bool) : tyOf W (.bl b) = some "bool" := rfl
@[simp] theorem tyOf_int (i : Int) : tyOf W (.int i) = some "int" := rfl
@[simp] theorem tyOf_str (x : Str) : tyOf W (.str x) = some "str" := rfl
@[simp] theorem tyOf_tup (ds : List D) : tyOf W (.tup ds) = some "tuple" := rfl
@[simp] theorem tyOf_lst (ds : List D) : tyOf W (.lst ds) = some "list" := rfl
@[simp] theorem tyOf_flst (ds : List D) : tyOf W (.flst ds) = some "list" := rfl
@[simp] theorem lenOf_tup (ds : List D) : lenOf W (.tup ds) = some ds.length := rfl
@[simp] theorem lenOf_lst (ds : List D) : lenOf W (.lst ds) = some ds.length := rfl
@[simp] theorem lenOf_flst (ds : List D) : lenOf W (.flst ds) = some ds.length := rfl
@[simp] theorem lenOf_str (z : Str) : lenOf W (.str z) = if z.length ≤ sizeLine then some z.length else none := rfl
@[simp] theorem dIx_tup (ds : List D) (y : D) : dIx (.tup ds) y W Q = ∃ i d, y = .int i ∧ atI ds i = some d ∧ Q d W := rfl
@[simp] theorem dIx_str (z : Str) (y : D) : dIx (.str z) y W Q = ∃ i c, y = .int i ∧ z.length ≤ sizeLine ∧ atI z.cps.toList i = some c ∧ Q (.str ⟨#[c]⟩) W := rfl
theorem dIx_l {x : D} {ds : List D} {i : Int} {d : D} {W : Wd} {Q : DQ} (e : lstRd W x = some ds) (h : atI ds i = some d) (q : Q d W) : dIx x (.int i) W Q := by
  cases x with
  | tup _ => cases e
  | str _ => cases e
  | _ => exact .inl ⟨ds, i, d, e, rfl, h, q⟩
@[simp] theorem dIx_lst (ds : List D) (y : D) : dIx (.lst ds) y W Q = ∃ i d, y = .int i ∧ atI ds i = some d ∧ Q d W := by
  refine propext ⟨fun h => ?_, fun ⟨i, d, e, h, q⟩ => .inl ⟨ds, i, d, rfl, e, h, q⟩⟩
  rcases h with ⟨ds', i, d, e, h⟩ | ⟨d, g, _⟩
  · cases e; exact ⟨i, d, h⟩
  · rcases g with ⟨_, _, g, _⟩ | ⟨_, _, _, g, _⟩ <;> cases g
theorem dIx_ptr {l : Addr} {ds : List D} {W : Wd} (Q : DQ) (y : D) (hw : W l = some (.lst ds)) : dIx (.ptr l) y W Q = ∃ i d, y = .int i ∧ atI ds i = some d ∧ Q d W := by
  refine propext ⟨fun h => ?_, fun ⟨i, d, e, h, q⟩ => .inl ⟨ds, i, d, lstRd_ptr hw, e, h, q⟩⟩
  rcases h with ⟨ds', i, d, e, h⟩ | ⟨d, g, _⟩
  · rw [lstRd_ptr hw] at e; cases e; exact ⟨i, d, h⟩
  · rcases g with ⟨_, _, g, _⟩ | ⟨_, _, _, g, _⟩
    · simp [dkOf, hw] at g
    · simp [dtOf, hw] at g
@[simp] theorem dSl_tup (own : Bool) (ds : List D) (lo hi : Option Int) : dSl own (.tup ds) lo hi W Q = Q (.tup (cutD ds lo hi)) W := rfl
@[simp] theorem dSl_str (own : Bool) (z : Str) (lo hi : Option Int) : dSl own (.str z) lo hi W Q = (z.length ≤ sizeLine ∧ Q (.str (cutS z lo hi)) W) := rfl
@[simp] theorem dSl_lst (own : Bool) (ds : List D) (lo hi : Option Int) : dSl own (.lst ds) lo hi W Q = newL own (cutD ds lo hi) W Q := by
  refine propext ⟨fun h => ?_, fun h => ⟨ds, rfl, h⟩⟩
  obtain ⟨ds', e, q⟩ := h
  cases e
  exact q
theorem dSl_ptr {l : Addr} {ds : List D} {W : Wd} (Q : DQ) (own : Bool) (lo hi : Option Int) (hw : W l = some (.lst ds)) : dSl own (.ptr l) lo hi W Q = newL own (cutD ds lo hi) W Q := by
  refine propext ⟨fun h => ?_, fun h => ⟨ds, lstRd_ptr hw, h⟩⟩
  obtain ⟨ds', e, q⟩ := h
  rw [lstRd_ptr hw] at e
  cases e
  exact q
@[simp] theorem dAdd_int (own : Bool) (i : Int) (y : D) : dAdd own (.int i) y W Q = ∃ j, y = .int j ∧ Q (.int (i + j)) W := rfl
@[simp] theorem dAdd_str (own : Bool) (i : Str) (y : D) : dAdd own (.str i) y W Q = ∃ j, y = .str j ∧ i.length + j.length ≤ sizeLine ∧ Q (.str (i ++ j)) W := rfl
@[simp] theorem dAdd_tup (own : Bool) (ds : List D) (y : D) : dAdd own (.tup ds) y W Q = ∃ es, y = .tup es ∧ ds.length + es.length ≤ sizeLine ∧ Q (.tup (ds ++ es)) W := rfl
@[simp] theorem dAdd_lst (own : Bool) (ds : List D) (y : D) : dAdd own (.lst ds) y W Q = ∃ es, lstOf W y = some es ∧ ds.length + es.length ≤ sizeLine ∧ newL own (ds ++ es) W Q := by
  refine propext ⟨fun h => ?_, fun ⟨es, h⟩ => ⟨ds, es, rfl, h⟩⟩
  obtain ⟨ds', es, e, h⟩ := h
  cases e
  exact ⟨es, h⟩
theorem dAdd_ptr {l : Addr} {ds : List D} {W : Wd} (Q : DQ) (own : Bool) (y : D) (hw : W l = some (.lst ds)) : dAdd own (.ptr l) y W Q = ∃ es, lstOf W y = some es ∧ ds.length + es.length ≤ sizeLine ∧ newL own (ds ++ es) W Q := by
  refine propext ⟨fun h => ?_, fun ⟨es, h⟩ => ⟨ds, es, lstOf_ptr hw, h⟩⟩
  obtain ⟨ds', es, e, h⟩ := h
  rw [lstOf_ptr hw] at e
  cases e
  exact ⟨es, h⟩
@[simp] theorem dLt_int (i : Int) (y : D) : dLt (.int i) y W Q = ∃ j, y = .int j ∧ Q (.bl (decide (i < j))) W := by
  refine propext ⟨fun h => ?_, fun ⟨j, h⟩ => ?_⟩
  · obtain ⟨i', j, e, h⟩ := (show ∃ i' j, D.int i = .int i' ∧ y = .int j ∧ Q (.bl (decide (i' < j))) W from h)
    cases e
    exact ⟨j, h⟩
  · exact (show ∃ i' j, D.int i = .int i' ∧ y = .int j ∧ Q (.bl (decide (i' < j))) W from ⟨i, j, rfl, h⟩)
@[simp] theorem dLt_str (i : Str) (y : D) : dLt (.str i) y W Q = ∃ j, y = .str j ∧ Q (.bl (decide (i.cps.toList < j.cps.toList))) W := rfl
@[simp] theorem isNon_non : isNon .non = true := rfl
@[simp] theorem isNon_bl (b : Bool) : isNon (.bl b) = false := rfl
@[simp] theorem isNon_int (b : Int) : isNon (.int b) = false := rfl
@[simp] theorem isNon_str (b : Str) : isNon (.str b) = false := rfl
@[simp] theorem isNon_tup (b : List D) : isNon (.tup b) = false := rfl
@[simp] theorem isNon_lst (b : List D) : isNon (.lst b) = false := rfl
@[simp] theorem isNon_ptr (b : Addr) : isNon (.ptr b) = false := rfl
@[simp] theorem okOf_lst (b c : List D) : okOf (.lst b) c = fun _ => True := rfl
@[simp] theorem okOf_flst (b c : List D) : okOf (.flst b) c = fun _ => True := rfl
@[simp] theorem okOf_ptr (l : Addr) (c : List D) : okOf (.ptr l) c = fun W => W l = some (.lst c) := rfl
@[simp] theorem keyOf_int (i : Int) : keyOf (.int i) = some (.inl i) := rfl
@[simp] theorem keyOf_str (i : Str) : keyOf (.str i) = some (.inr i) := rfl
@[simp] theorem keyOf_tup (i : List D) : keyOf (.tup i) = none := rfl
@[simp] theorem dInt_int (i : Int) : dInt [.int i] W Q = Q (.int i) W := rfl
@[simp] theorem dInt_bl (k : Bool) : dInt [.bl k] W Q = Q (.int (if k = true then 1 else 0)) W := rfl
@[simp] theorem dInt_str (a : Str) : dInt [.str a] W Q = ∃ n, PySem.intText? a = some n ∧ a.length ≤ 640 ∧ Q (.int n) W := rfl
@[simp] theorem dIsi_two (d : D) (n : String) : dIsi [d, .ty n] W Q = ∃ a, tyOf W d = some a ∧ (n = "int" ∨ n = "bool" ∨ n = "str" ∨ n = "tuple" ∨ n = "list" ∨ n = "dict") ∧ Q (.bl (isiB a n)) W := rfl
@[simp] theorem aiSeq_of (a : AE) (δ : Sl) (N : List D → (Wd → Prop) → Wd → Prop) : aiSeq a δ W N = a δ W fun d W1 => walkD d W1 N := rfl
@[simp] theorem walkD_tup (ds : List D) (N : List D → (Wd → Prop) → Wd → Prop) : walkD (.tup ds) W N = N ds (fun _ => True) W := rfl
@[simp] theorem walkD_str (z : Str) (N : List D → (Wd → Prop) → Wd → Prop) : walkD (.str z) W N = N (signsOf z) (fun _ => True) W := rfl
@[simp] theorem walkD_lst (ds : List D) (N : List D → (Wd → Prop) → Wd → Prop) : walkD (.lst ds) W N = N ds (fun _ => True) W := by
  refine propext ⟨fun ⟨es, e, q⟩ => ?_, fun h => ⟨ds, rfl, h⟩⟩
  cases e
  exact q
@[simp] theorem walkD_flst (ds : List D) (N : List D → (Wd → Prop) → Wd → Prop) : walkD (.flst ds) W N = N ds (fun _ => True) W := by
  refine propext ⟨fun ⟨es, e, q⟩ => ?_, fun h => ⟨ds, rfl, h⟩⟩
  cases e
  exact q
theorem walkD_ptr {l : Addr} {ds : List D} {W : Wd} (N : List D → (Wd → Prop) → Wd → Prop) (hw : W l = some (.lst ds)) : walkD (.ptr l) W N = N ds (fun W => W l = some (.lst ds)) W := by
  refine propext ⟨fun ⟨es, e, q⟩ => ?_, fun h => ⟨ds, lstRd_ptr hw, h⟩⟩
  rw [lstRd_ptr hw] at e
  cases e
  exact q
@[simp] theorem wipeD_nil (δ : Sl) : wipeD δ [] = δ := rfl
@[simp] theorem wipeD_cons (δ : Sl) (v : Nat) (vs : List Nat) : wipeD δ (v :: vs) = (wipeD δ vs).set v none := rfl
@[simp] theorem isiB_same (a : String) : isiB a a = true := by simp [isiB]
end
@[simp] theorem isiB_int (a : String) : isiB a "int" = (decide (a = "int") || decide (a = "bool")) := by simp [isiB]
@[simp] theorem isiB_str (a : String) : isiB a "str" = decide (a = "str") := by simp [isiB]
@[simp] theorem isiB_bool (a : String) : isiB a "bool" = decide (a = "bool") := by simp [isiB]
@[simp] theorem isiB_tuple (a : String) : isiB a "tuple" = decide (a = "tuple") := by simp [isiB]
@[simp] theorem isiB_list (a : String) : isiB a "list" = decide (a = "list") := by simp [isiB]
@[simp] theorem isiB_dict (a : String) : isiB a "dict" = decide (a = "dict") := by simp [isiB]
theorem tyOf_ptr {W : Wd} {l : Addr} {ds : List D} (h : W l = some (.lst ds)) : tyOf W (.ptr l) = some "list" := by simp [tyOf, h]
theorem lenOf_ptr {W : Wd} {l : Addr} {ds : List D} (h : W l = some (.lst ds)) : lenOf W (.ptr l) = some ds.length := by simp [lenOf, h]
/-- the world in which L is owned no more is the elder one -/
theorem Wd.set_fresh {W : Wd} {L l : Addr} {m : MO} (hL : W L = none) {o : MO} (h : W l = some o) : (W.set L m) l = some o := by
  rw [Wd.set_ne, h]
  intro e
  subst e
  rw [hL] at h
  cases h
/-! ### comprehensions -/
/-- each element is what f tells, the world left as it is -/
theorem lcE_map {i : Nat} {e : AE} {δ : Sl} {items : List D} {W : Wd} {Q : DQ} (f : D → D) (hz : items.length ≤ sizeLine)
    (he : ∀ d ∈ items, ∀ (L : Addr) (acc : List D) (Q' : DQ), W L = none → Q' (f d) (W.set L (.lst acc)) → e (δ.set i (some d)) (W.set L (.lst acc)) Q')
    (hQ : Q (.lst (items.map f)) W) : lcE false (agName i) aYes e (fun _ => True) δ items W Q := by
  intro L hL
  have go : ∀ (ds : List D) (acc : List D), (∀ d ∈ ds, d ∈ items) → acc.length + ds.length ≤ sizeLine → acc ++ ds.map f = items.map f → lcL (agName i) aYes e (fun _ => True) δ L (fun W2 => ∃ acc, W2 L = some (.lst acc) ∧ (if false = true then Q (.ptr L) W2 else Q (.lst acc) (W2.del L))) ds (W.set L (.lst acc)) := by
    intro ds
    induction ds with
    | nil =>
      intro acc _ _ h2
      refine ⟨trivial, acc, Wd.set_same _ _ _, ?_⟩
      rw [if_neg (by decide), Wd.del_set hL, show acc = items.map f by simpa using h2]
      exact hQ
    | cons d ds ih =>
      intro acc h0 h1 h2
      refine ⟨trivial, ?_⟩
      simp only [agName, aYes, ↓reduceIte]
      refine he d (h0 d List.mem_cons_self) L acc _ hL ⟨acc, Wd.set_same _ _ _, by rw [List.length_cons] at h1; omega, ?_⟩
      rw [Wd.set_set]
      exact ih (acc ++ [f d]) (fun x hx => h0 x (List.mem_cons_of_mem _ hx)) (by rw [List.length_append, List.length_singleton]; rw [List.length_cons] at h1; omega) (by rw [← h2]; simp)
  exact go items [] (fun _ h => h) (by simpa using hz) rfl
/-- by an invariant over what is left, what is made and the world -/
theorem lcE_inv {i : Nat} {e : AE} {δ : Sl} {items : List D} {W : Wd} {Q : DQ} (I : List D → List D → Wd → Prop) (h0 : I items [] W) (hz : items.length ≤ sizeLine)
    (hs : ∀ d ds acc W' (L : Addr) (Q' : DQ), I (d :: ds) acc W' → W' L = none → (∀ y W'', W'' L = none → I ds (acc ++ [y]) W'' → Q' y (W''.set L (.lst acc))) → e (δ.set i (some d)) (W'.set L (.lst acc)) Q')
    (hd : ∀ acc W', I [] acc W' → Q (.lst acc) W') : lcE false (agName i) aYes e (fun _ => True) δ items W Q := by
  intro L hL
  have go : ∀ (ds acc : List D) (W' : Wd), W' L = none → acc.length + ds.length ≤ sizeLine → I ds acc W' → lcL (agName i) aYes e (fun _ => True) δ L (fun W2 => ∃ acc, W2 L = some (.lst acc) ∧ (if false = true then Q (.ptr L) W2 else Q (.lst acc) (W2.del L))) ds (W'.set L (.lst acc)) := by
    intro ds
    induction ds with
    | nil =>
      intro acc W' h1 _ h2
      refine ⟨trivial, acc, Wd.set_same _ _ _, ?_⟩
      rw [if_neg (by decide), Wd.del_set h1]
      exact hd acc W' h2
    | cons d ds ih =>
      intro acc W' h1 hz h2
      refine ⟨trivial, ?_⟩
      simp only [agName, aYes, ↓reduceIte]
      rw [List.length_cons] at hz
      refine hs d ds acc W' L _ h2 h1 fun y W'' h3 q => ⟨acc, Wd.set_same _ _ _, by omega, ?_⟩
      rw [Wd.set_set]
      exact ih _ _ h3 (by rw [List.length_append, List.length_singleton]; omega) q
  exact go items [] W hL (by simpa using hz) h0
end DL

/-! DL9: terms as data; the draws' state. -/
namespace DL
open PySem PySem.Spec PyProof.Rows L2
inductive Trm where
  | var (n : Int)
  | app (f : Str) (ts : List Trm)
mutual
def Trm.d : Trm → D
  | .var n => .int n
  | .app f ts => .tup (.str f :: Trm.ds ts)
def Trm.ds : List Trm → List D
  | [] => []
  | t :: ts => t.d :: Trm.ds ts
end
theorem Trm.ds_map : ∀ ts : List Trm, Trm.ds ts = ts.map Trm.d
  | [] => rfl
  | t :: ts => by rw [Trm.ds, Trm.ds_map ts, List.map_cons]
@[simp] theorem Trm.d_var (n : Int) : (Trm.var n).d = .int n := by rw [Trm.d]
@[simp] theorem Trm.d_app (f : Str) (ts : List Trm) : (Trm.app f ts).d = .tup (.str f :: ts.map Trm.d) := by rw [Trm.d, Trm.ds_map]
mutual
theorem Trm.ind {p : Trm → Prop} (hv : ∀ n, p (.var n)) (ha : ∀ f ts, (∀ t ∈ ts, p t) → p (.app f ts)) : ∀ t, p t
  | .var n => hv n
  | .app f ts => ha f ts (Trm.inds hv ha ts)
theorem Trm.inds {p : Trm → Prop} (hv : ∀ n, p (.var n)) (ha : ∀ f ts, (∀ t ∈ ts, p t) → p (.app f ts)) : ∀ (ts : List Trm), ∀ t ∈ ts, p t
  | [], t, h => by cases h
  | u :: us, t, h => by
    rcases List.mem_cons.mp h with e | h
    · rw [e]; exact Trm.ind hv ha u
    · exact Trm.inds hv ha us t h
end
theorem Trm.d_inj : ∀ (t u : Trm), t.d = u.d → t = u := by
  intro t
  induction t using Trm.ind with
  | hv n => intro u e; cases u with
    | var m => simp at e; rw [e]
    | app f ts => simp at e
  | ha f ts ih => intro u e; cases u with
    | var m => simp at e
    | app g us =>
      simp at e
      obtain ⟨rfl, e⟩ := e
      have go : ∀ (ts us : List Trm), (∀ t ∈ ts, ∀ u : Trm, t.d = u.d → t = u) → ts.map Trm.d = us.map Trm.d → ts = us := by
        intro ts
        induction ts with
        | nil => intro us _ e; cases us with
          | nil => rfl
          | cons _ _ => simp at e
        | cons t ts ih2 => intro us h e; cases us with
          | nil => simp at e
          | cons u us =>
            simp at e
            rw [h t List.mem_cons_self u e.1, ih2 us (fun t h' => h t (List.mem_cons_of_mem _ h')) e.2]
      rw [go ts us ih e]
@[simp] theorem Trm.d_eq {t u : Trm} : t.d = u.d ↔ t = u := ⟨Trm.d_inj t u, fun e => by rw [e]⟩
def Trm.isVar : Trm → Bool
  | .var _ => true
  | .app _ _ => false
mutual
def Trm.size : Trm → Nat
  | .var _ => 1
  | .app _ ts => 1 + Trm.sizes ts
def Trm.sizes : List Trm → Nat
  | [] => 0
  | t :: ts => t.size + Trm.sizes ts
def Trm.depth : Trm → Nat
  | .var _ => 1
  | .app _ ts => 1 + Trm.depths ts
def Trm.depths : List Trm → Nat
  | [] => 0
  | t :: ts => max t.depth (Trm.depths ts)
def Trm.ground : Trm → Bool
  | .var _ => false
  | .app _ ts => Trm.grounds ts
def Trm.grounds : List Trm → Bool
  | [] => true
  | t :: ts => t.ground && Trm.grounds ts
end
theorem Trm.depth_pos (t : Trm) : 1 ≤ t.depth := by cases t <;> simp [Trm.depth]
theorem Trm.depths_le {t : Trm} : ∀ {ts : List Trm}, t ∈ ts → t.depth ≤ Trm.depths ts
  | [], h => by cases h
  | u :: us, h => by
    rw [Trm.depths]
    rcases List.mem_cons.mp h with e | h
    · rw [e]; exact Nat.le_max_left _ _
    · exact Nat.le_trans (Trm.depths_le h) (Nat.le_max_right _ _)
@[simp] theorem tyOf_d (W : Wd) (t : Trm) : tyOf W t.d = some (if t.isVar = true then "int" else "tuple") := by
  cases t <;> simp [Trm.isVar]
def isIntD : D → Bool
  | .int _ => true
  | .bl _ => true
  | _ => false
@[simp] theorem isIntD_d (t : Trm) : isIntD t.d = t.isVar := by
  cases t <;> simp [Trm.isVar, isIntD]
@[simp] theorem isIntD_int (i : Int) : isIntD (.int i) = true := rfl
@[simp] theorem isIntD_str (i : Str) : isIntD (.str i) = false := rfl
@[simp] theorem isIntD_tup (i : List D) : isIntD (.tup i) = false := rfl
/-! ### the state that numbers are drawn from -/
def StO (m : MO) : Prop := ∃ (r : Int) (xs : List Int) (i c : Int), m = .lst [.int r, .lst (xs.map .int), .int i, .int c] ∧ 0 ≤ i
end DL

/-! DLa: readings, step by step from the head. -/
namespace DL
open PySem PySem.Spec PyProof.Rows L2
section
variable {δ δ' : Sl} {W W1 : Wd} {Q : DQ} {QT : Bool → Wd → Prop} {QA : List D → Wd → Prop} {QO : Option Int → Wd → Prop} {A : AEnds} {N : Sl → Wd → Prop} {M : List D → (Wd → Prop) → Wd → Prop} {a b c : AE} {t u : AT} {l r : AA} {lo hi : AO} {s s' : AS} {g : AG} {gs : AGs} {r2 r2' : RD2} {r1 : RD1} {rc : RDC} {rm : RDM} {ai : AI} {d e : D} {ds es : List D} {i j : Int} {k : Bool} {own : Bool} {x y z : Str} {ty : D → Wd → Prop}
theorem go_seq (h : s { A with nx := fun δ W => s' A δ W } δ W) : aSeq s s' A δ W := h
theorem go_asg (h : a δ W fun x W1 => g x δ W1 A.nx) : aAsg a g A δ W := h
theorem go_op (h : a δ W fun x W1 => b δ W1 fun y W2 => r2 x y W2 Q) : aOp r2 a b δ W Q := h
theorem go_un (h : a δ W fun x W1 => r1 x W1 Q) : aUn r1 a δ W Q := h
theorem go_test (h : a δ W fun x W1 => ∃ k, x = .bl k ∧ QT k W1) : aTest a δ W QT := h
theorem go_bl {p : Bool → Prop} (h : p k) : ∃ k', D.bl k = .bl k' ∧ p k' := ⟨k, rfl, h⟩
theorem go_cb (h : l δ W fun ds W1 => rc ds W1 Q) : aCB rc l δ W Q := h
theorem go_cons (h : a δ W fun x W1 => l δ W1 fun xs W2 => QA (x :: xs) W2) : aCons a l δ W QA := h
theorem go_nil (h : QA [] W) : aNil δ W QA := h
theorem go_ifs (h : t δ W fun b W1 => if b = true then s A δ W1 else s' A δ W1) : aIfS t s s' A δ W := h
theorem go_ret (h : a δ W A.rt) : aRet a A δ W := h
theorem go_retN (h : A.rt .non W) : aRetN A δ W := h
theorem go_drop (h : a δ W fun _ W1 => A.nx δ W1) : aDrop a A δ W := h
theorem go_call {sp : SpD} {dds : List D} {ED : DX} (h : l δ W fun ds W1 => sp (ds ++ dds) W1 Q ED) : aCall sp dds ED l δ W Q := h
theorem go_callN {sp : SpD} {ED : DX} (h : sp ds W Q ED) : sp (ds ++ []) W Q ED := by rw [List.append_nil]; exact h
theorem go_tup (h : l δ W fun ds W1 => ds.length ≤ sizeLine ∧ Q (.tup ds) W1) : aTup l δ W Q := h
theorem go_lst (h : l δ W fun ds W1 => ds.length ≤ sizeLine ∧ newL own ds W1 Q) : aLst own l δ W Q := h
theorem go_len {p : Prop} (h0 : ds.length ≤ sizeLine) (h : p) : ds.length ≤ sizeLine ∧ p := ⟨h0, h⟩
theorem go_newF (h : Q (.lst ds) W) : newL false ds W Q := by rw [newL_f]; exact h
theorem go_newT (h : ∀ p, W p = none → Q (.ptr p) (W.set p (.lst ds))) : newL true ds W Q := by rw [newL_t]; exact h
theorem go_sl {f : D → Option Int → Option Int → Wd → DQ → Prop} (h : a δ W fun x W1 => lo δ W1 fun p W2 => hi δ W2 fun q W3 => f x p q W3 Q) : aSl f a lo hi δ W Q := h
theorem go_part (h : a δ W fun x W1 => ∃ i, x = .int i ∧ QO (some i) W1) : aPart a δ W QO := h
theorem go_int {p : Int → Prop} (h : p i) : ∃ j, D.int i = .int j ∧ p j := ⟨i, rfl, h⟩
theorem go_noPart (h : QO none W) : aNoPart δ W QO := h
theorem go_bm (h : a δ W fun x W1 => ty x W1 ∧ l δ W1 fun ds W2 => rm x ds W2 Q) : aBM ty rm a l δ W Q := h
theorem go_m1 (h : a δ W fun x W1 => (∃ z, x = .str z) ∧ b δ W1 fun y W2 => rm x [y] W2 Q) : aM1 rm a b δ W Q := h
theorem go_mstr {p : Prop} (h : p) : (∃ z, D.str x = .str z) ∧ p := ⟨⟨x, rfl⟩, h⟩
theorem go_tyLl {p : Prop} (h : p) : tyL (.lst ds) W ∧ p := ⟨⟨ds, rfl⟩, h⟩
theorem go_tyLp {p : Prop} {q : Addr} (hw : W q = some (.lst ds)) (h : p) : tyL (.ptr q) W ∧ p := ⟨⟨ds, lstRd_ptr hw⟩, h⟩
theorem go_and (h : t δ W fun c W1 => if c = true then u δ W1 QT else QT false W1) : aAnd t u δ W QT := h
theorem go_or (h : t δ W fun c W1 => if c = true then QT true W1 else u δ W1 QT) : aOr t u δ W QT := h
theorem go_not (h : t δ W fun c W1 => QT (!c) W1) : aNot t δ W QT := h
theorem go_if (h : t δ W fun c W1 => if c = true then a δ W1 Q else b δ W1 Q) : aIf t a b δ W Q := h
theorem go_andV (h : a δ W fun x W1 => ∃ c, x = .bl c ∧ if c = true then b δ W1 Q else Q (.bl false) W1) : aAndV a b δ W Q := h
theorem go_orV (h : a δ W fun x W1 => ∃ c, x = .bl c ∧ if c = true then Q (.bl true) W1 else b δ W1 Q) : aOrV a b δ W Q := h
theorem go_notV (h : a δ W fun x W1 => ∃ c, x = .bl c ∧ Q (.bl (!c)) W1) : aNotV a δ W Q := h
theorem go_chain (h : a δ W fun x W1 => b δ W1 fun y W2 => r2 x y W2 fun z W3 => ∃ k, z = .bl k ∧ (if k = true then c δ W3 fun u W4 => r2' y u W4 Q else Q (.bl false) W3)) : aChain r2 r2' a b c δ W Q := h
theorem go_for (h : ai δ W fun items ok W1 => forL g s A ok items δ W1) : aFor ai g s A δ W := h
theorem go_iseq (h : a δ W fun d W1 => walkD d W1 M) : aiSeq a δ W M := h
theorem go_walkT (h : M ds (fun _ => True) W) : walkD (.tup ds) W M := h
theorem go_walkL (h : M ds (fun _ => True) W) : walkD (.lst ds) W M := by rw [walkD_lst]; exact h
theorem go_walkF (h : M ds (fun _ => True) W) : walkD (.flst ds) W M := by rw [walkD_flst]; exact h
theorem go_walkS (h : M (signsOf x) (fun _ => True) W) : walkD (.str x) W M := h
theorem go_walkP {q : Addr} (hw : W q = some (.lst ds)) (h : M ds (fun W => W q = some (.lst ds)) W) : walkD (.ptr q) W M := by rw [walkD_ptr _ hw]; exact h
theorem go_rng1 (h : l δ W fun ds W1 => ∃ j : Int, ds = [.int j] ∧ (-(2 ^ 62) ≤ j ∧ j < 2 ^ 62) ∧ M (rangeD 0 j.toNat) (fun _ => True) W1) : aiRng1 l δ W M := h
theorem go_rng1' {p : Int → Prop} (h0 : -(2 ^ 62) ≤ i ∧ i < 2 ^ 62) (h : p i) : ∃ j : Int, [D.int i] = [.int j] ∧ (-(2 ^ 62) ≤ j ∧ j < 2 ^ 62) ∧ p j := ⟨i, rfl, h0, h⟩
theorem go_rng2 (h : l δ W fun ds W1 => ∃ i j : Int, ds = [.int i, .int j] ∧ (-(2 ^ 62) ≤ i ∧ i < 2 ^ 62 ∧ -(2 ^ 62) ≤ j ∧ j < 2 ^ 62) ∧ M (rangeD i (j - i).toNat) (fun _ => True) W1) : aiRng2 l δ W M := h
theorem go_rng2' {p : Int → Int → Prop} (h0 : -(2 ^ 62) ≤ i ∧ i < 2 ^ 62 ∧ -(2 ^ 62) ≤ j ∧ j < 2 ^ 62) (h : p i j) : ∃ i' j' : Int, [D.int i, D.int j] = [.int i', .int j'] ∧ (-(2 ^ 62) ≤ i' ∧ i' < 2 ^ 62 ∧ -(2 ^ 62) ≤ j' ∧ j' < 2 ^ 62) ∧ p i' j' := ⟨i, j, rfl, h0, h⟩
theorem go_lc {vs : List Nat} (h : ai δ W fun items ok W1 => lcE own g t a ok (wipeD δ vs) items W1 Q) : aLc own ai g t a vs δ W Q := h
theorem go_name {n : Nat} (h0 : δ.set n (some d) = δ') (h : N δ' W) : agName n d δ W N := by subst h0; exact h
theorem go_gtup {n : Nat} (h0 : ds.length = n) (h : gs ds δ W N) : agTup n gs (.tup ds) δ W N := ⟨ds, rfl, h0, h⟩
theorem go_gcons (h : g d δ W fun δ' W' => gs ds δ' W' N) : agCons g gs (d :: ds) δ W N := ⟨d, ds, rfl, h⟩
theorem go_gnil (h : N δ W) : agNil [] δ W N := ⟨rfl, h⟩
theorem go_gsub {st : DSet} (h : a δ W fun x W1 => b δ W1 fun y W2 => st x y d W2 fun W3 => N δ W3) : agSub a b st d δ W N := h
theorem go_aug {n : Nat} (h0 : δ[n]? = some (some d)) (h : a δ W fun e W1 => r2 d e W1 fun f W2 => A.nx (δ.set n (some f)) W2) : aAug n a r2 A δ W := ⟨d, h0, h⟩
theorem go_var {n : Nat} (h0 : δ[n]? = some (some d)) (h : Q d W) : aVar n δ W Q := ⟨d, h0, h⟩
theorem go_varF {n : Nat} {q : Addr} {m : MO} (h0 : δ[n]? = some (some (.ptr q))) (hw : W q = some m) (hf : frzD m = some d) (hd : W.del q = W1) (h : Q d W1) : aVarF n δ W Q := by subst hd; exact ⟨q, m, d, h0, hw, hf, h⟩
theorem go_frz {n : Nat} {q : Addr} {m : MO} (h0 : δ[n]? = some (some (.ptr q))) (hw : W q = some m) (hf : frzD m = some d) (hd : W.del q = W1) (hs : δ.set n (some d) = δ') (h : s A δ' W1) : aFrz n s A δ W := by subst hd hs; exact ⟨q, m, d, h0, hw, hf, h⟩
theorem go_c (h : Q d W) : aC d δ W Q := h
theorem go_next (h : A.nx δ W) : aNext A δ W := h
theorem go_break (h : A.bk δ W) : aBreak A δ W := h
theorem go_cont (h : A.ct δ W) : aCont A δ W := h
theorem go_i0 {f : Int → Int → D} (h : Q (f i j) W) : dI0 f (.int i) (.int j) W Q := ⟨i, j, rfl, rfl, h⟩
theorem go_iC {f : Int → Int → D} {C : Int → Int → Prop} (h0 : C i j) (h : Q (f i j) W) : dIC C f (.int i) (.int j) W Q := ⟨i, j, rfl, rfl, h0, h⟩
theorem go_u {f : Int → D} (h : Q (f i) W) : dU f (.int i) W Q := ⟨i, rfl, h⟩
theorem go_addI (h : Q (.int (i + j)) W) : dAdd own (.int i) (.int j) W Q := ⟨j, rfl, h⟩
theorem go_addS (h0 : x.length + y.length ≤ sizeLine) (h : Q (.str (x ++ y)) W) : dAdd own (.str x) (.str y) W Q := ⟨y, rfl, h0, h⟩
theorem go_addT (h0 : ds.length + es.length ≤ sizeLine) (h : Q (.tup (ds ++ es)) W) : dAdd own (.tup ds) (.tup es) W Q := ⟨es, rfl, h0, h⟩
theorem go_addL (h1 : lstOf W d = some ds) (h2 : lstOf W e = some es) (h0 : ds.length + es.length ≤ sizeLine) (h : newL own (ds ++ es) W Q) : dAdd own d e W Q := by
  cases d with
  | lst _ => exact ⟨ds, es, h1, h2, h0, h⟩
  | ptr _ => exact ⟨ds, es, h1, h2, h0, h⟩
  | _ => cases h1
theorem go_eq (h0 : d.near e) (h : Q (.bl (d.eqv e)) W) : dEq d e W Q := ⟨h0, h⟩
theorem go_ne (h0 : d.near e) (h : Q (.bl (!d.eqv e)) W) : dNe d e W Q := ⟨h0, h⟩
theorem near_ii : (D.int i).near (.int j) := by simp [D.near, D.plain, D.py, PyData.depth]
theorem near_ss : (D.str x).near (.str y) := by simp [D.near, D.plain, D.py, PyData.depth]
@[simp] theorem eqv_ii : (D.int i).eqv (.int j) = decide (i = j) := by simp [D.eqv, D.py, PyData.eqv, Bool.beq_eq_decide_eq]
@[simp] theorem eqv_ss : (D.str x).eqv (.str y) = decide (x = y) := by simp [D.eqv, D.py, PyData.eqv, Bool.beq_eq_decide_eq]
@[simp] theorem eqv_bb {p q : Bool} : (D.bl p).eqv (.bl q) = decide (p = q) := by simp [D.eqv, D.py, PyData.eqv, Bool.beq_eq_decide_eq]
theorem go_eqI (h : Q (.bl (decide (i = j))) W) : dEq (.int i) (.int j) W Q := ⟨near_ii, by rw [eqv_ii]; exact h⟩
theorem go_neI (h : Q (.bl (!decide (i = j))) W) : dNe (.int i) (.int j) W Q := ⟨near_ii, by rw [eqv_ii]; exact h⟩
theorem go_eqS (h : Q (.bl (decide (x = y))) W) : dEq (.str x) (.str y) W Q := ⟨near_ss, by rw [eqv_ss]; exact h⟩
theorem go_neS (h : Q (.bl (!decide (x = y))) W) : dNe (.str x) (.str y) W Q := ⟨near_ss, by rw [eqv_ss]; exact h⟩
theorem go_isN (h : Q (.bl (isNon d)) W) : dIs false d .non W Q := .inl ⟨rfl, h⟩
theorem go_isnN (h : Q (.bl (!isNon d)) W) : dIs true d .non W Q := .inl ⟨rfl, h⟩
theorem go_isB {p q : Bool} (h : Q (.bl (decide (p = q))) W) : dIs false (.bl p) (.bl q) W Q := .inr ⟨p, q, rfl, rfl, h⟩
theorem go_isnB {p q : Bool} (h : Q (.bl (!decide (p = q))) W) : dIs true (.bl p) (.bl q) W Q := .inr ⟨p, q, rfl, rfl, h⟩
theorem go_ixT (h0 : atI ds i = some d) (h : Q d W) : dIx (.tup ds) (.int i) W Q := ⟨i, d, rfl, h0, h⟩
theorem go_ixT0 (h : Q d W) : dIx (.tup (d :: ds)) (.int 0) W Q := ⟨0, d, rfl, by simp, h⟩
theorem go_ixL0 (h : Q d W) : dIx (.lst (d :: ds)) (.int 0) W Q := dIx_l (ds := d :: ds) rfl (by simp) h
theorem go_ixS {n : Nat} (hz : x.length ≤ sizeLine) (h0 : atI x.cps.toList i = some n) (h : Q (.str ⟨#[n]⟩) W) : dIx (.str x) (.int i) W Q := ⟨i, n, rfl, hz, h0, h⟩
theorem go_ixL (h0 : atI ds i = some d) (h : Q d W) : dIx (.lst ds) (.int i) W Q := dIx_l rfl h0 h
theorem go_ixP {q : Addr} (hw : W q = some (.lst ds)) (h0 : atI ds i = some d) (h : Q d W) : dIx (.ptr q) (.int i) W Q := dIx_l (lstRd_ptr hw) h0 h
theorem go_slT {p q : Option Int} (h : Q (.tup (cutD ds p q)) W) : dSl own (.tup ds) p q W Q := h
theorem go_slS {p q : Option Int} (h0 : x.length ≤ sizeLine) (h : Q (.str (cutS x p q)) W) : dSl own (.str x) p q W Q := ⟨h0, h⟩
theorem go_slL {p q : Option Int} (h : newL own (cutD ds p q) W Q) : dSl own (.lst ds) p q W Q := ⟨ds, rfl, h⟩
theorem go_slP {p q : Option Int} {m : Addr} (hw : W m = some (.lst ds)) (h : newL own (cutD ds p q) W Q) : dSl own (.ptr m) p q W Q := ⟨ds, lstRd_ptr hw, h⟩
theorem go_lenV {n : Nat} (h0 : lenOf W d = some n) (h : Q (.int n) W) : dLen [d] W Q := ⟨d, n, rfl, h0, h⟩
theorem go_isi {n m : String} (h0 : tyOf W d = some m) (h1 : n = "int" ∨ n = "bool" ∨ n = "str" ∨ n = "tuple" ∨ n = "list" ∨ n = "dict") (h2 : isiB m n = k) (h : Q (.bl k) W) : dIsi [d, .ty n] W Q := ⟨m, h0, h1, by rw [h2]; exact h⟩
theorem go_isiTI {t : Trm} (h : Q (.bl t.isVar) W) : dIsi [t.d, .ty "int"] W Q := ⟨_, tyOf_d W t, .inl rfl, by cases t <;> exact h⟩
theorem go_isiTT {t : Trm} (h : Q (.bl (!t.isVar)) W) : dIsi [t.d, .ty "tuple"] W Q := ⟨_, tyOf_d W t, by simp, by cases t <;> exact h⟩
theorem go_intI (h : Q (.int i) W) : dInt [.int i] W Q := h
theorem go_max2 (h : Q (.int (if j > i then j else i)) W) : dMax2 [.int i, .int j] W Q := ⟨i, j, rfl, h⟩
theorem go_min2 (h : Q (.int (if j < i then j else i)) W) : dMin2 [.int i, .int j] W Q := ⟨i, j, rfl, h⟩
theorem go_sum {ns : List Int} (h0 : lstRd W d = some (ns.map D.int)) (h : Q (.int ns.sum) W) : dSum [d] W Q := ⟨d, ns, rfl, h0, h⟩
theorem go_listL (h0 : lstRd W d = some es) (h : newL own es W Q) : dList own [d] W Q := ⟨d, es, rfl, .inl h0, h⟩
theorem go_listT (h : newL own es W Q) : dList own [.tup es] W Q := ⟨.tup es, es, rfl, .inr rfl, h⟩
theorem go_tupleL (h0 : lstRd W d = some es) (h : Q (.tup es) W) : dTuple [d] W Q := ⟨d, es, rfl, .inl h0, h⟩
theorem go_tupleT (h : Q (.tup es) W) : dTuple [.tup es] W Q := ⟨.tup es, es, rfl, .inr rfl, h⟩
theorem go_append {q : Addr} (hw : W q = some (.lst ds)) (h0 : ds.length < sizeLine) (h : Q .non (W.set q (.lst (ds ++ [d])))) : dAppend (.ptr q) [d] W Q := ⟨q, ds, d, rfl, rfl, hw, h0, h⟩
theorem go_extend {q : Addr} (hw : W q = some (.lst ds)) (h1 : lstOf W d = some es) (h0 : ds.length + es.length ≤ sizeLine) (h : Q .non (W.set q (.lst (ds ++ es)))) : dExtend (.ptr q) [d] W Q := ⟨q, ds, d, es, rfl, rfl, hw, h1, h0, h⟩
theorem go_pop {q : Addr} (hw : W q = some (.lst ds)) (h1 : ds[ds.length - 1]? = some d) (h : Q d (W.set q (.lst ds.dropLast))) : dPop (.ptr q) [] W Q := ⟨q, ds, d, rfl, rfl, hw, h1, h⟩
theorem go_setL {q : Addr} {n : Nat} {NW : Wd → Prop} (hw : W q = some (.lst ds)) (h0 : ixN ds.length i = some n) (h1 : ds.set n d = es) (h : NW (W.set q (.lst es))) : dSet (.ptr q) (.int i) d W NW := by subst h1; exact ⟨q, rfl, .inl ⟨ds, i, n, hw, rfl, h0, h⟩⟩
theorem go_setL2 {q : Addr} {n : Nat} {NW : Wd → Prop} (h0 : ixN ds.length i = some n) (h1 : ds.set n d = es) (h : NW (W.set q (.lst es))) : dSet (.ptr q) (.int i) d (W.set q (.lst ds)) NW := go_setL (Wd.set_same ..) h0 h1 (by rw [Wd.set_set]; exact h)
theorem go_append2 {q : Addr} (h0 : ds.length < sizeLine) (h : Q .non (W.set q (.lst (ds ++ [d])))) : dAppend (.ptr q) [d] (W.set q (.lst ds)) Q := go_append (Wd.set_same ..) h0 (by rw [Wd.set_set]; exact h)
theorem go_ltI (h : Q (.bl (decide (i < j))) W) : dLt (.int i) (.int j) W Q := by rw [dLt_int]; exact ⟨j, rfl, h⟩
theorem go_ltS (h : Q (.bl (decide (x.cps.toList < y.cps.toList))) W) : dLt (.str x) (.str y) W Q := by rw [dLt_str]; exact ⟨y, rfl, h⟩
theorem go_yes (h : QT true W) : aYes δ W QT := h
theorem go_iteT {p q : Prop} (h : p) : if true = true then p else q := by simpa using h
theorem go_iteF {p q : Prop} (h : q) : if false = true then p else q := by simpa using h
theorem go_iteC1 {c : Bool} {p q : Prop} (hc : c = true) (h : p) : if c = true then p else q := by rw [if_pos hc]; exact h
theorem go_iteC0 {c : Bool} {p q : Prop} (hc : c = false) (h : q) : if c = true then p else q := by rw [if_neg (by rw [hc]; decide)]; exact h
theorem go_iteD {c p q : Prop} [Decidable c] (h1 : c → p) (h2 : ¬ c → q) : if decide c = true then p else q := by
  by_cases h : c
  · simpa [h] using h1 h
  · simpa [h] using h2 h
theorem go_iteN {c p q : Prop} [Decidable c] (h1 : ¬ c → p) (h2 : c → q) : if (!decide c) = true then p else q := by
  by_cases h : c
  · simpa [h] using h2 h
  · simpa [h] using h1 h
theorem go_iteDN {c p q : Prop} [Decidable c] (h1 : c → p) (h2 : ¬ c → q) : if (!!decide c) = true then p else q := by
  by_cases h : c
  · simpa [h] using h1 h
  · simpa [h] using h2 h
theorem go_iteB {c : Bool} {p q : Prop} (h1 : c = true → p) (h2 : c = false → q) : if c = true then p else q := by
  cases c
  · simpa using h2 rfl
  · simpa using h1 rfl
theorem go_fnil {ok : Wd → Prop} (h0 : ok W) (h : A.nx δ W) : forL g s A ok [] δ W := ⟨h0, h⟩
theorem go_fcons {ok : Wd → Prop} (h0 : ok W) (h : g d δ W fun δ' W' => s { A with nx := fun δ W => forL g s A ok ds δ W, ct := fun δ W => forL g s A ok ds δ W, bk := A.nx } δ' W') : forL g s A ok (d :: ds) δ W := ⟨h0, h⟩
end
end DL

/-! DLb: loops by an invariant; words. -/
namespace DL
open PySem PySem.Spec PyProof.Rows L2
theorem forL_inv {g : AG} {s : AS} {A : AEnds} {ok : Wd → Prop} {items : List D} {δ : Sl} {W : Wd} (I : List D → Sl → Wd → Prop) (h0 : I items δ W) (hok : ∀ ds δ W, I ds δ W → ok W)
    (hs : ∀ d ds δ W (N : Sl → Wd → Prop), I (d :: ds) δ W → (∀ δ W, I ds δ W → N δ W) → g d δ W fun δ' W' => s { A with nx := N, ct := N, bk := A.nx } δ' W')
    (hd : ∀ δ W, I [] δ W → A.nx δ W) : forL g s A ok items δ W := by
  have go : ∀ items δ W, I items δ W → forL g s A ok items δ W := by
    intro items
    induction items with
    | nil => exact fun δ W h => ⟨hok _ _ _ h, hd _ _ h⟩
    | cons d ds ih => exact fun δ W h => ⟨hok _ _ _ h, hs d ds δ W _ h fun δ W h => ih δ W h⟩
  exact go items δ W h0
/-! ### words -/
def Low (x : Str) : Prop := ∀ c ∈ x.cps.toList, 97 ≤ c ∧ c ≤ 122
theorem app_list (x y : Str) : (x ++ y).cps.toList = x.cps.toList ++ y.cps.toList := by
  show (Str.append x y).cps.toList = _
  simp [Str.append]
theorem app_len (x y : Str) : (x ++ y).length = x.length + y.length := by
  show (Str.append x y).cps.size = _
  simp [Str.append, Str.length]
theorem len_list (x : Str) : x.length = x.cps.toList.length := by simp [Str.length]
theorem str_ext {x y : Str} (h : x.cps.toList = y.cps.toList) : x = y := by
  cases x; cases y; simp at h; rw [h]
theorem Low.app {x y : Str} (hx : Low x) (hy : Low y) : Low (x ++ y) := fun c h => by
  rw [app_list] at h
  rcases List.mem_append.mp h with h | h
  · exact hx c h
  · exact hy c h
theorem join0 : ∀ ys : List Str, (Txt.join ("" : Str) ys).cps.toList = (ys.map fun y => y.cps.toList).flatten := by
  intro ys
  show (Builtin.Str.glued ("" : Str) ys).cps.toList = _
  rw [StrLaws.glued_eq_join]
  induction ys with
  | nil => rfl
  | cons x r ih => cases r with
    | nil => simp [Str.join]
    | cons y r =>
      rw [Str.join, app_list, app_list, ih]
      · have : (("" : Str)).cps.toList = [] := by decide +kernel
        rw [this]; simp
      · intro e; cases e
def abc : Str := "abcdefghijklmnopqrstuvwxyz"
theorem abc_len : abc.length = 26 := by decide +kernel
theorem abc_at : ∀ n : Nat, n < 26 → abc.cps.toList[n]? = some (97 + n) := by
  have : ∀ n : Fin 26, abc.cps.toList[n.val]? = some (97 + n.val) := by decide +kernel
  exact fun n h => this ⟨n, h⟩
theorem go_abc {i : Int} {W : Wd} {Q : DQ} (h0 : 0 ≤ i) (h1 : i < 26) (h : Q (.str ⟨#[97 + i.toNat]⟩) W) : dIx (.str "abcdefghijklmnopqrstuvwxyz") (.int i) W Q :=
  go_ixS (n := 97 + i.toNat) (by show abc.length ≤ _; rw [abc_len, sizeLine_val]; decide) (by show atI abc.cps.toList i = _; rw [atI_of h0]; exact abc_at _ (by omega)) h
theorem go_join {W : Wd} {Q : DQ} {ys : List Str} {a : Str} (hz : (ys.map (·.length)).sum + ys.length * a.length ≤ 16777216) (h : Q (.str (Txt.join a ys)) W) : dJoin (.str a) [.lst (ys.map .str)] W Q :=
  ⟨a, _, ys, rfl, rfl, .inl rfl, hz, h⟩
theorem ones_sum : ∀ ys : List Str, (∀ y ∈ ys, y.length = 1) → (ys.map (·.length)).sum = ys.length
  | [], _ => rfl
  | y :: ys, h => by
    rw [List.map_cons, List.sum_cons, ones_sum ys (fun z hz => h z (List.mem_cons_of_mem _ hz)), h y List.mem_cons_self, List.length_cons]; omega
theorem word_of {ys : List Str} (h : ∀ y ∈ ys, ∃ c, y = ⟨#[c]⟩ ∧ 97 ≤ c ∧ c ≤ 122) : Low (Txt.join ("" : Str) ys) ∧ (Txt.join ("" : Str) ys).length = ys.length := by
  refine ⟨fun c hc => ?_, ?_⟩
  · rw [join0, List.mem_flatten] at hc
    obtain ⟨l, hl, hc⟩ := hc
    obtain ⟨y, hy, rfl⟩ := List.mem_map.mp hl
    obtain ⟨d, rfl, hd⟩ := h y hy
    simp at hc
    rw [hc]; exact hd
  · rw [len_list, join0, List.length_flatten, List.map_map]
    have := ones_sum ys fun y hy => by obtain ⟨c, rfl, _⟩ := h y hy; rfl
    rw [← this]
    congr 1
theorem map_str_of {ds : List D} (h : ∀ d ∈ ds, ∃ c, d = .str ⟨#[c]⟩ ∧ 97 ≤ c ∧ c ≤ 122) : ∃ ys : List Str, ds = ys.map .str ∧ ys.length = ds.length ∧ ∀ y ∈ ys, ∃ c, y = ⟨#[c]⟩ ∧ 97 ≤ c ∧ c ≤ 122 := by
  induction ds with
  | nil => exact ⟨[], rfl, rfl, fun y h => by cases h⟩
  | cons d ds ih =>
    obtain ⟨ys, rfl, e, g⟩ := ih fun x hx => h x (List.mem_cons_of_mem _ hx)
    obtain ⟨c, rfl, hc⟩ := h d List.mem_cons_self
    refine ⟨⟨#[c]⟩ :: ys, rfl, by rw [List.length_cons, List.length_cons, e], fun y hy => ?_⟩
    rcases List.mem_cons.mp hy with e | hy
    · exact ⟨c, e, hc⟩
    · exact g y hy
/-- each element is what f tells, the world left as it is -/
theorem lcE_pure {α : Type} {i : Nat} {e : AE} {δ : Sl} {W : Wd} {Q : DQ} (g : α → D) (f : α → D) (xs : List α) (hz : xs.length ≤ sizeLine)
    (he : ∀ x ∈ xs, ∀ (W' : Wd) (Q' : DQ), Q' (f x) W' → e (δ.set i (some (g x))) W' Q') (hQ : Q (.lst (xs.map f)) W) : lcE false (agName i) aYes e (fun _ => True) δ (xs.map g) W Q := by
  refine lcE_inv (fun ds acc W' => ∃ us vs : List α, W' = W ∧ ds = us.map g ∧ acc = vs.map f ∧ vs ++ us = xs) ⟨xs, [], rfl, rfl, rfl, rfl⟩ (by rw [List.length_map]; exact hz) ?_ ?_
  · rintro d ds acc W' L Q' ⟨us, vs, rfl, e1, rfl, e2⟩ hL k
    cases us with
    | nil => cases e1
    | cons u us =>
      rw [List.map_cons] at e1
      cases e1
      refine he u (by rw [← e2]; simp) _ Q' ?_
      exact k _ _ hL ⟨us, vs ++ [u], rfl, rfl, by simp, by rw [← e2]; simp⟩
  · rintro acc W' ⟨us, vs, rfl, e1, rfl, e2⟩
    cases us with
    | cons u us => cases e1
    | nil => rw [List.append_nil] at e2; rw [e2]; exact hQ
/-- each element draws from the state -/
theorem lcE_draw {i : Nat} {e : AE} {δ : Sl} {items : List D} {W : Wd} {Q : DQ} {st : Addr} {o : MO} (I : List D → List D → Prop) (hw : W st = some o) (ho : StO o) (h0 : I items []) (hz : items.length ≤ sizeLine)
    (hs : ∀ d ds acc (W' : Wd) o (Q' : DQ), I (d :: ds) acc → W' st = some o → StO o → (∀ y o', StO o' → I ds (acc ++ [y]) → Q' y (W'.set st o')) → e (δ.set i (some d)) W' Q')
    (hd : ∀ acc o', I [] acc → StO o' → Q (.lst acc) (W.set st o')) : lcE false (agName i) aYes e (fun _ => True) δ items W Q := by
  refine lcE_inv (fun ds acc W' => I ds acc ∧ ∃ o, StO o ∧ W' = W.set st o) ⟨h0, o, ho, (Wd.set_self hw).symm⟩ hz ?_ ?_
  · rintro d ds acc W' L Q' ⟨h1, o, h2, rfl⟩ hL k
    have ne : L ≠ st := fun e => by subst e; simp at hL
    refine hs d ds acc _ o Q' h1 (Wd.set_fresh hL (Wd.set_same _ _ _)) h2 fun y o' h3 h4 => ?_
    rw [Wd.set_comm ne, Wd.set_set]
    refine k y (W.set st o') ?_ ⟨h4, o', h3, rfl⟩
    rw [Wd.set_ne ne] at hL ⊢
    exact hL
  · rintro acc W' ⟨h1, o, h2, rfl⟩
    exact hd acc o h1 h2
end DL

/-! DLc: operations, terms over them. -/
namespace DL
open PySem PySem.Spec PyProof.Rows L2
def Nm (x : Str) : Prop := Low x ∧ 1 ≤ x.length ∧ x.length ≤ 7
abbrev Sig := List (Str × Nat)
def opD (x : Str × Nat) : D := .tup [.str x.1, .int x.2]
def arV (n : Nat) : List Nat := if n = 6 then [0, 0, 1, 2, 2, 3] else [0, 0, 1, 2, 3].take n
def Ops (ops : Sig) : Prop := (ops.length = 4 ∨ ops.length = 5 ∨ ops.length = 6) ∧ ops.map Prod.snd = arV ops.length ∧ (ops.map Prod.fst).Nodup ∧ ∀ x ∈ ops, Nm x.1
inductive Wf (ops : Sig) (n : Int) : Trm → Prop
  | var {v : Int} (h0 : 0 ≤ v) (h1 : v < n) : Wf ops n (.var v)
  | app {f : Str} {ts : List Trm} (h0 : (f, ts.length) ∈ ops) (h1 : ∀ t ∈ ts, Wf ops n t) : Wf ops n (.app f ts)
/-- no place with many arguments -/
inductive Sm : Trm → Prop
  | var {v : Int} : Sm (.var v)
  | app {f : Str} {ts : List Trm} (h0 : ts.length ≤ 1000) (h1 : ∀ t ∈ ts, Sm t) : Sm (.app f ts)
theorem Ops.len {ops : Sig} (h : Ops ops) : 4 ≤ ops.length ∧ ops.length ≤ 6 := by rcases h.1 with e | e | e <;> omega
theorem Ops.snd_at {ops : Sig} (h : Ops ops) (i : Nat) (hi : i < ops.length) : (arV ops.length)[i]? = some (ops[i]).2 := by
  rw [← h.2.1, List.getElem?_map, List.getElem?_eq_getElem hi]; rfl
theorem Ops.low {ops : Sig} (h : Ops ops) (i : Nat) (hi : i < 3) : ∃ hl : i < ops.length, (ops[i]).2 = ([0, 0, 1] : List Nat).getD i 0 := by
  have hl := h.len
  have hil : i < ops.length := by omega
  have a := h.snd_at i hil
  refine ⟨hil, ?_⟩
  match i, hi with
  | 0, _ => rcases h.1 with e | e | e <;> (rw [e] at a; simp [arV] at a; simp [← a])
  | 1, _ => rcases h.1 with e | e | e <;> (rw [e] at a; simp [arV] at a; simp [← a])
  | 2, _ => rcases h.1 with e | e | e <;> (rw [e] at a; simp [arV] at a; simp [← a])
theorem Ops.le3 {ops : Sig} (h : Ops ops) {x : Str × Nat} (hx : x ∈ ops) : x.2 ≤ 3 := by
  have : x.2 ∈ ops.map Prod.snd := List.mem_map_of_mem hx
  rw [h.2.1] at this
  rcases h.1 with e | e | e <;> (rw [e] at this; simp [arV] at this; omega)
theorem Wf.sm {ops : Sig} {n : Int} (ho : Ops ops) {t : Trm} (h : Wf ops n t) : Sm t := by
  induction h with
  | var => exact .var
  | app h0 _ ih =>
    have := ho.le3 h0
    exact .app (by simp at this; omega) ih
theorem Sm.args {f : Str} {ts : List Trm} (h : Sm (.app f ts)) : ts.length ≤ 1000 ∧ ∀ t ∈ ts, Sm t := by
  cases h with | app h0 h1 => exact ⟨h0, h1⟩
theorem Wf.args {ops : Sig} {n : Int} {f : Str} {ts : List Trm} (h : Wf ops n (.app f ts)) : (f, ts.length) ∈ ops ∧ ∀ t ∈ ts, Wf ops n t := by
  cases h with | app h0 h1 => exact ⟨h0, h1⟩
theorem depth_app_le {f : Str} {ts : List Trm} {n : Nat} : (Trm.app f ts).depth ≤ n + 1 ↔ ∀ t ∈ ts, t.depth ≤ n := by
  rw [Trm.depth]
  have : ∀ ts : List Trm, Trm.depths ts ≤ n ↔ ∀ t ∈ ts, t.depth ≤ n := by
    intro ts
    induction ts with
    | nil => simp [Trm.depths]
    | cons t ts ih => rw [Trm.depths, Nat.max_le, ih]; simp
  rw [← this]; omega
theorem sizes_sum : ∀ ts : List Trm, (ts.map fun t => (t.size : Int)).sum = (Trm.sizes ts : Int)
  | [] => rfl
  | t :: ts => by rw [List.map_cons, List.sum_cons, sizes_sum ts, Trm.sizes]; omega
theorem grounds_all : ∀ ts : List Trm, Trm.grounds ts = ts.all Trm.ground
  | [] => rfl
  | t :: ts => by rw [Trm.grounds, grounds_all ts, List.all_cons]
theorem depths_max {ts : List Trm} {m : Int} (h : m ∈ ts.map fun t => (t.depth : Int)) (hm : ∀ y ∈ ts.map (fun t => (t.depth : Int)), y ≤ m) : m = Trm.depths ts := by
  have a : ∀ t ∈ ts, (t.depth : Int) ≤ m := fun t ht => hm _ (List.mem_map_of_mem ht)
  obtain ⟨t, ht, rfl⟩ := List.mem_map.mp h
  have b := Trm.depths_le ht
  have c : ∀ us : List Trm, (∀ u ∈ us, (u.depth : Int) ≤ t.depth) → Trm.depths us ≤ t.depth := by
    intro us
    induction us with
    | nil => intro _; simp [Trm.depths]
    | cons u us ih =>
      intro h
      rw [Trm.depths, Nat.max_le]
      exact ⟨by have := h u List.mem_cons_self; omega, ih fun v hv => h v (List.mem_cons_of_mem _ hv)⟩
  have := c ts a
  omega
theorem plains_of {ds : List D} (h : ∀ d ∈ ds, d.plain = true) : D.plains ds = true := by
  rw [D.plains_all, List.all_eq_true]; exact h
theorem depthAll_le {n : Nat} : ∀ {ds : List D}, (∀ d ∈ ds, d.py.depth ≤ n) → PyData.depthAll (D.pys ds) ≤ n
  | [], _ => by simp [D.pys, PyData.depthAll]
  | d :: ds, h => by
    rw [D.pys, PyData.depthAll]
    exact Nat.max_le.mpr ⟨h d List.mem_cons_self, depthAll_le fun x hx => h x (List.mem_cons_of_mem _ hx)⟩
theorem go_inBl {ks : List Bool} {W : Wd} {Q : DQ} (h : Q (.bl (ks.any id)) W) : dIn false (.bl true) (.lst (ks.map .bl)) W Q := by
  refine .inl ⟨_, rfl, ⟨rfl, plains_of fun d hd => ?_, ?_⟩, ?_⟩
  · obtain ⟨k, _, rfl⟩ := List.mem_map.mp hd; rfl
  · have : PyData.depthAll (D.pys (ks.map .bl)) ≤ 1 := depthAll_le fun d hd => by
      obtain ⟨k, _, rfl⟩ := List.mem_map.mp hd
      simp [D.py, PyData.depth]
    omega
  · have : D.within (.bl true) (ks.map .bl) = ks.any id := by
      unfold D.within
      rw [List.any_map]
      congr 1
      funext k
      simp
    rw [this]
    exact h
/-! ### sizes of drawn terms -/
def szB : Nat → Nat
  | 0 => 1
  | k + 1 => 1 + 3 * szB k
theorem szB_pos : ∀ k, 1 ≤ szB k
  | 0 => Nat.le_refl _
  | _ + 1 => Nat.le_add_right _ _
theorem sizes_le {n : Nat} : ∀ {ts : List Trm}, (∀ t ∈ ts, t.size ≤ n) → Trm.sizes ts ≤ ts.length * n
  | [], _ => by simp [Trm.sizes]
  | t :: ts, h => by
    rw [Trm.sizes, List.length_cons, Nat.add_mul]
    have := h t List.mem_cons_self
    have := sizes_le fun u hu => h u (List.mem_cons_of_mem _ hu)
    omega
theorem Trm.size_pos (t : Trm) : 1 ≤ t.size := by cases t <;> simp [Trm.size]
theorem length_sizes : ∀ ts : List Trm, ts.length ≤ Trm.sizes ts
  | [] => Nat.le_refl _
  | t :: ts => by rw [Trm.sizes, List.length_cons]; have := length_sizes ts; have := t.size_pos; omega
theorem size_mem {t : Trm} : ∀ {ts : List Trm}, t ∈ ts → t.size ≤ Trm.sizes ts
  | [], h => by cases h
  | u :: us, h => by
    rw [Trm.sizes]
    rcases List.mem_cons.mp h with e | h
    · rw [e]; omega
    · have := size_mem h; omega
end DL

/-! DLd: dicts, zip, f-strings. -/
namespace DL
open PySem PySem.Spec PyProof.Rows L2 RZ SkE
section
variable {X : Cx} {G0 : Hp} {pos apos cpos p : Pos} {o e f : Expr} {to te tf : TE} {ao ae af : AE}
/-! ### {} -/
def aDk0 : AE := fun _ W Q => ∀ p, W p = none → Q (.ptr p) (W.set p (.dk []))
def aDt0 : AE := fun _ W Q => ∀ p, W p = none → Q (.ptr p) (W.set p (.dt []))
theorem de_dk0 : DE X G0 (.Dict [] [] pos) tDNewK aDk0 := ⟨pe_dnewK, fun σ H Q G δ W QD s0 R S h k p hp => k (.ref p) (.ptr p) G _ _ (Same.refl G) (R.newOwn (m := .dk []) hp ⟨[], rfl, rfl⟩) rfl (h p (R.freeW hp))⟩
theorem de_dt0 : DE X G0 (.Dict [] [] pos) tDNewT aDt0 := ⟨pe_dnewT, fun σ H Q G δ W QD s0 R S h k p hp => k (.ref p) (.ptr p) G _ _ (Same.refl G) (R.newOwn (m := .dt []) hp ⟨[], rfl, rfl⟩) rfl (h p (R.freeW hp))⟩
def aDk0F : AE := aC (.dk [])
theorem de_dk0F : DE X G0 (.Dict [] [] pos) tDNewK aDk0F := ⟨pe_dnewK, fun σ H Q G δ W QD s0 R S h k p hp => k.new (d := .dk []) R hp ⟨p, [], rfl, ⟨_, upd_same, rfl⟩, rfl⟩ h⟩
/-! ### d.get -/
def dctV (d : D) (W : Wd) : Prop := (∃ kds, dkOf W d = some kds) ∨ ∃ kds, dtOf W d = some kds
theorem dctV_at {K : PySem.W.Frag} {G H : Hp} {W : Wd} (R : Rel K G H W) {d : D} {v : V} (hd : IsD K G d v) (h : dctV d W) : ∃ a, v = .ref a ∧ L2.IsD H a := by
  rcases h with ⟨kds, e⟩ | ⟨kds, e⟩
  · obtain ⟨a, kvs, rfl, ha, _⟩ := dkOf_at R hd e
    exact ⟨a, rfl, .inl ⟨kvs, ha⟩⟩
  · obtain ⟨a, kvs, rfl, ha, _⟩ := dtOf_at R hd e
    exact ⟨a, rfl, .inr ⟨kvs, ha⟩⟩
def aGet1 (a b : AE) : AE := fun δ W Q => a δ W fun x W1 => dctV x W1 ∧ b δ W1 fun y W2 => ∃ r, dGet W2 x y r ∧ Q (r.getD .non) W2
def aGet2 (a b c : AE) : AE := fun δ W Q => a δ W fun x W1 => dctV x W1 ∧ b δ W1 fun y W2 => c δ W2 fun z W3 => ∃ r, dGet W3 x y r ∧ Q (r.getD z) W3
theorem getD_at {K : PySem.W.Frag} {G : Hp} {r : Option D} {r' : Option V} {z : D} {u : V} (hz : IsD K G z u) (h : (∃ d v, r = some d ∧ r' = some v ∧ IsD K G d v) ∨ (r = none ∧ r' = none)) : IsD K G (r.getD z) (r'.getD u) := by
  rcases h with ⟨d, v, rfl, rfl, q⟩ | ⟨rfl, rfl⟩
  · exact q
  · exact hz
theorem de_get1 (hu : X.A.units + 1 < cLine) (ho : DE X G0 o to ao) (he : DE X G0 e te ae) (hb : attributeBase o "get" X.env (eval o X.env) = eval o X.env := by rfl)
    (hf : ((backTo cpos (starEach [e] X.env)).all (fun x => !x.1) && (backToKw cpos (keywordEach [] X.env)).all (fun x => x.1.isSome) && decide (([e] : List Expr).length + ([] : List Keyword).length + (if ([] : List Keyword).isEmpty then 0 else 1) < 30)) = true := by rfl)
    (hl : (apos.endLine == cpos.line) = true := by rfl) (ht : backTo cpos (starEach [e] X.env) = [(false, eval e X.env)] := by rfl) :
    DE X G0 (.Call (.Attribute o "get" apos) [e] [] cpos) (tDGet1 to te) (aGet1 ao ae) := ⟨pe_dget1 hu ho.pe he.pe ⟨hb, hf, hl, ht⟩, fun σ H Q G δ W QD s0 R S h k => by
  refine ho.sim σ H _ G δ W _ s0 R S h fun x dx G1 H1 W1 s1 R1 d1 ⟨hv, h1⟩ => ?_
  obtain ⟨a, rfl, hd⟩ := dctV_at R1 d1 hv
  refine ⟨a, rfl, hd, he.sim σ H1 _ G1 δ W1 _ (s0.trans s1) R1 (S.up s1) h1 fun y dy G2 H2 W2 s2 R2 d2 ⟨r, g, q⟩ => ?_⟩
  obtain ⟨a', r', ea, g', qq⟩ := dGet_at R2 (IsD.up s2 _ _ d1) d2 g
  cases ea
  exact ⟨r', g', k _ _ _ _ _ (s1.trans s2) R2 (getD_at (z := .non) (u := .non) rfl qq) q⟩⟩
theorem de_get2 (hu : X.A.units + 1 < cLine) (ho : DE X G0 o to ao) (he : DE X G0 e te ae) (hf' : DE X G0 f tf af) (hb : attributeBase o "get" X.env (eval o X.env) = eval o X.env := by rfl)
    (hf : ((backTo cpos (starEach [e, f] X.env)).all (fun x => !x.1) && (backToKw cpos (keywordEach [] X.env)).all (fun x => x.1.isSome) && decide (([e, f] : List Expr).length + ([] : List Keyword).length + (if ([] : List Keyword).isEmpty then 0 else 1) < 30)) = true := by rfl)
    (hl : (apos.endLine == cpos.line) = true := by rfl) (ht : backTo cpos (starEach [e, f] X.env) = [(false, eval e X.env), (false, eval f X.env)] := by rfl) :
    DE X G0 (.Call (.Attribute o "get" apos) [e, f] [] cpos) (tDGet2 to te tf) (aGet2 ao ae af) := ⟨pe_dget2 hu ho.pe he.pe hf'.pe ⟨hb, hf, hl, ht⟩, fun σ H Q G δ W QD s0 R S h k => by
  refine ho.sim σ H _ G δ W _ s0 R S h fun x dx G1 H1 W1 s1 R1 d1 ⟨hv, h1⟩ => ?_
  obtain ⟨a, rfl, hd⟩ := dctV_at R1 d1 hv
  refine ⟨a, rfl, hd, he.sim σ H1 _ G1 δ W1 _ (s0.trans s1) R1 (S.up s1) h1 fun y dy G2 H2 W2 s2 R2 d2 h2 => ?_⟩
  refine hf'.sim σ H2 _ G2 δ W2 _ (s0.trans (s1.trans s2)) R2 (S.up (s1.trans s2)) h2 fun z dz G3 H3 W3 s3 R3 d3 ⟨r, g, q⟩ => ?_
  obtain ⟨a', r', ea, g', qq⟩ := dGet_at R3 (IsD.up (s2.trans s3) _ _ d1) (IsD.up s3 _ _ d2) g
  cases ea
  exact ⟨r', g', k _ _ _ _ _ (s1.trans (s2.trans s3)) R3 (getD_at d3 qq) q⟩⟩
/-! ### zip -/
def zipD (xs ys : List D) : List D := List.zipWith (fun a b => .tup [a, b]) xs ys
def aiZip (t : AA) : AI := fun δ W N => t δ W fun ds W1 => ∃ x y xs ys, ds = [x, y] ∧ ((lstRd W1 x = some xs ∧ lstRd W1 y = some ys ∧ N (zipD xs ys) (fun W => okOf x xs W ∧ okOf y ys W) W1) ∨ (x = .tup xs ∧ y = .tup ys ∧ N (zipD xs ys) (fun _ => True) W1))
theorem zipD_get {xs ys : List D} {i : Nat} (h : i < (zipD xs ys).length) : ∃ a b, xs[i]? = some a ∧ ys[i]? = some b ∧ (zipD xs ys)[i]? = some (.tup [a, b]) := by
  unfold zipD at h ⊢
  rw [List.length_zipWith] at h
  have h1 : i < xs.length := by omega
  have h2 : i < ys.length := by omega
  exact ⟨xs[i], ys[i], List.getElem?_eq_getElem h1, List.getElem?_eq_getElem h2, by rw [List.getElem?_zipWith, List.getElem?_eq_getElem h1, List.getElem?_eq_getElem h2]⟩
theorem walks_zip {K : PySem.W.Frag} {G H : Hp} {W : Wd} {x y : D} {a b : Addr} {xs ys : List D} (R : Rel K G H W) (hx : IsD K G x (.ref a)) (hy : IsD K G y (.ref b)) (ex : lstRd W x = some xs) (ey : lstRd W y = some ys) :
    Walks K G (Itz K a b) (zipD xs ys) (fun W => okOf x xs W ∧ okOf y ys W) := by
  refine ⟨fun i G' H' W' s R' ok hi => ?_, fun i G' H' W' s R' ok hi => ?_, fun i G' H' W' z H2 s R' ok hi hy' => ?_⟩
  · obtain ⟨vs, h1, h2⟩ := lstRd_later R s R' hx ex ok.1
    obtain ⟨us, h3, h4⟩ := lstRd_later R s R' hy ey ok.2
    obtain ⟨d, e, e1, e2, _⟩ := zipD_get hi
    obtain ⟨v, f1, _⟩ := h2.get e1
    obtain ⟨u, f2, _⟩ := h4.get e2
    exact ⟨vs, us, v, u, h1, h3, f1, f2⟩
  · obtain ⟨vs, h1, h2⟩ := lstRd_later R s R' hx ex ok.1
    obtain ⟨us, h3, h4⟩ := lstRd_later R s R' hy ey ok.2
    refine ⟨vs, us, h1, h3, ?_⟩
    rw [← h2.length, ← h4.length]
    unfold zipD at hi
    rw [List.length_zipWith] at hi
    omega
  · obtain ⟨vs, h1, h2⟩ := lstRd_later R s R' hx ex ok.1
    obtain ⟨us, h3, h4⟩ := lstRd_later R s R' hy ey ok.2
    obtain ⟨d, e, e1, e2, e3⟩ := zipD_get hi
    obtain ⟨v, f1, q1⟩ := h2.get e1
    obtain ⟨u, f2, q2⟩ := h4.get e2
    obtain ⟨T, v', u', rfl, hT, rfl, y1, y2⟩ := hy'
    have g1 := y1 vs h1
    have g2 := y2 us h3
    rw [f1] at g1; cases g1
    rw [f2] at g2; cases g2
    obtain ⟨s2, R2⟩ := R'.new (o := .tup [v, u]) hT
    exact ⟨.tup [d, e], _, e3, s2, R2, T, [v, u], rfl, upd_same, v, [u], rfl, IsD.up s2 _ _ q1, u, [], rfl, IsD.up s2 _ _ q2, rfl⟩
theorem walks_zipT {K : PySem.W.Frag} {G : Hp} {a b : Addr} {vs us : List V} {xs ys : List D} (ha : G a = some (.tup vs)) (hb : G b = some (.tup us)) (h2 : IsDs K G xs vs) (h4 : IsDs K G ys us) : Walks K G (ItzT K a b) (zipD xs ys) (fun _ => True) := by
  refine ⟨fun i G' H' W' s R' ok hi => ?_, fun i G' H' W' s R' ok hi => ?_, fun i G' H' W' z H2 s R' ok hi hy' => ?_⟩
  · obtain ⟨d, e, e1, e2, _⟩ := zipD_get hi
    obtain ⟨v, f1, _⟩ := h2.get e1
    obtain ⟨u, f2, _⟩ := h4.get e2
    exact ⟨vs, us, v, u, SqT.of (R'.tup (s.at ha rfl rfl)), SqT.of (R'.tup (s.at hb rfl rfl)), f1, f2⟩
  · refine ⟨vs, us, SqT.of (R'.tup (s.at ha rfl rfl)), SqT.of (R'.tup (s.at hb rfl rfl)), ?_⟩
    rw [← h2.length, ← h4.length]
    unfold zipD at hi
    rw [List.length_zipWith] at hi
    omega
  · obtain ⟨d, e, e1, e2, e3⟩ := zipD_get hi
    obtain ⟨v, f1, q1⟩ := h2.get e1
    obtain ⟨u, f2, q2⟩ := h4.get e2
    obtain ⟨T, v', u', rfl, hT, rfl, y1, y2⟩ := hy'
    have g1 := y1 vs (SqT.of (R'.tup (s.at ha rfl rfl)))
    have g2 := y2 us (SqT.of (R'.tup (s.at hb rfl rfl)))
    rw [f1] at g1; cases g1
    rw [f2] at g2; cases g2
    obtain ⟨s2, R2⟩ := R'.new (o := .tup [v, u]) hT
    exact ⟨.tup [d, e], _, e3, s2, R2, T, [v, u], rfl, upd_same, v, [u], rfl, IsD.up (s.trans s2) _ _ q1, u, [], rfl, IsD.up (s.trans s2) _ _ q2, rfl⟩
variable {ta : L2.TA} {aa : AA} {a b : Expr} {elts : List Expr} {kk : Nat} {tpos : Pos}
theorem di_zip (hg : Gl X "zip") (hm : X.mg "zip" = none) (ha : DA X G0 [a, b] ta aa) (hs : starEach [a, b] X.env = (false, eval a X.env) :: starEach [b] X.env := by rfl) (hpl : (backTo pos (starEach [b] X.env)).any (·.1) = false := by rfl) :
    DI X G0 (.Tuple elts kk tpos) (.Call (.Name "zip" p) [a, b] [] pos) (iZipA X.K ta) (aiZip aa) := ⟨pi_zipA hg hm ha.pa hs hpl, fun σ H M G δ W N s0 R S h k => by
  refine ha.sim σ H _ G δ W _ s0 R S h fun vs ds G1 H1 W1 s1 R1 d1 h1 => ?_
  obtain ⟨x, y, xs, ys, rfl, ⟨e1, e2, q⟩ | ⟨rfl, rfl, q⟩⟩ := h1
  · obtain ⟨v, u, rfl, hv, hu⟩ := two_of d1
    obtain ⟨a1, us, rfl, h3, _⟩ := lstRd_at R1 hv e1
    obtain ⟨a2, us2, rfl, h4, _⟩ := lstRd_at R1 hu e2
    exact ⟨a1, a2, us, us2, rfl, .inl ⟨h3, h4, k _ _ _ G1 H1 W1 s1 R1 (walks_zip R1 hv hu e1 e2) q⟩⟩
  · obtain ⟨v, u, rfl, ⟨a1, us, rfl, h3, q3⟩, ⟨a2, us2, rfl, h4, q4⟩⟩ := two_of d1
    exact ⟨a1, a2, us, us2, rfl, .inr ⟨SqT.of (R1.tup h3), SqT.of (R1.tup h4), k _ _ _ G1 H1 W1 s1 R1 (walks_zipT h3 h4 q3 q4) q⟩⟩⟩
/-! ### f-strings, str -/
def aFmt (a : AE) : AE := fun δ W Q => a δ W fun x W1 => (∃ y : Str, x = .str y ∧ y.length ≤ sizeLine ∧ Q (.str y) W1) ∨ ∃ i : Int, x = .int i ∧ i.natAbs.log2 < 1920 ∧ Q (.str (toString i)) W1
theorem de_fmt (he : DE X G0 e te ae) : DE X G0 (.FormattedValue e (-1) none pos) (tFmt te) (aFmt ae) := ⟨pe_fmt he.pe, fun σ H Q G δ W QD s0 R S h k => by
  refine he.sim σ H _ G δ W _ s0 R S h fun x dx G1 H1 W1 s1 R1 d1 h1 => ?_
  rcases h1 with ⟨y, rfl, hz, q⟩ | ⟨i, rfl, hz, q⟩
  · exact .inl ⟨y, d1, hz, k _ (.str y) _ _ _ s1 R1 rfl q⟩
  · exact .inr ⟨i, d1, hz, k _ (.str _) _ _ _ s1 R1 rfl q⟩⟩
def aJs : List AE → Str → Sl → Wd → (Str → Wd → Prop) → Prop
  | [], acc, _, W, Q => Q acc W
  | a :: as, acc, δ, W, Q => a δ W fun x W1 => ∃ y : Str, x = .str y ∧ (acc ++ y).length ≤ sizeLine ∧ aJs as (acc ++ y) δ W1 Q
def aJ (as : List AE) : AE := fun δ W Q => aJs as Str.empty δ W fun out W1 => Q (.str out) W1
inductive DJ (X : Cx) (G0 : Hp) : List Expr → List TE → List AE → Prop where
  | nil : DJ X G0 [] [] []
  | cons {e : Expr} {t : TE} {a : AE} {es : List Expr} {ts : List TE} {as : List AE} (h : DE X G0 e t a) (r : DJ X G0 es ts as) : DJ X G0 (e :: es) (t :: ts) (a :: as)
theorem DJ.pj {es : List Expr} {ts : List TE} {as : List AE} (h : DJ X G0 es ts as) : PJ X es ts := by
  induction h with
  | nil => exact .nil
  | cons h _ ih => exact .cons h.pe ih
theorem DJ.sim {es : List Expr} {ts : List TE} {as : List AE} (h : DJ X G0 es ts as) : ∀ (acc : Str) (σ : L2.St) (H : Hp) (Q : Str → Hp → Prop) (G : Hp) (δ : Sl) (W : Wd) (QD : Str → Wd → Prop), Same G0 G → Rel X.K G H W → IsSl X.K G δ σ → aJs as acc δ W QD →
    (∀ z G' H' W', Same G G' → Rel X.K G' H' W' → QD z W' → Q z H') → tJs ts acc σ H Q := by
  induction h with
  | nil => exact fun acc σ H Q G δ W QD s0 R S h k => k acc G H W (Same.refl G) R h
  | cons hd _ ih =>
    intro acc σ H Q G δ W QD s0 R S h k
    refine hd.sim σ H _ G δ W _ s0 R S h fun x dx G1 H1 W1 s1 R1 d1 ⟨y, ey, hz, q⟩ => ?_
    subst ey
    exact ⟨y, d1, hz, ih _ σ H1 Q G1 δ W1 QD (s0.trans s1) R1 (S.up s1) q fun z G' H' W' s R' => k z G' H' W' (s1.trans s) R'⟩
theorem de_joined {v1 v2 : Expr} {rest : List Expr} {ts : List TE} {as : List AE} (h : DJ X G0 (v1 :: v2 :: rest) ts as) : DE X G0 (.JoinedStr (v1 :: v2 :: rest) pos) (fun σ H Q => tJs ts Str.empty σ H fun out H1 => Q (.str out) H1) (aJ as) :=
  ⟨pe_joined h.pj, fun σ H Q G δ W QD s0 R S q k => h.sim _ σ H _ G δ W _ s0 R S q fun z G' H' W' s R' q => k _ (.str z) _ _ _ s R' rfl q⟩
theorem de_joined1 (h : DE X G0 e te ae) : DE X G0 (.JoinedStr [e] pos) te ae := ⟨pe_joined1 h.pe, h.sim⟩
def rStrA : List V → Hp → VK → Prop := fun xs H Q => (∃ i, xs = [V.int i] ∧ i.natAbs.log2 < 1920 ∧ Q (.str (toString i)) H) ∨ (∃ a, xs = [V.str a] ∧ Q (.str a) H)
theorem call_strA : CallR X (.type "str") rStrA := callR_or call_str_int call_str_str
def dStr : RDC := fun ds W Q => (∃ i, ds = [D.int i] ∧ i.natAbs.log2 < 1920 ∧ Q (.str (toString i)) W) ∨ (∃ a, ds = [D.str a] ∧ Q (.str a) W)
theorem sc_str {K : PySem.W.Frag} : SimRC K rStrA dStr := fun G H W xs ds Q QD R hx h k => by
  rcases h with ⟨i, rfl, hz, q⟩ | ⟨a, rfl, q⟩
  · obtain ⟨v, rfl, hv⟩ := one_of hx
    cases (show v = _ from hv)
    exact .inl ⟨i, rfl, hz, k.here (d := .str _) R rfl q⟩
  · obtain ⟨v, rfl, hv⟩ := one_of hx
    cases (show v = _ from hv)
    exact .inr ⟨a, rfl, k.here (d := .str _) R rfl q⟩
end
/-! ### x, y = a, b -/
def aPar (i j : Nat) (t : AA) : AS := fun A δ W => t δ W fun ds W1 => ∃ d e, ds = [d, e] ∧ A.nx ((δ.set i (some d)).set j (some e)) W1
theorem ds_par {X : Cx} {G0 : Hp} {pos : Pos} {i j : Nat} {x y : Str} {a b : Expr} {ta : L2.TA} {aa : AA} {px py pt : Pos} {kt k2 pt2} (hc : X.calm = true) (hN : X.N.Nodup) (hi : X.N[i]? = some x) (hj : X.N[j]? = some y) (hij : i ≠ j)
    (hx : X.env.scope.names.lookup x = some .local) (hy : X.env.scope.names.lookup y = some .local) (ha : DA X G0 [a, b] ta aa)
    (hw : swappedStores [.Tuple [.Name x px, .Name y py] kt pt] (.Tuple [a, b] k2 pt2) X.env = pure (some [x, y]))
    (hs : swapsWithSole [.Tuple [.Name x px, .Name y py] kt pt] (.Tuple [a, b] k2 pt2) pos.line X.env = pure false := by rfl) :
    DS X G0 (.Assign [.Tuple [.Name x px, .Name y py] kt pt] (.Tuple [a, b] k2 pt2) pos) (tPar i j ta) (aPar i j aa) := ⟨ps_par hc hN hi hj hij hx hy ha.pa hw hs, fun E A σ H G δ W s0 R S eo h => by
  refine ha.sim σ H _ G δ W _ s0 R S h fun vs ds G1 H1 W1 s1 R1 d1 ⟨d, e, ed, q⟩ => ?_
  subst ed
  obtain ⟨v, u, rfl, hv, hu⟩ := two_of d1
  exact ⟨v, u, rfl, eo.nx _ _ _ _ _ s1 R1 (((S.up s1).set i hv).set j hu) q⟩⟩
theorem go_par {i j : Nat} {t : AA} {A : AEnds} {δ : Sl} {W : Wd} (h : t δ W fun ds W1 => ∃ d e, ds = [d, e] ∧ A.nx ((δ.set i (some d)).set j (some e)) W1) : aPar i j t A δ W := h
theorem go_par2 {d e : D} {p : D → D → Prop} (h : p d e) : ∃ d' e', [d, e] = [d', e'] ∧ p d' e' := ⟨d, e, rfl, h⟩
/-! ### loops over a dict that stands for good -/
def keyD : Key → D
  | .inl i => .int i
  | .inr x => .str x
theorem keyD_at {K : PySem.W.Frag} {G : Hp} (k : Key) : IsD K G (keyD k) (kV k) := by cases k <;> rfl
theorem IsKs.get {K : PySem.W.Frag} {G : Hp} : ∀ {kds : List (Key × D)} {kvs : List (Key × V)} {i : Nat} {k : Key} {v : V}, IsKs K G kds kvs → kvs[i]? = some (k, v) → ∃ d, kds[i]? = some (k, d) ∧ IsD K G d v
  | [], _, _, _, _, h, e => by cases h; simp at e
  | (k', d) :: ds, _, 0, _, _, h, e => by
    obtain ⟨v, r, rfl, h1, _⟩ := h
    simp at e
    obtain ⟨rfl, rfl⟩ := e
    exact ⟨d, rfl, h1⟩
  | (k', d) :: ds, _, i + 1, _, _, h, e => by
    obtain ⟨v, r, rfl, _, h2⟩ := h
    obtain ⟨d', e2, q⟩ := IsKs.get (i := i) h2 (by simpa using e)
    exact ⟨d', by simpa using e2, q⟩
section
variable {K : PySem.W.Frag} {G0 G H : Hp} {W : Wd}
theorem same_lock {a : Addr} {kvs : List (Key × V)} {u : Obj} (h : G a = some (.dK kvs)) : Same G (upd G a (.frz u (.dK kvs))) := fun b o e => by
  by_cases hb : b = a
  · subst hb
    rw [h] at e
    cases e
    exact ⟨_, upd_same, .inr (.inl ⟨kvs, u, rfl, rfl⟩)⟩
  · exact ⟨o, by rw [upd_ne hb]; exact e, .inl rfl⟩
theorem same_unlock {a : Addr} {kvs : List (Key × V)} {u : Obj} (h : G a = some (.frz u (.dK kvs))) : SameL G (upd G a (.dK kvs)) := fun b o e => by
  by_cases hb : b = a
  · subst hb
    rw [h] at e
    cases e
    exact ⟨_, upd_same, .inr (.inl ⟨kvs, rfl, rfl⟩)⟩
  · exact ⟨o, by rw [upd_ne hb]; exact e, .inl rfl⟩
theorem Rel.lockK (R : Rel K G H W) {a : Addr} {kvs : List (Key × V)} {u : Obj} (h : G a = some (.dK kvs)) : Rel K (upd G a (.frz u (.dK kvs))) (upd H a (.frz u (.dK kvs))) W := by
  refine ⟨fun b o e => ?_, fun l m e => ?_⟩
  · by_cases hb : b = a
    · subst hb
      rw [upd_same] at e
      cases e
      exact .inl upd_same
    · rw [upd_ne hb] at e
      rcases R.st b o e with h1 | ⟨w, h1, q⟩
      · exact .inl (by rw [upd_ne hb]; exact h1)
      · exact .inr ⟨w, by rw [upd_ne hb]; exact h1, q⟩
  · obtain ⟨g, o, e1, q⟩ := R.own l m e
    have ne : l ≠ a := fun z => by rw [z, h] at g; cases g
    exact ⟨by rw [upd_ne ne]; exact g, o, by rw [upd_ne ne]; exact e1, q.up (same_lock h)⟩
theorem Rel.relock (R : Rel K G H W) {a : Addr} {kvs : List (Key × V)} {u : Obj} (h : G a = some (.dK kvs)) (h2 : H a = some (.frz u (.dK kvs))) : Rel K (upd G a (.frz u (.dK kvs))) H W := by
  refine ⟨fun b o e => ?_, fun l m e => ?_⟩
  · by_cases hb : b = a
    · subst hb
      rw [upd_same] at e
      cases e
      exact .inl h2
    · rw [upd_ne hb] at e
      exact R.st b o e
  · obtain ⟨g, o, e1, q⟩ := R.own l m e
    have ne : l ≠ a := fun z => by rw [z, h] at g; cases g
    exact ⟨by rw [upd_ne ne]; exact g, o, e1, q.up (same_lock h)⟩
theorem Rel.unlockK (R : Rel K G H W) {a : Addr} {kvs : List (Key × V)} {u : Obj} (h : G a = some (.frz u (.dK kvs))) : H a = some (.frz u (.dK kvs)) ∧ Rel K (upd G a (.dK kvs)) (upd H a (.dK kvs)) W := by
  refine ⟨(R.st _ _ h).eq rfl, fun b o e => ?_, fun l m e => ?_⟩
  · by_cases hb : b = a
    · subst hb
      rw [upd_same] at e
      cases e
      exact .inl upd_same
    · rw [upd_ne hb] at e
      rcases R.st b o e with h1 | ⟨w, h1, q⟩
      · exact .inl (by rw [upd_ne hb]; exact h1)
      · exact .inr ⟨w, by rw [upd_ne hb]; exact h1, q⟩
  · obtain ⟨g, o, e1, q⟩ := R.own l m e
    have ne : l ≠ a := fun z => by rw [z, h] at g; cases g
    exact ⟨by rw [upd_ne ne]; exact g, o, by rw [upd_ne ne]; exact e1, q.upL (same_unlock h)⟩
theorem same_back {G1 G' : Hp} {a : Addr} {kvs : List (Key × V)} {u : Obj} (h : G a = some (.dK kvs)) (s : Same (upd G a (.frz u (.dK kvs))) G') : Same G (upd G' a (.dK kvs)) := fun b o e => by
  by_cases hb : b = a
  · subst hb
    rw [h] at e
    cases e
    exact ⟨_, upd_same, .inl rfl⟩
  · obtain ⟨o', e', l⟩ := s b o (by rw [upd_ne hb]; exact e)
    exact ⟨o', by rw [upd_ne hb]; exact e', l⟩
/-- the statement runs while the dict in slot i is locked -/
def aLockK (i : Nat) (f : List (Key × D) → AS) : AS := fun A δ W => ∃ kds, δ[i]? = some (some (.dk kds)) ∧ f kds A δ W
theorem sim_lock {t : TS} {f : List (Key × D) → AS} {i : Nat} (h : ∀ E A σ H G δ W a od kds kvs, Same G0 G → Rel K G H W → IsSl K G δ σ → EndsOk K G E A → σ[i]? = some (some (.ref a)) → G a = some (.frz od (.dK kvs)) → IsKs K G kds kvs → f kds A δ W → t E σ H) :
    SimS K G0 (fun E σ H => tLock t E σ H ∨ t E σ H) (aLockK i f) := fun E A σ H G δ W s0 R S eo ⟨kds, e, q⟩ => by
  obtain ⟨v, e2, a, kvs, rfl, ⟨o, g, c⟩, ks⟩ := S.get i _ e
  unfold dkC at c
  split at c
  · cases c
    rcases R.st _ _ g with r | ⟨u, r, _⟩
    · refine .inl ⟨a, .dK kvs, r, trivial, fun od => ?_⟩
      have s1 := same_lock (u := od) g
      have back : ∀ {G' H' : Hp} {W' : Wd}, Same (upd G a (.frz od (.dK kvs))) G' → Rel K G' H' W' → G' a = some (.frz od (.dK kvs)) := fun s R' => s.frz upd_same
      refine h _ A σ _ _ δ W a od kds kvs (s0.trans s1) (R.lockK g) (S.up s1) ⟨?_, ?_, ?_, ?_⟩ e2 upd_same (IsKs.up s1 _ _ ks) q
      · intro σ' δ' G' H' W' s R' S' n
        have g' := back s R'
        obtain ⟨x, y⟩ := R'.unlockK g'
        exact ⟨x, eo.nx _ _ _ _ _ (same_back (G1 := G) g s) y (S'.upL (same_unlock g')) n⟩
      · intro v' d' G' H' W' s R' hd n
        have g' := back s R'
        obtain ⟨x, y⟩ := R'.unlockK g'
        exact ⟨x, eo.rt _ _ _ _ _ (same_back (G1 := G) g s) y (IsD.upL (same_unlock g') _ _ hd) n⟩
      · intro σ' δ' G' H' W' s R' S' n
        have g' := back s R'
        obtain ⟨x, y⟩ := R'.unlockK g'
        exact ⟨x, eo.bk _ _ _ _ _ (same_back (G1 := G) g s) y (S'.upL (same_unlock g')) n⟩
      · intro σ' δ' G' H' W' s R' S' n
        have g' := back s R'
        obtain ⟨x, y⟩ := R'.unlockK g'
        exact ⟨x, eo.ct _ _ _ _ _ (same_back (G1 := G) g s) y (S'.upL (same_unlock g')) n⟩
    · have s1 := same_lock (u := u) g
      exact .inr (h E A σ H _ δ W a u kds kvs (s0.trans s1) (R.relock g r) (S.up s1) (eo.up s1) e2 upd_same (IsKs.up s1 _ _ ks) q)
  · rename_i u _
    cases c
    exact .inr (h E A σ H G δ W a u kds kvs s0 R S eo e2 g ks q)
  · cases c
/-- for-loops over what J walks -/
theorem sim_forW {J : It} {items : List D} {ok : Wd → Prop} {g : TG} {ag : AG} {tb : TS} {ab : AS} {E : Ends} {A : AEnds} {σ : L2.St} {δ : Sl} (hg : SimG K G0 g ag) (hb : SimS K G0 tb ab) (s0 : Same G0 G) (R : Rel K G H W) (S : IsSl K G δ σ) (eo : EndsOk K G E A)
    (wk : Walks K G J items ok) (h : forL ag ab A ok items δ W) : tFor (fun _ H M => M J H) g tb E σ H :=
  sim_for (G0 := G) (wi := fun _ H M => M J H) (ai := fun δ W N => N items ok W) (fun σ H M G' δ W N s R S h k => k J items ok G' H W (Same.refl _) R (wk.up s) h)
    (fun x d σ H M G' δ W N s => hg x d σ H M G' δ W N (s0.trans s)) (fun E A σ H G' δ W s => hb E A σ H G' δ W (s0.trans s)) E A σ H G δ W (Same.refl _) R S eo h
theorem walks_keys {a : Addr} {od : Obj} {kds : List (Key × D)} {kvs : List (Key × V)} (hG : G a = some (.frz od (.dK kvs))) (ks : IsKs K G kds kvs) : Walks K G (Itk a od kvs) (kds.map fun kv => keyD kv.1) (fun _ => True) := by
  refine ⟨fun i G' H' W' s R' ok hi => ?_, fun i G' H' W' s R' ok hi => ?_, fun i G' H' W' x H2 s R' ok hi hy => ?_⟩
  · exact ⟨(R'.st _ _ (s.frz hG)).eq rfl, by rw [← ks.length]; simpa using hi⟩
  · exact ⟨(R'.st _ _ (s.frz hG)).eq rfl, by rw [← ks.length]; simpa using hi⟩
  · obtain ⟨rfl, k, v, e, rfl⟩ := hy
    obtain ⟨d, e2, q⟩ := ks.get e
    exact ⟨keyD k, G', by rw [List.getElem?_map, e2]; rfl, Same.refl _, R', keyD_at k⟩
theorem walks_vals {a : Addr} {od : Obj} {kds : List (Key × D)} {kvs : List (Key × V)} (hG : G a = some (.frz od (.dK kvs))) (ks : IsKs K G kds kvs) : Walks K G (Itd a od kvs) (kds.map fun kv => kv.2) (fun _ => True) := by
  refine ⟨fun i G' H' W' s R' ok hi => ?_, fun i G' H' W' s R' ok hi => ?_, fun i G' H' W' x H2 s R' ok hi hy => ?_⟩
  · exact ⟨(R'.st _ _ (s.frz hG)).eq rfl, by rw [← ks.length]; simpa using hi⟩
  · exact ⟨(R'.st _ _ (s.frz hG)).eq rfl, by rw [← ks.length]; simpa using hi⟩
  · obtain ⟨rfl, k, e⟩ := hy
    obtain ⟨d, e2, q⟩ := ks.get e
    exact ⟨d, G', by rw [List.getElem?_map, e2]; rfl, Same.refl _, R', IsD.up s _ _ q⟩
theorem walks_items {a : Addr} {od : Obj} {kds : List (Key × D)} {kvs : List (Key × V)} (hG : G a = some (.frz od (.dK kvs))) (ks : IsKs K G kds kvs) : Walks K G (Iti a od kvs) (kds.map fun kv => .tup [keyD kv.1, kv.2]) (fun _ => True) := by
  refine ⟨fun i G' H' W' s R' ok hi => ?_, fun i G' H' W' s R' ok hi => ?_, fun i G' H' W' x H2 s R' ok hi hy => ?_⟩
  · exact ⟨(R'.st _ _ (s.frz hG)).eq rfl, by rw [← ks.length]; simpa using hi⟩
  · exact ⟨(R'.st _ _ (s.frz hG)).eq rfl, by rw [← ks.length]; simpa using hi⟩
  · obtain ⟨T, k, v, e, rfl, hT, rfl⟩ := hy
    obtain ⟨d, e2, q⟩ := ks.get e
    obtain ⟨s2, R2⟩ := R'.new (o := .tup [kV k, v]) hT
    exact ⟨.tup [keyD k, d], _, by rw [List.getElem?_map, e2]; rfl, s2, R2, T, _, rfl, upd_same, _, _, rfl, keyD_at k, _, _, rfl, IsD.up (s.trans s2) _ _ q, rfl⟩
end
section
variable {X : Cx} {G0 : Hp} {pos apos cpos p : Pos}
theorem ps_or {st : Stmt} {t t' : TS} (h : PS X st t) (h' : PS X st t') : PS X st (fun E σ H => t E σ H ∨ t' E σ H) := ⟨fun pins s σ H E I q => by
  rcases q with q | q
  · exact h.run pins s σ H E I q
  · exact h'.run pins s σ H E I q⟩
def aForKeys (i : Nat) (g : AG) (b : AS) : AS := aLockK i fun kds A δ W => forL g b A (fun _ => True) (kds.map fun kv => keyD kv.1) δ W
def aForVals (i : Nat) (g : AG) (b : AS) : AS := aLockK i fun kds A δ W => forL g b A (fun _ => True) (kds.map fun kv => kv.2) δ W
def aForItems (i : Nat) (g : AG) (b : AS) : AS := aLockK i fun kds A δ W => forL g b A (fun _ => True) (kds.map fun kv => .tup [keyD kv.1, kv.2]) δ W
variable {tg : Expr} {body : List Stmt} {g : TG} {ag : AG} {tb : TS} {ab : AS} {i : Nat} {x : Str}
theorem ds_forKeys (hp : PassesOwn (model X.prog X.w) X.A X.env X.xe) (hc : X.calm = true) (hx : DE X G0 (.Name x p) (tVar i) (aVar i)) (hg : DG X G0 tg g ag) (hb : DSs X G0 body tb ab)
    (hs : ∀ y, foldedSetIterable (.Name x p) X.env y = pure y := by intro _; rfl) : DS X G0 (.For tg (.Name x p) body [] pos) (fun E σ H => tLock (tFor (iKeys (tVar i)) g tb) E σ H ∨ tFor (iKeys (tVar i)) g tb E σ H) (aForKeys i ag ab) := by
  have h := ps_for (pos := pos) hp hc (pi_keys hx.pe) hg.pg hb.ps hs
  refine ⟨ps_or (ps_lock h) h, sim_lock fun E A σ H G δ W a od kds kvs s0 R S eo e g k q => ?_⟩
  exact ⟨.ref a, e, a, od, rfl, .inl ⟨kvs, (R.st _ _ g).eq rfl, sim_forW hg.sim hb.sim s0 R S eo (walks_keys g k) q⟩⟩
theorem ds_forVals (hp : PassesOwn (model X.prog X.w) X.A X.env X.xe) (hc : X.calm = true) (hx : DE X G0 (.Name x p) (tVar i) (aVar i)) (hg : DG X G0 tg g ag) (hb : DSs X G0 body tb ab)
    (hs : ∀ y, foldedSetIterable (.Call (.Attribute (.Name x p) "values" apos) [] [] cpos) X.env y = pure y := by intro _; rfl) (hbase : attributeBase (.Name x p) "values" X.env (eval (.Name x p) X.env) = eval (.Name x p) X.env := by rfl) (hline : (apos.endLine == cpos.line) = true := by rfl) :
    DS X G0 (.For tg (.Call (.Attribute (.Name x p) "values" apos) [] [] cpos) body [] pos) (fun E σ H => tLock (tFor (iVals (tVar i)) g tb) E σ H ∨ tFor (iVals (tVar i)) g tb E σ H) (aForVals i ag ab) := by
  have h := ps_for (pos := pos) hp hc (pi_values hx.pe hbase hline) hg.pg hb.ps hs
  refine ⟨ps_or (ps_lock h) h, sim_lock fun E A σ H G δ W a od kds kvs s0 R S eo e g k q => ?_⟩
  exact ⟨.ref a, e, a, od, kvs, rfl, (R.st _ _ g).eq rfl, sim_forW hg.sim hb.sim s0 R S eo (walks_vals g k) q⟩
variable {elts : List Expr} {kk : Nat} {tpos : Pos}
theorem ds_forItems (hp : PassesOwn (model X.prog X.w) X.A X.env X.xe) (hc : X.calm = true) (hx : DE X G0 (.Name x p) (tVar i) (aVar i)) (hg : DG X G0 (.Tuple elts kk tpos) g ag) (hb : DSs X G0 body tb ab)
    (hs : ∀ y, foldedSetIterable (.Call (.Attribute (.Name x p) "items" apos) [] [] cpos) X.env y = pure y := by intro _; rfl) (hbase : attributeBase (.Name x p) "items" X.env (eval (.Name x p) X.env) = eval (.Name x p) X.env := by rfl) (hline : (apos.endLine == cpos.line) = true := by rfl) :
    DS X G0 (.For (.Tuple elts kk tpos) (.Call (.Attribute (.Name x p) "items" apos) [] [] cpos) body [] pos) (fun E σ H => tLock (tFor (iItems (tVar i)) g tb) E σ H ∨ tFor (iItems (tVar i)) g tb E σ H) (aForItems i ag ab) := by
  have h := ps_for (pos := pos) hp hc (pi_items hx.pe hbase hline) hg.pg hb.ps hs
  refine ⟨ps_or (ps_lock h) h, sim_lock fun E A σ H G δ W a od kds kvs s0 R S eo e g k q => ?_⟩
  exact ⟨.ref a, e, a, od, kvs, rfl, (R.st _ _ g).eq rfl, sim_forW hg.sim hb.sim s0 R S eo (walks_items g k) q⟩
end
end DL
namespace DL
open PySem PySem.Spec PyProof.Rows L2
section
variable {δ δ' : Sl} {W W1 : Wd} {Q : DQ} {A : AEnds} {N : Sl → Wd → Prop} {M : List D → (Wd → Prop) → Wd → Prop} {a b c : AE} {l : AA} {s : AS} {g : AG} {d e : D} {ds es : List D} {i j : Int} {x y z : Str} {q : Addr} {kds : List (Key × D)} {k : Key} {r : Option D}
theorem go_dk0 (h : ∀ p, W p = none → Q (.ptr p) (W.set p (.dk []))) : aDk0 δ W Q := h
theorem go_dk0F (h : Q (.dk []) W) : aDk0F δ W Q := h
theorem go_get1 (h : a δ W fun x W1 => dctV x W1 ∧ b δ W1 fun y W2 => ∃ r, dGet W2 x y r ∧ Q (r.getD .non) W2) : aGet1 a b δ W Q := h
theorem go_get2 (h : a δ W fun x W1 => dctV x W1 ∧ b δ W1 fun y W2 => c δ W2 fun z W3 => ∃ r, dGet W3 x y r ∧ Q (r.getD z) W3) : aGet2 a b c δ W Q := h
theorem go_dv {p : Prop} (h0 : dkOf W d = some kds) (h : p) : dctV d W ∧ p := ⟨.inl ⟨_, h0⟩, h⟩
theorem go_dg {p : Option D → Prop} (h0 : dkOf W d = some kds) (h1 : keyOf e = some k) (h2 : look kds k = r) (h : p r) : ∃ r, dGet W d e r ∧ p r := ⟨r, .inl ⟨kds, k, h0, h1, h2.symm⟩, h⟩
theorem go_ixDk (h1 : keyOf e = some k) (h2 : look kds k = some d) (h : Q d W) : dIx (.dk kds) e W Q := .inr ⟨d, .inl ⟨kds, k, rfl, h1, h2.symm⟩, h⟩
theorem go_ixDp (hw : W q = some (.dk kds)) (h1 : keyOf e = some k) (h2 : look kds k = some d) (h : Q d W) : dIx (.ptr q) e W Q := .inr ⟨d, .inl ⟨kds, k, dkOf_ptr hw, h1, h2.symm⟩, h⟩
theorem go_inDk (h1 : keyOf e = some k) (h : Q (.bl (look kds k).isSome) W) : dIn false e (.dk kds) W Q := .inr ⟨_, .inl ⟨kds, k, rfl, h1, rfl⟩, h⟩
theorem go_ninDk (h1 : keyOf e = some k) (h : Q (.bl (!(look kds k).isSome)) W) : dIn true e (.dk kds) W Q := .inr ⟨_, .inl ⟨kds, k, rfl, h1, rfl⟩, h⟩
theorem go_inDp (hw : W q = some (.dk kds)) (h1 : keyOf e = some k) (h : Q (.bl (look kds k).isSome) W) : dIn false e (.ptr q) W Q := .inr ⟨_, .inl ⟨kds, k, dkOf_ptr hw, h1, rfl⟩, h⟩
theorem go_ninDp (hw : W q = some (.dk kds)) (h1 : keyOf e = some k) (h : Q (.bl (!(look kds k).isSome)) W) : dIn true e (.ptr q) W Q := .inr ⟨_, .inl ⟨kds, k, dkOf_ptr hw, h1, rfl⟩, h⟩
theorem go_setDk {N : Wd → Prop} (hw : W q = some (.dk kds)) (h1 : keyOf e = some k) (hz : kds.length < sizeLine) (h : N (W.set q (.dk (dput kds k d)))) : dSet (.ptr q) e d W N := ⟨q, rfl, .inr (.inl ⟨kds, k, hw, h1, hz, h⟩)⟩
theorem go_zip (h : l δ W fun ds W1 => ∃ x y xs ys, ds = [x, y] ∧ ((lstRd W1 x = some xs ∧ lstRd W1 y = some ys ∧ M (zipD xs ys) (fun W => okOf x xs W ∧ okOf y ys W) W1) ∨ (x = .tup xs ∧ y = .tup ys ∧ M (zipD xs ys) (fun _ => True) W1))) : aiZip l δ W M := h
theorem go_fmt (h : a δ W fun x W1 => (∃ y : Str, x = .str y ∧ y.length ≤ sizeLine ∧ Q (.str y) W1) ∨ ∃ i : Int, x = .int i ∧ i.natAbs.log2 < 1920 ∧ Q (.str (toString i)) W1) : aFmt a δ W Q := h
theorem go_j {as : List AE} (h : aJs as Str.empty δ W fun out W1 => Q (.str out) W1) : aJ as δ W Q := h
theorem go_jc {as : List AE} {acc : Str} {QS : Str → Wd → Prop} (h : a δ W fun x W1 => ∃ y : Str, x = .str y ∧ (acc ++ y).length ≤ sizeLine ∧ aJs as (acc ++ y) δ W1 QS) : aJs (a :: as) acc δ W QS := h
theorem go_jn {acc : Str} {QS : Str → Wd → Prop} (h : QS acc W) : aJs [] acc δ W QS := h
theorem go_keys {n : Nat} (h0 : δ[n]? = some (some (.dk kds))) (h : forL g s A (fun _ => True) (kds.map fun kv => keyD kv.1) δ W) : aForKeys n g s A δ W := ⟨kds, h0, h⟩
theorem go_vals {n : Nat} (h0 : δ[n]? = some (some (.dk kds))) (h : forL g s A (fun _ => True) (kds.map fun kv => kv.2) δ W) : aForVals n g s A δ W := ⟨kds, h0, h⟩
theorem go_items {n : Nat} (h0 : δ[n]? = some (some (.dk kds))) (h : forL g s A (fun _ => True) (kds.map fun kv => .tup [keyD kv.1, kv.2]) δ W) : aForItems n g s A δ W := ⟨kds, h0, h⟩
theorem look_app {α : Type} (xs : List (Key × α)) (k k' : Key) (v : α) (h : (xs.any fun kv => decide (kv.1 = k)) = false) : look (xs ++ [(k, v)]) k' = if k' = k then some v else look xs k' := by
  unfold look
  rw [List.find?_append]
  by_cases e : k' = k
  · subst e
    rw [if_pos rfl, List.find?_eq_none.mpr (fun x hx hd => by have := List.any_eq_false.mp h x hx; exact this hd)]
    simp
  · rw [if_neg e]
    have : List.find? (fun kv => decide (kv.1 = k')) [(k, v)] = none := by simp [Ne.symm e]
    rw [this]
    cases List.find? (fun kv => decide (kv.1 = k')) xs <;> rfl
theorem look_map {α : Type} (xs : List (Key × α)) (k k' : Key) (v : α) : look (xs.map fun kv => if kv.1 = k then (kv.1, v) else kv) k' = if k' = k then (if (xs.any fun kv => decide (kv.1 = k)) = true then some v else none) else look xs k' := by
  induction xs with
  | nil => simp [look]
  | cons x xs ih =>
    unfold look at ih ⊢
    rw [List.map_cons, List.find?_cons, List.find?_cons]
    by_cases e : x.1 = k
    · rw [if_pos e]
      by_cases e2 : k' = k
      · subst e2
        simp [e]
      · have e3 : ¬ x.1 = k' := fun z => e2 (z.symm.trans e)
        simp only [e3, decide_false]
        rw [ih, if_neg e2]
        simp [e2]
    · rw [if_neg e]
      by_cases e2 : k' = k
      · subst e2
        simp only [e, decide_false]
        rw [ih, if_pos rfl, if_pos trivial, List.any_cons, decide_eq_false e, Bool.false_or]
      · rw [if_neg e2]
        rw [if_neg e2] at ih
        by_cases e3 : x.1 = k'
        · simp [e3]
        · simp only [e3, decide_false]; exact ih
theorem look_put {α : Type} (xs : List (Key × α)) (k k' : Key) (v : α) : look (dput xs k v) k' = if k' = k then some v else look xs k' := by
  unfold dput
  by_cases h : (xs.any fun kv => decide (kv.1 = k)) = true
  · rw [if_pos h, look_map, h]; simp
  · rw [if_neg h]
    exact look_app xs k k' v ((Bool.not_eq_true _).mp h)
theorem put_new {α : Type} {xs : List (Key × α)} {k : Key} {v : α} (h : look xs k = none) : dput xs k v = xs ++ [(k, v)] := by
  unfold dput
  rw [if_neg]
  intro g
  obtain ⟨x, hx, e⟩ := List.any_eq_true.mp g
  unfold look at h
  rw [Option.map_eq_none_iff, List.find?_eq_none] at h
  exact h x hx e
@[simp] theorem look_nil : look ([] : List (Key × D)) k = none := rfl
end
end DL

/-! DLe: terms as texts. -/
namespace DL
open PySem PySem.Spec PyProof.Rows L2
def itx (i : Int) : Str := toString i
mutual
def Trm.wr : Trm → Str
  | .var n => ("x" : Str) ++ itx n
  | .app f [] => f
  | .app f (t :: ts) => f ++ ("(" : Str) ++ Txt.join (", " : Str) (t.wr :: Trm.wrs ts) ++ (")" : Str)
def Trm.wrs : List Trm → List Str
  | [] => []
  | t :: ts => t.wr :: Trm.wrs ts
end
theorem wrs_map : ∀ ts : List Trm, Trm.wrs ts = ts.map Trm.wr
  | [] => rfl
  | t :: ts => by rw [Trm.wrs, wrs_map ts, List.map_cons]
theorem wr_app {f : Str} {ts : List Trm} (h : ts ≠ []) : (Trm.app f ts).wr = f ++ ("(" : Str) ++ Txt.join (", " : Str) (ts.map Trm.wr) ++ (")" : Str) := by
  cases ts with
  | nil => exact absurd rfl h
  | cons t ts => rw [Trm.wr, wrs_map]; rfl
theorem sapp_assoc (x y z : Str) : x ++ y ++ z = x ++ (y ++ z) := str_ext (by simp only [app_list, List.append_assoc])
theorem sempty_app (x : Str) : Str.empty ++ x = x := str_ext (by rw [app_list]; rfl)
theorem itx_len : ∀ n : Nat, n < 1000 → (itx n).length ≤ 3 := by
  have : ∀ n : Fin 1000, (itx (n.val : Int)).length ≤ 3 := by decide +kernel
  exact fun n h => this ⟨n, h⟩
/-- names and variables are short -/
inductive Tx : Trm → Prop
  | var {v : Int} (h0 : 0 ≤ v) (h1 : v < 1000) : Tx (.var v)
  | app {f : Str} {ts : List Trm} (h0 : f.length ≤ 7) (h1 : ∀ t ∈ ts, Tx t) : Tx (.app f ts)
theorem Wf.tx {ops : Sig} {n : Int} (ho : Ops ops) (hn : n ≤ 1000) {t : Trm} (h : Wf ops n t) : Tx t := by
  induction h with
  | var h0 h1 => exact .var h0 (by omega)
  | app h0 _ ih => exact .app (ho.2.2.2 _ h0).2.2 ih
theorem Tx.args {f : Str} {ts : List Trm} (h : Tx (.app f ts)) : f.length ≤ 7 ∧ ∀ t ∈ ts, Tx t := by
  cases h with | app h0 h1 => exact ⟨h0, h1⟩
theorem join_len (a : Str) : ∀ ys : List Str, (Txt.join a ys).length ≤ (ys.map (·.length)).sum + ys.length * a.length := by
  intro ys
  show (Builtin.Str.glued a ys).length ≤ _
  rw [StrLaws.glued_eq_join]
  induction ys with
  | nil => simp [Str.join, Str.empty, Str.length]
  | cons x r ih => cases r with
    | nil => simp [Str.join]
    | cons y r =>
      rw [Str.join, app_len, app_len]
      · simp only [List.map_cons, List.sum_cons, List.length_cons, Nat.add_mul] at ih ⊢
        omega
      · intro e; cases e
theorem wr_len {t : Trm} (h : Tx t) : t.wr.length + 2 ≤ 12 * t.size := by
  induction h with
  | @var v h0 h1 =>
    rw [Trm.wr, app_len]
    have := itx_len v.toNat (by omega)
    rw [Int.toNat_of_nonneg h0] at this
    have e : ("x" : Str).length = 1 := by decide +kernel
    simp [Trm.size]
    omega
  | @app f ts h0 _ ih =>
    cases ts with
    | nil => rw [Trm.wr]; simp [Trm.size, Trm.sizes]; omega
    | cons t ts =>
      rw [wr_app (by simp), app_len, app_len, app_len]
      have e1 : ("(" : Str).length = 1 := by decide +kernel
      have e2 : (")" : Str).length = 1 := by decide +kernel
      have e3 : (", " : Str).length = 2 := by decide +kernel
      have j := join_len (", " : Str) ((t :: ts).map Trm.wr)
      have s : ∀ us : List Trm, (∀ u ∈ us, u.wr.length + 2 ≤ 12 * u.size) → ((us.map Trm.wr).map (·.length)).sum + us.length * 2 ≤ 12 * Trm.sizes us := by
        intro us
        induction us with
        | nil => intro _; simp [Trm.sizes]
        | cons u us ih2 =>
          intro g
          have a := g u List.mem_cons_self
          have b := ih2 fun v hv => g v (List.mem_cons_of_mem _ hv)
          simp only [List.map_cons, List.sum_cons, List.length_cons, Trm.sizes]
          omega
      have s2 := s (t :: ts) ih
      rw [e3, List.length_map] at j
      rw [Trm.size]
      omega
theorem wr_sum {ts : List Trm} (h : ∀ t ∈ ts, Tx t) : ((ts.map Trm.wr).map (·.length)).sum + (ts.map Trm.wr).length * (", " : Str).length ≤ 12 * Trm.sizes ts := by
  have e3 : (", " : Str).length = 2 := by decide +kernel
  rw [e3]
  induction ts with
  | nil => simp
  | cons u us ih =>
    have a := wr_len (h u List.mem_cons_self)
    have b := ih fun v hv => h v (List.mem_cons_of_mem _ hv)
    simp only [List.map_cons, List.sum_cons, List.length_cons, Trm.sizes] at b ⊢
    omega
theorem log_small {i : Int} (h0 : 0 ≤ i) (h1 : i < 1000) : i.natAbs.log2 < 1920 := by
  have : i.natAbs < 2 ^ 1920 := Nat.lt_of_lt_of_le (by omega : i.natAbs < 2 ^ 10) (Nat.pow_le_pow_right (by decide) (by decide))
  by_cases h : i.natAbs = 0
  · rw [h]; decide
  · exact (Nat.log2_lt h).mpr this
end DL

/-! DLf: terms: ==, positions, replacing, substituting, matching. -/
namespace DL
open PySem PySem.Spec PyProof.Rows L2
theorem Trm.plain_d (t : Trm) : t.d.plain = true := by
  induction t using Trm.ind with
  | hv n => simp [D.plain]
  | ha f ts ih =>
    rw [Trm.d_app, D.plain]
    refine plains_of fun d hd => ?_
    rcases List.mem_cons.mp hd with e | hd
    · rw [e]; rfl
    · obtain ⟨t, ht, rfl⟩ := List.mem_map.mp hd
      exact ih t ht
theorem Trm.depth_py (t : Trm) : t.d.py.depth ≤ t.depth := by
  induction t using Trm.ind with
  | hv n => simp [D.py, PyData.depth]
  | ha f ts ih =>
    rw [Trm.d_app, D.py, PyData.depth, Trm.depth]
    have : PyData.depthAll (D.pys (.str f :: ts.map Trm.d)) ≤ Trm.depths ts := depthAll_le fun d hd => by
      rcases List.mem_cons.mp hd with e | hd
      · rw [e]; simp [D.py, PyData.depth]
      · obtain ⟨t, ht, rfl⟩ := List.mem_map.mp hd
        exact Nat.le_trans (ih t ht) (Trm.depths_le ht)
    omega
theorem eqvAll_iff {ts : List Trm} (ih : ∀ t ∈ ts, ∀ u : Trm, PyData.eqv t.d.py u.d.py = true ↔ t = u) : ∀ us : List Trm, PyData.eqvAll (D.pys (ts.map Trm.d)) (D.pys (us.map Trm.d)) = true ↔ ts = us := by
  induction ts with
  | nil => intro us; cases us <;> simp [D.pys, PyData.eqvAll]
  | cons t ts ih2 =>
    intro us
    cases us with
    | nil => simp [D.pys, PyData.eqvAll]
    | cons u us =>
      simp only [List.map_cons, D.pys, PyData.eqvAll, Bool.and_eq_true, List.cons.injEq]
      rw [ih t List.mem_cons_self u, ih2 (fun x hx => ih x (List.mem_cons_of_mem _ hx)) us]
theorem Trm.eqv_iff (t : Trm) : ∀ u : Trm, PyData.eqv t.d.py u.d.py = true ↔ t = u := by
  induction t using Trm.ind with
  | hv n => intro u; cases u <;> simp [D.py, PyData.eqv]
  | ha f ts ih =>
    intro u
    cases u with
    | var m => simp [D.py, PyData.eqv]
    | app g us =>
      simp only [Trm.d_app, D.py, D.pys, PyData.eqv, PyData.eqvAll, Bool.and_eq_true, beq_iff_eq, Trm.app.injEq]
      rw [eqvAll_iff ih us]
instance : DecidableEq Trm := fun t u => if h : PyData.eqv t.d.py u.d.py = true then isTrue ((t.eqv_iff u).mp h) else isFalse fun e => h ((t.eqv_iff u).mpr e)
theorem Trm.eqv_d (t u : Trm) : t.d.eqv u.d = decide (t = u) := by
  rw [Bool.eq_iff_iff, decide_eq_true_eq]; exact t.eqv_iff u
theorem Trm.near_d {t u : Trm} (h : min t.depth u.depth ≤ 150) : t.d.near u.d := ⟨t.plain_d, u.plain_d, by have := t.depth_py; have := u.depth_py; omega⟩
section
variable {W : Wd} {Q : DQ} {t u : Trm}
theorem go_eqT (hd : min t.depth u.depth ≤ 150) (h : Q (.bl (decide (t = u))) W) : dEq t.d u.d W Q := ⟨Trm.near_d hd, by rw [Trm.eqv_d]; exact h⟩
theorem go_neT (hd : min t.depth u.depth ≤ 150) (h : Q (.bl (!decide (t = u))) W) : dNe t.d u.d W Q := ⟨Trm.near_d hd, by rw [Trm.eqv_d]; exact h⟩
end
/-! ### positions -/
mutual
def Trm.pos : Trm → List (List Int)
  | .var _ => [[]]
  | .app _ ts => [] :: Trm.poss 1 ts
def Trm.poss (i : Int) : List Trm → List (List Int)
  | [] => []
  | t :: ts => t.pos.map (i :: ·) ++ Trm.poss (i + 1) ts
end
def posD (p : List Int) : D := .tup (p.map .int)
inductive Pos : Trm → List Int → Prop
  | nil {t : Trm} : Pos t []
  | cons {f : Str} {ts : List Trm} {i : Int} {t : Trm} {p : List Int} (h0 : 1 ≤ i) (h1 : ts[(i - 1).toNat]? = some t) (h : Pos t p) : Pos (.app f ts) (i :: p)
theorem poss_mem {p : List Int} : ∀ {ts : List Trm} {i : Int}, p ∈ Trm.poss i ts → ∃ j : Nat, ∃ t, ts[j]? = some t ∧ ∃ q ∈ t.pos, p = (i + j) :: q
  | [], _, h => by cases h
  | t :: ts, i, h => by
    rw [Trm.poss] at h
    rcases List.mem_append.mp h with h | h
    · obtain ⟨q, hq, rfl⟩ := List.mem_map.mp h
      exact ⟨0, t, rfl, q, hq, by simp⟩
    · obtain ⟨j, u, e, q, hq, rfl⟩ := poss_mem h
      exact ⟨j + 1, u, by simpa using e, q, hq, by congr 1; omega⟩
theorem pos_ok (t : Trm) : ∀ p ∈ t.pos, Pos t p := by
  induction t using Trm.ind with
  | hv n => intro p hp; rw [Trm.pos, List.mem_singleton] at hp; rw [hp]; exact .nil
  | ha f ts ih =>
    intro p hp
    rw [Trm.pos] at hp
    rcases List.mem_cons.mp hp with e | hp
    · rw [e]; exact .nil
    · obtain ⟨j, t, e, q, hq, rfl⟩ := poss_mem hp
      exact .cons (by omega) (by rw [show (1 + (j : Int) - 1).toNat = j by omega]; exact e) (ih t (List.mem_of_getElem? e) q hq)
theorem pos_pos (t : Trm) : 1 ≤ t.pos.length := by cases t <;> simp [Trm.pos]
theorem poss_length : ∀ (ts : List Trm) (i : Int), (∀ t ∈ ts, t.pos.length = t.size) → (Trm.poss i ts).length = Trm.sizes ts
  | [], _, _ => rfl
  | t :: ts, i, h => by
    rw [Trm.poss, List.length_append, List.length_map, poss_length ts _ fun u hu => h u (List.mem_cons_of_mem _ hu), h t List.mem_cons_self, Trm.sizes]
theorem pos_length (t : Trm) : t.pos.length = t.size := by
  induction t using Trm.ind with
  | hv n => rfl
  | ha f ts ih => rw [Trm.pos, List.length_cons, poss_length ts 1 ih, Trm.size]; omega
theorem depth_le_size (t : Trm) : t.depth ≤ t.size := by
  induction t using Trm.ind with
  | hv n => simp [Trm.depth, Trm.size]
  | ha f ts ih =>
    rw [Trm.depth, Trm.size]
    have : ∀ us : List Trm, (∀ u ∈ us, u.depth ≤ u.size) → Trm.depths us ≤ Trm.sizes us := by
      intro us
      induction us with
      | nil => intro _; simp [Trm.depths]
      | cons u us ih2 =>
        intro g
        have a := g u List.mem_cons_self
        have b := ih2 fun v hv => g v (List.mem_cons_of_mem _ hv)
        rw [Trm.depths, Trm.sizes]; omega
    have := this ts ih
    omega
theorem Pos.short {t : Trm} {p : List Int} (h : Pos t p) : p.length < t.depth := by
  induction h with
  | nil => exact Trm.depth_pos _
  | @cons f ts i t p h0 h1 _ ih =>
    rw [List.length_cons, Trm.depth]
    have := Trm.depths_le (List.mem_of_getElem? h1)
    omega
/-! ### replacing -/
def Trm.put : Trm → List Int → Trm → Trm
  | _, [], u => u
  | .var v, _ :: _, _ => .var v
  | .app f ts, i :: p, u => match ts[(i - 1).toNat]? with
    | some t => .app f (ts.set (i - 1).toNat (t.put p u))
    | none => .app f ts
theorem put_cons {f : Str} {ts : List Trm} {i : Int} {t u : Trm} {p : List Int} (h1 : ts[(i - 1).toNat]? = some t) : (Trm.app f ts).put (i :: p) u = .app f (ts.set (i - 1).toNat (t.put p u)) := by
  rw [Trm.put]; split
  · rename_i e; rw [h1] at e; cases e; rfl
  · rename_i e; rw [h1] at e; cases e
theorem mem_set {ts : List Trm} {n : Nat} {x t : Trm} (h : t ∈ ts.set n x) : t ∈ ts ∨ t = x := List.mem_or_eq_of_mem_set h
theorem Wf.put {ops : Sig} {n : Int} {t u : Trm} {p : List Int} (h : Pos t p) (ht : Wf ops n t) (hu : Wf ops n u) : Wf ops n (t.put p u) := by
  induction h with
  | nil => rw [Trm.put]; exact hu
  | @cons f ts i t p h0 h1 _ ih =>
    rw [put_cons h1]
    obtain ⟨a, b⟩ := ht.args
    refine .app (by rw [List.length_set]; exact a) fun x hx => ?_
    rcases mem_set hx with hx | e
    · exact b x hx
    · rw [e]; exact ih (b t (List.mem_of_getElem? h1))
theorem depths_le_iff {n : Nat} : ∀ ts : List Trm, Trm.depths ts ≤ n ↔ ∀ t ∈ ts, t.depth ≤ n
  | [] => by simp [Trm.depths]
  | t :: ts => by rw [Trm.depths, Nat.max_le, depths_le_iff ts]; simp
theorem put_depth {t u : Trm} {p : List Int} (h : Pos t p) : (t.put p u).depth ≤ t.depth + u.depth := by
  induction h with
  | nil => rw [Trm.put]; omega
  | @cons f ts i t p h0 h1 _ ih =>
    rw [put_cons h1, Trm.depth, Trm.depth]
    have m := Trm.depths_le (List.mem_of_getElem? h1)
    have : Trm.depths (ts.set (i - 1).toNat (t.put p u)) ≤ Trm.depths ts + u.depth := (depths_le_iff _).mpr fun x hx => by
      rcases mem_set hx with hx | e
      · have := Trm.depths_le hx; omega
      · rw [e]; omega
    omega
theorem sizes_set {x : Trm} : ∀ {ts : List Trm} {n : Nat} {t : Trm}, ts[n]? = some t → Trm.sizes (ts.set n x) + t.size = Trm.sizes ts + x.size
  | [], _, _, h => by simp at h
  | t :: ts, 0, u, h => by simp at h; subst h; simp [Trm.sizes]; omega
  | t :: ts, n + 1, u, h => by
    have := sizes_set (x := x) (ts := ts) (n := n) (t := u) (by simpa using h)
    simp only [List.set_cons_succ, Trm.sizes]; omega
theorem put_size {t u : Trm} {p : List Int} (h : Pos t p) : (t.put p u).size ≤ t.size + u.size := by
  induction h with
  | nil => rw [Trm.put]; omega
  | @cons f ts i t p h0 h1 _ ih =>
    rw [put_cons h1, Trm.size, Trm.size]
    have := sizes_set (x := t.put p u) h1
    omega
theorem set_parts {l : List D} {n : Nat} {x : D} (h : n < l.length) : l.take n ++ [x] ++ l.drop (n + 1) = l.set n x := by
  rw [List.set_eq_take_append_cons_drop, if_pos h]; simp
/-! ### substituting -/
mutual
def Trm.sub (s : Int → Trm) : Trm → Trm
  | .var v => s v
  | .app f ts => .app f (Trm.subs s ts)
def Trm.subs (s : Int → Trm) : List Trm → List Trm
  | [] => []
  | t :: ts => t.sub s :: Trm.subs s ts
end
theorem subs_map (s : Int → Trm) : ∀ ts : List Trm, Trm.subs s ts = ts.map (Trm.sub s)
  | [] => rfl
  | t :: ts => by rw [Trm.subs, subs_map s ts, List.map_cons]
theorem sub_app (s : Int → Trm) (f : Str) (ts : List Trm) : (Trm.app f ts).sub s = .app f (ts.map (Trm.sub s)) := by rw [Trm.sub, subs_map]
theorem Wf.sub {ops : Sig} {n m : Int} {s : Int → Trm} (hs : ∀ v, 0 ≤ v → v < n → Wf ops m (s v)) {t : Trm} (h : Wf ops n t) : Wf ops m (t.sub s) := by
  induction h with
  | var h0 h1 => rw [Trm.sub]; exact hs _ h0 h1
  | app h0 _ ih =>
    rw [sub_app]
    refine .app (by rw [List.length_map]; exact h0) fun x hx => ?_
    obtain ⟨t, ht, rfl⟩ := List.mem_map.mp hx
    exact ih t ht
theorem sub_depth {ops : Sig} {n : Int} {s : Int → Trm} {d : Nat} (hs : ∀ v, 0 ≤ v → v < n → (s v).depth ≤ d) {t : Trm} (h : Wf ops n t) : (t.sub s).depth ≤ t.depth + d := by
  induction h with
  | var h0 h1 => rw [Trm.sub]; have := hs _ h0 h1; omega
  | @app f ts _ _ ih =>
    rw [sub_app, Trm.depth, Trm.depth]
    have : Trm.depths (ts.map (Trm.sub s)) ≤ Trm.depths ts + d := (depths_le_iff _).mpr fun x hx => by
      obtain ⟨t, ht, rfl⟩ := List.mem_map.mp hx
      have := ih t ht
      have := Trm.depths_le ht
      omega
    omega
theorem sub_size {ops : Sig} {n : Int} {s : Int → Trm} {d : Nat} (hd : 1 ≤ d) (hs : ∀ v, 0 ≤ v → v < n → (s v).size ≤ d) {t : Trm} (h : Wf ops n t) : (t.sub s).size ≤ t.size * d := by
  induction h with
  | var h0 h1 => rw [Trm.sub, Trm.size]; have := hs _ h0 h1; omega
  | @app f ts _ _ ih =>
    rw [sub_app, Trm.size, Trm.size]
    have : ∀ us : List Trm, (∀ u ∈ us, (u.sub s).size ≤ u.size * d) → Trm.sizes (us.map (Trm.sub s)) ≤ Trm.sizes us * d := by
      intro us
      induction us with
      | nil => intro _; simp [Trm.sizes]
      | cons u us ih2 =>
        intro g
        have a := g u List.mem_cons_self
        have b := ih2 fun v hv => g v (List.mem_cons_of_mem _ hv)
        simp only [List.map_cons, Trm.sizes, Nat.add_mul]
        omega
    have := this ts ih
    rw [Nat.add_mul]
    omega
/-! ### dicts of terms -/
abbrev Sb := List (Int × Trm)
def dkS (s : Sb) : List (Key × D) := s.map fun vt => (.inl vt.1, vt.2.d)
def Sb.get (s : Sb) (v : Int) : Option Trm := (s.find? fun vt => decide (vt.1 = v)).map (·.2)
def Sb.fn (s : Sb) (v : Int) : Trm := (s.get v).getD (.var v)
theorem look_dkS (s : Sb) (v : Int) : look (dkS s) (.inl v) = (s.get v).map Trm.d := by
  induction s with
  | nil => rfl
  | cons x s ih =>
    unfold look dkS Sb.get at ih ⊢
    rw [List.map_cons, List.find?_cons, List.find?_cons]
    by_cases e : x.1 = v
    · simp [e]
    · have e2 : ¬ (Sum.inl x.1 : Key) = .inl v := fun z => e (Sum.inl.inj z)
      simp only [e, e2, decide_false]
      exact ih
theorem look_fn (s : Sb) (v : Int) : (look (dkS s) (.inl v)).getD (.int v) = (s.fn v).d := by
  rw [look_dkS]; unfold Sb.fn
  cases s.get v with
  | none => simp
  | some t => rfl
theorem put_dkS {s : Sb} {v : Int} {t : Trm} (h : s.get v = none) : dput (dkS s) (.inl v) t.d = dkS (s ++ [(v, t)]) := by
  rw [put_new (by rw [look_dkS, h]; rfl)]
  simp [dkS]
theorem dkS_length (s : Sb) : (dkS s).length = s.length := by simp [dkS]
theorem get_mem {s : Sb} {v : Int} {t : Trm} (h : s.get v = some t) : (v, t) ∈ s := by
  unfold Sb.get at h
  rw [Option.map_eq_some_iff] at h
  obtain ⟨x, hx, rfl⟩ := h
  have := List.find?_some hx
  have e : x.1 = v := by simpa using this
  rw [← e]
  exact List.mem_of_find?_eq_some hx
/-! ### matching -/
mutual
def mt : Trm → Trm → Sb → Bool × Sb
  | .var v, t, s => match s.get v with
    | some u => (decide (u = t), s)
    | none => (true, s ++ [(v, t)])
  | .app f ps, .app g ts, s => if f = g ∧ ps.length = ts.length then mts ps ts s else (false, s)
  | .app _ _, .var _, s => (false, s)
def mts : List Trm → List Trm → Sb → Bool × Sb
  | p :: ps, t :: ts, s => if (mt p t s).1 = true then mts ps ts (mt p t s).2 else (false, (mt p t s).2)
  | _, _, s => (true, s)
end
mutual
theorem mt_len : ∀ (p t : Trm) (s : Sb), (mt p t s).2.length ≤ s.length + p.size
  | .var v, t, s => by
    rw [mt, Trm.size]
    split
    · simp
    · simp
  | .app f ps, .app g ts, s => by
    rw [mt, Trm.size]
    split
    · have := mts_len ps ts s; omega
    · simp
  | .app _ _, .var _, s => by rw [mt]; simp
theorem mts_len : ∀ (ps ts : List Trm) (s : Sb), (mts ps ts s).2.length ≤ s.length + Trm.sizes ps
  | [], ts, s => by rw [mts] <;> simp [Trm.sizes]
  | p :: ps, [], s => by rw [mts] <;> simp
  | p :: ps, t :: ts, s => by
    rw [mts, Trm.sizes]
    have := mt_len p t s
    split
    · have := mts_len ps ts (mt p t s).2; omega
    · simp only; omega
end
mutual
theorem mt_sub : ∀ (p t : Trm) (s : Sb), ∀ vt ∈ (mt p t s).2, vt ∈ s ∨ (vt.2.depth ≤ t.depth ∧ vt.2.size ≤ t.size)
  | .var v, t, s => by
    rw [mt]
    split
    · exact fun vt h => .inl h
    · intro vt h
      rcases List.mem_append.mp h with h | h
      · exact .inl h
      · rw [List.mem_singleton] at h; rw [h]; exact .inr ⟨Nat.le_refl _, Nat.le_refl _⟩
  | .app f ps, .app g ts, s => by
    rw [mt]
    split
    · intro vt h
      rcases mts_sub ps ts s vt h with h | ⟨u, hu, h1, h2⟩
      · exact .inl h
      · have := Trm.depths_le hu
        have := size_mem hu
        refine .inr ⟨?_, ?_⟩
        · rw [Trm.depth]; omega
        · rw [Trm.size]; omega
    · exact fun vt h => .inl h
  | .app _ _, .var _, s => by rw [mt]; exact fun vt h => .inl h
theorem mts_sub : ∀ (ps ts : List Trm) (s : Sb), ∀ vt ∈ (mts ps ts s).2, vt ∈ s ∨ ∃ u ∈ ts, vt.2.depth ≤ u.depth ∧ vt.2.size ≤ u.size
  | [], ts, s => by rw [mts] <;> simp; exact fun a b h => .inl h
  | p :: ps, [], s => by rw [mts] <;> simp
  | p :: ps, t :: ts, s => by
    intro vt h
    have a := mt_sub p t s vt
    rw [mts] at h
    split at h
    · rcases mts_sub ps ts _ vt h with h | ⟨u, hu, h1⟩
      · rcases a h with h | h
        · exact .inl h
        · exact .inr ⟨t, List.mem_cons_self, h⟩
      · exact .inr ⟨u, List.mem_cons_of_mem _ hu, h1⟩
    · rcases a h with h | h
      · exact .inl h
      · exact .inr ⟨t, List.mem_cons_self, h⟩
end
def mres (r : Bool × Sb) : D := if r.1 = true then .dk (dkS r.2) else .non
theorem rangeD_succ (lo : Int) (n : Nat) : rangeD lo (n + 1) = .int lo :: rangeD (lo + 1) n := by
  unfold rangeD
  rw [List.range_succ_eq_map, List.map_cons, List.map_map]
  congr 1
  · simp
  · exact List.map_congr_left fun i _ => by simp; omega
theorem lcE_invO {i : Nat} {e : AE} {δ : Sl} {items : List D} {W : Wd} {Q : DQ} (I : List D → List D → Wd → Prop) (h0 : I items [] W) (hz : items.length ≤ sizeLine)
    (hs : ∀ d ds acc W' (L : Addr) (Q' : DQ), I (d :: ds) acc W' → W' L = none → (∀ y W'', W'' L = none → I ds (acc ++ [y]) W'' → Q' y (W''.set L (.lst acc))) → e (δ.set i (some d)) (W'.set L (.lst acc)) Q')
    (hd : ∀ acc W' (p : Addr), I [] acc W' → W' p = none → Q (.ptr p) (W'.set p (.lst acc))) : lcE true (agName i) aYes e (fun _ => True) δ items W Q := by
  intro L hL
  have go : ∀ (ds acc : List D) (W' : Wd), W' L = none → acc.length + ds.length ≤ sizeLine → I ds acc W' → lcL (agName i) aYes e (fun _ => True) δ L (fun W2 => ∃ acc, W2 L = some (.lst acc) ∧ (if true = true then Q (.ptr L) W2 else Q (.lst acc) (W2.del L))) ds (W'.set L (.lst acc)) := by
    intro ds
    induction ds with
    | nil =>
      intro acc W' h1 _ h2
      exact ⟨trivial, acc, Wd.set_same _ _ _, by rw [if_pos rfl]; exact hd acc W' L h2 h1⟩
    | cons d ds ih =>
      intro acc W' h1 hz h2
      refine ⟨trivial, ?_⟩
      simp only [agName, aYes, ↓reduceIte]
      rw [List.length_cons] at hz
      refine hs d ds acc W' L _ h2 h1 fun y W'' h3 q => ⟨acc, Wd.set_same _ _ _, by omega, ?_⟩
      rw [Wd.set_set]
      exact ih _ _ h3 (by rw [List.length_append, List.length_singleton]; omega) q
  exact go items [] W hL (by simpa using hz) h0
theorem lcE_pureO {α : Type} {i : Nat} {e : AE} {δ : Sl} {W : Wd} {Q : DQ} (g : α → D) (f : α → D) (xs : List α) (hz : xs.length ≤ sizeLine)
    (he : ∀ x ∈ xs, ∀ (W' : Wd) (Q' : DQ), Q' (f x) W' → e (δ.set i (some (g x))) W' Q') (hQ : ∀ p, W p = none → Q (.ptr p) (W.set p (.lst (xs.map f)))) : lcE true (agName i) aYes e (fun _ => True) δ (xs.map g) W Q := by
  refine lcE_invO (fun ds acc W' => ∃ us vs : List α, W' = W ∧ ds = us.map g ∧ acc = vs.map f ∧ vs ++ us = xs) ⟨xs, [], rfl, rfl, rfl, rfl⟩ (by rw [List.length_map]; exact hz) ?_ ?_
  · rintro d ds acc W' L Q' ⟨us, vs, rfl, e1, rfl, e2⟩ hL k
    cases us with
    | nil => cases e1
    | cons u us =>
      rw [List.map_cons] at e1
      cases e1
      refine he u (by rw [← e2]; simp) _ Q' ?_
      exact k _ _ hL ⟨us, vs ++ [u], rfl, rfl, by simp, by rw [← e2]; simp⟩
  · rintro acc W' p ⟨us, vs, rfl, e1, rfl, e2⟩ hp
    cases us with
    | cons u us => cases e1
    | nil => rw [List.append_nil] at e2; rw [e2]; exact hQ p hp
theorem go_neLs {ts : List Trm} {W : Wd} {Q : DQ} (h : ∀ t ∈ ts, t.depth ≤ 100) (q : Q (.bl false) W) : dNe (.lst (ts.map Trm.d)) (.lst (ts.map Trm.d)) W Q := by
  have p : (D.lst (ts.map Trm.d)).plain = true := by
    rw [D.plain]
    exact plains_of fun d hd => by obtain ⟨t, _, rfl⟩ := List.mem_map.mp hd; exact t.plain_d
  have z : (D.lst (ts.map Trm.d)).py.depth ≤ 101 := by
    rw [D.py, PyData.depth]
    have : PyData.depthAll (D.pys (ts.map Trm.d)) ≤ 100 := depthAll_le fun d hd => by
      obtain ⟨t, ht, rfl⟩ := List.mem_map.mp hd
      exact Nat.le_trans t.depth_py (h t ht)
    omega
  refine ⟨⟨p, p, by omega⟩, ?_⟩
  have e : (D.lst (ts.map Trm.d)).eqv (.lst (ts.map Trm.d)) = true := by
    show PyData.eqv _ _ = true
    rw [D.py, PyData.eqv]
    exact (eqvAll_iff (fun t _ u => t.eqv_iff u) ts).mpr rfl
  rw [e]
  exact q
/-! ### symbols and variables -/
inductive Sy where
  | v (n : Int) | f (x : Str)
  deriving DecidableEq
def Sy.d : Sy → D
  | .v n => .int n
  | .f x => .str x
mutual
def Trm.syms : Trm → List Sy
  | .var n => [.v n]
  | .app f ts => .f f :: Trm.symss ts
def Trm.symss : List Trm → List Sy
  | [] => []
  | t :: ts => t.syms ++ Trm.symss ts
end
def Sy.int? : Sy → Option Int
  | .v n => some n
  | .f _ => none
/-- keep the first of each -/
def nub (acc : List Int) : List Int → List Int
  | [] => acc
  | n :: ns => nub (if n ∈ acc then acc else acc ++ [n]) ns
def Trm.vars (t : Trm) : List Int := nub [] (t.syms.filterMap Sy.int?)
mutual
theorem syms_len : ∀ t : Trm, t.syms.length = t.size
  | .var _ => rfl
  | .app f ts => by rw [Trm.syms, List.length_cons, symss_len ts, Trm.size]; omega
theorem symss_len : ∀ ts : List Trm, (Trm.symss ts).length = Trm.sizes ts
  | [] => rfl
  | t :: ts => by rw [Trm.symss, List.length_append, syms_len t, symss_len ts, Trm.sizes]
end
theorem nub_len : ∀ (ns acc : List Int), (nub acc ns).length ≤ acc.length + ns.length
  | [], acc => by rw [nub]; simp
  | n :: ns, acc => by
    rw [nub, List.length_cons]
    split
    · have := nub_len ns acc; omega
    · have := nub_len ns (acc ++ [n]); rw [List.length_append, List.length_singleton] at this; omega
theorem within_ints (n : Int) (ns : List Int) : D.within (.int n) (ns.map .int) = decide (n ∈ ns) := by
  unfold D.within
  rw [List.any_map, Bool.eq_iff_iff, List.any_eq_true, decide_eq_true_eq]
  constructor
  · rintro ⟨x, hx, e⟩
    have e2 : x = n := by simpa using e
    exact e2 ▸ hx
  · exact fun h => ⟨n, h, by simp⟩
theorem nears_ints (n : Int) (ns : List Int) : D.nears (.int n) (ns.map .int) := by
  refine ⟨rfl, plains_of fun d hd => ?_, ?_⟩
  · obtain ⟨k, _, rfl⟩ := List.mem_map.mp hd; rfl
  · have : PyData.depthAll (D.pys (ns.map .int)) ≤ 0 := depthAll_le fun d hd => by
      obtain ⟨k, _, rfl⟩ := List.mem_map.mp hd
      simp [D.py, PyData.depth]
    omega
theorem go_inIs {n : Int} {ns : List Int} {W : Wd} {Q : DQ} (h : Q (.bl (decide (n ∈ ns))) W) : dIn false (.int n) (.lst (ns.map .int)) W Q := .inl ⟨_, rfl, nears_ints n ns, by rw [within_ints]; exact h⟩
theorem go_ninIs {n : Int} {ns : List Int} {W : Wd} {Q : DQ} (h : Q (.bl (!decide (n ∈ ns))) W) : dIn true (.int n) (.lst (ns.map .int)) W Q := .inl ⟨_, rfl, nears_ints n ns, by rw [within_ints]; exact h⟩
theorem go_ninIp {n : Int} {ns : List Int} {q : Addr} {W : Wd} {Q : DQ} (hw : W q = some (.lst (ns.map .int))) (h : Q (.bl (!decide (n ∈ ns))) W) : dIn true (.int n) (.ptr q) W Q := .inl ⟨_, lstRd_ptr hw, nears_ints n ns, by rw [within_ints]; exact h⟩
/-! ### names by first occurrence -/
def numb (s : Sb) : List Int → Sb
  | [] => s
  | v :: vs => numb (if (s.get v).isSome = true then s else s ++ [(v, .var s.length)]) vs
def canon (l r : Trm) : Trm × Trm := (l.sub (numb [] (l.vars ++ r.vars)).fn, r.sub (numb [] (l.vars ++ r.vars)).fn)
/-! ### worlds -/
theorem Wd.del_set2 {W : Wd} {p q : Addr} {m o : MO} (hp : W p = none) (ne : p ≠ q) : ((W.set p m).set q o).del p = W.set q o := by
  funext b
  simp only [Wd.set, Wd.del]
  by_cases h : b = p
  · subst h; rw [if_pos rfl, if_neg ne, hp]
  · rw [if_neg h]; simp [h]
theorem Wd.set_swap {W : Wd} {p q : Addr} {m m' o : MO} (ne : p ≠ q) : ((W.set p m).set q o).set p m' = (W.set p m').set q o := by
  rw [Wd.set_comm (Ne.symm ne), Wd.set_set]
end DL

/-! DLg: renaming variables; the canonical form does not see it. -/
namespace DL
open PySem PySem.Spec PyProof.Rows L2
def occ (t : Trm) : List Int := t.syms.filterMap Sy.int?
def Trm.ren (σ : Int → Int) (t : Trm) : Trm := t.sub fun v => .var (σ v)
theorem symss_occ {σ : Int → Int} : ∀ ts : List Trm, (∀ t ∈ ts, occ (t.ren σ) = (occ t).map σ) → (Trm.symss (ts.map (Trm.ren σ))).filterMap Sy.int? = ((Trm.symss ts).filterMap Sy.int?).map σ
  | [], _ => rfl
  | t :: ts, h => by
    have a := h t List.mem_cons_self
    unfold occ at a
    rw [List.map_cons, Trm.symss, Trm.symss, List.filterMap_append, List.filterMap_append, List.map_append, a, symss_occ ts fun u hu => h u (List.mem_cons_of_mem _ hu)]
theorem occ_ren (σ : Int → Int) (t : Trm) : occ (t.ren σ) = (occ t).map σ := by
  induction t using Trm.ind with
  | hv n => rfl
  | ha f ts ih =>
    have e : (Trm.app f ts).ren σ = .app f (ts.map (Trm.ren σ)) := sub_app _ _ _
    rw [e]
    unfold occ
    rw [Trm.syms, Trm.syms, List.filterMap_cons, List.filterMap_cons]
    simp only [Sy.int?]
    exact symss_occ ts ih
theorem sub_ren (σ : Int → Int) (s : Int → Trm) (t : Trm) : (t.ren σ).sub s = t.sub fun v => s (σ v) := by
  induction t using Trm.ind with
  | hv n => rfl
  | ha f ts ih =>
    have e : (Trm.app f ts).ren σ = .app f (ts.map (Trm.ren σ)) := sub_app _ _ _
    rw [e, sub_app, sub_app, List.map_map]
    congr 1
    exact List.map_congr_left fun t ht => ih t ht
theorem occ_mem {t : Trm} {v : Int} : ∀ {ts : List Trm}, t ∈ ts → v ∈ occ t → v ∈ (Trm.symss ts).filterMap Sy.int?
  | [], h, _ => by cases h
  | u :: us, h, hv => by
    rw [Trm.symss, List.filterMap_append]
    rcases List.mem_cons.mp h with e | h
    · rw [← e]; exact List.mem_append_left _ hv
    · exact List.mem_append_right _ (occ_mem h hv)
theorem sub_congr {s s' : Int → Trm} (t : Trm) (h : ∀ v ∈ occ t, s v = s' v) : t.sub s = t.sub s' := by
  induction t using Trm.ind with
  | hv n => exact h n (by simp [occ, Trm.syms, Sy.int?])
  | ha f ts ih =>
    rw [sub_app, sub_app]
    congr 1
    refine List.map_congr_left fun t ht => ih t ht fun v hv => h v ?_
    unfold occ
    rw [Trm.syms, List.filterMap_cons]
    simp only [Sy.int?]
    exact occ_mem ht hv
def InjOn (σ : Int → Int) (l : List Int) : Prop := ∀ a ∈ l, ∀ b ∈ l, σ a = σ b → a = b
theorem nub_sub {x : Int} : ∀ (ns acc : List Int), x ∈ nub acc ns → x ∈ acc ∨ x ∈ ns
  | [], acc, h => .inl h
  | n :: ns, acc, h => by
    rw [nub] at h
    rcases nub_sub ns _ h with h | h
    · split at h
      · exact .inl h
      · rcases List.mem_append.mp h with h | h
        · exact .inl h
        · rw [List.mem_singleton] at h; exact .inr (h ▸ List.mem_cons_self)
    · exact .inr (List.mem_cons_of_mem _ h)
theorem nub_memL {x : Int} : ∀ (ns acc : List Int), x ∈ acc → x ∈ nub acc ns
  | [], acc, h => h
  | n :: ns, acc, h => by
    rw [nub]
    apply nub_memL
    split
    · exact h
    · exact List.mem_append_left _ h
theorem nub_memR {x : Int} : ∀ (ns acc : List Int), x ∈ ns → x ∈ nub acc ns
  | n :: ns, acc, h => by
    rw [nub]
    rcases List.mem_cons.mp h with e | h
    · apply nub_memL
      split
      · rw [e]; assumption
      · rw [e]; simp
    · exact nub_memR ns _ h
theorem nub_map {σ : Int → Int} : ∀ (ns acc : List Int), InjOn σ (acc ++ ns) → nub (acc.map σ) (ns.map σ) = (nub acc ns).map σ
  | [], acc, _ => rfl
  | n :: ns, acc, h => by
    rw [List.map_cons, nub, nub]
    by_cases hm : n ∈ acc
    · rw [if_pos hm, if_pos (List.mem_map_of_mem hm)]
      exact nub_map ns acc fun a ha b hb => h a (by simp at ha ⊢; rcases ha with ha | ha <;> simp [ha]) b (by simp at hb ⊢; rcases hb with hb | hb <;> simp [hb])
    · have hm2 : ¬ σ n ∈ acc.map σ := fun g => by
        obtain ⟨x, hx, e⟩ := List.mem_map.mp g
        exact hm (h x (by simp [hx]) n (by simp) e ▸ hx)
      rw [if_neg hm, if_neg hm2]
      have := nub_map ns (acc ++ [n]) fun a ha b hb => h a (by simpa using ha) b (by simpa using hb)
      rw [List.map_append] at this
      exact this
theorem vars_ren {σ : Int → Int} {t : Trm} (h : InjOn σ (occ t)) : (t.ren σ).vars = t.vars.map σ := by
  show nub [] (occ (t.ren σ)) = (nub [] (occ t)).map σ
  rw [occ_ren]
  exact nub_map (occ t) [] (by simpa using h)
theorem mem_vars {t : Trm} {v : Int} : v ∈ t.vars ↔ v ∈ occ t := ⟨fun h => (nub_sub _ _ h).elim (fun h => by cases h) id, fun h => nub_memR _ _ h⟩
def mapk (σ : Int → Int) (s : Sb) : Sb := s.map fun vt => (σ vt.1, vt.2)
theorem get_mapk {σ : Int → Int} {v : Int} : ∀ {s : Sb}, (∀ x ∈ s, σ x.1 = σ v → x.1 = v) → Sb.get (mapk σ s) (σ v) = s.get v
  | [], _ => rfl
  | x :: s, h => by
    have ih := get_mapk (σ := σ) (v := v) (s := s) fun y hy => h y (List.mem_cons_of_mem _ hy)
    unfold Sb.get mapk at ih ⊢
    rw [List.map_cons, List.find?_cons, List.find?_cons]
    by_cases e : x.1 = v
    · simp [e]
    · have e2 : ¬ σ x.1 = σ v := fun z => e (h x List.mem_cons_self z)
      simp only [e, e2, decide_false]
      exact ih
theorem numb_map {σ : Int → Int} : ∀ (ns : List Int) (s : Sb), InjOn σ (s.map (·.1) ++ ns) → numb (mapk σ s) (ns.map σ) = mapk σ (numb s ns)
  | [], s, _ => rfl
  | n :: ns, s, h => by
    rw [List.map_cons, numb, numb, get_mapk fun x hx e => h x.1 (by simp; exact .inl ⟨x.2, hx⟩) n (by simp) e]
    split
    · exact numb_map ns s fun a ha b hb => h a (by simp at ha ⊢; rcases ha with ha | ha <;> simp [ha]) b (by simp at hb ⊢; rcases hb with hb | hb <;> simp [hb])
    · have e : mapk σ s ++ [(σ n, .var ((mapk σ s).length : Nat))] = mapk σ (s ++ [(n, .var s.length)]) := by simp [mapk]
      rw [e]
      exact numb_map ns _ fun a ha b hb => h a (by simpa using ha) b (by simpa using hb)
theorem get_snoc {s : Sb} {v u : Int} {t : Trm} : Sb.get (s ++ [(v, t)]) u = if (s.get u).isSome = true then s.get u else if v = u then some t else none := by
  unfold Sb.get
  rw [List.find?_append]
  cases h : List.find? (fun vt => decide (vt.1 = u)) s with
  | some x => simp
  | none =>
    by_cases e : v = u
    · simp [e]
    · simp [e]
theorem numb_keep {v : Int} {t : Trm} : ∀ (ns : List Int) (s : Sb), s.get v = some t → (numb s ns).get v = some t
  | [], s, h => h
  | n :: ns, s, h => by
    rw [numb]
    apply numb_keep
    split
    · exact h
    · rw [get_snoc, h]; rfl
theorem numb_has {v : Int} : ∀ (ns : List Int) (s : Sb), v ∈ ns → ∃ t, (numb s ns).get v = some t
  | n :: ns, s, h => by
    rw [numb]
    rcases List.mem_cons.mp h with e | h
    · subst e
      cases g : s.get v with
      | some t => exact ⟨t, by simpa using numb_keep ns s g⟩
      | none =>
        have := numb_keep (v := v) (t := .var s.length) ns (s ++ [(v, .var s.length)]) (by rw [get_snoc, g]; simp)
        exact ⟨.var s.length, by simpa using this⟩
    · exact numb_has ns _ h
theorem numb_keys {x : Int × Trm} : ∀ (ns : List Int) (s : Sb), x ∈ numb s ns → x ∈ s ∨ x.1 ∈ ns
  | [], s, h => .inl h
  | n :: ns, s, h => by
    rw [numb] at h
    rcases numb_keys ns _ h with h | h
    · split at h
      · exact .inl h
      · rcases List.mem_append.mp h with h | h
        · exact .inl h
        · rw [List.mem_singleton] at h; rw [h]; exact .inr List.mem_cons_self
    · exact .inr (List.mem_cons_of_mem _ h)
/-- the numbers given are told apart -/
def Num (s : Sb) : Prop := ∀ v t, s.get v = some t → ∃ i : Nat, t = .var i ∧ i < s.length ∧ ∀ w, s.get w = some (.var i) → w = v
theorem Num.snoc {s : Sb} {n : Int} (h : Num s) (g : s.get n = none) : Num (s ++ [(n, .var s.length)]) := by
  intro v t e
  rw [get_snoc] at e
  split at e
  · obtain ⟨i, rfl, hi, hu⟩ := h v t e
    refine ⟨i, rfl, by simp; omega, fun w ew => ?_⟩
    rw [get_snoc] at ew
    split at ew
    · exact hu w ew
    · split at ew
      · cases ew; omega
      · cases ew
  · split at e
    · rename_i hv
      cases e
      refine ⟨s.length, rfl, by simp, fun w ew => ?_⟩
      rw [get_snoc] at ew
      split at ew
      · obtain ⟨j, e1, e2, _⟩ := h w _ ew
        cases e1
        omega
      · split at ew
        · rename_i hw; rw [← hw, hv]
        · cases ew
    · cases e
theorem Num.numb : ∀ (ns : List Int) {s : Sb}, Num s → Num (DL.numb s ns)
  | [], s, h => h
  | n :: ns, s, h => by
    rw [DL.numb]
    apply Num.numb
    cases g : s.get n with
    | some t => simpa using h
    | none => simpa using h.snoc g
theorem num_nil : Num [] := fun v t e => by cases e
/-- a renaming that tells the variables apart leaves the canonical form as it is -/
theorem canon_ren {σ : Int → Int} {l r : Trm} (h : InjOn σ (occ l ++ occ r)) : canon (l.ren σ) (r.ren σ) = canon l r := by
  have hl : InjOn σ (occ l) := fun a ha b hb => h a (by simp [ha]) b (by simp [hb])
  have hr : InjOn σ (occ r) := fun a ha b hb => h a (by simp [ha]) b (by simp [hb])
  have hv : InjOn σ (l.vars ++ r.vars) := fun a ha b hb => h a (by simpa [mem_vars] using ha) b (by simpa [mem_vars] using hb)
  have e1 : numb [] ((l.ren σ).vars ++ (r.ren σ).vars) = mapk σ (numb [] (l.vars ++ r.vars)) := by
    rw [vars_ren hl, vars_ren hr, ← List.map_append]
    exact numb_map _ [] (by simpa using hv)
  have e2 : ∀ v ∈ l.vars ++ r.vars, (mapk σ (numb [] (l.vars ++ r.vars))).fn (σ v) = (numb [] (l.vars ++ r.vars)).fn v := fun v hvv => by
    obtain ⟨t, ht⟩ := numb_has (l.vars ++ r.vars) [] hvv
    unfold Sb.fn
    rw [get_mapk fun x hx e => hv x.1 ((numb_keys _ _ hx).elim (fun h => by cases h) id) v hvv e, ht]
    rfl
  unfold canon
  rw [e1, sub_ren, sub_ren]
  congr 1
  · exact sub_congr l fun v hv' => e2 v (by simp [mem_vars, hv'])
  · exact sub_congr r fun v hv' => e2 v (by simp [mem_vars, hv'])
theorem canon_canon (l r : Trm) : canon (canon l r).1 (canon l r).2 = canon l r := by
  have hN := Num.numb (l.vars ++ r.vars) num_nil
  have hg : ∀ v ∈ l.vars ++ r.vars, ∃ i : Nat, (numb [] (l.vars ++ r.vars)).get v = some (.var i) ∧ ∀ w, (numb [] (l.vars ++ r.vars)).get w = some (.var i) → w = v := fun v hv => by
    obtain ⟨t, ht⟩ := numb_has (l.vars ++ r.vars) [] hv
    obtain ⟨i, rfl, _, hu⟩ := hN v t ht
    exact ⟨i, ht, hu⟩
  let τ : Int → Int := fun v => match (numb [] (l.vars ++ r.vars)).get v with | some (.var i) => i | _ => 0
  have ht : ∀ v ∈ l.vars ++ r.vars, (numb [] (l.vars ++ r.vars)).fn v = .var (τ v) := fun v hv => by
    obtain ⟨i, e, _⟩ := hg v hv
    show (Option.getD _ _) = _
    simp only [τ, e, Option.getD_some]
  have hi : InjOn τ (occ l ++ occ r) := fun a ha b hb e => by
    obtain ⟨i, ea, ua⟩ := hg a (by simpa [mem_vars] using ha)
    obtain ⟨j, eb, _⟩ := hg b (by simpa [mem_vars] using hb)
    simp only [τ, ea, eb] at e
    rw [← e] at eb
    exact (ua b eb).symm
  have c : canon l r = (l.ren τ, r.ren τ) := by
    unfold canon Trm.ren
    congr 1
    · exact sub_congr l fun v hv => ht v (by simp [mem_vars, hv])
    · exact sub_congr r fun v hv => ht v (by simp [mem_vars, hv])
  have := canon_ren hi
  rw [c]
  rw [this, c]
end DL

/-! DLi: repr. -/
namespace DL
open PySem PySem.Spec PyProof.Rows L2
/-! ### data without lists and dicts -/
mutual
def ptl : PyData → Bool
  | .none => true
  | .bool _ => true
  | .int _ => true
  | .str _ => true
  | .tuple ds => ptls ds
  | .list _ => false
  | .dict _ => false
def ptls : List PyData → Bool
  | [] => true
  | d :: ds => ptl d && ptls ds
end
section
variable {X : Cx} {pins : List (Addr × Obj)} {σ : L2.St} {H : Hp} {s : Shared}
mutual
theorem reads_tl (I : Inv X pins σ H s) : ∀ (d : PyData) (v : V) (u : Value), ptl d = true → Dp X.K H v d → L2.RelV v u → Reads s.heap u d []
  | .none, _, _, _, h, r => by cases h; cases r; exact .none
  | .bool b, _, _, _, h, r => by cases h; cases r; exact .bool b
  | .int i, _, _, _, h, r => by cases h; obtain ⟨t, rfl⟩ := r; exact .int i t
  | .str x, _, _, _, h, r => by cases h; obtain ⟨t, rfl⟩ := r; exact .str x t
  | .tuple ds, _, _, p, h, r => by
    cases h with
    | tup hs ha =>
      cases r
      obtain ⟨its, rv, ⟨o, ho, hc, n, hd⟩, _⟩ := I.tuple hs
      exact .tuple ho hc hd (readsA_tl I ds _ its p ha rv)
  | .list _, _, _, p, _, _ => by cases p
  | .dict _, _, _, p, _, _ => by cases p
theorem readsA_tl (I : Inv X pins σ H s) : ∀ (ds : List PyData) (vs : List V) (us : List Value), ptls ds = true → DpAll X.K H vs ds → Vals vs us → ReadsAll s.heap us ds []
  | [], _, _, _, h, r => by cases h; cases r; exact .nil
  | d :: ds, _, _, p, h, r => by
    have p1 := Bool.and_eq_true_iff.mp p
    cases h with
    | cons h1 h2 => cases r with
      | cons r1 r2 => exact ReadsAll.cons (as := []) (bs := []) (reads_tl I d _ _ p1.1 h1 r1) (readsA_tl I ds _ _ p1.2 h2 r2)
end
end
/-! ### dicts of such data -/
def keyP : Key → PyData
  | .inl i => .int i
  | .inr x => .str x
inductive DpKs (K : PySem.W.Frag) (H : Hp) : List (Key × V) → List (Key × PyData) → Prop
  | nil : DpKs K H [] []
  | cons {k : Key} {v : V} {p : PyData} {kvs : List (Key × V)} {kps : List (Key × PyData)} (h : Dp K H v p) (t : ptl p = true) (r : DpKs K H kvs kps) : DpKs K H ((k, v) :: kvs) ((k, p) :: kps)
def pdict (kps : List (Key × PyData)) : PyData := .dict (kps.map fun kp => (keyP kp.1, kp.2))
section
variable {X : Cx} {pins : List (Addr × Obj)} {σ : L2.St} {H : Hp} {s : Shared}
theorem key_reads {h : Heap} {k : Key} {u : Value} (e : keyIs k u = true) : Reads h u (keyP k) [] := by
  rcases keyIs_shape e with ⟨i, t, rfl, rfl⟩ | ⟨x, t, rfl, rfl⟩
  · exact .int i t
  · exact .str x t
theorem ents_reads (I : Inv X pins σ H s) {P : Program} {w : World} : ∀ {es : List DictEntry} {vs : List (Key × Value)} {kvs : List (Key × V)} {kps : List (Key × PyData)}, DpKs X.K H kvs kps → KV kvs vs → Pairs (mixKind P w) es vs →
    ReadsAll s.heap (es.map (·.key)) (kps.map fun kp => keyP kp.1) [] ∧ ReadsAll s.heap (es.map (·.val)) (kps.map (·.2)) [] := by
  intro es vs kvs kps h
  induction h generalizing es vs with
  | nil => intro r p; cases r; cases p; exact ⟨.nil, .nil⟩
  | cons h t _ ih =>
    intro r p
    cases r with
    | cons r1 r2 =>
      obtain ⟨e1, rv⟩ := r1
      cases p with
      | cons k1 k2 k3 =>
        obtain ⟨a, b⟩ := ih r2 k3
        dsimp only at e1 rv
        subst e1
        have k1' : keyIs _ _ = true := k1
        refine ⟨ReadsAll.cons (as := []) (bs := []) (key_reads k1') a, ReadsAll.cons (as := []) (bs := []) ?_ b⟩
        show Reads s.heap (DictEntry.val _) _ []
        rw [k2]
        exact reads_tl I _ _ _ t h rv
theorem dict_reads (I : Inv X pins σ H s) {a : Addr} {kvs : List (Key × V)} {kps : List (Key × PyData)} (e : Rd H a (.dK kvs)) (h : DpKs X.K H kvs kps) : Reads s.heap (.ref a) (pdict kps) [a] ∧ sysModules ∉ [a] := by
  obtain ⟨_, ns, vs, r, o, es, n, ho, hx, hd, _, hp, _⟩ := dk_rd I.hok e
  obtain ⟨r1, r2⟩ := ents_reads I h r hp
  refine ⟨Reads.dict (as := []) (bs := []) ho hx.1 hd ?_ ?_, fun z => ?_⟩
  · rw [List.map_map]; exact r1
  · rw [List.map_map]; exact r2
  · rw [List.mem_singleton] at z
    subst z
    exact nomatch ns
end
/-! ### repr(x) -/
def RpV (K : PySem.W.Frag) (H : Hp) (x : V) (p : PyData) : Prop := (Dp K H x p ∧ p.plain = true) ∨ ∃ a kvs kps, x = .ref a ∧ Rd H a (.dK kvs) ∧ DpKs K H kvs kps ∧ p = pdict kps
def rRepr (K : PySem.W.Frag) : List V → Hp → VK → Prop := fun xs H Q => ∃ x p, xs = [x] ∧ RpV K H x p ∧ p.showable = true ∧ p.depth ≤ 150 ∧ p.shown.length ≤ sizeLine ∧ Q (.str p.shown) H
mutual
theorem plain_nodict : ∀ d : PyData, d.plain = true → d.hasDict = false
  | .none, _ => by rw [PyData.hasDict]
  | .bool _, _ => by rw [PyData.hasDict]
  | .int _, _ => by rw [PyData.hasDict]
  | .str _, _ => by rw [PyData.hasDict]
  | .list ds, p => by rw [PyData.hasDict]; exact plain_nodicts ds (by rw [PyData.plain] at p; exact p)
  | .tuple ds, p => by rw [PyData.hasDict]; exact plain_nodicts ds (by rw [PyData.plain] at p; exact p)
  | .dict _, p => by rw [PyData.plain] at p; cases p
theorem plain_nodicts : ∀ ds : List PyData, PyData.plainAll ds = true → PyData.hasDictAll ds = false
  | [], _ => by rw [PyData.hasDictAll]
  | d :: ds, p => by
    rw [PyData.plainAll, Bool.and_eq_true] at p
    rw [PyData.hasDictAll, plain_nodict d p.1, plain_nodicts ds p.2]; rfl
end
theorem call_reprA {X : Cx} (hgd : X.A.guards = some []) (hu : X.A.units + 152 < cLine) : CallR X (.builtin "repr") (rRepr X.K) := by
  rintro pins s σ H xs us Q I r ⟨x, p, rfl, hp, sh, dp, sz, q⟩
  obtain ⟨u, rfl, ru⟩ := vals1 r
  have fin : ∀ as, Reads s.heap u p as → (p.hasDict = true → sysModules ∉ as) → wpAny (model X.prog X.w) X.A (call (.builtin "repr") [u]) (EP X pins σ Q) X.xe s := by
    intro as rd nd
    have go : ∀ h' (t : Tok) tk, (∀ b o, s.heap.get? b = some o → h'.get? b = some o) → EP X pins σ Q (.str p.shown t) { s with heap := h', toks := tk } := fun h' t tk k => ⟨.str p.shown, H, I.kept k, ⟨t, rfl⟩, q⟩
    cases rd with
    | none => exact PySem.P.repr_of_none (go s.heap _ _ fun _ _ z => z)
    | bool b => exact PySem.P.repr_of_bool (by simpa [PyData.shown] using go s.heap s.toks _ fun _ _ z => z)
    | int i t => exact PySem.P.repr_of_int (by simpa [PyData.showable] using sh) (by simpa [PyData.shown] using go s.heap s.toks _ fun _ _ z => z)
    | str z t => exact PySem.P.repr_of_str (by simpa [PyData.shown] using go s.heap s.toks _ fun _ _ z => z) (by simpa [PyData.shown] using sz)
    | list a b c d => exact repr_of_reads' (.list a b c d) sh nd hgd (by omega) (fun _ _ z => z) (fun h' t tk k => go h' t tk k) sz
    | tuple a b c d => exact repr_of_reads' (.tuple a b c d) sh nd hgd (by omega) (fun _ _ z => z) (fun h' t tk k => go h' t tk k) sz
    | dict a b c d e => exact repr_of_reads' (.dict a b c d e) sh nd hgd (by omega) (fun _ _ z => z) (fun h' t tk k => go h' t tk k) sz
  rcases hp with ⟨hp, pl⟩ | ⟨a, kvs, kps, rfl, hr, hk, rfl⟩
  · obtain ⟨as, rd⟩ := Dp.reads I p x u hp ru
    exact fin as rd fun z => by rw [plain_nodict p pl] at z; cases z
  · cases ru
    obtain ⟨rd, ns⟩ := dict_reads I hr hk
    exact fin _ rd fun _ => ns
theorem hu152 {A : Around} {k : Nat} (hr : Room k A) : A.units + 152 < cLine := by have := hr.un; omega
/-! ### over data -/
mutual
def D.tl : D → Bool
  | .non => true
  | .bl _ => true
  | .int _ => true
  | .str _ => true
  | .tup ds => D.tls ds
  | _ => false
def D.tls : List D → Bool
  | [] => true
  | d :: ds => d.tl && D.tls ds
end
mutual
theorem tl_plain : ∀ d : D, d.tl = true → d.plain = true ∧ ptl d.py = true
  | .non, _ => ⟨rfl, by simp [D.py, ptl]⟩
  | .bl _, _ => ⟨rfl, by simp [D.py, ptl]⟩
  | .int _, _ => ⟨rfl, by simp [D.py, ptl]⟩
  | .str _, _ => ⟨rfl, by simp [D.py, ptl]⟩
  | .tup ds, p => by
    have h := tls_plain ds (by rw [D.tl] at p; exact p)
    exact ⟨by rw [D.plain]; exact h.1, by rw [D.py, ptl]; exact h.2⟩
  | .lst _, p => by cases p
  | .flst _, p => by cases p
  | .ty _, p => by cases p
  | .ptr _, p => by cases p
  | .dk _, p => by cases p
  | .dt _, p => by cases p
  | .fobj _ _, p => by cases p
theorem tls_plain : ∀ ds : List D, D.tls ds = true → D.plains ds = true ∧ ptls (D.pys ds) = true
  | [], _ => ⟨rfl, by simp [D.pys, ptls]⟩
  | d :: ds, p => by
    rw [D.tls, Bool.and_eq_true] at p
    have h1 := tl_plain d p.1
    have h2 := tls_plain ds p.2
    exact ⟨by rw [D.plains, h1.1, h2.1]; rfl, by rw [D.pys, ptls, h1.2, h2.2]; rfl⟩
end
def kpsOf (kds : List (Key × D)) : List (Key × PyData) := kds.map fun kd => (kd.1, kd.2.py)
def tlk (kds : List (Key × D)) : Bool := kds.all fun kd => kd.2.tl
/-- what repr shows of d -/
def rpOf (W : Wd) (d : D) : Option PyData := match dkOf W d with
  | some kds => if tlk kds = true then some (pdict (kpsOf kds)) else none
  | none => match lstOf W d with
    | some ds => if D.plains ds = true then some (.list (D.pys ds)) else none
    | none => if d.plain = true then some d.py else none
def dRepr : RDC := fun ds W Q => ∃ d p, ds = [d] ∧ rpOf W d = some p ∧ p.showable = true ∧ p.depth ≤ 150 ∧ p.shown.length ≤ sizeLine ∧ Q (.str p.shown) W
theorem kps_at {K : PySem.W.Frag} {G H : Hp} {W : Wd} (R : Rel K G H W) : ∀ {kds : List (Key × D)} {kvs : List (Key × V)}, tlk kds = true → IsKs K G kds kvs → DpKs K H kvs (kpsOf kds)
  | [], _, _, h => by cases h; exact .nil
  | (k, d) :: ds, _, p, h => by
    obtain ⟨v, r, rfl, h1, h2⟩ := h
    unfold tlk at p
    rw [List.all_cons, Bool.and_eq_true] at p
    obtain ⟨a, b⟩ := tl_plain d p.1
    exact .cons (IsD.dp R d v a h1) b (kps_at R p.2 h2)
theorem sc_repr {K : PySem.W.Frag} : SimRC K (rRepr K) dRepr := fun G H W xs ds Q QD R hx h k => by
  obtain ⟨d, p, rfl, e, sh, dp, sz, q⟩ := h
  obtain ⟨v, rfl, hv⟩ := one_of hx
  refine ⟨v, p, rfl, ?_, sh, dp, sz, k.here (d := .str _) R rfl q⟩
  unfold rpOf at e
  split at e
  · rename_i kds ek
    split at e
    · cases e
      obtain ⟨a, kvs, rfl, ha, qa⟩ := dkOf_at R hv ek
      exact .inr ⟨a, kvs, _, rfl, ha, kps_at R (by assumption) qa, rfl⟩
    · cases e
  · split at e
    · rename_i ds el
      split at e
      · cases e
        rename_i pl
        obtain ⟨a, vs, rfl, ha, qa⟩ := lstOf_at R hv el
        refine .inl ⟨.lst (SqL.of ha) (IsDs.dp R _ _ pl qa), ?_⟩
        rw [PyData.plain]; exact D.plains_py _ pl
      · cases e
    · split at e
      · cases e
        rename_i pl
        exact .inl ⟨IsD.dp R _ _ pl hv, D.plain_py _ pl⟩
      · cases e
end DL

/-! DLj: data whose repr is short. -/
namespace DL
open PySem PySem.Spec PyProof.Rows L2
def Shp (p : PyData) : Prop := p.leavesShort 13 = true ∧ p.showable = true
def Shps (ps : List PyData) : Prop := ∀ p ∈ ps, Shp p
theorem shps_all : ∀ {ps : List PyData}, Shps ps → PyData.leavesShortAll 13 ps = true ∧ PyData.showableAll ps = true
  | [], _ => ⟨by rw [PyData.leavesShortAll], by rw [PyData.showableAll]⟩
  | p :: ps, h => by
    have a := h p List.mem_cons_self
    have b := shps_all fun x hx => h x (List.mem_cons_of_mem _ hx)
    exact ⟨by rw [PyData.leavesShortAll, a.1, b.1]; rfl, by rw [PyData.showableAll, a.2, b.2]; rfl⟩
theorem shp_non : Shp .none := ⟨by rw [PyData.leavesShort], by rw [PyData.showable]⟩
theorem shp_bl (b : Bool) : Shp (.bool b) := ⟨by rw [PyData.leavesShort], by rw [PyData.showable]⟩
theorem log_lt {n k : Nat} (h : n < 2 ^ k) : n.log2 ≤ k := by
  by_cases e : n = 0
  · rw [e]; simp
  · exact Nat.le_of_lt ((Nat.log2_lt e).mpr h)
theorem shp_int {i : Int} (h : i.natAbs < 10 ^ 12) : Shp (.int i) := by
  refine ⟨by rw [PyData.leavesShort, decide_eq_true_eq]; exact PyData.shown_int_le h, ?_⟩
  rw [PyData.showable, decide_eq_true_eq]
  have := log_lt (n := i.natAbs) (k := 40) (by omega)
  omega
theorem shp_str {x : Str} (h : ∀ c ∈ x.cps.toList, c < 16 ^ 8) : Shp (.str x) := by
  refine ⟨?_, by rw [PyData.showable]⟩
  rw [PyData.leavesShort, List.all_eq_true]
  exact fun c hc => by rw [decide_eq_true_eq]; exact h c hc
theorem shp_tup {ps : List PyData} (h : Shps ps) : Shp (.tuple ps) := ⟨by rw [PyData.leavesShort]; exact (shps_all h).1, by rw [PyData.showable]; exact (shps_all h).2⟩
theorem shp_lst {ps : List PyData} (h : Shps ps) : Shp (.list ps) := ⟨by rw [PyData.leavesShort]; exact (shps_all h).1, by rw [PyData.showable]; exact (shps_all h).2⟩
theorem wt_int {i : Int} {k : Nat} (h : i.natAbs < 2 ^ k) : PyData.weight (.int i) ≤ k + 1 := by
  rw [PyData.weight]
  split
  · omega
  · have := log_lt h; omega
theorem wts_le {n : Nat} : ∀ {ps : List PyData}, (∀ p ∈ ps, p.weight ≤ n) → PyData.weightAll ps ≤ ps.length * (n + 1)
  | [], _ => by simp [PyData.weightAll]
  | p :: ps, h => by
    have a := h p List.mem_cons_self
    have b := wts_le fun x hx => h x (List.mem_cons_of_mem _ hx)
    rw [PyData.weightAll, List.length_cons, Nat.add_mul]
    omega
theorem dep_le {n : Nat} : ∀ {ps : List PyData}, (∀ p ∈ ps, p.depth ≤ n) → PyData.depthAll ps ≤ n
  | [], _ => by simp [PyData.depthAll]
  | p :: ps, h => by
    rw [PyData.depthAll]
    exact Nat.max_le.mpr ⟨h p List.mem_cons_self, dep_le fun x hx => h x (List.mem_cons_of_mem _ hx)⟩
theorem pys_map : ∀ ds : List D, D.pys ds = ds.map D.py
  | [] => rfl
  | d :: ds => by rw [D.pys, pys_map ds, List.map_cons]
theorem go_repr {W : Wd} {Q : DQ} {d : D} {p : PyData} (h0 : rpOf W d = some p) (hs : Shp p) (hd : p.depth ≤ 150) (hw : p.weight ≤ 2 ^ 20) (h : Q (.str p.shown) W) : dRepr [d] W Q :=
  ⟨d, p, rfl, h0, hs.2, hd, PyData.shown_fits (B := 13) (by decide) (by decide) hs.1 hw, h⟩
theorem rp_lst {W : Wd} {ds : List D} (h : D.plains ds = true) : rpOf W (.lst ds) = some (.list (D.pys ds)) := by
  unfold rpOf; simp [dkOf, h]
theorem rp_ptr {W : Wd} {l : Addr} {ds : List D} (hw : W l = some (.lst ds)) (h : D.plains ds = true) : rpOf W (.ptr l) = some (.list (D.pys ds)) := by
  unfold rpOf; simp [dkOf, lstOf_ptr hw, hw, h]
theorem rp_dk {W : Wd} {kds : List (Key × D)} (h : tlk kds = true) : rpOf W (.dk kds) = some (pdict (kpsOf kds)) := by
  unfold rpOf; simp [h]
theorem rp_dkp {W : Wd} {l : Addr} {kds : List (Key × D)} (hw : W l = some (.dk kds)) (h : tlk kds = true) : rpOf W (.ptr l) = some (pdict (kpsOf kds)) := by
  unfold rpOf; simp [dkOf_ptr hw, h]
/-! terms -/
inductive Tn : Trm → Prop
  | var {v : Int} (h0 : 0 ≤ v) (h1 : v < 1000) : Tn (.var v)
  | app {f : Str} {ts : List Trm} (h0 : f.length ≤ 7) (hl : Low f) (h1 : ∀ t ∈ ts, Tn t) : Tn (.app f ts)
theorem Tn.args {f : Str} {ts : List Trm} (h : Tn (.app f ts)) : f.length ≤ 7 ∧ Low f ∧ ∀ t ∈ ts, Tn t := by
  cases h with | app h0 hl h1 => exact ⟨h0, hl, h1⟩
theorem Wf.tn {ops : Sig} {n : Int} (ho : Ops ops) (hn : n ≤ 1000) {t : Trm} (h : Wf ops n t) : Tn t := by
  induction h with
  | var h0 h1 => exact .var h0 (by omega)
  | app h0 _ ih => exact .app (ho.2.2.2 _ h0).2.2 (ho.2.2.2 _ h0).1 ih
theorem shp_low {f : Str} (h : Low f) : Shp (.str f) := shp_str fun c hc => by
  have := h c hc
  have e : (16 : Nat) ^ 8 = 4294967296 := by decide
  omega
theorem Tn.shp {t : Trm} (h : Tn t) : Shp t.d.py ∧ t.d.py.weight + 1 ≤ 12 * t.size := by
  induction h with
  | @var v h0 h1 =>
    rw [Trm.d_var, D.py, Trm.size]
    have := wt_int (i := v) (k := 10) (by omega)
    exact ⟨shp_int (by omega), by omega⟩
  | @app f ts h0 hl _ ih =>
    rw [Trm.d_app, D.py, D.pys]
    have hm : ∀ p ∈ D.pys (ts.map Trm.d), ∃ t ∈ ts, p = t.d.py := fun p hp => by
      rw [pys_map, List.map_map] at hp
      obtain ⟨t, ht, rfl⟩ := List.mem_map.mp hp
      exact ⟨t, ht, rfl⟩
    refine ⟨shp_tup fun p hp => ?_, ?_⟩
    · rcases List.mem_cons.mp hp with e | hp
      · rw [e, D.py]; exact shp_low hl
      · obtain ⟨t, ht, rfl⟩ := hm p hp
        exact (ih t ht).1
    · rw [PyData.weight, PyData.weightAll, D.py, PyData.weight, Trm.size]
      have h0 : f.cps.size ≤ 7 := h0
      have : ∀ us : List Trm, (∀ u ∈ us, u.d.py.weight + 1 ≤ 12 * u.size) → PyData.weightAll (D.pys (us.map Trm.d)) ≤ 12 * Trm.sizes us := by
        intro us
        induction us with
        | nil => intro _; simp [D.pys, PyData.weightAll, Trm.sizes]
        | cons u us ih2 =>
          intro g
          have a := g u List.mem_cons_self
          have b := ih2 fun v hv => g v (List.mem_cons_of_mem _ hv)
          rw [List.map_cons, D.pys, PyData.weightAll, Trm.sizes]
          omega
      have := this ts fun u hu => (ih u hu).2
      omega
end DL

/-! DLk: repr of dicts of terms; substituting twice. -/
namespace DL
open PySem PySem.Spec PyProof.Rows L2
theorem tls_of {ds : List D} (h : ∀ d ∈ ds, d.tl = true) : D.tls ds = true := by
  induction ds with
  | nil => rfl
  | cons d ds ih => rw [D.tls, h d List.mem_cons_self, ih fun x hx => h x (List.mem_cons_of_mem _ hx)]; rfl
theorem Trm.tl_d (t : Trm) : t.d.tl = true := by
  induction t using Trm.ind with
  | hv n => simp [D.tl]
  | ha f ts ih =>
    rw [Trm.d_app, D.tl]
    refine tls_of fun d hd => ?_
    rcases List.mem_cons.mp hd with e | hd
    · rw [e]; rfl
    · obtain ⟨t, ht, rfl⟩ := List.mem_map.mp hd
      exact ih t ht
theorem tlk_dkS (s : Sb) : tlk (dkS s) = true := by
  unfold tlk dkS
  rw [List.all_map, List.all_eq_true]
  exact fun x _ => x.2.tl_d
def Ksm (kps : List (Key × PyData)) (n : Nat) : Prop := ∀ kp ∈ kps, Shp (keyP kp.1) ∧ (keyP kp.1).weight ≤ 50 ∧ Shp kp.2 ∧ kp.2.weight ≤ n ∧ kp.2.depth ≤ 100
theorem pdict_ok {n : Nat} : ∀ {kps : List (Key × PyData)}, Ksm kps n → PyData.leavesShortKv 13 (kps.map fun kp => (keyP kp.1, kp.2)) = true ∧ PyData.showableKv (kps.map fun kp => (keyP kp.1, kp.2)) = true ∧
    PyData.weightKv (kps.map fun kp => (keyP kp.1, kp.2)) ≤ kps.length * (n + 52) ∧ PyData.depthKv (kps.map fun kp => (keyP kp.1, kp.2)) ≤ 100
  | [], _ => by simp [PyData.leavesShortKv, PyData.showableKv, PyData.weightKv, PyData.depthKv]
  | (k, p) :: kps, h => by
    obtain ⟨a1, a2, a3, a4, a5⟩ := h _ List.mem_cons_self
    obtain ⟨b1, b2, b3, b4⟩ := pdict_ok fun x hx => h x (List.mem_cons_of_mem _ hx)
    dsimp only at a1 a2 a3 a4 a5
    rw [List.map_cons]
    refine ⟨?_, ?_, ?_, ?_⟩
    · rw [PyData.leavesShortKv, a1.1, a3.1, b1]; rfl
    · rw [PyData.showableKv, a1.2, a3.2, b2]; rfl
    · rw [PyData.weightKv, List.length_cons, Nat.add_mul]; dsimp only; omega
    · rw [PyData.depthKv]
      have : (keyP k).depth ≤ 0 := by cases k <;> simp [keyP, PyData.depth]
      dsimp only
      omega
theorem go_reprD {W : Wd} {Q : DQ} {d : D} {kps : List (Key × PyData)} {n : Nat} (h0 : rpOf W d = some (pdict kps)) (hs : Ksm kps n) (hl : kps.length * (n + 52) ≤ 2 ^ 20) (h : Q (.str (pdict kps).shown) W) : dRepr [d] W Q := by
  obtain ⟨a, b, c, e⟩ := pdict_ok hs
  refine go_repr h0 ⟨?_, ?_⟩ ?_ ?_ h
  · rw [pdict, PyData.leavesShort]; exact a
  · rw [pdict, PyData.showable]; exact b
  · rw [pdict, PyData.depth]; omega
  · rw [pdict, PyData.weight]; exact Nat.le_trans c hl
theorem kps_dkS (s : Sb) : kpsOf (dkS s) = s.map fun vt => (.inl vt.1, vt.2.d.py) := by
  unfold kpsOf dkS; rw [List.map_map]; rfl
theorem ksm_dkS {s : Sb} {n : Nat} (h : ∀ vt ∈ s, (0 ≤ vt.1 ∧ vt.1 < 1000) ∧ Tn vt.2 ∧ vt.2.depth ≤ 100 ∧ 12 * vt.2.size ≤ n) : Ksm (kpsOf (dkS s)) n := by
  rw [kps_dkS]
  intro kp hk
  obtain ⟨vt, hv, rfl⟩ := List.mem_map.mp hk
  obtain ⟨a, b, c, d⟩ := h vt hv
  obtain ⟨e, f⟩ := b.shp
  have := vt.2.depth_py
  exact ⟨shp_int (by omega), Nat.le_trans (wt_int (i := vt.1) (k := 10) (by omega)) (by decide), e, by dsimp only; omega, by dsimp only; omega⟩
theorem sub_sub (f g : Int → Trm) (t : Trm) : (t.sub f).sub g = t.sub fun v => (f v).sub g := by
  induction t using Trm.ind with
  | hv n => rfl
  | ha h ts ih =>
    rw [sub_app, sub_app, sub_app, List.map_map]
    congr 1
    exact List.map_congr_left fun t ht => ih t ht
theorem sub_id (t : Trm) : t.sub Trm.var = t := by
  induction t using Trm.ind with
  | hv n => rfl
  | ha h ts ih =>
    rw [sub_app]
    congr 1
    rw [List.map_congr_left (g := id) fun t ht => ih t ht, List.map_id]
theorem get_app2 {s : Sb} {v u : Int} {t : Trm} : Sb.get (s ++ [(v, t)]) u = if (s.get u).isSome = true then s.get u else if v = u then some t else none := get_snoc
theorem occ_wf2 {ops : Sig} {n : Int} {t : Trm} (h : Wf ops n t) : ∀ v ∈ occ t, 0 ≤ v ∧ v < n := by
  induction h with
  | var h0 h1 => intro v hv; simp [occ, Trm.syms, Sy.int?] at hv; rw [hv]; exact ⟨h0, h1⟩
  | @app f ts _ _ ih =>
    intro v hv
    unfold occ at hv
    rw [Trm.syms, List.filterMap_cons] at hv
    simp only [Sy.int?] at hv
    have : ∀ us : List Trm, (∀ u ∈ us, ∀ v ∈ occ u, 0 ≤ v ∧ v < n) → v ∈ (Trm.symss us).filterMap Sy.int? → 0 ≤ v ∧ v < n := by
      intro us
      induction us with
      | nil => intro _ h; cases h
      | cons u us ih2 =>
        intro g h
        rw [Trm.symss, List.filterMap_append] at h
        rcases List.mem_append.mp h with h | h
        · exact g u List.mem_cons_self v h
        · exact ih2 (fun w hw => g w (List.mem_cons_of_mem _ hw)) h
    exact this ts ih hv
end DL

/-! DLl: the fixed order of terms. -/
namespace DL
open PySem PySem.Spec PyProof.Rows L2
theorem Sy.eqv_d (a b : Sy) : a.d.eqv b.d = decide (a = b) := by
  cases a <;> cases b <;> simp [Sy.d, D.eqv, D.py, PyData.eqv, Bool.beq_eq_decide_eq]
theorem Sy.near_d (a b : Sy) : a.d.near b.d := by
  cases a <;> cases b <;> simp [Sy.d, D.near, D.plain, D.py, PyData.depth]
theorem go_ltA {d e : D} {W : Wd} {Q : DQ} (hs : d.seqd = true) (h0 : d.alk e) (h : Q (.bl (PySem.W.dataLt d.py e.py)) W) : dLt d e W Q := by
  unfold dLt; rw [if_pos hs]; exact ⟨h0, h⟩
def slt (x y : Str) : Bool := decide (x.cps.toList < y.cps.toList)
def cmpS : Sy → Sy → Int
  | .v n, .v m => if n < m then -1 else 1
  | .v _, .f _ => -1
  | .f _, .v _ => 1
  | .f x, .f y => if slt x y = true then -1 else 1
def cmpL : List Sy → List Sy → Int
  | a :: as, b :: bs => if a = b then cmpL as bs else cmpS a b
  | _, _ => 0
def cmpT (t u : Trm) : Int := if t.size = u.size then cmpL t.syms u.syms else if t.size < u.size then -1 else 1
theorem cmpS_ne (a b : Sy) : cmpS a b = -1 ∨ cmpS a b = 1 := by
  cases a <;> cases b <;> simp only [cmpS] <;> (try split) <;> simp
theorem slt_anti {x y : Str} (h : x ≠ y) : slt y x = !slt x y := by
  have hn : x.cps.toList ≠ y.cps.toList := fun e => h (str_ext e)
  unfold slt
  by_cases a : x.cps.toList < y.cps.toList
  · have : ¬ y.cps.toList < x.cps.toList := List.lt_asymm a
    simp [a, this]
  · have : y.cps.toList < x.cps.toList := by
      refine Decidable.byContradiction fun b => hn ?_
      exact List.le_antisymm (List.not_lt.mp b) (List.not_lt.mp a)
    simp [a, this]
theorem cmpS_anti {a b : Sy} (h : a ≠ b) : cmpS b a = - cmpS a b := by
  cases a with
  | v n => cases b with
    | v m =>
      have : n ≠ m := fun e => h (by rw [e])
      simp only [cmpS]
      by_cases g : n < m
      · rw [if_pos g, if_neg (by omega)]; rfl
      · rw [if_neg g, if_pos (by omega)]
    | f x => simp [cmpS]
  | f x => cases b with
    | v m => simp [cmpS]
    | f y =>
      have : x ≠ y := fun e => h (by rw [e])
      simp only [cmpS, slt_anti this]
      cases slt x y <;> simp
theorem cmpL_anti : ∀ as bs : List Sy, cmpL bs as = - cmpL as bs
  | [], [] => rfl
  | [], _ :: _ => rfl
  | _ :: _, [] => rfl
  | a :: as, b :: bs => by
    rw [cmpL, cmpL]
    by_cases h : a = b
    · rw [if_pos h, if_pos h.symm]; exact cmpL_anti as bs
    · rw [if_neg h, if_neg (Ne.symm h)]; exact cmpS_anti h
theorem cmpT_anti (t u : Trm) : cmpT u t = - cmpT t u := by
  unfold cmpT
  by_cases h : t.size = u.size
  · rw [if_pos h, if_pos h.symm]; exact cmpL_anti _ _
  · rw [if_neg h, if_neg (Ne.symm h)]
    by_cases g : t.size < u.size
    · rw [if_pos g, if_neg (by omega)]; rfl
    · rw [if_neg g, if_pos (by omega)]
theorem cmpL_zero : ∀ {as bs : List Sy}, as.length = bs.length → (cmpL as bs = 0 ↔ as = bs)
  | [], [], _ => by simp [cmpL]
  | [], _ :: _, h => by cases h
  | _ :: _, [], h => by cases h
  | a :: as, b :: bs, h => by
    rw [cmpL]
    by_cases g : a = b
    · rw [if_pos g, cmpL_zero (by simpa using h)]; simp [g]
    · rw [if_neg g]
      rcases cmpS_ne a b with e | e <;> rw [e] <;> simp [g]
inductive Fit (ar : Str → Nat) : Trm → Prop
  | var {v : Int} : Fit ar (.var v)
  | app {f : Str} {ts : List Trm} (h0 : ts.length = ar f) (h1 : ∀ t ∈ ts, Fit ar t) : Fit ar (.app f ts)
theorem syms_inj {ar : Str → Nat} (t : Trm) : ∀ (u : Trm) (r s : List Sy), Fit ar t → Fit ar u → t.syms ++ r = u.syms ++ s → t = u ∧ r = s := by
  induction t using Trm.ind with
  | hv n =>
    intro u r s _ hu e
    cases u with
    | var m => simp [Trm.syms] at e; exact ⟨by rw [e.1], e.2⟩
    | app g us => simp [Trm.syms] at e
  | ha f ts ih =>
    intro u r s ht hu e
    cases u with
    | var m => simp [Trm.syms] at e
    | app g us =>
      rw [Trm.syms, Trm.syms, List.cons_append, List.cons_append] at e
      injection e with e1 e2
      injection e1 with e1
      subst e1
      cases ht with
      | app h0 h1 => cases hu with
        | app g0 g1 =>
          have go : ∀ (ts us : List Trm) (r s : List Sy), ts.length = us.length → (∀ t ∈ ts, ∀ (u : Trm) (r s : List Sy), Fit ar t → Fit ar u → t.syms ++ r = u.syms ++ s → t = u ∧ r = s) → (∀ t ∈ ts, Fit ar t) → (∀ u ∈ us, Fit ar u) → Trm.symss ts ++ r = Trm.symss us ++ s → ts = us ∧ r = s := by
            intro ts
            induction ts with
            | nil => intro us r s hl _ _ _ e; cases us with
              | nil => exact ⟨rfl, by simpa [Trm.symss] using e⟩
              | cons _ _ => cases hl
            | cons t ts ih2 =>
              intro us r s hl hi ht hu e
              cases us with
              | nil => cases hl
              | cons u us =>
                rw [Trm.symss, Trm.symss, List.append_assoc, List.append_assoc] at e
                obtain ⟨e3, e4⟩ := hi t List.mem_cons_self u _ _ (ht t List.mem_cons_self) (hu u List.mem_cons_self) e
                obtain ⟨e5, e6⟩ := ih2 us r s (by simpa using hl) (fun x hx => hi x (List.mem_cons_of_mem _ hx)) (fun x hx => ht x (List.mem_cons_of_mem _ hx)) (fun x hx => hu x (List.mem_cons_of_mem _ hx)) e4
                exact ⟨by rw [e3, e5], e6⟩
          obtain ⟨e3, e4⟩ := go ts us r s (by rw [h0, g0]) ih h1 g1 e2
          exact ⟨by rw [e3], e4⟩
theorem cmpT_zero {ar : Str → Nat} {t u : Trm} (ht : Fit ar t) (hu : Fit ar u) : cmpT t u = 0 ↔ t = u := by
  unfold cmpT
  by_cases h : t.size = u.size
  · rw [if_pos h, cmpL_zero (by rw [syms_len, syms_len, h])]
    exact ⟨fun e => (syms_inj t u [] [] ht hu (by rw [e])).1, fun e => by rw [e]⟩
  · rw [if_neg h]
    have : t ≠ u := fun e => h (by rw [e])
    split <;> simp [this]
/-- the arity of a name -/
def arO (ops : Sig) (f : Str) : Nat := ((ops.find? fun x => decide (x.1 = f)).map (·.2)).getD 0
theorem arO_of {ops : Sig} (hn : (ops.map Prod.fst).Nodup) {x : Str × Nat} (hx : x ∈ ops) : arO ops x.1 = x.2 := by
  induction ops with
  | nil => cases hx
  | cons y ys ih =>
    rw [List.map_cons, List.nodup_cons] at hn
    unfold arO at ih ⊢
    rw [List.find?_cons]
    rcases List.mem_cons.mp hx with e | hx
    · subst e; simp
    · have ne : y.1 ≠ x.1 := fun e => hn.1 (e ▸ List.mem_map_of_mem hx)
      simp only [ne, decide_false]
      exact ih hn.2 hx
theorem Wf.fit {ops : Sig} {n : Int} (ho : Ops ops) {t : Trm} (h : Wf ops n t) : Fit (arO ops) t := by
  induction h with
  | var => exact .var
  | app h0 _ ih => exact .app (by have := arO_of ho.2.2.1 h0; simpa using this.symm) ih
end DL

/-! DLm: objects: fields, new instances, methods; calls with keywords. -/
namespace DL
open PySem PySem.Spec PyProof.Rows L2
def objOf (W : Wd) : D → Option (Str × List (Str × D))
  | .fobj n fs => some (n, fs)
  | .ptr l => match W l with
    | some (.obj n fs) => some (n, fs)
    | _ => none
  | _ => none
@[simp] theorem objOf_f (W : Wd) (n : Str) (fs : List (Str × D)) : objOf W (.fobj n fs) = some (n, fs) := rfl
theorem objOf_ptr {W : Wd} {l : Addr} {n : Str} {fs : List (Str × D)} (h : W l = some (.obj n fs)) : objOf W (.ptr l) = some (n, fs) := by simp [objOf, h]
theorem IsFs.look {K : PySem.W.Frag} {G : Hp} : ∀ {fs : List (Str × D)} {vs : List (Str × V)} (f : Str), IsFs K G fs vs → (∃ d v, fs.lookup f = some d ∧ vs.lookup f = some v ∧ IsD K G d v) ∨ (fs.lookup f = none ∧ vs.lookup f = none)
  | [], _, f, h => by cases h; exact .inr ⟨rfl, rfl⟩
  | (k, d) :: r, _, f, h => by
    obtain ⟨v, r', rfl, h1, h2⟩ := h
    by_cases e : f = k
    · subst e; exact .inl ⟨d, v, by simp, by simp, h1⟩
    · have e' : (f == k) = false := by simpa using e
      rcases IsFs.look f h2 with ⟨d', v', e1, e2, q⟩ | ⟨e1, e2⟩
      · exact .inl ⟨d', v', by rw [List.lookup_cons, e']; exact e1, by rw [List.lookup_cons, e']; exact e2, q⟩
      · exact .inr ⟨by rw [List.lookup_cons, e']; exact e1, by rw [List.lookup_cons, e']; exact e2⟩
def putD (f : Str) (d : D) : List (Str × D) → List (Str × D)
  | [] => [(f, d)]
  | (k, e) :: r => if k = f then (k, d) :: r else (k, e) :: putD f d r
section
variable {K : PySem.W.Frag} {G H : Hp} {W : Wd}
theorem objOf_at (R : Rel K G H W) {d : D} {v : V} {n : Str} {fs : List (Str × D)} (h : IsD K G d v) (e : objOf W d = some (n, fs)) : ∃ a dx vs, v = .ref a ∧ H a = some (.ins (He.ga K n) dx vs) ∧ IsFs K G fs vs := by
  unfold objOf at e
  split at e
  · cases e
    obtain ⟨a, dx, vs, e1, e2, e3⟩ := h
    exact ⟨a, dx, vs, e1, (R.st _ _ e2).eq rfl, e3⟩
  · rename_i l
    split at e
    · rename_i hw
      cases e
      obtain ⟨_, o, e1, dx, vs, rfl, e3⟩ := R.own _ _ hw
      exact ⟨l, dx, vs, h, e1, e3⟩
    · cases e
  · cases e
theorem IsFs.length : ∀ {fs : List (Str × D)} {vs : List (Str × V)}, IsFs K G fs vs → fs.length = vs.length
  | [], _, h => by cases h; rfl
  | (k, d) :: ds, _, h => by
    obtain ⟨v, r, e, _, h2⟩ := h
    rw [e, List.length_cons, List.length_cons, h2.length]
theorem IsFs.put {d : D} {v : V} (f : Str) (hd : IsD K G d v) : ∀ {fs : List (Str × D)} {vs : List (Str × V)}, IsFs K G fs vs → IsFs K G (putD f d fs) (putF f v vs)
  | [], _, h => by cases h; exact ⟨v, [], rfl, hd, rfl⟩
  | (k, e) :: r, _, h => by
    obtain ⟨u, r', rfl, h1, h2⟩ := h
    unfold putD putF
    by_cases q : k = f
    · rw [if_pos q, if_pos q]; exact ⟨v, r', rfl, hd, h2⟩
    · rw [if_neg q, if_neg q]; exact ⟨u, _, rfl, h1, h2.put f hd⟩
/-- something new that nobody tracks here -/
theorem Rel.extra (R : Rel K G H W) {p : Addr} {o : HO} (h : H p = none) : Rel K G (upd H p o) W := ⟨fun b u e => rd_upd (R.st b u e) h, fun l m e => by
  obtain ⟨g, u, e1, q⟩ := R.own l m e
  exact ⟨g, u, by rw [upd_ne (ne_of_none e1 h)]; exact e1, q⟩⟩
theorem Rel.obj (R : Rel K G H W) {x dx : Addr} {n : Str} (hx : H x = none) (hd : H dx = none) (ne : dx ≠ x) : Rel K G (upd (upd H dx (.own x)) x (.ins (He.ga K n) dx [])) (W.set x (.obj n [])) :=
  (R.extra hd).newOwn (m := .obj n []) (by rw [upd_ne (Ne.symm ne)]; exact hx) ⟨dx, [], rfl, rfl⟩
end
section
variable {X : Cx} {G0 : Hp} {o e : Expr} {es : List Expr} {to te : TE} {ao ae : AE} {t tk : L2.TA} {at' ak : AA} {pos apos p : PySem.Pos} {f m x : Str}
/-! ### o.f -/
def aFld (n f : Str) (o : AE) : AE := fun δ W Q => o δ W fun x W1 => ∃ fs d, objOf W1 x = some (n, fs) ∧ fs.lookup f = some d ∧ Q d W1
theorem de_fld (n : Str) (c : Cls X.K (He.ga X.K n)) (na : NoAttr X.K (He.ga X.K n) f) (ho : DE X G0 o to ao) (hb : attributeBase o f X.env (eval o X.env) = eval o X.env := by rfl) : DE X G0 (.Attribute o f pos) (tFld X.K to f) (aFld n f ao) :=
  ⟨pe_fld ho.pe hb, fun σ H Q G δ W QD s0 R S h k => by
    refine ho.sim σ H _ G δ W _ s0 R S h fun x dx G1 H1 W1 s1 R1 d1 h1 => ?_
    obtain ⟨fs, d, e1, e2, q⟩ := h1
    obtain ⟨a, ax, vs, rfl, ha, hf⟩ := objOf_at R1 d1 e1
    rcases hf.look f with ⟨d', v', e3, e4, q3⟩ | ⟨e3, _⟩
    · rw [e2] at e3
      cases e3
      exact ⟨a, _, ax, vs, v', rfl, ha, c, na, e4, (k.up s1).here R1 q3 q⟩
    · rw [e2] at e3; cases e3⟩
/-! ### o.f = e -/
def aFldS (n f : Str) (o a : AE) : AS := fun A δ W => a δ W fun y W1 => o δ W1 fun x W2 => ∃ l fs, x = .ptr l ∧ W2 l = some (.obj n fs) ∧ fs.length < 1000 ∧ A.nx δ (W2.set l (.obj n (putD f y fs)))
theorem ds_fld (n : Str) (c : Cls X.K (He.ga X.K n)) (na : NoAttr X.K (He.ga X.K n) f) (ho : DE X G0 o to ao) (he : DE X G0 e te ae) (hs : swapsWith e (some (.Attribute o f apos)) pos.line X.env = pure false := by rfl) : DS X G0 (.Assign [.Attribute o f apos] e pos) (sFld X.K to te f) (aFldS n f ao ae) :=
  ⟨ps_fld ho.pe he.pe hs, fun E A σ H G δ W s0 R S eo h => by
    refine he.sim σ H _ G δ W _ s0 R S h fun y dy G1 H1 W1 s1 R1 d1 h1 => ?_
    refine ho.sim σ H1 _ G1 δ W1 _ (s0.trans s1) R1 (S.up s1) h1 fun x dx G2 H2 W2 s2 R2 d2 h2 => ?_
    obtain ⟨l, fs, rfl, hw, hl, q⟩ := h2
    cases (show x = .ref l from d2)
    obtain ⟨_, u, e1, ax, vs, rfl, e3⟩ := R2.own _ _ hw
    exact ⟨l, _, ax, vs, rfl, e1, c, na, by rw [← e3.length]; exact hl, eo.nx _ _ _ _ _ (s1.trans s2) (R2.put (m := .obj n (putD f dy fs)) hw ⟨ax, _, rfl, e3.put f (IsD.up s2 _ _ d1)⟩) (S.up (s1.trans s2)) q⟩⟩
/-! ### calls: what is let out is wished at the slots -/
def LiftS (K : PySem.W.Frag) (G0 : Hp) (E : L2.St → XK) (ED : Sl → DX) : Prop := ∀ σ δ G, Same G0 G → IsSl K G δ σ → LiftX K G (E σ) (ED δ)
theorem LiftS.none {K : PySem.W.Frag} {E : L2.St → XK} : LiftS K G0 E fun _ => ED0 := fun _ _ _ _ _ => liftX0
theorem LiftS.up {K : PySem.W.Frag} {G1 : Hp} {E : L2.St → XK} {ED : Sl → DX} (s : Same G0 G1) (h : LiftS K G0 E ED) : LiftS K G1 E ED := fun σ δ G s' => h σ δ G (s.trans s')
def aCallX (sp : SpD) (dds : List D) (ED : Sl → DX) (t : AA) : AE := fun δ W Q => t δ W fun ds W1 => sp (ds ++ dds) W1 Q (ED δ)
theorem sim_callX {K : PySem.W.Frag} {sp : SpD} {dvs : List V} {dds : List D} {E : L2.St → XK} {ED : Sl → DX} (hl : LiftS K G0 E ED) (hd : ∀ G, IsDs K G dds dvs) (ht : SimA K G0 t at') : SimE K G0 (tCallD (liftSp K sp) dvs E t) (aCallX sp dds ED at') := fun σ H Q G δ W QD s0 R S h k => by
  refine ht σ H _ G δ W _ s0 R S h fun vs ds G1 H1 W1 s1 R1 d1 h1 => ?_
  exact ⟨G1, W1, ds ++ dds, QD, ED δ, R1, d1.append (hd G1), h1, k.up s1, hl σ δ G1 (s0.trans s1) (S.up s1)⟩
/-! ### a method -/
def aMeth (n m : Str) (sp : SpD) (dds : List D) (ED : Sl → DX) (o : AE) (t : AA) : AE := fun δ W Q => o δ W fun x W1 => (∃ fs, objOf W1 x = some (n, fs) ∧ fs.lookup m = none) ∧ t δ W1 fun ds W2 => sp (x :: (ds ++ dds)) W2 Q (ED δ)
theorem sim_meth {K : PySem.W.Frag} {n : Str} {sp : SpD} {dvs : List V} {dds : List D} {E : L2.St → XK} {ED : Sl → DX} (hl : LiftS K G0 E ED) (hd : ∀ G, IsDs K G dds dvs) (ho : SimE K G0 to ao) (ht : SimA K G0 t at') :
    SimE K G0 (tMethD (He.ga K n) m (liftSp K sp) dvs E to t) (aMeth n m sp dds ED ao at') := fun σ H Q G δ W QD s0 R S h k => by
  refine ho σ H _ G δ W _ s0 R S h fun x dx G1 H1 W1 s1 R1 d1 h1 => ?_
  obtain ⟨⟨fs, e1, e2⟩, q⟩ := h1
  obtain ⟨a, ax, vs, rfl, ha, hf⟩ := objOf_at R1 d1 e1
  rcases hf.look m with ⟨d', v', e3, e4, q3⟩ | ⟨_, e3⟩
  · rw [e2] at e3; cases e3
  refine ⟨a, ax, vs, rfl, ha, e3, ?_⟩
  refine ht σ H1 _ G1 δ W1 _ (s0.trans s1) R1 (S.up s1) q fun xs ds G2 H2 W2 s2 R2 d2 h2 => ?_
  exact ⟨G2, W2, dx :: (ds ++ dds), QD, ED δ, R2, ⟨_, _, rfl, IsD.up s2 _ _ d1, d2.append (hd G2)⟩, h2, k.up (s1.trans s2), hl σ δ G2 (s0.trans (s1.trans s2)) (S.up (s1.trans s2))⟩
/-! ### keywords -/
structure DK (X : Cx) (G0 : Hp) (kws : List Keyword) (t : L2.TA) (a : AA) : Prop where
  pk : PK X kws t
  sim : SimA X.K G0 t a
theorem dk_nil : DK X G0 [] tNil aNil := ⟨pk_nil, sim_nil⟩
theorem dk_cons {nm : Option Str} {kpos : PySem.Pos} {kws : List Keyword} (ha : DE X G0 e te ae) (hr : DK X G0 kws t at') : DK X G0 (⟨nm, e, kpos⟩ :: kws) (tCons te t) (aCons ae at') := ⟨pk_cons ha.pe hr.pk, sim_cons ha.sim hr.sim⟩
/-- where a parameter's value comes from: a written argument, a default, a keyword -/
inductive Src where
  | p (i : Nat) | m (i : Nat) | k (i : Nat)
def pick {α : Type} (us ms ws : List α) : List Src → List α
  | [] => []
  | .p i :: r => (us[i]?).toList ++ pick us ms ws r
  | .m i :: r => (ms[i]?).toList ++ pick us ms ws r
  | .k i :: r => (ws[i]?).toList ++ pick us ms ws r
theorem vals_at {vs : List V} {us : List Value} (r : Vals vs us) (i : Nat) : Vals (vs[i]?).toList (us[i]?).toList := by
  by_cases h : i < vs.length
  · obtain ⟨u, hu, rv⟩ := r.get (List.getElem?_eq_getElem h)
    rw [List.getElem?_eq_getElem h, hu]
    exact .cons rv .nil
  · rw [List.getElem?_eq_none (by omega), List.getElem?_eq_none (by rw [← r.length]; omega)]
    exact .nil
theorem vals_pick {vs ms zs : List V} {us mv ws : List Value} (r1 : Vals vs us) (r2 : Vals ms mv) (r3 : Vals zs ws) : ∀ src : List Src, Vals (pick vs ms zs src) (pick us mv ws src)
  | [] => .nil
  | .p i :: r => (vals_at r1 i).append (vals_pick r1 r2 r3 r)
  | .m i :: r => (vals_at r2 i).append (vals_pick r1 r2 r3 r)
  | .k i :: r => (vals_at r3 i).append (vals_pick r1 r2 r3 r)
theorem isDs_at {K : PySem.W.Frag} {G : Hp} {ds : List D} {vs : List V} (r : IsDs K G ds vs) (i : Nat) : IsDs K G (ds[i]?).toList (vs[i]?).toList := by
  by_cases h : i < ds.length
  · obtain ⟨u, hu, rv⟩ := r.get (List.getElem?_eq_getElem h)
    rw [List.getElem?_eq_getElem h, hu]
    exact ⟨u, [], rfl, rv, rfl⟩
  · rw [List.getElem?_eq_none (by omega), List.getElem?_eq_none (by rw [← r.length]; omega)]
    rfl
theorem isDs_pick {K : PySem.W.Frag} {G : Hp} {ds ms zs : List D} {us mv ws : List V} (r1 : IsDs K G ds us) (r2 : IsDs K G ms mv) (r3 : IsDs K G zs ws) : ∀ src : List Src, IsDs K G (pick ds ms zs src) (pick us mv ws src)
  | [] => rfl
  | .p i :: r => (isDs_at r1 i).append (isDs_pick r1 r2 r3 r)
  | .m i :: r => (isDs_at r2 i).append (isDs_pick r1 r2 r3 r)
  | .k i :: r => (isDs_at r3 i).append (isDs_pick r1 r2 r3 r)
/-- a def that keeps a promise, called with n written arguments and the keywords ks; src tells the parameters, ms the defaults that fill up -/
structure FkN (P : Program) (w : World) (K : PySem.W.Frag) (mg : Str → Option Value) (base : Heap) (CX : CXT) (k : Nat) (f : Addr) (ps : List Str) (n : Nat) (ks : List Str) (src : List Src) (ms : List V) (sp : SpD) : Prop where
  ex : ∃ (fd : FuncData) (mv : List Value), FnG P w K mg base CX k f fd ps (liftSp K sp) ∧ KBn K fd ps n ks (fun us ws => pick us mv ws src) (fun vs zs => pick vs ms zs src)
theorem FkN.mono {P : Program} {w : World} {K : PySem.W.Frag} {mg : Str → Option Value} {base : Heap} {CX : CXT} {j k : Nat} {fa : Addr} {ps : List Str} {n : Nat} {ks : List Str} {src : List Src} {ms : List V} {sp : SpD} (g : FkN P w K mg base CX j fa ps n ks src ms sp) (h : j ≤ k) : FkN P w K mg base CX k fa ps n ks src ms sp := by
  obtain ⟨fd, mv, F, b⟩ := g.ex
  exact ⟨fd, mv, F.mono h, b⟩
def aCallN (n l : Nat) (src : List Src) (ms : List D) (sp : SpD) (ED : Sl → DX) (t tk : AA) : AE := fun δ W Q => t δ W fun ds W1 => tk δ W1 fun zs W2 => ds.length = n ∧ zs.length = l ∧ sp (pick ds ms zs src) W2 Q (ED δ)
def aMethN (c m : Str) (n l : Nat) (src : List Src) (ms : List D) (sp : SpD) (ED : Sl → DX) (o : AE) (t tk : AA) : AE := fun δ W Q => o δ W fun x W1 => (∃ fs, objOf W1 x = some (c, fs) ∧ fs.lookup m = none) ∧ t δ W1 fun ds W2 => tk δ W2 fun zs W3 => ds.length = n ∧ zs.length = l ∧ sp (pick (x :: ds) ms zs src) W3 Q (ED δ)
theorem sim_callN {K : PySem.W.Frag} {n l : Nat} {src : List Src} {ms : List D} {mv : List V} {sp : SpD} {E : L2.St → XK} {ED : Sl → DX} (hl : LiftS K G0 E ED) (hm : ∀ G, IsDs K G ms mv) (ht : SimA K G0 t at') (hk : SimA K G0 tk ak) :
    SimE K G0 (tCallNG n l (liftSp K sp) (fun vs zs => pick vs mv zs src) E t tk) (aCallN n l src ms sp ED at' ak) := fun σ H Q G δ W QD s0 R S h k => by
  refine ht σ H _ G δ W _ s0 R S h fun vs ds G1 H1 W1 s1 R1 d1 h1 => ?_
  refine hk σ H1 _ G1 δ W1 _ (s0.trans s1) R1 (S.up s1) h1 fun zs es G2 H2 W2 s2 R2 d2 ⟨l1, l2, q⟩ => ?_
  exact ⟨by rw [← d1.length]; exact l1, by rw [← d2.length]; exact l2, G2, W2, _, QD, ED δ, R2, isDs_pick (IsDs.up s2 _ _ d1) (hm G2) d2 src, q, k.up (s1.trans s2), hl σ δ G2 (s0.trans (s1.trans s2)) (S.up (s1.trans s2))⟩
theorem sim_methN {K : PySem.W.Frag} {c : Str} {n l : Nat} {src : List Src} {ms : List D} {mv : List V} {sp : SpD} {E : L2.St → XK} {ED : Sl → DX} (hl : LiftS K G0 E ED) (hm : ∀ G, IsDs K G ms mv) (ho : SimE K G0 to ao) (ht : SimA K G0 t at') (hk : SimA K G0 tk ak) :
    SimE K G0 (tMethNG (He.ga K c) m n l (liftSp K sp) (fun vs zs => pick vs mv zs src) E to t tk) (aMethN c m n l src ms sp ED ao at' ak) := fun σ H Q G δ W QD s0 R S h k => by
  refine ho σ H _ G δ W _ s0 R S h fun x dx G1 H1 W1 s1 R1 d1 h1 => ?_
  obtain ⟨⟨fs, e1, e2⟩, q⟩ := h1
  obtain ⟨a, ax, vs, rfl, ha, hf⟩ := objOf_at R1 d1 e1
  rcases hf.look m with ⟨d', v', e3, e4, q3⟩ | ⟨_, e3⟩
  · rw [e2] at e3; cases e3
  refine ⟨a, ax, vs, rfl, ha, e3, ?_⟩
  refine ht σ H1 _ G1 δ W1 _ (s0.trans s1) R1 (S.up s1) q fun xs ds G2 H2 W2 s2 R2 d2 h2 => ?_
  refine hk σ H2 _ G2 δ W2 _ (s0.trans (s1.trans s2)) R2 (S.up (s1.trans s2)) h2 fun zs es G3 H3 W3 s3 R3 d3 ⟨l1, l2, q⟩ => ?_
  have s13 := s1.trans (s2.trans s3)
  exact ⟨by rw [← d2.length]; exact l1, by rw [← d3.length]; exact l2, G3, W3, _, QD, ED δ, R3, isDs_pick (ds := dx :: ds) ⟨_, _, rfl, IsD.up (s2.trans s3) _ _ d1, IsDs.up s3 _ _ d2⟩ (hm G3) d3 src, q, k.up s13, hl σ δ G3 (s0.trans s13) (S.up s13)⟩
/-! ### C(..) -/
def aMake (n : Str) (sp : SpD) (dds : List D) (ED : Sl → DX) (t : AA) : AE := fun δ W Q => t δ W fun ds W1 => ∀ l, W1 l = none → sp (.ptr l :: (ds ++ dds)) (W1.set l (.obj n [])) (fun v W2 => v = .non ∧ Q (.ptr l) W2) (ED δ)
theorem sim_make {K : PySem.W.Frag} {n : Str} {sp : SpD} {dvs : List V} {dds : List D} {E : L2.St → XK} {ED : Sl → DX} (hl : LiftS K G0 E ED) (hd : ∀ G, IsDs K G dds dvs) (ht : SimA K G0 t at') : SimE K G0 (tMakeD (He.ga K n) (liftSp K sp) dvs E t) (aMake n sp dds ED at') := fun σ H Q G δ W QD s0 R S h k => by
  refine ht σ H _ G δ W _ s0 R S h fun vs ds G1 H1 W1 s1 R1 d1 h1 => ?_
  intro x dx hx hdx ne
  refine ⟨G1, W1.set x (.obj n []), .ptr x :: (ds ++ dds), fun v W2 => v = .non ∧ QD (.ptr x) W2, ED δ, R1.obj hx hdx ne, ⟨_, _, rfl, rfl, d1.append (hd G1)⟩, h1 x (R1.freeW hx), ?_, hl σ δ G1 (s0.trans s1) (S.up s1)⟩
  rintro v d G' H' W' s' R' hv ⟨rfl, q⟩
  exact ⟨hv, k _ (.ptr x) _ _ _ (s1.trans s') R' rfl q⟩
/-! ### the derivations -/
variable {k n : Nat} {ps ks : List Str} {c : Str} {sp : SpD} {src : List Src} {ms : List V} {md : List D} {kws : List Keyword} {fa : Addr} {CX : CXT} {E : L2.St → XK} {ED : Sl → DX}
theorem de_callN (hx : ∀ σ, PassesAt CX X σ (E σ)) (hl : LiftS X.K G0 E ED) (g : FkN X.prog X.w X.K X.mg X.base CX k fa ps n ks src ms sp) (hm : X.mg x = some (.ref fa)) (hk : PySem.W.keepIn X.K (.ref fa) = true) (hmd : ∀ G, IsDs X.K G md ms) (hr : Room k X.A) (hgd : X.A.guards = some [])
    (ha : DA X G0 (e :: es) t at') (hkw : DK X G0 kws tk ak) (hg : Gl X x := by rfl) (hall : (backToKw pos (keywordEach kws X.env)).all (·.1.isSome) = true := by rfl) (hks : (backToKw pos (keywordEach kws X.env)).filterMap (·.1) = ks := by rfl)
    (hdb : (x == ("__debug__" : Str)) = false := by decide) (he : starEach (e :: es) X.env = (false, eval e X.env) :: starEach es X.env := by rfl)
    (hpl : ((backTo pos (starEach (e :: es) X.env)).any (·.1) || (backToKw pos (keywordEach kws X.env)).any (·.1.isNone)) = false := by rfl) :
    DE X G0 (.Call (.Name x p) (e :: es) kws pos) (tCallNG n ks.length (liftSp X.K sp) (fun vs zs => pick vs ms zs src) E t tk) (aCallN n ks.length src md sp ED at' ak) := by
  obtain ⟨fd, mv, F, b⟩ := g.ex
  exact ⟨pe_callNG F ⟨hr, hgd⟩ hg hm hk b hx ha.pa hkw.pk hall hks hdb he hpl, sim_callN hl hmd ha.sim hkw.sim⟩
theorem de_methN {pl : Sem Bool} (hx : ∀ σ, PassesAt CX X σ (E σ)) (hl : LiftS X.K G0 E ED) (hc : Cls X.K (He.ga X.K c)) (hm : Meth X.K (He.ga X.K c) m fa) (g : FkN X.prog X.w X.K X.mg X.base CX k fa ps (n + 1) ks src ms sp) (hmd : ∀ G, IsDs X.K G md ms) (hr : Room k X.A) (hgd : X.A.guards = some [])
    (ho : DE X G0 o to ao) (ha : DA X G0 (e :: es) t at') (hkw : DK X G0 kws tk ak) (hall : (backToKw pos (keywordEach kws X.env)).all (·.1.isSome) = true := by rfl) (hks : (backToKw pos (keywordEach kws X.env)).filterMap (·.1) = ks := by rfl)
    (hst : starEach (e :: es) X.env = (false, eval e X.env) :: starEach es X.env := by rfl)
    (hpl : ((backTo pos (starEach (e :: es) X.env)).any (·.1) || (backToKw pos (keywordEach kws X.env)).any (·.1.isNone)) = false := by rfl)
    (ht : eval (.Call (.Attribute o m apos) (e :: es) kws pos) X.env = (do
      let ov ← eval o X.env
      standAt apos.atName
      let (f, first) ← holding [ov] (getMethod ov m pl)
      callWith pos f first (backTo pos (starEach (e :: es) X.env)) (backToKw pos (keywordEach kws X.env))) := by rfl) :
    DE X G0 (.Call (.Attribute o m apos) (e :: es) kws pos) (tMethNG (He.ga X.K c) m n ks.length (liftSp X.K sp) (fun vs zs => pick vs ms zs src) E to t tk) (aMethN c m n ks.length src md sp ED ao at' ak) := by
  obtain ⟨fd, mv, F, b⟩ := g.ex
  exact ⟨pe_methNG ho.pe hc hm F ⟨hr, hgd⟩ b hx ha.pa hkw.pk hall hks hst hpl ht, sim_methN hl hmd ho.sim ha.sim hkw.sim⟩
/-- a method (or a def) all of whose parameters are given in their order -/
structure FkM (P : Program) (w : World) (K : PySem.W.Frag) (mg : Str → Option Value) (base : Heap) (CX : CXT) (k : Nat) (f : Addr) (ps : List Str) (sp : SpD) : Prop where
  ex : ∃ fd : FuncData, FnG P w K mg base CX k f fd ps (liftSp K sp) ∧ Binds K fd ps []
theorem FkM.mono {P : Program} {w : World} {K : PySem.W.Frag} {mg : Str → Option Value} {base : Heap} {CX : CXT} {j k : Nat} {fa : Addr} {ps : List Str} {sp : SpD} (g : FkM P w K mg base CX j fa ps sp) (h : j ≤ k) : FkM P w K mg base CX k fa ps sp := by
  obtain ⟨fd, F, b⟩ := g.ex
  exact ⟨fd, F.mono h, b⟩
theorem de_meth {pl : Sem Bool} (hx : ∀ σ, PassesAt CX X σ (E σ)) (hl : LiftS X.K G0 E ED) (hc : Cls X.K (He.ga X.K c)) (hm : Meth X.K (He.ga X.K c) m fa) (g : FkM X.prog X.w X.K X.mg X.base CX k fa ps sp) (hr : Room k X.A) (hgd : X.A.guards = some [])
    (ho : DE X G0 o to ao) (ha : DA X G0 (e :: es) t at') (hst : starEach (e :: es) X.env = (false, eval e X.env) :: starEach es X.env := by rfl) (hpl : (backTo pos (starEach es X.env)).any (·.1) = false := by rfl)
    (ht : eval (.Call (.Attribute o m apos) (e :: es) [] pos) X.env = (do
      let ov ← eval o X.env
      standAt apos.atName
      let (f, first) ← holding [ov] (getMethod ov m pl)
      callWith pos f first (backTo pos (starEach (e :: es) X.env)) (backToKw pos (keywordEach [] X.env))) := by rfl) :
    DE X G0 (.Call (.Attribute o m apos) (e :: es) [] pos) (tMethD (He.ga X.K c) m (liftSp X.K sp) [] E to t) (aMeth c m sp [] ED ao at') := by
  obtain ⟨fd, F, b⟩ := g.ex
  exact ⟨pe_methG ho.pe hc hm F ⟨hr, hgd⟩ b .nil hx ha.pa hst hpl ht, sim_meth hl (fun _ => rfl) ho.sim ha.sim⟩
theorem de_meth0 {pl : Sem Bool} (hx : ∀ σ, PassesAt CX X σ (E σ)) (hl : LiftS X.K G0 E ED) (hc : Cls X.K (He.ga X.K c)) (hm : Meth X.K (He.ga X.K c) m fa) (g : FkM X.prog X.w X.K X.mg X.base CX k fa ps sp) (hr : Room k X.A) (hgd : X.A.guards = some [])
    (ho : DE X G0 o to ao)
    (ht : eval (.Call (.Attribute o m apos) [] [] pos) X.env = (do
      let ov ← eval o X.env
      standAt apos.atName
      let (f, first) ← holding [ov] (getMethod ov m pl)
      callWith pos f first (backTo pos (starEach [] X.env)) (backToKw pos (keywordEach [] X.env))) := by rfl) :
    DE X G0 (.Call (.Attribute o m apos) [] [] pos) (tMethD (He.ga X.K c) m (liftSp X.K sp) [] E to tNil) (aMeth c m sp [] ED ao aNil) := by
  obtain ⟨fd, F, b⟩ := g.ex
  exact ⟨pe_methG0 ho.pe hc hm F ⟨hr, hgd⟩ b .nil hx ht, sim_meth hl (fun _ => rfl) ho.sim sim_nil⟩
theorem de_make (hx : ∀ σ, PassesAt CX X σ (E σ)) (hl : LiftS X.K G0 E ED) (M : Mk X.K (He.ga X.K x) fa) (g : FkM X.prog X.w X.K X.mg X.base CX k fa ps sp) (hm : X.mg x = some (.ref (He.ga X.K x))) (hr : Room (k + 1) X.A) (hgd : X.A.guards = some [])
    (ha : DA X G0 (e :: es) t at') (hg : Gl X x := by rfl) (hdb : (x == ("__debug__" : Str)) = false := by decide) (he : starEach (e :: es) X.env = (false, eval e X.env) :: starEach es X.env := by rfl) (hpl : (backTo pos (starEach es X.env)).any (·.1) = false := by rfl) :
    DE X G0 (.Call (.Name x p) (e :: es) [] pos) (tMakeD (He.ga X.K x) (liftSp X.K sp) [] E t) (aMake x sp [] ED at') := by
  obtain ⟨fd, F, b⟩ := g.ex
  exact ⟨pe_makeG M F ⟨hr, hgd⟩ hg hm b .nil hx ha.pa hdb he hpl, sim_make hl (fun _ => rfl) ha.sim⟩
theorem de_make0 (hx : ∀ σ, PassesAt CX X σ (E σ)) (hl : LiftS X.K G0 E ED) (M : Mk X.K (He.ga X.K x) fa) (g : FkM X.prog X.w X.K X.mg X.base CX k fa ps sp) (hm : X.mg x = some (.ref (He.ga X.K x))) (hr : Room (k + 1) X.A) (hgd : X.A.guards = some [])
    (hg : Gl X x := by rfl) (hdb : (x == ("__debug__" : Str)) = false := by decide) :
    DE X G0 (.Call (.Name x p) [] [] pos) (tMakeD (He.ga X.K x) (liftSp X.K sp) [] E tNil) (aMake x sp [] ED aNil) := by
  obtain ⟨fd, F, b⟩ := g.ex
  exact ⟨pe_makeG0 M F ⟨hr, hgd⟩ hg hm b .nil hx hdb, sim_make hl (fun _ => rfl) sim_nil⟩
end
end DL

/-! DLn: exceptions: defs that raise, raise, try .. except. -/
namespace DL
open PySem PySem.Spec PyProof.Rows L2
abbrev AW := Sl → DX
def AW.none : AW := fun _ _ _ _ => False
theorem liftS_none {K : PySem.W.Frag} {G0 : Hp} {E : L2.St → XK} : LiftS K G0 E AW.none := fun _ _ _ _ _ _ _ _ _ _ _ _ _ _ h => h.elim
section
variable {P : Program} {w : World} {K : PySem.W.Frag} {mg : Str → Option Value} {base : Heap}
/-- a def as the head finds it, which keeps a promise -/
structure FkB (P : Program) (w : World) (K : PySem.W.Frag) (mg : Str → Option Value) (base : Heap) (CX : CXT) (k : Nat) (f : Addr) (nm q : Str) (st : Stmt) (dvs : List V) (kws : List (Str × V)) (ps : List Str) (sp : SpD) : Prop where
  ex : ∃ fd : FuncData, FunD K nm q (defArgs st) (defBody st) (defScope st) dvs kws f fd ∧ FnG P w K mg base CX k f fd ps (liftSp K sp)
structure DfB (K : PySem.W.Frag) (f : Addr) (nm q : Str) (st : Stmt) (dvs : List V) (kws : List (Str × V)) : Prop where
  ex : ∃ fd : FuncData, FunD K nm q (defArgs st) (defBody st) (defScope st) dvs kws f fd
theorem FkB.mono {CX : CXT} {j k : Nat} {f : Addr} {nm q : Str} {st : Stmt} {dvs : List V} {kws : List (Str × V)} {ps : List Str} {sp : SpD} (g : FkB P w K mg base CX j f nm q st dvs kws ps sp) (h : j ≤ k) : FkB P w K mg base CX k f nm q st dvs kws ps sp := by
  obtain ⟨fd, F, G⟩ := g.ex
  exact ⟨fd, F, G.mono h⟩
/-- all parameters written -/
theorem FkB.m {CX : CXT} {k : Nat} {f : Addr} {nm q : Str} {st : Stmt} {ps : List Str} {sp : SpD} {kws : List (Str × V)} (g : FkB P w K mg base CX k f nm q st [] kws ps sp)
    (hb : ∀ (kV doc pm : Value) (an : Option Addr) (cdv ct : Value) (us : List Value), us.length = ps.length → bindArgs (PySem.W.fnOf nm q (defArgs st) (defBody st) (defScope st) .none kV doc pm an cdv ct) ⟨us, []⟩ = pure (ps.zip us)) : FkM P w K mg base CX k f ps sp := by
  obtain ⟨fd, F, G⟩ := g.ex
  exact ⟨fd, G, F.bindsN hb⟩
/-- n written, the keywords ks, the keyword-only defaults ms -/
theorem FkB.n0 {CX : CXT} {k : Nat} {f : Addr} {nm q : Str} {st : Stmt} {ps : List Str} {sp : SpD} {kws : List (Str × V)} (g : FkB P w K mg base CX k f nm q st [] kws ps sp) (n : Nat) (ks : List Str) (ms : List (Str × V)) (src : List Src) (hk : kws ≠ []) (hms : ∀ z ∈ ms, z ∈ kws)
    (h : ∀ (D : Addr) (doc pm : Value) (an : Option Addr) (cdv ct : Value) (us mv ws : List Value), us.length = n → mv.length = ms.length → ws.length = ks.length →
      KwChain D ((ms.map (·.1)).zip mv) (bindArgs (PySem.W.fnOf nm q (defArgs st) (defBody st) (defScope st) .none (.ref D) doc pm an cdv ct) ⟨us, ks.zip ws⟩) (ps.zip (pick us mv ws src))) : FkN P w K mg base CX k f ps n ks src (ms.map (·.2)) sp := by
  obtain ⟨fd, F, G⟩ := g.ex
  obtain ⟨mv, b⟩ := F.kbinds0 n ks ms (fun us mv ws => pick us mv ws src) hk hms (fun a b c => vals_pick a b c src) h
  exact ⟨fd, mv, G, b⟩
/-- what nobody can ask is kept -/
theorem FkB.none {CX : CXT} {f : Addr} {nm q : Str} {st : Stmt} {dvs : List V} {kws : List (Str × V)} {ps : List Str} {sp : SpD} (F : DfB K f nm q st dvs kws) (h : ∀ ds W Q E, ¬ sp ds W Q E) : FkB P w K mg base CX 0 f nm q st dvs kws ps sp := by
  obtain ⟨fd, F⟩ := F.ex
  have no : ∀ vs H Q E, ¬ liftSp K sp vs H Q E := fun vs H Q E ⟨G, W, ds, QD, ED, _, _, q, _⟩ => h _ _ _ _ q
  exact ⟨fd, F, fun vs H Q E q => absurd q (no vs H Q E), fun _ _ _ _ q => absurd q (no _ _ _ _)⟩
/-- a def that lets nothing out -/
theorem okB {f : Addr} {nm q : Str} {st : Stmt} {dvs : List V} {kws : List (Str × V)} {N ps : List Str} {k : Nat} {sp : SpD} (F : DfB K f nm q st dvs kws) (S : FnScope N ps (defScope st)) (len : ∀ ds W Q E, sp ds W Q E → ds.length = ps.length)
    (hbody : ∀ (cdv : Value) (A : Around) (outer : List Env) (s : Shared) (H : Hp) (E : XK) (G : Hp), Room k (A.deeper (envOfC q (defScope st) s.heap.objs.size f cdv)) → A.guards = some [] →
      ∃ t a, DSs (cxOf CX0 P w K mg base N q (defScope st) f cdv A outer s H E).nox G (defBody st) t a ∧ ∀ ds W QD ED, sp ds W QD ED → a { nx := fun _ W' => QD .non W', rt := QD } (startD N ds) W) : FkB P w K mg base CX0 (k + 1) f nm q st dvs kws ps sp := by
  obtain ⟨fd, F⟩ := F.ex
  refine ⟨fd, F, FunD.okG F S (fun vs H Q E h => ?_) (fun cdv A outer s H vs Q E hr h => ?_)⟩
  · obtain ⟨G, W, ds, QD, ED, _, d, h, _⟩ := h
    rw [← d.length]
    exact len _ _ _ _ h
  · obtain ⟨G, W, ds, QD, ED, R, d, h, kt, _⟩ := h
    obtain ⟨t, a, db, hb⟩ := hbody cdv A outer s H E G hr.rm hr.gd
    refine ⟨t, db.ps.nox, db.sim _ { nx := fun _ W' => QD .non W', rt := QD } _ H G _ W (Same.refl G) R (isSl_start d) ⟨?_, kt, ?_, ?_⟩ (hb ds W QD ED h)⟩
    · exact fun σ δ G' H' W' s' R' S' q => kt _ .non G' H' W' s' R' rfl q
    · exact fun _ _ _ _ _ _ _ _ q => q.elim
    · exact fun _ _ _ _ _ _ _ _ q => q.elim
/-- a def that may raise -/
theorem okX {f : Addr} {nm q : Str} {st : Stmt} {dvs : List V} {kws : List (Str × V)} {N ps : List Str} {k : Nat} {sp : SpD} {a : AW → AS} (F : DfB K f nm q st dvs kws) (S : FnScope N ps (defScope st)) (len : ∀ ds W Q E, sp ds W Q E → ds.length = ps.length)
    (hbody : ∀ (cdv : Value) (A : Around) (outer : List Env) (s : Shared) (H : Hp) (E : XK) (G : Hp) (WD : AW), Room k (A.deeper (envOfC q (defScope st) s.heap.objs.size f cdv)) → A.guards = some [] →
      Takes (cxOf (L2.CX P w) P w K mg base N q (defScope st) f cdv A outer s H E) (fun cls d _ H => E cls d H) → PassesOwn (model P w) (cxOf (L2.CX P w) P w K mg base N q (defScope st) f cdv A outer s H E).A (cxOf (L2.CX P w) P w K mg base N q (defScope st) f cdv A outer s H E).env (cxOf (L2.CX P w) P w K mg base N q (defScope st) f cdv A outer s H E).xe → LiftS K G (fun _ => E) WD →
      ∃ t, DSs (cxOf (L2.CX P w) P w K mg base N q (defScope st) f cdv A outer s H E) G (defBody st) t (a WD))
    (hr : ∀ ds W QD ED, sp ds W QD ED → a (fun _ => ED) { nx := fun _ W' => QD .non W', rt := QD } (startD N ds) W) : FkB P w K mg base (L2.CX P w) (k + 1) f nm q st dvs kws ps sp := by
  obtain ⟨fd, F⟩ := F.ex
  refine ⟨fd, F, FunD.okG F S (fun vs H Q E h => ?_) (fun cdv A outer s H vs Q E hr' h => ?_)⟩
  · obtain ⟨G, W, ds, QD, ED, _, d, h, _⟩ := h
    rw [← d.length]
    exact len _ _ _ _ h
  · obtain ⟨G, W, ds, QD, ED, R, d, h, kt, hl⟩ := h
    obtain ⟨t, db⟩ := hbody cdv A outer s H E G (fun _ => ED) hr'.rm hr'.gd (takes_of rfl rfl rfl rfl) (passes_of rfl) (fun _ _ _ s _ => hl.up s)
    refine ⟨t, db.ps, db.sim _ { nx := fun _ W' => QD .non W', rt := QD } _ H G _ W (Same.refl G) R (isSl_start d) ⟨?_, kt, ?_, ?_⟩ (hr ds W QD ED h)⟩
    · exact fun σ δ G' H' W' s' R' S' q => kt _ .non G' H' W' s' R' rfl q
    · exact fun _ _ _ _ _ _ _ _ q => q.elim
    · exact fun _ _ _ _ _ _ _ _ q => q.elim
end
section
variable {X : Cx} {G0 : Hp} {pos p pos' np : PySem.Pos} {x : Str} {W : WX} {WD : AW}
/-! ### raise C() -/
/-- what the text says of an own exception class without __init__ -/
structure ExcK (K : PySem.W.Frag) (mg : Str → Option Value) (n : Str) : Prop where
  ex : PySem.W.excIn K (He.ga K n) He.veBase "ValueError.__new__" = true
  kp : PySem.W.keepIn K (.ref (He.ga K n)) = true
  sb : PySem.W.subIn K (.ref (He.ga K n)) (.type "BaseException") = some true
  ty : PySem.W.typeIn K (.ref (He.ga K n)) = some (.type "type")
  gl : mg n = some (.ref (He.ga K n))
theorem pmk_ownN {C : Addr} {bmB : List Value} {B newId initId : String} (F : ExcBaseFacts B newId initId bmB) (q : PySem.W.excIn X.K C bmB newId = true) (gC : X.mg x = some (.ref C)) (kC : PySem.W.keepIn X.K (.ref C) = true) (r : Raises X (.ref C)) (hg : Gl X x)
    (hdb : (x == ("__debug__" : Str)) = false := by decide) : PMk X (.Call (.Name x p) [] [] pos) (fun _ H Q => Q (.ref C) none H) := by
  intro pins s σ H Q I h
  refine wpAny_Call_Name_kw (ld_glob I hg gC (PySem.W.callWith_K0 I.kIn kC ?_) hdb)
  show wpAny _ _ (call (.ref C) []) _ _ _
  obtain ⟨bm, N, nm, qn, bs, hdct, sn, sub, ab, col, dd, k0, k1, k2, k3, k5, mN, hC, hN, hni, T⟩ := exc_obj I.kIn q
  exact wpAny_call_exc_subT F T hC hN hni (fun h' e hm => mk_of I hm r h (I.hok.gone hm.new)) (by show 0 ≤ sizeLine; exact Nat.zero_le _)
def aRaise (n : Str) (WD : AW) : AS := fun _ δ W => WD δ n [] W
theorem ds_raise0 (K : PySem.W.Frag) (hc : X.calm = true) (tk : Takes X W) (hl : LiftS K G0 (WE W) WD) (F : ExcK X.K X.mg x) (hK : X.K = K := by rfl) (hg : Gl X x := by rfl) (hdb : (x == ("__debug__" : Str)) = false := by decide) :
    DS X G0 (.Raise (some (.Call (.Name x p) [] [] pos)) none pos') (fun _ σ H => W (.ref (He.ga K x)) none σ H) (aRaise x WD) := by
  subst hK
  refine ⟨ps_raise hc tk (pmk_ownN PySem.F.excBase_ValueError F.ex F.gl F.kp (raises_own F.sb F.ty) hg hdb), fun E A σ H G δ W' s0 R S eo h => ?_⟩
  exact hl σ δ G s0 S x [] none G H W' (Same.refl G) R (.inl ⟨rfl, rfl⟩) h
/-! ### calls that may raise -/
variable {e : Expr} {es : List Expr} {t : L2.TA} {at' : AA} {k : Nat} {fa : Addr} {ps : List Str} {sp : SpD}
theorem de_fnX (K : PySem.W.Frag) (tk : Takes X W) (hl : LiftS K G0 (WE W) WD) (g : FkM X.prog X.w K X.mg X.base (L2.CX X.prog X.w) k fa ps sp) (hm : X.mg x = some (.ref fa)) (hk : PySem.W.keepIn K (.ref fa) = true) (hr : Room k X.A) (hgd : X.A.guards = some [])
    (ha : DA X G0 (e :: es) t at') (hK : X.K = K := by rfl) (hg : Gl X x := by rfl) (hdb : (x == ("__debug__" : Str)) = false := by decide) (he : starEach (e :: es) X.env = (false, eval e X.env) :: starEach es X.env := by rfl) (hpl : (backTo pos (starEach es X.env)).any (·.1) = false := by rfl) :
    DE X G0 (.Call (.Name x p) (e :: es) [] pos) (tCallD (liftSp K sp) [] (WE W) t) (aCallX sp [] WD at') := by
  subst hK
  obtain ⟨fd, F, b⟩ := g.ex
  exact ⟨pe_callG F ⟨hr, hgd⟩ hg hm hk b .nil (fun σ => passAt tk σ) ha.pa hdb he hpl, sim_callX hl (fun _ => rfl) ha.sim⟩
/-! ### except C, except C as n -/
theorem IsSl.unset {K : PySem.W.Frag} {G : Hp} {δ : Sl} {σ : L2.St} (h : IsSl K G δ σ) (i : Nat) : IsSl K G (δ.set i none) (σ.set i none) := by
  refine ⟨by rw [List.length_set, List.length_set, h.len], fun j e he => ?_⟩
  by_cases hj : i = j
  · subst hj
    rw [List.getElem?_set] at he
    simp at he
  · rw [List.getElem?_set_ne hj] at he
    rw [List.getElem?_set_ne hj]
    exact h.get j e he
def Acut (i : Nat) (A : AEnds) : AEnds := { nx := fun δ W => A.nx (δ.set i none) W, rt := A.rt, bk := fun δ W => A.bk (δ.set i none) W, ct := fun δ W => A.ct (δ.set i none) W }
def aTryAs (i : Nat) (n : Str) (ab : AW → AS) (asu : Addr → AS) : AS := fun A δ W => ab (fun δ' n' fs W' => n' = n ∧ fs = [] ∧ ∀ a, W' a = none → asu a (Acut i A) (δ'.set i (some (.ptr a))) W') A δ W
def aTry (ns : List Str) (ab : AW → AS) (asu : AS) : AS := fun A δ W => ab (fun δ' n' _ W' => n' ∈ ns ∧ asu A δ' W') A δ W
open Classical in
noncomputable def tsOf (D : Value) (ts : Addr → TS) : Addr → Value → Option Addr → TS := fun a cls d => if cls = D ∧ d = none then ts a else tNever
/-- a wish that a try's body can bear -/
def xeLook (X : Cx) : Value → Shared → Prop := fun e s1 => wpAny (model X.prog X.w) X.A (noteFrame e X.env) (fun _ s2 => wpAny (model X.prog X.w) X.A (setFlight e none) (fun _ _ => True) X.xe s2) X.xe s1
theorem takes_look (hs : X.stack = X.env :: X.outer) (hf : X.env.frame = some X.env.locals) {pn : List (Addr × Obj)} : Takes (X.tr pn (xeLook X)) W := by
  rintro u s' ⟨a, B, sI, pins', σ', H', cls, d, rfl, J', nb, up, sky, na, os, ag, _⟩
  have sky' : Sky B (X.env :: X.outer) a (Zc cls d) X.env.locals s'.heap := by rw [← hs]; exact sky
  have hfr : X.A.frames = some (X.env :: X.outer) := by rw [J'.ok.ofTry.frames, hs]
  exact Sky.land Zc.steady hfr hf sky' fun _ _ _ => trivial
theorem passes_look : PassesOwn (model X.prog X.w) X.A X.env (xeLook X) := PassesOwn.looking
variable {body suite : List Stmt} {b₀ : Stmt} {tb : WX → TS} {ts : Addr → TS} {ab : AW → AS} {asu : Addr → AS} {Wout : WX} {i : Nat} {m n : Str}
theorem EndsOk.cut {K : PySem.W.Frag} {G : Hp} {E : Ends} {A : AEnds} (eo : EndsOk K G E A) (i : Nat) : EndsOk K G { nx := fun σ' H' => E.nx (σ'.set i none) H', rt := E.rt, bk := fun σ' H' => E.bk (σ'.set i none) H', ct := fun σ' H' => E.ct (σ'.set i none) H' } (Acut i A) :=
  ⟨fun σ δ G' H' W' s R S n => eo.nx _ _ _ _ _ s R (S.unset i) n, eo.rt, fun σ δ G' H' W' s R S n => eo.bk _ _ _ _ _ s R (S.unset i) n, fun σ δ G' H' W' s R S n => eo.ct _ _ _ _ _ s R (S.unset i) n⟩
theorem ds_tryAs (n : Str) (hs : X.stack = X.env :: X.outer) (hf : X.env.frame = some X.env.locals) (hN : X.N.Nodup) (hi : X.N[i]? = some m) (hln : X.env.kindOf m = some .local) (hc : Names X x (.ref (He.ga X.K x))) (hex : PySem.W.exmOne X.K (.ref (He.ga X.K n)) (.ref (He.ga X.K x)) = some true) (tk : Takes X Wout)
    (hb : ∀ (W : WX) (WD : AW) (pn : List (Addr × Obj)) (xe : Value → Shared → Prop) (G1 : Hp), Same G0 G1 → Takes (X.tr pn xe) W → PassesOwn (model X.prog X.w) X.A X.env xe → LiftS X.K G1 (WE W) WD → DSs (X.tr pn xe) G1 body (tb W) (ab WD))
    (hsu : ∀ (a : Addr) (oe : Obj) (pn : List (Addr × Obj)), Zc (.ref (He.ga X.K n)) none oe → (∃ vs, oe.data = .fields vs) → DSs (X.suite a ((a, oe) :: pn)) G0 (b₀ :: suite) (ts a) (asu a)) :
    DS X G0 (.Try body [.ExceptHandler (some (.Name x np)) (some m) (b₀ :: suite) pos'] [] [] pos) (fun D σ H => tb (wAs X.K (.ref (He.ga X.K x)) i (tsOf (.ref (He.ga X.K n)) ts) Wout D) D σ H) (aTryAs i n ab asu) := by
  refine ⟨ps_try_as hs hf hN hi hln hc tk (fun W pn xe tk' hp => (hb W AW.none pn xe G0 (Same.refl G0) tk' hp liftS_none).ps) (fun a oe cls d pn hz hf' => ?_), ?_⟩
  · unfold tsOf
    by_cases h : cls = .ref (He.ga X.K n) ∧ d = none
    · rw [if_pos h]
      obtain ⟨rfl, rfl⟩ := h
      exact (hsu a oe pn hz hf').ps
    · rw [if_neg h]; exact pss_never
  · intro E A σ H G δ W s0 R S eo h
    refine (hb (wAs X.K (.ref (He.ga X.K x)) i (tsOf (.ref (He.ga X.K n)) ts) Wout E) _ X.pn (xeLook X) G s0 (takes_look hs hf) passes_look ?_).sim E A σ H G δ W (Same.refl G) R S eo h
    intro σ1 δ1 G1 s1 S1 n1 fs od G2 H2 W2 s2 R2 hx hw
    obtain ⟨rfl, rfl, hw⟩ := hw
    refine ⟨true, hex, fun _ a ha => ?_, fun z => nomatch z⟩
    have hod : od = none := by
      rcases hx with ⟨_, e⟩ | ⟨b, vs, e, _⟩
      · exact e
      · exact absurd rfl e
    subst hod
    unfold tsOf
    rw [if_pos ⟨rfl, rfl⟩]
    have s02 := s0.trans (s1.trans s2)
    have dm : Obj := { cls := .ref (He.ga X.K n1), data := .fields #[] }
    exact (hsu a { cls := .ref (He.ga X.K n1), data := .fields #[] } [] ⟨rfl, rfl⟩ ⟨_, rfl⟩).sim _ (Acut i A) _ _ _ _ _ s02 R2 ((S1.up s2).set i (d := .ptr a) (v := .ref a) rfl) ((eo.up (s1.trans s2)).cut i) (hw a (R2.freeW ha))
theorem ds_try (ns : List Str) {as1 : AS} {ts1 : TS} (hs : X.stack = X.env :: X.outer) (hf : X.env.frame = some X.env.locals) (hc : Names X x (.ref (He.ga X.K x))) (hex : ∀ n ∈ ns, PySem.W.exmOne X.K (.ref (He.ga X.K n)) (.ref (He.ga X.K x)) = some true) (tk : Takes X Wout)
    (hb : ∀ (W : WX) (WD : AW) (pn : List (Addr × Obj)) (xe : Value → Shared → Prop) (G1 : Hp), Same G0 G1 → Takes (X.tr pn xe) W → PassesOwn (model X.prog X.w) X.A X.env xe → LiftS X.K G1 (WE W) WD → DSs (X.tr pn xe) G1 body (tb W) (ab WD))
    (hsu : ∀ (a : Addr) (oe : Obj) (pn : List (Addr × Obj)), (∃ vs, oe.data = .fields vs) → DSs (X.suite a ((a, oe) :: pn)) G0 (b₀ :: suite) ts1 as1) :
    DS X G0 (.Try body [.ExceptHandler (some (.Name x np)) none (b₀ :: suite) pos'] [] [] pos) (fun D σ H => tb (wOnly X.K (.ref (He.ga X.K x)) (fun _ _ _ => ts1) Wout D) D σ H) (aTry ns ab as1) := by
  refine ⟨ps_try_only hs hf hc tk (fun W pn xe tk' hp => (hb W AW.none pn xe G0 (Same.refl G0) tk' hp liftS_none).ps) (fun a oe cls d pn hz hf' => (hsu a oe pn hf').ps), ?_⟩
  intro E A σ H G δ W s0 R S eo h
  refine (hb (wOnly X.K (.ref (He.ga X.K x)) (fun _ _ _ => ts1) Wout E) _ X.pn (xeLook X) G s0 (takes_look hs hf) passes_look ?_).sim E A σ H G δ W (Same.refl G) R S eo h
  intro σ1 δ1 G1 s1 S1 n1 fs od G2 H2 W2 s2 R2 hx hw
  obtain ⟨hn, hw⟩ := hw
  refine ⟨true, hex n1 hn, fun _ a ha => ?_, fun z => nomatch z⟩
  exact (hsu a { cls := .ref (He.ga X.K n1), data := .fields #[] } [] ⟨_, rfl⟩).sim E A _ _ _ _ _ (s0.trans (s1.trans s2)) R2 (S1.up s2) (eo.up (s1.trans s2)) hw
/-! ### isinstance(e, C) in a suite -/
def aIsE (i : Nat) (a : Addr) (b : Bool) : AE := fun δ W Q => δ[i]? = some (some (.ptr a)) ∧ Q (.bl b) W
theorem de_isE {a : Addr} {oe : Obj} {pn : List (Addr × Obj)} {cV : V} {cv : Value} {b : Bool} {y z : Str} {p1 p2 p3 : PySem.Pos} (C : ExcC X.K (He.ga X.K n)) (hz : Zc (.ref (He.ga X.K n)) none oe) (hf : ∃ vs, oe.data = .fields vs)
    (hv : PE (X.suite a ((a, oe) :: pn)) (.Name y p1) (tVar i)) (hc : PE (X.suite a ((a, oe) :: pn)) (.Name z p2) (tC cV)) (hcv : ∀ u, L2.RelV cV u → u = cv) (hk : PySem.W.kitOne X.K (.ref (He.ga X.K n)) cv = some b) (hm : X.mg "isinstance" = none)
    (hg : Gl (X.suite a ((a, oe) :: pn)) "isinstance" := by rfl) (he : starEach [.Name y p1, .Name z p2] X.env = (false, eval (.Name y p1) X.env) :: starEach [.Name z p2] X.env := by rfl) (he2 : starEach [.Name z p2] X.env = (false, eval (.Name z p2) X.env) :: starEach [] X.env := by rfl) (hpl : (backTo pos (starEach [.Name z p2] X.env)).any (·.1) = false := by rfl) :
    DE (X.suite a ((a, oe) :: pn)) G0 (.Call (.Name "isinstance" p3) [.Name y p1, .Name z p2] [] pos) (tCB (rIsE X.K (He.ga X.K n) a) (tCons (tVar i) (tCons (tC cV) tNil))) (aIsE i a b) := by
  refine ⟨pe_callB (call_isE C hz hf) hg hm (by decide +kernel) (pa_cons hv (pa_cons hc pa_nil he2) he) (by decide) (by decide) he hpl, fun σ H Q G δ W QD s0 R S h k => ?_⟩
  obtain ⟨e, q⟩ := h
  obtain ⟨v, e2, hv⟩ := S.get i _ e
  cases (show v = .ref a from hv)
  exact ⟨_, e2, cV, cv, b, rfl, hcv, hk, k.here (d := .bl b) R rfl q⟩
end
end DL

/-! DLo: the same rules with K named; objects that stand for good; the head's further looks. -/
namespace DL
open PySem PySem.Spec PyProof.Rows L2
theorem passNo {X : Cx} (σ : L2.St) : PassesAt (L2.CX X.prog X.w) X σ E0 := fun pins H s e s' I c => passL pins σ H s e s' I c
section
variable {X : Cx} {G0 : Hp} {o e : Expr} {es : List Expr} {to te : TE} {ao ae : AE} {t tk : L2.TA} {at' ak : AA} {pos apos p : PySem.Pos} {f m x : Str} {k n : Nat} {ps ks : List Str} {c : Str} {sp : SpD} {src : List Src} {ms : List V} {md : List D} {kws : List Keyword} {fa : Addr} {CX : CXT} {E : L2.St → XK} {ED : AW}
theorem de_fldK (K : PySem.W.Frag) (n : Str) (c : Cls K (He.ga K n)) (na : NoAttr K (He.ga K n) f) (ho : DE X G0 o to ao) (hK : X.K = K := by rfl) (hb : attributeBase o f X.env (eval o X.env) = eval o X.env := by rfl) : DE X G0 (.Attribute o f pos) (tFld K to f) (aFld n f ao) := by
  subst hK; exact de_fld n c na ho hb
theorem ds_fldK (K : PySem.W.Frag) (n : Str) (c : Cls K (He.ga K n)) (na : NoAttr K (He.ga K n) f) (ho : DE X G0 o to ao) (he : DE X G0 e te ae) (hK : X.K = K := by rfl) (hs : swapsWith e (some (.Attribute o f apos)) pos.line X.env = pure false := by rfl) : DS X G0 (.Assign [.Attribute o f apos] e pos) (sFld K to te f) (aFldS n f ao ae) := by
  subst hK; exact ds_fld n c na ho he hs
theorem de_callK (K : PySem.W.Frag) (hx : ∀ σ, PassesAt CX X σ (E σ)) (hl : LiftS K G0 E ED) (g : FkM X.prog X.w K X.mg X.base CX k fa ps sp) (hm : X.mg x = some (.ref fa)) (hk : PySem.W.keepIn K (.ref fa) = true) (hr : Room k X.A) (hgd : X.A.guards = some [])
    (ha : DA X G0 (e :: es) t at') (hK : X.K = K := by rfl) (hg : Gl X x := by rfl) (hdb : (x == ("__debug__" : Str)) = false := by decide) (he : starEach (e :: es) X.env = (false, eval e X.env) :: starEach es X.env := by rfl) (hpl : (backTo pos (starEach es X.env)).any (·.1) = false := by rfl) :
    DE X G0 (.Call (.Name x p) (e :: es) [] pos) (tCallD (liftSp K sp) [] E t) (aCallX sp [] ED at') := by
  subst hK
  obtain ⟨fd, F, b⟩ := g.ex
  exact ⟨pe_callG F ⟨hr, hgd⟩ hg hm hk b .nil hx ha.pa hdb he hpl, sim_callX hl (fun _ => rfl) ha.sim⟩
theorem de_callK0 (K : PySem.W.Frag) (hx : ∀ σ, PassesAt CX X σ (E σ)) (hl : LiftS K G0 E ED) (g : FkM X.prog X.w K X.mg X.base CX k fa ps sp) (hm : X.mg x = some (.ref fa)) (hk : PySem.W.keepIn K (.ref fa) = true) (hr : Room k X.A) (hgd : X.A.guards = some [])
    (hK : X.K = K := by rfl) (hg : Gl X x := by rfl) (hdb : (x == ("__debug__" : Str)) = false := by decide) :
    DE X G0 (.Call (.Name x p) [] [] pos) (tCallD (liftSp K sp) [] E tNil) (aCallX sp [] ED aNil) := by
  subst hK
  obtain ⟨fd, F, b⟩ := g.ex
  exact ⟨pe_callG0 F ⟨hr, hgd⟩ hg hm hk b .nil hx hdb, sim_callX hl (fun _ => rfl) sim_nil⟩
theorem de_callNK (K : PySem.W.Frag) (hx : ∀ σ, PassesAt CX X σ (E σ)) (hl : LiftS K G0 E ED) (g : FkN X.prog X.w K X.mg X.base CX k fa ps n ks src ms sp) (hm : X.mg x = some (.ref fa)) (hk : PySem.W.keepIn K (.ref fa) = true) (hmd : ∀ G, IsDs K G md ms) (hr : Room k X.A) (hgd : X.A.guards = some [])
    (ha : DA X G0 (e :: es) t at') (hkw : DK X G0 kws tk ak) (hK : X.K = K := by rfl) (hg : Gl X x := by rfl) (hall : (backToKw pos (keywordEach kws X.env)).all (·.1.isSome) = true := by rfl) (hks : (backToKw pos (keywordEach kws X.env)).filterMap (·.1) = ks := by rfl)
    (hdb : (x == ("__debug__" : Str)) = false := by decide) (he : starEach (e :: es) X.env = (false, eval e X.env) :: starEach es X.env := by rfl)
    (hpl : ((backTo pos (starEach (e :: es) X.env)).any (·.1) || (backToKw pos (keywordEach kws X.env)).any (·.1.isNone)) = false := by rfl) :
    DE X G0 (.Call (.Name x p) (e :: es) kws pos) (tCallNG n ks.length (liftSp K sp) (fun vs zs => pick vs ms zs src) E t tk) (aCallN n ks.length src md sp ED at' ak) := by
  subst hK; exact de_callN hx hl g hm hk hmd hr hgd ha hkw hg hall hks hdb he hpl
theorem de_methNK {pl : Sem Bool} (K : PySem.W.Frag) (hx : ∀ σ, PassesAt CX X σ (E σ)) (hl : LiftS K G0 E ED) (hc : Cls K (He.ga K c)) (hm : Meth K (He.ga K c) m fa) (g : FkN X.prog X.w K X.mg X.base CX k fa ps (n + 1) ks src ms sp) (hmd : ∀ G, IsDs K G md ms) (hr : Room k X.A) (hgd : X.A.guards = some [])
    (ho : DE X G0 o to ao) (ha : DA X G0 (e :: es) t at') (hkw : DK X G0 kws tk ak) (hK : X.K = K := by rfl) (hall : (backToKw pos (keywordEach kws X.env)).all (·.1.isSome) = true := by rfl) (hks : (backToKw pos (keywordEach kws X.env)).filterMap (·.1) = ks := by rfl)
    (hst : starEach (e :: es) X.env = (false, eval e X.env) :: starEach es X.env := by rfl)
    (hpl : ((backTo pos (starEach (e :: es) X.env)).any (·.1) || (backToKw pos (keywordEach kws X.env)).any (·.1.isNone)) = false := by rfl)
    (ht : eval (.Call (.Attribute o m apos) (e :: es) kws pos) X.env = (do
      let ov ← eval o X.env
      standAt apos.atName
      let (f, first) ← holding [ov] (getMethod ov m pl)
      callWith pos f first (backTo pos (starEach (e :: es) X.env)) (backToKw pos (keywordEach kws X.env))) := by rfl) :
    DE X G0 (.Call (.Attribute o m apos) (e :: es) kws pos) (tMethNG (He.ga K c) m n ks.length (liftSp K sp) (fun vs zs => pick vs ms zs src) E to t tk) (aMethN c m n ks.length src md sp ED ao at' ak) := by
  subst hK; exact de_methN hx hl hc hm g hmd hr hgd ho ha hkw hall hks hst hpl ht
theorem de_methK {pl : Sem Bool} (K : PySem.W.Frag) (hx : ∀ σ, PassesAt CX X σ (E σ)) (hl : LiftS K G0 E ED) (hc : Cls K (He.ga K c)) (hm : Meth K (He.ga K c) m fa) (g : FkM X.prog X.w K X.mg X.base CX k fa ps sp) (hr : Room k X.A) (hgd : X.A.guards = some [])
    (ho : DE X G0 o to ao) (ha : DA X G0 (e :: es) t at') (hK : X.K = K := by rfl) (hst : starEach (e :: es) X.env = (false, eval e X.env) :: starEach es X.env := by rfl) (hpl : (backTo pos (starEach es X.env)).any (·.1) = false := by rfl)
    (ht : eval (.Call (.Attribute o m apos) (e :: es) [] pos) X.env = (do
      let ov ← eval o X.env
      standAt apos.atName
      let (f, first) ← holding [ov] (getMethod ov m pl)
      callWith pos f first (backTo pos (starEach (e :: es) X.env)) (backToKw pos (keywordEach [] X.env))) := by rfl) :
    DE X G0 (.Call (.Attribute o m apos) (e :: es) [] pos) (tMethD (He.ga K c) m (liftSp K sp) [] E to t) (aMeth c m sp [] ED ao at') := by
  subst hK; exact de_meth hx hl hc hm g hr hgd ho ha hst hpl ht
theorem de_meth0K {pl : Sem Bool} (K : PySem.W.Frag) (hx : ∀ σ, PassesAt CX X σ (E σ)) (hl : LiftS K G0 E ED) (hc : Cls K (He.ga K c)) (hm : Meth K (He.ga K c) m fa) (g : FkM X.prog X.w K X.mg X.base CX k fa ps sp) (hr : Room k X.A) (hgd : X.A.guards = some [])
    (ho : DE X G0 o to ao) (hK : X.K = K := by rfl)
    (ht : eval (.Call (.Attribute o m apos) [] [] pos) X.env = (do
      let ov ← eval o X.env
      standAt apos.atName
      let (f, first) ← holding [ov] (getMethod ov m pl)
      callWith pos f first (backTo pos (starEach [] X.env)) (backToKw pos (keywordEach [] X.env))) := by rfl) :
    DE X G0 (.Call (.Attribute o m apos) [] [] pos) (tMethD (He.ga K c) m (liftSp K sp) [] E to tNil) (aMeth c m sp [] ED ao aNil) := by
  subst hK; exact de_meth0 hx hl hc hm g hr hgd ho ht
theorem de_makeK (K : PySem.W.Frag) (hx : ∀ σ, PassesAt CX X σ (E σ)) (hl : LiftS K G0 E ED) (M : Mk K (He.ga K x) fa) (g : FkM X.prog X.w K X.mg X.base CX k fa ps sp) (hm : X.mg x = some (.ref (He.ga K x))) (hr : Room (k + 1) X.A) (hgd : X.A.guards = some [])
    (ha : DA X G0 (e :: es) t at') (hK : X.K = K := by rfl) (hg : Gl X x := by rfl) (hdb : (x == ("__debug__" : Str)) = false := by decide) (he : starEach (e :: es) X.env = (false, eval e X.env) :: starEach es X.env := by rfl) (hpl : (backTo pos (starEach es X.env)).any (·.1) = false := by rfl) :
    DE X G0 (.Call (.Name x p) (e :: es) [] pos) (tMakeD (He.ga K x) (liftSp K sp) [] E t) (aMake x sp [] ED at') := by
  subst hK; exact de_make hx hl M g hm hr hgd ha hg hdb he hpl
theorem de_make0K (K : PySem.W.Frag) (hx : ∀ σ, PassesAt CX X σ (E σ)) (hl : LiftS K G0 E ED) (M : Mk K (He.ga K x) fa) (g : FkM X.prog X.w K X.mg X.base CX k fa ps sp) (hm : X.mg x = some (.ref (He.ga K x))) (hr : Room (k + 1) X.A) (hgd : X.A.guards = some [])
    (hK : X.K = K := by rfl) (hg : Gl X x := by rfl) (hdb : (x == ("__debug__" : Str)) = false := by decide) :
    DE X G0 (.Call (.Name x p) [] [] pos) (tMakeD (He.ga K x) (liftSp K sp) [] E tNil) (aMake x sp [] ED aNil) := by
  subst hK; exact de_make0 hx hl M g hm hr hgd hg hdb
end
/-! ### an object and what its fields own stand for good -/
def frzFs (W : Wd) : List (Str × D) → Option (List (Str × D) × Wd)
  | [] => some ([], W)
  | (f, .ptr a) :: r => match W a with
    | some m => match frzD m with
      | some d => match frzFs (W.del a) r with
        | some (r', W') => some ((f, d) :: r', W')
        | none => none
      | none => none
    | none => none
  | (f, d) :: r => match frzFs W r with
    | some (r', W') => some ((f, d) :: r', W')
    | none => none
theorem frzFs_at {K : PySem.W.Frag} {H : Hp} : ∀ {fs fs' : List (Str × D)} {vs : List (Str × V)} {G : Hp} {W W' : Wd}, Rel K G H W → IsFs K G fs vs → frzFs W fs = some (fs', W') → ∃ G', Same G G' ∧ Rel K G' H W' ∧ IsFs K G' fs' vs
  | [], _, _, G, W, W', R, h, e => by cases e; exact ⟨G, Same.refl G, R, h⟩
  | (f, d) :: r, fs', vs, G, W, W', R, h, e => by
    obtain ⟨v, r', rfl, h1, h2⟩ := h
    cases d with
    | ptr a =>
      simp only [frzFs] at e
      split at e
      · rename_i m hm
        split at e
        · rename_i d hd
          split at e
          · rename_i r2 W2 e2
            cases e
            obtain ⟨G1, s1, R1, q1⟩ := frz_at R hm hd
            obtain ⟨G2, s2, R2, q2⟩ := frzFs_at R1 (IsFs.up s1 h2) e2
            cases (show v = .ref a from h1)
            exact ⟨G2, s1.trans s2, R2, _, _, rfl, IsD.up s2 _ _ q1, q2⟩
          · cases e
        · cases e
      · cases e
    | _ =>
      simp only [frzFs] at e
      split at e
      · rename_i r2 W2 e2
        cases e
        obtain ⟨G2, s2, R2, q2⟩ := frzFs_at R h2 e2
        exact ⟨G2, s2, R2, _, _, rfl, IsD.up s2 _ _ h1, q2⟩
      · cases e
def aFrzO (i : Nat) (b : AS) : AS := fun A δ W => ∃ l n fs fs' W', δ[i]? = some (some (.ptr l)) ∧ W l = some (.obj n fs) ∧ frzFs (W.del l) fs = some (fs', W') ∧ b A (δ.set i (some (.fobj n fs'))) W'
theorem st_same {i : Nat} {v : V} {σ : L2.St} (e : σ[i]? = some (some v)) : σ.set i (some v) = σ := by
  apply List.ext_getElem?
  intro j
  by_cases hj : i = j
  · subst hj
    rw [List.getElem?_set]
    split
    · split
      · rw [e]
      · rename_i hlt
        rw [List.getElem?_eq_none (by omega)] at e
        cases e
    · rfl
  · rw [List.getElem?_set_ne hj]
theorem dss_frzO (i : Nat) {X : Cx} {G0 : Hp} {sts : List Stmt} {t : TS} {a : AS} (h : DSs X G0 sts t a) : DSs X G0 sts t (aFrzO i a) := ⟨h.ps, fun E A σ H G δ W s0 R S eo q => by
  obtain ⟨l, n, fs, fs', W', e1, e2, f, q⟩ := q
  obtain ⟨v, e3, q3⟩ := S.get i _ e1
  cases (show v = .ref l from q3)
  obtain ⟨gp, o, eo', dx, vs, rfl, hf⟩ := R.own _ _ e2
  obtain ⟨G1, s1, R1, hf1⟩ := frzFs_at (R.drop l) hf f
  have nl : G1 l = none ∨ ∃ u, G1 l = some u := by cases e : G1 l with | none => exact .inl rfl | some u => exact .inr ⟨u, rfl⟩
  -- l stands for good from here on
  have Wl : W' l = none ∨ W' l ≠ none := by cases e : W' l with | none => exact .inl rfl | some u => exact .inr (by simp)
  have R2 : ∃ G2, Same G1 G2 ∧ Rel X.K G2 H W' ∧ G2 l = some (.ins (He.ga X.K n) dx vs) := by
    rcases nl with nl | ⟨u, nl⟩
    · refine ⟨upd G1 l (.ins (He.ga X.K n) dx vs), same_updG nl, ⟨fun b u e => ?_, fun l' m e => ?_⟩, upd_same⟩
      · by_cases hb : b = l
        · subst hb; rw [upd_same] at e; cases e; exact .inl eo'
        · rw [upd_ne hb] at e; exact R1.st b u e
      · obtain ⟨g, u, e5, q5⟩ := R1.own l' m e
        have ne : l' ≠ l := fun z => by
          subst z
          have : ∀ {fs fs' : List (Str × D)} {W W' : Wd}, W l' = none → frzFs W fs = some (fs', W') → W' l' = none := by
            intro fs
            induction fs with
            | nil => intro fs' W W' h1 h2; cases h2; exact h1
            | cons x r ih =>
              intro fs' W W' h1 h2
              obtain ⟨f, d⟩ := x
              cases d with
              | ptr a =>
                simp only [frzFs] at h2
                split at h2
                · split at h2
                  · split at h2
                    · rename_i r2 W2 e2
                      cases h2
                      refine ih ?_ e2
                      simp only [Wd.del]; split
                      · rfl
                      · exact h1
                    · cases h2
                  · cases h2
                · cases h2
              | _ =>
                simp only [frzFs] at h2
                split at h2
                · rename_i r2 W2 e2; cases h2; exact ih h1 e2
                · cases h2
          have := this (fs := fs) (W := W.del l') (by simp [Wd.del]) f
          rw [this] at e
          cases e
        exact ⟨by rw [upd_ne ne]; exact g, u, e5, q5.up (same_updG nl)⟩
    · rcases R1.st l u nl with h1 | ⟨w, h1, hd⟩
      · rw [eo'] at h1; cases h1; exact ⟨G1, Same.refl _, R1, nl⟩
      · rw [eo'] at h1; cases h1
  obtain ⟨G2, s2, R2, g2⟩ := R2
  have s02 := s1.trans s2
  refine h.sim E A σ H G2 _ _ (s0.trans s02) R2 ?_ (eo.up s02) q
  have S2 := (S.up s02).set i (d := .fobj n fs') (v := .ref l) ⟨l, dx, vs, rfl, g2, IsFs.up s2 hf1⟩
  rw [st_same e3] at S2
  exact S2⟩
/-! ### the head -/
abbrev Lk := PySem.W.Frag → Bool
def obsX (fa : List He.Fa) (fn : List He.DefD) (xs : List Lk) (K : PySem.W.Frag) : Bool × He.AlD := (xs.all fun x => x K, He.obsD fa fn K)
def SaysX (fa : List He.Fa) (fn : List He.DefD) (xs : List Lk) (K : PySem.W.Frag) : Prop := obsX fa fn xs K = (true, He.valD fn)
theorem SaysX.d {fa : List He.Fa} {fn : List He.DefD} {xs : List Lk} {K : PySem.W.Frag} (c : SaysX fa fn xs K) : He.SaysD fa fn K := congrArg (fun z : Bool × He.AlD => z.2) c
theorem SaysX.x {fa : List He.Fa} {fn : List He.DefD} {xs : List Lk} {K : PySem.W.Frag} (c : SaysX fa fn xs K) (i : Nat) {x : Lk} (h : xs[i]? = some x := by rfl) : x K = true := by
  have h1 : (xs.all fun x => x K) = true := congrArg (fun z : Bool × He.AlD => z.1) c
  exact List.all_eq_true.mp h1 x (List.mem_of_getElem? h)
def hookX (n : Nat) (fa : List He.Fa) (fn : List He.DefD) (xs : List Lk) : PySem.W.Hook where
  α := Bool × He.AlD
  obs := fun s => obsX fa fn xs (He.frG s.heap.get? (sysModules :: He.asD s.heap.get? n))
  val := fun _ => (true, He.valD fn)
  says := fun _ h => ∃ K : PySem.W.Frag, K.In h ∧ SaysX fa fn xs K
  of := fun _ _ e => ⟨_, He.frG_in, e⟩
  keeps := fun _ _ _ ⟨K, hK, c⟩ k => ⟨K, PySem.W.Frag.In.keeps hK k, c⟩
def obsXG (n : Nat) (fa : List He.Fa) (fn : List He.DefD) (xs : List Lk) (g : Addr → Option Obj) : Bool × He.AlD := obsX fa fn xs (He.frG g (sysModules :: He.asD g n))
theorem obsXG_eq {n : Nat} {fa : List He.Fa} {fn : List He.DefD} {xs : List Lk} {g : Addr → Option Obj} {s : Shared} (h : ∀ a, g a = s.heap.get? a) : obsXG n fa fn xs g = (hookX n fa fn xs).obs s := by
  have e : g = s.heap.get? := funext h
  rw [e]; rfl
/-- what isinstance asks of a caught exception -/
def lkExc (n : Str) : Lk := fun K => decide (PySem.W.findIn K (.ref (He.ga K n)) "__getattribute__" = some (some (.builtin "BaseException.__getattribute__"))) && (decide (PySem.W.findIn K (.ref (He.ga K n)) "__getattr__" = some none) && (decide (PySem.W.subIn K (.ref (He.ga K n)) (.type "BaseException") = some true) && (PySem.W.hasDictIn K (He.ga K n) &&
  (decide (PySem.W.findIn K (.ref (He.ga K n)) "__class__" = some (some (.builtin "object.__class__"))) && (decide (PySem.W.specialIn K (.builtin "object.__class__") "__get__" = some (some (.builtin "getset_descriptor.__get__"))) && (decide (PySem.W.takesIn K (.builtin "object.__class__") = some true) && decide (PySem.W.mroIn K (He.ga K n) (.type "object") = some true)))))))
theorem lkExc_ok {K : PySem.W.Frag} {n : Str} (h : lkExc n K = true) : ExcC K (He.ga K n) := by
  unfold lkExc at h
  simp only [Bool.and_eq_true, decide_eq_true_eq] at h
  obtain ⟨h1, h2, h3, h4, h5, h6, h7, h8⟩ := h
  exact ⟨h1, h2, h3, h4, h5, h6, h7, h8⟩
/-- n's instances are instances of the class m | of the built-in class m -/
def lkIs (n m : Str) (b : Bool) : Lk := fun K => decide (PySem.W.kitOne K (.ref (He.ga K n)) (.ref (He.ga K m)) = some b)
theorem lkIs_ok {K : PySem.W.Frag} {n m : Str} {b : Bool} (h : lkIs n m b K = true) : PySem.W.kitOne K (.ref (He.ga K n)) (.ref (He.ga K m)) = some b := of_decide_eq_true h
def lkIsT (n : Str) (m : String) (b : Bool) : Lk := fun K => decide (PySem.W.kitOne K (.ref (He.ga K n)) (.type m) = some b)
theorem lkIsT_ok {K : PySem.W.Frag} {n : Str} {m : String} {b : Bool} (h : lkIsT n m b K = true) : PySem.W.kitOne K (.ref (He.ga K n)) (.type m) = some b := of_decide_eq_true h
end DL

/-! DLp: positions as a test; subterms. -/
namespace DL
open PySem PySem.Spec PyProof.Rows L2
section
variable {δ δ' : Sl} {W W1 : Wd} {Q : DQ} {A : AEnds} {a b c : AE} {l tk : AA} {s : AS} {d e : D} {ds es : List D} {n f m : Str} {fs : List (Str × D)} {q : Addr} {sp : SpD} {dds : List D} {ED WD : AW} {i : Nat} {ab : AW → AS} {asu : Addr → AS} {as1 : AS} {nm : List Str} {k : Bool}
theorem go_intB (h : Q (.int (if k = true then 1 else 0)) W) : dInt [.bl k] W Q := h
theorem go_callX (h : l δ W fun ds W1 => sp (ds ++ dds) W1 Q (ED δ)) : aCallX sp dds ED l δ W Q := h
theorem go_callXN {E : DX} (h : sp ds W Q E) : sp (ds ++ []) W Q E := by rw [List.append_nil]; exact h
theorem go_raise (h : WD δ n [] W) : aRaise n WD A δ W := h
theorem go_try (h : ab (fun δ' n' _ W' => n' ∈ nm ∧ as1 A δ' W') A δ W) : aTry nm ab as1 A δ W := h
theorem go_tryAs (h : ab (fun δ' n' fs W' => n' = n ∧ fs = [] ∧ ∀ a, W' a = none → asu a (Acut i A) (δ'.set i (some (.ptr a))) W') A δ W) : aTryAs i n ab asu A δ W := h
theorem go_isE (h0 : δ[i]? = some (some (.ptr q))) (h : Q (.bl k) W) : aIsE i q k δ W Q := ⟨h0, h⟩
theorem go_fld (h : a δ W fun x W1 => ∃ fs d, objOf W1 x = some (n, fs) ∧ fs.lookup f = some d ∧ Q d W1) : aFld n f a δ W Q := h
theorem go_fldV {N : D → Prop} (h0 : objOf W e = some (n, fs)) (h1 : fs.lookup f = some d) (h : N d) : ∃ fs d, objOf W e = some (n, fs) ∧ fs.lookup f = some d ∧ N d := ⟨fs, d, h0, h1, h⟩
theorem go_fldS (h : b δ W fun y W1 => a δ W1 fun x W2 => ∃ l fs, x = .ptr l ∧ W2 l = some (.obj n fs) ∧ fs.length < 1000 ∧ A.nx δ (W2.set l (.obj n (putD f y fs)))) : aFldS n f a b A δ W := h
theorem go_meth (h : a δ W fun x W1 => (∃ fs, objOf W1 x = some (n, fs) ∧ fs.lookup m = none) ∧ l δ W1 fun ds W2 => sp (x :: (ds ++ dds)) W2 Q (ED δ)) : aMeth n m sp dds ED a l δ W Q := h
theorem go_methV {p : Prop} (h0 : objOf W e = some (n, fs)) (h1 : fs.lookup m = none) (h : p) : (∃ fs, objOf W e = some (n, fs) ∧ fs.lookup m = none) ∧ p := ⟨⟨fs, h0, h1⟩, h⟩
theorem go_methA {E : DX} (h : sp (d :: ds) W Q E) : sp (d :: (ds ++ [])) W Q E := by rw [List.append_nil]; exact h
theorem go_callKw {x y : Nat} {src : List Src} {ms : List D} (h : l δ W fun ds W1 => tk δ W1 fun zs W2 => ds.length = x ∧ zs.length = y ∧ sp (pick ds ms zs src) W2 Q (ED δ)) : aCallN x y src ms sp ED l tk δ W Q := h
theorem go_methN {x y : Nat} {src : List Src} {ms : List D} (h : a δ W fun z W1 => (∃ fs, objOf W1 z = some (n, fs) ∧ fs.lookup m = none) ∧ l δ W1 fun ds W2 => tk δ W2 fun zs W3 => ds.length = x ∧ zs.length = y ∧ sp (pick (z :: ds) ms zs src) W3 Q (ED δ)) : aMethN n m x y src ms sp ED a l tk δ W Q := h
theorem go_make (h : l δ W fun ds W1 => ∀ l, W1 l = none → sp (.ptr l :: (ds ++ dds)) (W1.set l (.obj n [])) (fun v W2 => v = .non ∧ Q (.ptr l) W2) (ED δ)) : aMake n sp dds ED l δ W Q := h
theorem go_frzO {l : Addr} {fs' : List (Str × D)} (h0 : δ[i]? = some (some (.ptr l))) (hw : W l = some (.obj n fs)) (hf : frzFs (W.del l) fs = some (fs', W1)) (hs : δ.set i (some (.fobj n fs')) = δ') (h : s A δ' W1) : aFrzO i s A δ W := by subst hs; exact ⟨l, n, fs, fs', W1, h0, hw, hf, h⟩
end
def Trm.hasArg : Trm → Int → Bool
  | .var _, _ => false
  | .app _ ts, k => decide (1 ≤ k) && decide (k ≤ ts.length)
theorem Trm.hasArg_app {t : Trm} {i : Int} (h : t.hasArg i = true) : ∃ f ts x, t = .app f ts ∧ 1 ≤ i ∧ ts[(i - 1).toNat]? = some x := by
  cases t with
  | var v => cases h
  | app f ts =>
    unfold Trm.hasArg at h
    simp only [Bool.and_eq_true, decide_eq_true_eq] at h
    have hl : (i - 1).toNat < ts.length := by omega
    exact ⟨f, ts, ts[(i - 1).toNat], rfl, h.1, List.getElem?_eq_getElem hl⟩
def Trm.isPos : Trm → List Int → Bool
  | _, [] => true
  | .var _, _ :: _ => false
  | .app _ ts, i :: p => if 1 ≤ i then match ts[(i - 1).toNat]? with
    | some t => t.isPos p
    | none => false
    else false
def Trm.at : Trm → List Int → Trm
  | t, [] => t
  | .var v, _ :: _ => .var v
  | .app f ts, i :: p => match ts[(i - 1).toNat]? with
    | some t => t.at p
    | none => .app f ts
theorem isPos_cons {f : Str} {ts : List Trm} {i : Int} {x : Trm} {p : List Int} (h1 : 1 ≤ i) (h2 : ts[(i - 1).toNat]? = some x) : (Trm.app f ts).isPos (i :: p) = x.isPos p := by
  rw [Trm.isPos, if_pos h1]; split
  · rename_i e; rw [h2] at e; cases e; rfl
  · rename_i e; rw [h2] at e; cases e
theorem at_cons {f : Str} {ts : List Trm} {i : Int} {x : Trm} {p : List Int} (h2 : ts[(i - 1).toNat]? = some x) : (Trm.app f ts).at (i :: p) = x.at p := by
  rw [Trm.at]; split
  · rename_i e; rw [h2] at e; cases e; rfl
  · rename_i e; rw [h2] at e; cases e
theorem isPos_no {t : Trm} {i : Int} {p : List Int} (h : t.hasArg i = false) : t.isPos (i :: p) = false := by
  cases t with
  | var v => rfl
  | app f ts =>
    rw [Trm.isPos]
    split
    · rename_i h1
      split
      · rename_i e
        have hl : (i - 1).toNat < ts.length := by
          by_cases g : (i - 1).toNat < ts.length
          · exact g
          · rw [List.getElem?_eq_none (by omega)] at e; cases e
        unfold Trm.hasArg at h
        simp only [h1, decide_true, Bool.true_and, decide_eq_false_iff_not] at h
        omega
      · rfl
    · rfl
theorem isPos_step {t : Trm} {i : Int} {p : List Int} (h : t.isPos (i :: p) = true) : ∃ f ts x, t = .app f ts ∧ 1 ≤ i ∧ ts[(i - 1).toNat]? = some x ∧ x.isPos p = true := by
  cases g : t.hasArg i with
  | false => rw [isPos_no g] at h; cases h
  | true =>
    obtain ⟨f, ts, x, rfl, h1, h2⟩ := Trm.hasArg_app g
    rw [isPos_cons h1 h2] at h
    exact ⟨f, ts, x, rfl, h1, h2, h⟩
theorem Pos.isPos {t : Trm} {p : List Int} (h : Pos t p) : t.isPos p = true := by
  induction h with
  | nil => rw [Trm.isPos]
  | cons h0 h1 _ ih => rw [isPos_cons h0 h1]; exact ih
theorem pos_of {p : List Int} : ∀ {t : Trm}, t.isPos p = true → Pos t p := by
  induction p with
  | nil => intro t _; exact .nil
  | cons i p ih =>
    intro t h
    obtain ⟨f, ts, x, rfl, h1, h2, h3⟩ := isPos_step h
    exact .cons h1 h2 (ih h3)
theorem isPos_app {t : Trm} {p r : List Int} (h : t.isPos p = true) : t.isPos (p ++ r) = (t.at p).isPos r := by
  induction p generalizing t with
  | nil => rw [List.nil_append, Trm.at]
  | cons i p ih =>
    obtain ⟨f, ts, x, rfl, h1, h2, h3⟩ := isPos_step h
    rw [List.cons_append, isPos_cons h1 h2, at_cons h2, ih h3]
theorem put_isPos {t u : Trm} {p : List Int} (h : t.isPos p = true) : (t.put p u).isPos p = true := by
  induction p generalizing t with
  | nil => rw [Trm.isPos]
  | cons i p ih =>
    obtain ⟨f, ts, x, rfl, h1, h2, h3⟩ := isPos_step h
    rw [put_cons h2]
    have hl : (i - 1).toNat < ts.length := by
      by_cases g : (i - 1).toNat < ts.length
      · exact g
      · rw [List.getElem?_eq_none (by omega)] at h2; cases h2
    rw [isPos_cons h1 (List.getElem?_set_self hl)]
    exact ih h3
theorem put_back {t u : Trm} {p : List Int} (h : t.isPos p = true) : (t.put p u).put p (t.at p) = t := by
  induction p generalizing t with
  | nil => rw [Trm.put, Trm.at]
  | cons i p ih =>
    obtain ⟨f, ts, x, rfl, h1, h2, h3⟩ := isPos_step h
    have hl : (i - 1).toNat < ts.length := by
      by_cases g : (i - 1).toNat < ts.length
      · exact g
      · rw [List.getElem?_eq_none (by omega)] at h2; cases h2
    rw [put_cons h2, put_cons (List.getElem?_set_self hl), at_cons h2, ih h3, List.set_set]
    congr 1
    rw [List.getElem?_eq_getElem hl] at h2
    cases h2
    exact List.set_getElem_self hl
theorem at_size {t : Trm} {p : List Int} (h : t.isPos p = true) : (t.at p).size ≤ t.size ∧ (t.at p).depth + p.length ≤ t.depth := by
  induction p generalizing t with
  | nil => rw [Trm.at]; exact ⟨Nat.le_refl _, by simp⟩
  | cons i p ih =>
    obtain ⟨f, ts, x, rfl, h1, h2, h3⟩ := isPos_step h
    rw [at_cons h2, Trm.size, Trm.depth, List.length_cons]
    have := ih h3
    have := size_mem (List.mem_of_getElem? h2)
    have := Trm.depths_le (List.mem_of_getElem? h2)
    omega
end DL

/-! DLq: names; signatures. -/
namespace DL
open PySem PySem.Spec PyProof.Rows L2
theorem go_ninC {z : Str} {c : Nat} {W : Wd} {Q : DQ} (h : Q (.bl (!decide (c ∈ z.cps.toList))) W) : dIn true (.str ⟨#[c]⟩) (.str z) W Q := ⟨_, rfl, by rw [if_pos rfl, StrLaws.found_one]; exact h⟩
theorem go_inC {z : Str} {c : Nat} {W : Wd} {Q : DQ} (h : Q (.bl (decide (c ∈ z.cps.toList))) W) : dIn false (.str ⟨#[c]⟩) (.str z) W Q := ⟨_, rfl, by rw [if_neg (by decide), StrLaws.found_one]; exact h⟩
theorem abc_list : ("abcdefghijklmnopqrstuvwxyz" : Str).cps.toList = List.range' 97 26 := by decide +kernel
theorem mem_abc (c : Nat) : c ∈ ("abcdefghijklmnopqrstuvwxyz" : Str).cps.toList ↔ 97 ≤ c ∧ c ≤ 122 := by rw [abc_list, List.mem_range'_1]; omega
def isName (x : Str) : Bool := (x.cps.toList.all fun c => decide (97 ≤ c ∧ c ≤ 122)) && decide (1 ≤ x.length ∧ x.length ≤ 8)
theorem Nm.isName {x : Str} (h : Nm x) : isName x = true := by
  unfold DL.isName
  rw [Bool.and_eq_true, List.all_eq_true, decide_eq_true_eq]
  exact ⟨fun c hc => decide_eq_true (h.1 c hc), h.2.1, by have := h.2.2; omega⟩
abbrev SgS := List (Str × Int × Bool)
def SgS.names (S : SgS) : List Str := S.map (·.1)
def SgS.ars (S : SgS) : List (Key × D) := S.map fun x => (.inr x.1, .int x.2.1)
def SgS.flgs (S : SgS) : List (Key × D) := S.map fun x => (.inr x.1, .bl x.2.2)
def SgS.find (S : SgS) (n : Str) : Option (Int × Bool) := (List.find? (fun x => decide (x.1 = n)) S).map (·.2)
def sgFs (a b c : D) : List (Str × D) := [("order", a), ("arities", b), ("flags", c)]
def sgD (S : SgS) : D := .fobj "Signature" (sgFs (.lst (S.names.map .str)) (.dk S.ars) (.dk S.flgs))
def sgM (a b c : Addr) : MO := .obj "Signature" (sgFs (.ptr a) (.ptr b) (.ptr c))
structure Dst4 (p a b c : Addr) : Prop where
  pa : p ≠ a
  pb : p ≠ b
  pc : p ≠ c
  ab : a ≠ b
  ac : a ≠ c
  bc : b ≠ c
def sgW0 (W : Wd) (p a b c : Addr) (l : MO) (x y : MO) : Wd := (((W.set p (sgM a b c)).set a l).set b x).set c y
def sgW (W : Wd) (p a b c : Addr) (S : SgS) : Wd := sgW0 W p a b c (.lst (S.names.map .str)) (.dk S.ars) (.dk S.flgs)
section
variable {W : Wd} {p a b c : Addr} {l l' x x' y y' : MO}
theorem Dst4.atp (d : Dst4 p a b c) : sgW0 W p a b c l x y p = some (sgM a b c) := by rw [sgW0, Wd.set_ne d.pc, Wd.set_ne d.pb, Wd.set_ne d.pa, Wd.set_same]
theorem Dst4.ata (d : Dst4 p a b c) : sgW0 W p a b c l x y a = some l := by rw [sgW0, Wd.set_ne d.ac, Wd.set_ne d.ab, Wd.set_same]
theorem Dst4.atb (d : Dst4 p a b c) : sgW0 W p a b c l x y b = some x := by rw [sgW0, Wd.set_ne d.bc, Wd.set_same]
theorem Dst4.atc : sgW0 W p a b c l x y c = some y := by rw [sgW0, Wd.set_same]
theorem Dst4.sa (d : Dst4 p a b c) : (sgW0 W p a b c l x y).set a l' = sgW0 W p a b c l' x y := by
  funext z; simp only [sgW0, Wd.set]; have := d.ab; have := d.ac; have := d.pa; by_cases h : z = a <;> simp_all
theorem Dst4.sb (d : Dst4 p a b c) : (sgW0 W p a b c l x y).set b x' = sgW0 W p a b c l x' y := by
  funext z; simp only [sgW0, Wd.set]; have := d.bc; by_cases h : z = b <;> simp_all
theorem Dst4.sc (d : Dst4 p a b c) : (sgW0 W p a b c l x y).set c y' = sgW0 W p a b c l x y' := by
  funext z; simp only [sgW0, Wd.set]; by_cases h : z = c <;> simp_all
theorem Dst4.del (d : Dst4 p a b c) (h1 : W p = none) (h2 : W a = none) (h3 : W b = none) (h4 : W c = none) : ((((sgW0 W p a b c l x y).del p).del a).del b).del c = W := by
  funext z; simp only [sgW0, Wd.set, Wd.del]
  by_cases hc : z = c
  · subst hc; simp [h4]
  · by_cases hb : z = b
    · subst hb; simp [hc, h3]
    · by_cases ha : z = a
      · subst ha; simp [hc, hb, h2]
      · by_cases hp : z = p
        · subst hp; simp [hc, hb, ha, h1]
        · simp [hc, hb, ha, hp]
theorem sg_frz (d : Dst4 p a b c) {S : SgS} (h1 : W p = none) (h2 : W a = none) (h3 : W b = none) (h4 : W c = none) : frzFs ((sgW W p a b c S).del p) (sgFs (.ptr a) (.ptr b) (.ptr c)) = some (sgFs (.lst (S.names.map .str)) (.dk S.ars) (.dk S.flgs), W) := by
  have ea : ((sgW W p a b c S).del p) a = some (.lst (S.names.map .str)) := by simp only [Wd.del]; rw [if_neg (Ne.symm d.pa)]; exact d.ata
  have eb : (((sgW W p a b c S).del p).del a) b = some (.dk S.ars) := by simp only [Wd.del]; rw [if_neg (Ne.symm d.ab), if_neg (Ne.symm d.pb)]; exact d.atb
  have ec : ((((sgW W p a b c S).del p).del a).del b) c = some (.dk S.flgs) := by simp only [Wd.del]; rw [if_neg (Ne.symm d.bc), if_neg (Ne.symm d.ac), if_neg (Ne.symm d.pc)]; exact Dst4.atc
  simp only [sgFs, frzFs, ea, eb, ec, frzD]
  rw [show ((((sgW W p a b c S).del p).del a).del b).del c = W from d.del h1 h2 h3 h4]
end
theorem any_names {α : Type} {S : SgS} {n : Str} (g : Str × Int × Bool → α) : ((S.map fun x => ((.inr x.1 : Key), g x)).any fun kv => decide (kv.1 = .inr n)) = decide (n ∈ S.names) := by
  unfold SgS.names
  induction S with
  | nil => rfl
  | cons x S ih =>
    rw [List.map_cons, List.any_cons, ih, List.map_cons]
    by_cases h : x.1 = n
    · simp [h]
    · have h' : ¬ n = x.1 := fun e => h e.symm
      simp [h, h']
theorem look_names {α : Type} {S : SgS} {n : Str} (g : Str × Int × Bool → α) : look (S.map fun x => ((.inr x.1 : Key), g x)) (.inr n) = (List.find? (fun x => decide (x.1 = n)) S).map g := by
  unfold look
  induction S with
  | nil => rfl
  | cons x S ih =>
    rw [List.map_cons, List.find?_cons, List.find?_cons]
    by_cases h : x.1 = n
    · simp [h]
    · have e1 : decide (x.1 = n) = false := decide_eq_false h
      have e2 : decide ((.inr x.1 : Key) = .inr n) = false := decide_eq_false (by simpa using h)
      simp only [e1, e2]
      exact ih
theorem find_names {S : SgS} {n : Str} : (List.find? (fun x => decide (x.1 = n)) S).isSome = decide (n ∈ S.names) := by
  unfold SgS.names
  induction S with
  | nil => rfl
  | cons x S ih =>
    rw [List.find?_cons, List.map_cons]
    by_cases h : x.1 = n
    · simp [h]
    · have e1 : decide (x.1 = n) = false := decide_eq_false h
      have h' : ¬ n = x.1 := fun e => h e.symm
      simp only [e1, ih]
      simp [h']
theorem look_isSome_ars {S : SgS} {n : Str} : (look S.ars (.inr n)).isSome = decide (n ∈ S.names) := by
  rw [SgS.ars, look_names, Option.isSome_map, find_names]
theorem dput_new {S : SgS} {n : Str} (g : Str × Int × Bool → D) (x : Int × Bool) (h : n ∉ S.names) : dput (S.map fun x => ((.inr x.1 : Key), g x)) (.inr n) (g (n, x)) = (S ++ [(n, x)]).map fun x => ((.inr x.1 : Key), g x) := by
  unfold dput
  rw [any_names, decide_eq_false h]
  simp
theorem names_app (S : SgS) (x : Str × Int × Bool) : SgS.names (S ++ [x]) = S.names ++ [x.1] := by simp [SgS.names]
theorem names_len (S : SgS) : S.names.length = S.length := List.length_map ..
theorem ars_len (S : SgS) : S.ars.length = S.length := List.length_map ..
theorem flgs_len (S : SgS) : S.flgs.length = S.length := List.length_map ..
theorem sg_done {W : Wd} {p a b c : Addr} {S : SgS} {n : Str} {r : Int} {f : Bool} (hm : n ∉ S.names) : sgW0 W p a b c (.lst (S.names.map .str ++ [.str n])) (.dk (dput S.ars (.inr n) (.int r))) (.dk (dput S.flgs (.inr n) (.bl f))) = sgW W p a b c (S ++ [(n, r, f)]) := by
  rw [show dput S.ars (.inr n) (.int r) = SgS.ars (S ++ [(n, r, f)]) from dput_new (fun x => .int x.2.1) (r, f) hm, show dput S.flgs (.inr n) (.bl f) = SgS.flgs (S ++ [(n, r, f)]) from dput_new (fun x => .bl x.2.2) (r, f) hm,
    show S.names.map D.str ++ [D.str n] = (SgS.names (S ++ [(n, r, f)])).map D.str by rw [names_app, List.map_append]; rfl]
  rfl
theorem objOf_sg (W : Wd) (S : SgS) : objOf W (sgD S) = some (("Signature" : Str), sgFs (.lst (S.names.map .str)) (.dk S.ars) (.dk S.flgs)) := rfl
theorem objOf_sgp {W : Wd} {p a b c : Addr} {l x y : MO} (d : Dst4 p a b c) : objOf (sgW0 W p a b c l x y) (.ptr p) = some (("Signature" : Str), sgFs (.ptr a) (.ptr b) (.ptr c)) := objOf_ptr d.atp
theorem go_fldP {W : Wd} {q : Addr} {n f : Str} {fs fs' : List (Str × D)} {d : D} {N : Wd → Prop} (hw : W q = some (.obj n fs)) (hl : fs.length < 1000) (h1 : putD f d fs = fs') (h : N (W.set q (.obj n fs'))) : ∃ l fs, D.ptr q = .ptr l ∧ W l = some (.obj n fs) ∧ fs.length < 1000 ∧ N (W.set l (.obj n (putD f d fs))) := by subst h1; exact ⟨q, fs, rfl, hw, hl, h⟩
section
variable {W : Wd} {p a b c : Addr} {S : SgS}
theorem Dst4.wp (d : Dst4 p a b c) : sgW W p a b c S p = some (.obj "Signature" (sgFs (.ptr a) (.ptr b) (.ptr c))) := d.atp
theorem Dst4.wa (d : Dst4 p a b c) : sgW W p a b c S a = some (.lst (S.names.map .str)) := d.ata
theorem Dst4.wb (d : Dst4 p a b c) : sgW W p a b c S b = some (.dk S.ars) := d.atb
theorem Dst4.wc (d : Dst4 p a b c) : sgW W p a b c S c = some (.dk S.flgs) := Dst4.atc
end
theorem sg_new {W : Wd} {p a b c : Addr} {m1 m2 m3 : MO} : ((((((W.set p m1).set a (.lst [])).set p m2).set b (.dk [])).set p m3).set c (.dk [])).set p (sgM a b c) = if p = a ∨ p = b ∨ p = c then ((((((W.set p m1).set a (.lst [])).set p m2).set b (.dk [])).set p m3).set c (.dk [])).set p (sgM a b c) else sgW W p a b c [] := by
  split
  · rfl
  · rename_i h
    funext z
    simp only [sgW, sgW0, Wd.set, SgS.names, SgS.ars, SgS.flgs, List.map_nil]
    by_cases hp : z = p
    · subst hp
      have h1 : z ≠ a := fun e => h (.inl e)
      have h2 : z ≠ b := fun e => h (.inr (.inl e))
      have h3 : z ≠ c := fun e => h (.inr (.inr e))
      simp [h1, h2, h3]
    · simp [hp]
theorem go_lenS {x : Str} {W : Wd} {Q : DQ} (h0 : x.length ≤ 1000000) (h : Q (.int x.length) W) : dLen [.str x] W Q := go_lenV (n := x.length) (by rw [lenOf_str, if_pos (by rw [sizeLine_val]; omega)]) h
theorem dkOf_no {W : Wd} {y : D} {kds : List (Key × D)} (h : dkOf W y = some kds) : (∃ z, y = .dk z) ∨ ∃ z, y = .ptr z := by
  cases y <;> first | exact .inl ⟨_, rfl⟩ | exact .inr ⟨_, rfl⟩ | (simp [dkOf] at h)
theorem go_inO {W : Wd} {y e : D} {kds : List (Key × D)} {k : Key} {Q : DQ} (h0 : dkOf W y = some kds) (h1 : keyOf e = some k) (h : Q (.bl (look kds k).isSome) W) : dIn false e y W Q := by
  rcases dkOf_no h0 with ⟨z, rfl⟩ | ⟨z, rfl⟩ <;> exact .inr ⟨_, .inl ⟨kds, k, h0, h1, rfl⟩, h⟩
theorem go_ninO {W : Wd} {y e : D} {kds : List (Key × D)} {k : Key} {Q : DQ} (h0 : dkOf W y = some kds) (h1 : keyOf e = some k) (h : Q (.bl (!(look kds k).isSome)) W) : dIn true e y W Q := by
  rcases dkOf_no h0 with ⟨z, rfl⟩ | ⟨z, rfl⟩ <;> exact .inr ⟨_, .inl ⟨kds, k, h0, h1, rfl⟩, h⟩
theorem go_ixO {W : Wd} {y e d : D} {kds : List (Key × D)} {k : Key} {Q : DQ} (h0 : dkOf W y = some kds) (h1 : keyOf e = some k) (h2 : look kds k = some d) (h : Q d W) : dIx y e W Q := by
  rcases dkOf_no h0 with ⟨z, rfl⟩ | ⟨z, rfl⟩ <;> exact .inr ⟨d, .inl ⟨kds, k, h0, h1, h2.symm⟩, h⟩
/-- a signature, in the making or for good -/
def SgAt (W : Wd) (x : D) (S : SgS) : Prop := ∃ a b c, objOf W x = some (("Signature" : Str), sgFs a b c) ∧ lstRd W a = some (S.names.map .str) ∧ dkOf W b = some S.ars ∧ dkOf W c = some S.flgs
theorem sgAt_f {W : Wd} {S : SgS} : SgAt W (sgD S) S := ⟨_, _, _, rfl, rfl, rfl, rfl⟩
theorem sgAt_p {W : Wd} {p a b c : Addr} {S : SgS} (d : Dst4 p a b c) : SgAt (sgW W p a b c S) (.ptr p) S := ⟨_, _, _, objOf_ptr d.wp, lstRd_ptr d.wa, dkOf_ptr d.wb, dkOf_ptr d.wc⟩
theorem find_some {S : SgS} {n : Str} (h : n ∈ S.names) : ∃ x, S.find n = some x := by
  have := find_names (S := S) (n := n)
  rw [decide_eq_true h, Option.isSome_iff_exists] at this
  obtain ⟨x, e⟩ := this
  exact ⟨x.2, by unfold SgS.find; rw [e]; rfl⟩
theorem look_ars {S : SgS} {n : Str} {r : Int} {f : Bool} (h : S.find n = some (r, f)) : look S.ars (.inr n) = some (.int r) := by
  rw [SgS.ars, look_names]
  unfold SgS.find at h
  cases e : List.find? (fun x => decide (x.1 = n)) S with
  | none => rw [e] at h; cases h
  | some x => rw [e] at h; obtain ⟨n', r', f'⟩ := x; simp at h; obtain ⟨rfl, rfl⟩ := h; rfl
theorem look_flgs {S : SgS} {n : Str} {r : Int} {f : Bool} (h : S.find n = some (r, f)) : look S.flgs (.inr n) = some (.bl f) := by
  rw [SgS.flgs, look_names]
  unfold SgS.find at h
  cases e : List.find? (fun x => decide (x.1 = n)) S with
  | none => rw [e] at h; cases h
  | some x => rw [e] at h; obtain ⟨n', r', f'⟩ := x; simp at h; obtain ⟨rfl, rfl⟩ := h; rfl
end DL

/-! DLr: sorted forms. -/
namespace DL
open PySem PySem.Spec PyProof.Rows L2
def swp (c : Bool) : List Trm → List Trm
  | [a, b] => if c = true ∧ cmpT b a < 0 then [b, a] else [a, b]
  | ts => ts
mutual
def Trm.srt (cm : Str → Bool) : Trm → Trm
  | .var v => .var v
  | .app f ts => .app f (swp (cm f) (Trm.srts cm ts))
def Trm.srts (cm : Str → Bool) : List Trm → List Trm
  | [] => []
  | t :: ts => t.srt cm :: Trm.srts cm ts
end
theorem srts_map (cm : Str → Bool) : ∀ ts : List Trm, Trm.srts cm ts = ts.map (Trm.srt cm)
  | [] => rfl
  | t :: ts => by rw [Trm.srts, srts_map cm ts, List.map_cons]
theorem swp_two {c : Bool} {a b : Trm} : swp c [a, b] = if c = true ∧ cmpT b a < 0 then [b, a] else [a, b] := rfl
theorem swp_else {c : Bool} {ts : List Trm} (h : ts.length ≠ 2) : swp c ts = ts := by
  match ts, h with
  | [], _ => rfl
  | [_], _ => rfl
  | [_, _], h => exact absurd rfl h
  | _ :: _ :: _ :: _, _ => rfl
theorem swp_no (ts : List Trm) : swp false ts = ts := by
  by_cases h : ts.length = 2
  · match ts, h with
    | [a, b], _ => rw [swp_two, if_neg (by simp)]
  · exact swp_else h
theorem swp_cases (c : Bool) (ts : List Trm) : swp c ts = ts ∨ ∃ a b, ts = [a, b] ∧ swp c ts = [b, a] := by
  by_cases h : ts.length = 2
  · match ts, h with
    | [a, b], _ =>
      rw [swp_two]
      split
      · exact .inr ⟨a, b, rfl, rfl⟩
      · exact .inl rfl
  · exact .inl (swp_else h)
theorem swp_length (c : Bool) (ts : List Trm) : (swp c ts).length = ts.length := by
  rcases swp_cases c ts with e | ⟨a, b, rfl, e⟩ <;> rw [e]; rfl
theorem swp_mem {c : Bool} {ts : List Trm} {t : Trm} (h : t ∈ swp c ts) : t ∈ ts := by
  rcases swp_cases c ts with e | ⟨a, b, rfl, e⟩
  · rwa [e] at h
  · rw [e] at h; simp at h ⊢; exact h.symm
theorem swp_sizes (c : Bool) (ts : List Trm) : Trm.sizes (swp c ts) = Trm.sizes ts := by
  rcases swp_cases c ts with e | ⟨a, b, rfl, e⟩ <;> rw [e]
  simp [Trm.sizes]; omega
theorem swp_depths (c : Bool) (ts : List Trm) : Trm.depths (swp c ts) = Trm.depths ts := by
  rcases swp_cases c ts with e | ⟨a, b, rfl, e⟩ <;> rw [e]
  simp [Trm.depths]; omega
theorem sizes_congr {g : Trm → Trm} : ∀ {ts : List Trm}, (∀ t ∈ ts, (g t).size = t.size) → Trm.sizes (ts.map g) = Trm.sizes ts
  | [], _ => rfl
  | t :: ts, h => by rw [List.map_cons, Trm.sizes, Trm.sizes, h t List.mem_cons_self, sizes_congr fun u hu => h u (List.mem_cons_of_mem _ hu)]
theorem depths_congr {g : Trm → Trm} : ∀ {ts : List Trm}, (∀ t ∈ ts, (g t).depth = t.depth) → Trm.depths (ts.map g) = Trm.depths ts
  | [], _ => rfl
  | t :: ts, h => by rw [List.map_cons, Trm.depths, Trm.depths, h t List.mem_cons_self, depths_congr fun u hu => h u (List.mem_cons_of_mem _ hu)]
section
variable {cm : Str → Bool}
theorem srt_size (t : Trm) : (t.srt cm).size = t.size := by
  induction t using Trm.ind with
  | hv n => rfl
  | ha f ts ih => rw [Trm.srt, Trm.size, Trm.size, swp_sizes, srts_map, sizes_congr ih]
theorem srt_depth (t : Trm) : (t.srt cm).depth = t.depth := by
  induction t using Trm.ind with
  | hv n => rfl
  | ha f ts ih => rw [Trm.srt, Trm.depth, Trm.depth, swp_depths, srts_map, depths_congr ih]
theorem Wf.srt {ops : Sig} {n : Int} {t : Trm} (h : Wf ops n t) : Wf ops n (t.srt cm) := by
  induction h with
  | var a b => exact .var a b
  | @app f ts h0 _ ih =>
    rw [Trm.srt, srts_map]
    refine .app (by rw [swp_length, List.length_map]; exact h0) fun t ht => ?_
    obtain ⟨u, hu, rfl⟩ := List.mem_map.mp (swp_mem ht)
    exact ih u hu
theorem cmp_pos {a b : Trm} (h : cmpT b a < 0) : ¬ cmpT a b < 0 := by have := cmpT_anti a b; omega
theorem swp_swp (c : Bool) (ts : List Trm) : swp c (swp c ts) = swp c ts := by
  by_cases h : ts.length = 2
  · match ts, h with
    | [a, b], _ =>
      rw [swp_two]
      split
      · rename_i g; rw [swp_two, if_neg fun z => cmp_pos g.2 z.2]
      · rename_i g; rw [swp_two, if_neg g]
  · rw [swp_else h, swp_else h]
theorem swp_fix {c : Bool} {ts : List Trm} (h : ∀ t ∈ ts, t.srt cm = t) : Trm.srts cm (swp c ts) = swp c ts := by
  rw [srts_map]
  refine (List.map_congr_left (g := id) fun t ht => h t (swp_mem ht)).trans (List.map_id _)
theorem srt_srt (t : Trm) : (t.srt cm).srt cm = t.srt cm := by
  induction t using Trm.ind with
  | hv n => rfl
  | ha f ts ih =>
    rw [Trm.srt, Trm.srt, swp_fix (ts := Trm.srts cm ts), swp_swp]
    intro t ht
    rw [srts_map] at ht
    obtain ⟨u, hu, rfl⟩ := List.mem_map.mp ht
    exact ih u hu
theorem Fit.srt {ar : Str → Nat} {t : Trm} (h : Fit ar t) : Fit ar (t.srt cm) := by
  induction h with
  | var => exact .var
  | @app f ts h0 _ ih =>
    rw [Trm.srt, srts_map]
    refine .app (by rw [swp_length, List.length_map]; exact h0) fun t ht => ?_
    obtain ⟨u, hu, rfl⟩ := List.mem_map.mp (swp_mem ht)
    exact ih u hu
theorem swp_comm {ar : Str → Nat} {a b : Trm} (ha : Fit ar a) (hb : Fit ar b) : swp true [b, a] = swp true [a, b] := by
  rw [swp_two, swp_two]
  have an := cmpT_anti a b
  by_cases h : cmpT a b < 0
  · rw [if_pos ⟨rfl, h⟩, if_neg fun z => by have := z.2; omega]
  · rw [if_neg fun z => h z.2]
    by_cases g : cmpT b a < 0
    · rw [if_pos ⟨rfl, g⟩]
    · rw [if_neg fun z => g z.2]
      have : cmpT a b = 0 := by omega
      have := (cmpT_zero ha hb).mp this
      rw [this]
theorem srt_swap {ar : Str → Nat} {f : Str} {a b : Trm} (hc : cm f = true) (ha : Fit ar a) (hb : Fit ar b) : (Trm.app f [b, a]).srt cm = (Trm.app f [a, b]).srt cm := by
  rw [Trm.srt, Trm.srt, hc, srts_map, srts_map]
  exact congrArg _ (swp_comm ha.srt hb.srt)
/-- the same name, arguments alike -/
theorem srt_args {f : Str} {ts us : List Trm} (h : ts.map (Trm.srt cm) = us.map (Trm.srt cm)) : (Trm.app f ts).srt cm = (Trm.app f us).srt cm := by
  rw [Trm.srt, Trm.srt, srts_map, srts_map, h]
end
/-! ### operations with flags -/
def FlOk (ops : Sig) (fl : List Bool) : Prop := fl.length = ops.length ∧ ∀ x ∈ ops.zip fl, x.2 = true → x.1.2 = 2
def mkS : Sig → List Bool → SgS
  | x :: xs, f :: fs => (x.1, (x.2 : Int), f) :: mkS xs fs
  | _, _ => []
def SgS.cm (S : SgS) (n : Str) : Bool := ((S.find n).map (·.2)).getD false
theorem mkS_len : ∀ {ops : Sig} {fl : List Bool}, fl.length = ops.length → (mkS ops fl).length = ops.length
  | [], [], _ => rfl
  | _ :: _, _ :: _, h => by rw [mkS, List.length_cons, List.length_cons, mkS_len (by simpa using h)]
  | [], _ :: _, h => by cases h
  | _ :: _, [], h => by cases h
theorem mkS_names : ∀ {ops : Sig} {fl : List Bool}, fl.length = ops.length → (mkS ops fl).names = ops.map Prod.fst
  | [], [], _ => rfl
  | x :: xs, f :: fs, h => by
    have := mkS_names (ops := xs) (fl := fs) (by simpa using h)
    unfold SgS.names at this ⊢
    rw [mkS, List.map_cons, List.map_cons, this]
  | [], _ :: _, h => by cases h
  | _ :: _, [], h => by cases h
theorem mkS_app : ∀ {ops : Sig} {fl : List Bool} {x : Str × Nat} {f : Bool}, fl.length = ops.length → mkS (ops ++ [x]) (fl ++ [f]) = mkS ops fl ++ [(x.1, (x.2 : Int), f)]
  | [], [], _, _, _ => rfl
  | y :: ys, g :: gs, x, f, h => by rw [List.cons_append, List.cons_append, mkS, mkS, List.cons_append, mkS_app (by simpa using h)]
  | [], _ :: _, _, _, h => by cases h
  | _ :: _, [], _, _, h => by cases h
/-- a flag says two arguments -/
theorem cm_two {ops : Sig} {fl : List Bool} (hf : FlOk ops fl) (hn : (ops.map Prod.fst).Nodup) {f : Str} {m : Nat} (hm : (f, m) ∈ ops) (h : (mkS ops fl).cm f = true) : m = 2 := by
  obtain ⟨hl, hz⟩ := hf
  unfold SgS.cm SgS.find at h
  induction ops generalizing fl with
  | nil => cases hm
  | cons x xs ih =>
    cases fl with
    | nil => cases hl
    | cons g gs =>
      rw [List.map_cons, List.nodup_cons] at hn
      rw [mkS, List.find?_cons] at h
      rcases List.mem_cons.mp hm with e | hm
      · subst e
        simp only [decide_true, Option.map_some, Option.getD_some] at h
        exact hz ((f, m), g) List.mem_cons_self h
      · have ne : x.1 ≠ f := fun e => hn.1 (e ▸ List.mem_map_of_mem hm)
        simp only [ne, decide_false] at h
        exact ih (fl := gs) hn.2 hm h (by simpa using hl) (fun y hy => hz y (List.mem_cons_of_mem _ hy))
theorem mem_names {ops : Sig} {fl : List Bool} (hl : fl.length = ops.length) {f : Str} {m : Nat} (hm : (f, m) ∈ ops) : f ∈ (mkS ops fl).names := by
  rw [mkS_names hl]; exact List.mem_map_of_mem (f := Prod.fst) hm
theorem cm_find {S : SgS} {n : Str} (h : n ∈ S.names) : ∃ r, S.find n = some (r, S.cm n) := by
  obtain ⟨⟨r, f⟩, e⟩ := find_some h
  exact ⟨r, by unfold SgS.cm; rw [e]; rfl⟩
/-- all names of it are known -/
inductive On (S : SgS) : Trm → Prop
  | var {v : Int} : On S (.var v)
  | app {f : Str} {ts : List Trm} (h0 : f ∈ S.names) (h1 : ∀ t ∈ ts, On S t) : On S (.app f ts)
theorem Wf.on {ops : Sig} {n : Int} {fl : List Bool} (hl : fl.length = ops.length) {t : Trm} (h : Wf ops n t) : On (mkS ops fl) t := by
  induction h with
  | var => exact .var
  | app h0 _ ih => exact .app (mem_names hl h0) ih
theorem On.args {S : SgS} {f : Str} {ts : List Trm} (h : On S (.app f ts)) : f ∈ S.names ∧ ∀ t ∈ ts, On S t := by
  cases h with | app h0 h1 => exact ⟨h0, h1⟩
theorem Wf.at {ops : Sig} {n : Int} {p : List Int} : ∀ {t : Trm}, Wf ops n t → t.isPos p = true → Wf ops n (t.at p) := by
  induction p with
  | nil => intro t h _; cases t <;> exact h
  | cons i p ih =>
    intro t h hp
    obtain ⟨f, ts, x, rfl, h1, h2, h3⟩ := isPos_step hp
    rw [at_cons h2]
    exact ih (h.args.2 x (List.mem_of_getElem? h2)) h3
theorem swp_eq {ar : Str → Nat} {c : Bool} {xs ys : List Trm} (hx : ∀ x ∈ xs, Fit ar x) : swp c xs = swp c ys ↔ xs = ys ∨ (c = true ∧ ∃ a b, xs = [a, b] ∧ ys = [b, a]) := by
  constructor
  · intro h
    by_cases e : c = true
    · subst e
      rcases swp_cases true xs with e1 | ⟨a, b, rfl, e1⟩ <;> rcases swp_cases true ys with e2 | ⟨a', b', rfl, e2⟩
      · rw [e1, e2] at h; exact .inl h
      · rw [e1, e2] at h; subst h; exact .inr ⟨rfl, b', a', rfl, rfl⟩
      · rw [e1, e2] at h; subst h; exact .inr ⟨rfl, a, b, rfl, rfl⟩
      · rw [e1, e2] at h
        simp at h
        obtain ⟨rfl, rfl⟩ := h
        exact .inl rfl
    · have e : c = false := by cases c <;> simp_all
      subst e
      rw [swp_no, swp_no] at h
      exact .inl h
  · rintro (rfl | ⟨rfl, a, b, rfl, rfl⟩)
    · rfl
    · exact (swp_comm (hx a (by simp)) (hx b (by simp))).symm
theorem srt_eq {ar : Str → Nat} {cm : Str → Bool} {f g : Str} {ts us : List Trm} (h : ∀ t ∈ ts, Fit ar t) : (Trm.app f ts).srt cm = (Trm.app g us).srt cm ↔ f = g ∧ (ts.map (Trm.srt cm) = us.map (Trm.srt cm) ∨ (cm f = true ∧ ∃ a b a' b', ts = [a, b] ∧ us = [a', b'] ∧ a.srt cm = b'.srt cm ∧ b.srt cm = a'.srt cm)) := by
  rw [Trm.srt, Trm.srt, srts_map, srts_map]
  constructor
  · intro e
    injection e with e1 e2
    subst e1
    refine ⟨rfl, ?_⟩
    rcases (swp_eq (fun x hx => by obtain ⟨u, hu, rfl⟩ := List.mem_map.mp hx; exact (h u hu).srt)).mp e2 with e3 | ⟨e3, a, b, e4, e5⟩
    · exact .inl e3
    · refine .inr ⟨e3, ?_⟩
      have l1 : ts.length = 2 := by have := congrArg List.length e4; simpa using this
      have l2 : us.length = 2 := by have := congrArg List.length e5; simpa using this
      obtain ⟨x, y, rfl⟩ : ∃ x y, ts = [x, y] := match ts, l1 with | [x, y], _ => ⟨x, y, rfl⟩
      obtain ⟨x', y', rfl⟩ : ∃ x y, us = [x, y] := match us, l2 with | [x, y], _ => ⟨x, y, rfl⟩
      simp at e4 e5
      exact ⟨x, y, x', y', rfl, rfl, by rw [e4.1, e5.2], by rw [e4.2, e5.1]⟩
  · rintro ⟨rfl, e3 | ⟨hc, a, b, a', b', rfl, rfl, e4, e5⟩⟩
    · rw [e3]
    · congr 1
      rw [hc]
      refine (swp_eq (ar := ar) (fun x hx => by obtain ⟨u, hu, rfl⟩ := List.mem_map.mp hx; exact (h u hu).srt)).mpr (.inr ⟨rfl, a.srt cm, b.srt cm, rfl, ?_⟩)
      simp [e4, e5]
end DL

/-! DLs: repr of anything: lists, tuples and dicts within each other. -/
namespace DL
open PySem PySem.Spec PyProof.Rows L2
def mapO {α β : Type} (f : α → Option β) : List α → Option (List β)
  | [] => some []
  | x :: xs => match f x, mapO f xs with
    | some y, some ys => some (y :: ys)
    | _, _ => none
theorem mapO_cons {α β : Type} {f : α → Option β} {x : α} {xs : List α} {zs : List β} (h : mapO f (x :: xs) = some zs) : ∃ y ys, f x = some y ∧ mapO f xs = some ys ∧ zs = y :: ys := by
  rw [mapO] at h
  split at h
  · rename_i y ys e1 e2; cases h; exact ⟨y, ys, e1, e2, rfl⟩
  · cases h
theorem mapO_of {α β : Type} {f : α → Option β} {g : α → β} : ∀ {xs : List α}, (∀ x ∈ xs, f x = some (g x)) → mapO f xs = some (xs.map g)
  | [], _ => rfl
  | x :: xs, h => by rw [mapO, h x List.mem_cons_self, mapO_of fun y hy => h y (List.mem_cons_of_mem _ hy)]; rfl
/-- what repr reads of d, n levels deep -/
def rpF (W : Wd) : Nat → D → Option PyData
  | 0, _ => none
  | n + 1, d => match d with
    | .non => some .none
    | .bl b => some (.bool b)
    | .int i => some (.int i)
    | .str x => some (.str x)
    | .tup ds => (mapO (rpF W n) ds).map .tuple
    | d => match dkOf W d with
      | some kds => (mapO (fun kd : Key × D => (rpF W n kd.2).map fun p => (keyP kd.1, p)) kds).map .dict
      | none => match dtOf W d with
        | some kds => (mapO (fun kd : List Key × D => (rpF W n kd.2).map fun p => (PyData.tuple (kd.1.map keyP), p)) kds).map .dict
        | none => match lstOf W d with
          | some ds => (mapO (rpF W n) ds).map .list
          | none => none
/-- the dict of the modules is known -/
def ModK (K : PySem.W.Frag) : Prop := ∃ o, K.lookup sysModules = some o ∧ o.cls ≠ .type "list"
section
variable {X : Cx} {pins : List (Addr × Obj)} {σ : L2.St} {G H : Hp} {s : Shared} {W : Wd}
def RdsV (h : Heap) (v : V) (p : PyData) : Prop := ∀ u, L2.RelV v u → ∃ as, Reads h u p as ∧ sysModules ∉ as
theorem rds_all {f : D → Option PyData} (ih : ∀ d v p, f d = some p → IsD X.K G d v → RdsV s.heap v p) : ∀ {ds : List D} {vs : List V} {ps : List PyData} {us : List Value}, mapO f ds = some ps → IsDs X.K G ds vs → Vals vs us → ∃ as, ReadsAll s.heap us ps as ∧ sysModules ∉ as
  | [], _, _, _, e, h, r => by cases e; cases h; cases r; exact ⟨[], .nil, by simp⟩
  | d :: ds, _, _, _, e, h, r => by
    obtain ⟨y, ys, e1, e2, rfl⟩ := mapO_cons e
    obtain ⟨v, vs, rfl, h1, h2⟩ := h
    cases r with
    | cons r1 r2 =>
      obtain ⟨as, q1, q2⟩ := ih d v y e1 h1 _ r1
      obtain ⟨bs, q3, q4⟩ := rds_all ih e2 h2 r2
      exact ⟨as ++ bs, .cons q1 q3, by simp [q2, q4]⟩
theorem rds_ks {f : D → Option PyData} (ih : ∀ d v p, f d = some p → IsD X.K G d v → RdsV s.heap v p) {P : Program} {w : World} : ∀ {kds : List (Key × D)} {kvs : List (Key × V)} {kps : List (PyData × PyData)} {es : List DictEntry} {vs : List (Key × Value)}, mapO (fun kd : Key × D => (f kd.2).map fun p => (keyP kd.1, p)) kds = some kps → IsKs X.K G kds kvs → KV kvs vs → Pairs (mixKind P w) es vs →
    (∃ as, ReadsAll s.heap (es.map (·.key)) (kps.map (·.1)) as ∧ sysModules ∉ as) ∧ ∃ bs, ReadsAll s.heap (es.map (·.val)) (kps.map (·.2)) bs ∧ sysModules ∉ bs
  | [], _, _, _, _, e, h, r, p => by cases e; cases h; cases r; cases p; exact ⟨⟨[], .nil, by simp⟩, ⟨[], .nil, by simp⟩⟩
  | (k, d) :: ds, _, _, _, _, e, h, r, p => by
    obtain ⟨y, ys, e1, e2, rfl⟩ := mapO_cons e
    obtain ⟨v, vs, rfl, h1, h2⟩ := h
    cases r with
    | cons r1 r2 =>
      obtain ⟨g1, rv⟩ := r1
      cases p with
      | cons k1 k2 k3 =>
        obtain ⟨⟨as, a1, a2⟩, bs, b1, b2⟩ := rds_ks ih e2 h2 r2 k3
        cases e3 : f d with
        | none => rw [e3] at e1; cases e1
        | some p0 =>
          rw [e3] at e1
          cases e1
          dsimp only at g1 rv
          subst g1
          have k1' : keyIs _ _ = true := k1
          obtain ⟨cs, c1, c2⟩ := ih d v p0 e3 h1 _ rv
          refine ⟨⟨as, ReadsAll.cons (as := []) (bs := as) (key_reads k1') a1, a2⟩, cs ++ bs, ReadsAll.cons ?_ b1, by simp [c2, b2]⟩
          show Reads s.heap (DictEntry.val _) _ cs
          rw [k2]
          exact c1
theorem keys_reads {h : Heap} {P : Program} {w : World} : ∀ {ks : List Key} {us : List Value}, ItemsAre (mixKind P w) ks us → ReadsAll h us (ks.map keyP) []
  | [], _, r => by cases r; exact .nil
  | k :: ks, _, r => by
    cases r with
    | cons r1 r2 =>
      have k1 : keyIs _ _ = true := r1
      exact ReadsAll.cons (as := []) (bs := []) (key_reads k1) (keys_reads r2)
theorem rds_ts {f : D → Option PyData} (ih : ∀ d v p, f d = some p → IsD X.K G d v → RdsV s.heap v p) {P : Program} {w : World} : ∀ {kds : List (List Key × D)} {kvs : List (List Key × V)} {kps : List (PyData × PyData)} {xs : List (List Key × Addr × Value)}, mapO (fun kd : List Key × D => (f kd.2).map fun p => (PyData.tuple (kd.1.map keyP), p)) kds = some kps → IsTs X.K G kds kvs → KT H kvs xs → (∀ x ∈ xs, (tupleKind (mixKind P w)).is s.heap x.1 x.2.1) →
    (∃ as, ReadsAll s.heap (xs.map fun x => .ref x.2.1) (kps.map (·.1)) as ∧ sysModules ∉ as) ∧ ∃ bs, ReadsAll s.heap (xs.map (·.2.2)) (kps.map (·.2)) bs ∧ sysModules ∉ bs
  | [], _, _, _, e, h, r, p => by cases e; cases h; cases r; exact ⟨⟨[], .nil, by simp⟩, ⟨[], .nil, by simp⟩⟩
  | (k, d) :: ds, _, _, _, e, h, r, p => by
    obtain ⟨y, ys, e1, e2, rfl⟩ := mapO_cons e
    obtain ⟨v, vs, rfl, h1, h2⟩ := h
    cases r with
    | @cons _ x0 _ _ r1 r2 =>
      obtain ⟨g1, g2, rv⟩ := r1
      obtain ⟨⟨as, a1, a2⟩, bs, b1, b2⟩ := rds_ts ih e2 h2 r2 fun x hx => p x (List.mem_cons_of_mem _ hx)
      cases e3 : f d with
      | none => rw [e3] at e1; cases e1
      | some p0 =>
        rw [e3] at e1
        cases e1
        dsimp only at g1 rv
        subst g1
        obtain ⟨o, items, n, ho, hc, hd, hi⟩ : IsTupleKey (mixKind P w) s.heap x0.1 x0.2.1 := p x0 List.mem_cons_self
        obtain ⟨cs, c1, c2⟩ := ih d v p0 e3 h1 _ rv
        refine ⟨⟨as, ?_, a2⟩, cs ++ bs, ReadsAll.cons c1 b1, by simp [c2, b2]⟩
        exact ReadsAll.cons (as := []) (bs := as) (.tuple ho hc hd (keys_reads hi)) a1
theorem rpF_at (hm : ModK X.K) (R : Rel X.K G H W) (I : Inv X pins σ H s) : ∀ (n : Nat) (d : D) (v : V) (p : PyData), rpF W n d = some p → IsD X.K G d v → RdsV s.heap v p
  | 0, _, _, _, e, _ => by cases e
  | n + 1, d, v, p, e, h => by
    have ih := fun d v p => rpF_at hm R I n d v p
    have lists : ∀ {ds : List D} {a : Addr} {vs : List V} {ps : List PyData}, mapO (rpF W n) ds = some ps → H a = some (.lst vs) → IsDs X.K G ds vs → RdsV s.heap (.ref a) (.list ps) := by
      intro ds a vs ps e ha hs u r
      cases r
      obtain ⟨_, its, k, rv, ho⟩ : ObjOk X.prog X.w H s.heap a (.lst vs) := I.hok a _ ha
      obtain ⟨as, q1, q2⟩ := rds_all ih e hs rv
      obtain ⟨o, hk, hc⟩ := hm
      refine ⟨a :: as, .list ho rfl rfl (by simpa using q1), ?_⟩
      have := I.kIn _ _ hk
      rw [List.mem_cons]
      rintro (z | z)
      · rw [z, ho] at this
        cases this
        exact hc rfl
      · exact q2 z
    unfold rpF at e
    split at e
    · cases e; cases (show v = .non from h); intro u r; cases r; exact ⟨[], .none, by simp⟩
    · cases e; cases (show v = .bl _ from h); intro u r; cases r; exact ⟨[], .bool _, by simp⟩
    · cases e; cases (show v = .int _ from h); intro u r; obtain ⟨t, rfl⟩ := r; exact ⟨[], .int _ t, by simp⟩
    · cases e; cases (show v = .str _ from h); intro u r; obtain ⟨t, rfl⟩ := r; exact ⟨[], .str _ t, by simp⟩
    · rename_i ds
      obtain ⟨a, vs, rfl, e2, e3⟩ := h
      cases e4 : mapO (rpF W n) ds with
      | none => rw [e4] at e; cases e
      | some ps =>
        rw [e4] at e
        cases e
        intro u r
        cases r
        obtain ⟨_, its, rv, ⟨o, ho, hc, k, hd⟩⟩ : ObjOk X.prog X.w H s.heap a (.tup vs) := I.hok a _ ((R.st _ _ e2).eq rfl)
        obtain ⟨as, q1, q2⟩ := rds_all ih e4 e3 rv
        exact ⟨as, .tuple ho hc hd (by simpa using q1), q2⟩
    · split at e
      · rename_i kds ek
        obtain ⟨a, kvs, rfl, ha, hk⟩ := dkOf_at R h ek
        cases e4 : mapO (fun kd : Key × D => (rpF W n kd.2).map fun p => (keyP kd.1, p)) kds with
        | none => rw [e4] at e; cases e
        | some ps =>
          rw [e4] at e
          cases e
          intro u r
          cases r
          obtain ⟨_, ns, vs, rv, o, es, k, ho, hx, hd, _, hp, _⟩ := dk_rd I.hok ha
          obtain ⟨⟨as, a1, a2⟩, bs, b1, b2⟩ := rds_ks ih e4 hk rv hp
          refine ⟨a :: as ++ bs, .dict ho hx.1 hd a1 b1, ?_⟩
          have na : sysModules ≠ a := fun z => by rw [← z] at ns; exact nomatch ns
          simp [a2, b2, na]
      · split at e
        · rename_i kds ek
          obtain ⟨a, kvs, rfl, ha, hk⟩ := dtOf_at R h ek
          cases e4 : mapO (fun kd : List Key × D => (rpF W n kd.2).map fun p => (PyData.tuple (kd.1.map keyP), p)) kds with
          | none => rw [e4] at e; cases e
          | some ps =>
            rw [e4] at e
            cases e
            intro u r
            cases r
            obtain ⟨_, ns, xs, rv, o, es, k, ho, hx, hd, hes, hp, _⟩ := dt_rd I.hok ha
            obtain ⟨⟨as, a1, a2⟩, bs, b1, b2⟩ := rds_ts ih e4 hk rv hp
            refine ⟨a :: as ++ bs, .dict ho hx.1 hd ?_ ?_, ?_⟩
            · rw [hes, List.map_map]; exact a1
            · rw [hes, List.map_map]; exact b1
            · have na : sysModules ≠ a := fun z => by rw [← z] at ns; exact nomatch ns
              simp [a2, b2, na]
        · split at e
          · rename_i ds ek
            obtain ⟨a, vs, rfl, ha, hk⟩ := lstOf_at R h ek
            cases e4 : mapO (rpF W n) ds with
            | none => rw [e4] at e; cases e
            | some ps =>
              rw [e4] at e
              cases e
              exact lists e4 ha hk
          · cases e
end
/-! ### repr(x) -/
def RpX (K : PySem.W.Frag) (H : Hp) (x : V) (p : PyData) : Prop := ∀ (X : Cx) (pins : List (Addr × Obj)) (σ : L2.St) (s : Shared), X.K = K → Inv X pins σ H s → RdsV s.heap x p
def rReprX (K : PySem.W.Frag) : List V → Hp → VK → Prop := fun xs H Q => ∃ x p, xs = [x] ∧ RpX K H x p ∧ p.showable = true ∧ p.depth ≤ 150 ∧ p.shown.length ≤ sizeLine ∧ Q (.str p.shown) H
theorem call_reprX {X : Cx} (hgd : X.A.guards = some []) (hu : X.A.units + 152 < cLine) : CallR X (.builtin "repr") (rReprX X.K) := by
  rintro pins s σ H xs us Q I r ⟨x, p, rfl, hp, sh, dp, sz, q⟩
  obtain ⟨u, rfl, ru⟩ := vals1 r
  obtain ⟨as, rd, nd⟩ := hp X pins σ s rfl I u ru
  have go : ∀ h' (t : Tok) tk, (∀ b o, s.heap.get? b = some o → h'.get? b = some o) → EP X pins σ Q (.str p.shown t) { s with heap := h', toks := tk } := fun h' t tk k => ⟨.str p.shown, H, I.kept k, ⟨t, rfl⟩, q⟩
  cases rd with
  | none => exact PySem.P.repr_of_none (go s.heap _ _ fun _ _ z => z)
  | bool b => exact PySem.P.repr_of_bool (by simpa [PyData.shown] using go s.heap s.toks _ fun _ _ z => z)
  | int i t => exact PySem.P.repr_of_int (by simpa [PyData.showable] using sh) (by simpa [PyData.shown] using go s.heap s.toks _ fun _ _ z => z)
  | str z t => exact PySem.P.repr_of_str (by simpa [PyData.shown] using go s.heap s.toks _ fun _ _ z => z) (by simpa [PyData.shown] using sz)
  | list a b c d => exact repr_of_reads' (.list a b c d) sh (fun _ => nd) hgd (by omega) (fun _ _ z => z) (fun h' t tk k => go h' t tk k) sz
  | tuple a b c d => exact repr_of_reads' (.tuple a b c d) sh (fun _ => nd) hgd (by omega) (fun _ _ z => z) (fun h' t tk k => go h' t tk k) sz
  | dict a b c d e => exact repr_of_reads' (.dict a b c d e) sh (fun _ => nd) hgd (by omega) (fun _ _ z => z) (fun h' t tk k => go h' t tk k) sz
def dReprX : RDC := fun ds W Q => ∃ n d p, ds = [d] ∧ rpF W n d = some p ∧ p.showable = true ∧ p.depth ≤ 150 ∧ p.shown.length ≤ sizeLine ∧ Q (.str p.shown) W
theorem sc_reprX {K : PySem.W.Frag} (hm : ModK K) : SimRC K (rReprX K) dReprX := fun G H W xs ds Q QD R hx h k => by
  obtain ⟨n, d, p, rfl, e, sh, dp, sz, q⟩ := h
  obtain ⟨v, rfl, hv⟩ := one_of hx
  refine ⟨v, p, rfl, ?_, sh, dp, sz, k.here (d := .str _) R rfl q⟩
  intro X pins σ s hK I
  subst hK
  exact rpF_at hm R I n d v p e hv
theorem go_reprX {W : Wd} {Q : DQ} {d : D} {p : PyData} (n : Nat) (h0 : rpF W n d = some p) (hs : Shp p) (hd : p.depth ≤ 150) (hw : p.weight ≤ 2 ^ 20) (h : Q (.str p.shown) W) : dReprX [d] W Q :=
  ⟨n, d, p, rfl, h0, hs.2, hd, PyData.shown_fits (B := 13) (by decide) (by decide) hs.1 hw, h⟩
/-- the head's look -/
def lkMod : Lk := fun K => match K.lookup sysModules with
  | some o => decide (o.cls ≠ .type "list")
  | none => false
theorem lkMod_ok {K : PySem.W.Frag} (h : lkMod K = true) : ModK K := by
  unfold lkMod at h
  split at h
  · rename_i o e; exact ⟨o, e, of_decide_eq_true h⟩
  · cases h
end DL

/-! DLt: dict(d); dicts with tuple keys. -/
namespace DL
open PySem PySem.Spec PyProof.Rows L2
def rDictA : List V → Hp → VK → Prop := fun xs H Q => ∃ (a : Addr) (kvs : List (Key × V)), xs = [.ref a] ∧ Rd H a (.dK kvs) ∧ ∀ p, H p = none → Q (.ref p) (upd H p (.dK kvs))
theorem call_dictA {X : Cx} : CallR X (.type "dict") rDictA := call_dictD
def dDict (own : Bool) : RDC := fun ds W Q => ∃ d kds, ds = [d] ∧ dkOf W d = some kds ∧ if own = true then ∀ p, W p = none → Q (.ptr p) (W.set p (.dk kds)) else Q (.dk kds) W
theorem sc_dict {K : PySem.W.Frag} {own : Bool} : SimRC K rDictA (dDict own) := fun G H W xs ds Q QD R hx h k => by
  obtain ⟨d, kds, rfl, e, q⟩ := h
  obtain ⟨v, rfl, hv⟩ := one_of hx
  obtain ⟨a, kvs, rfl, ha, qk⟩ := dkOf_at R hv e
  refine ⟨a, kvs, rfl, ha, fun p hp => ?_⟩
  cases own with
  | true => exact k (.ref p) (.ptr p) G _ _ (Same.refl G) (R.newOwn (m := .dk kds) hp ⟨kvs, rfl, qk⟩) rfl (q p (R.freeW hp))
  | false => exact k.new (d := .dk kds) R hp ⟨p, kvs, rfl, ⟨_, upd_same, rfl⟩, IsKs.up (same_updG (R.freeG hp)) _ _ qk⟩ q
theorem go_dictO {W : Wd} {Q : DQ} {d : D} {kds : List (Key × D)} (h0 : dkOf W d = some kds) (h : ∀ p, W p = none → Q (.ptr p) (W.set p (.dk kds))) : dDict true [d] W Q := ⟨d, kds, rfl, h0, h⟩
theorem go_dictF {W : Wd} {Q : DQ} {d : D} {kds : List (Key × D)} (h0 : dkOf W d = some kds) (h : Q (.dk kds) W) : dDict false [d] W Q := ⟨d, kds, rfl, h0, h⟩
theorem go_setDt {N : Wd → Prop} {W : Wd} {q : Addr} {kds : List (List Key × D)} {ks : List D} {k : List Key} {d : D} (hw : W q = some (.dt kds)) (h1 : keysOf ks = some k) (hz : kds.length < sizeLine) (h : N (W.set q (.dt (dput kds k d)))) : dSet (.ptr q) (.tup ks) d W N := ⟨q, rfl, .inr (.inr ⟨kds, ks, k, hw, rfl, h1, hz, h⟩)⟩
theorem keysOf_ints : ∀ p : List Int, keysOf (p.map D.int) = some (p.map .inl)
  | [] => rfl
  | i :: p => by rw [List.map_cons, keysOf, keysOf_ints p]; rfl
/-- all rows of n numbers below m, in their order -/
def tups : Nat → Nat → List (List Int)
  | 0, _ => [[]]
  | n + 1, m => (tups n m).flatMap fun row => (List.range m).map fun k : Nat => row ++ [(k : Int)]
theorem tups_len (m : Nat) : ∀ n, (tups n m).length = m ^ n
  | 0 => rfl
  | n + 1 => by
    rw [tups, List.length_flatMap, Nat.pow_succ]
    have : (List.map (fun row => ((List.range m).map fun k : Nat => row ++ [(k : Int)]).length) (tups n m)) = (tups n m).map fun _ => m := List.map_congr_left fun _ _ => by simp
    rw [this]
    have g : ∀ l : List (List Int), (l.map fun _ => m).sum = l.length * m := by
      intro l
      induction l with
      | nil => simp
      | cons a l ih => rw [List.map_cons, List.sum_cons, ih, List.length_cons, Nat.add_mul]; omega
    rw [g, tups_len m n]
theorem tups_mem {m : Nat} : ∀ {n : Nat} {r : List Int}, r ∈ tups n m → r.length = n ∧ ∀ x ∈ r, 0 ≤ x ∧ x < m
  | 0, r, h => by
    rw [tups, List.mem_singleton] at h
    subst h
    exact ⟨rfl, by simp⟩
  | n + 1, r, h => by
    rw [tups, List.mem_flatMap] at h
    obtain ⟨row, hr, h⟩ := h
    obtain ⟨k, hk, rfl⟩ := List.mem_map.mp h
    have := tups_mem hr
    refine ⟨by rw [List.length_append, this.1]; rfl, fun x hx => ?_⟩
    rcases List.mem_append.mp hx with hx | hx
    · exact this.2 x hx
    · rw [List.mem_singleton] at hx
      have := List.mem_range.mp hk
      omega
theorem go_dvT {W : Wd} {d : D} {kds : List (List Key × D)} {p : Prop} (h0 : dtOf W d = some kds) (h : p) : dctV d W ∧ p := ⟨.inr ⟨kds, h0⟩, h⟩
theorem go_dgT {W : Wd} {d : D} {kds : List (List Key × D)} {ks : List D} {k : List Key} {r : Option D} {p : Option D → Prop} (h0 : dtOf W d = some kds) (h1 : keysOf ks = some k) (h2 : look kds k = r) (h : p r) : ∃ r, dGet W d (.tup ks) r ∧ p r := ⟨r, .inr ⟨kds, ks, k, h0, rfl, h1, h2.symm⟩, h⟩
theorem symss_mem {t : Trm} {s : Sy} : ∀ {ts : List Trm}, t ∈ ts → s ∈ t.syms → s ∈ Trm.symss ts
  | [], h, _ => by cases h
  | u :: us, h, hs => by
    rw [Trm.symss]
    rcases List.mem_cons.mp h with e | h
    · rw [← e]; exact List.mem_append_left _ hs
    · exact List.mem_append_right _ (symss_mem h hs)
/-! ### tables -/
abbrev Tb := List (List Int × Int)
abbrev Md := List (Str × Tb)
def tbD (t : Tb) : List (List Key × D) := t.map fun y => (y.1.map .inl, .int y.2)
def mdD (mt : Md) : List (Key × D) := mt.map fun x => (.inr x.1, .dt (tbD x.2))
def Tb.at (t : Tb) (r : List Int) : Int := ((List.find? (fun y => decide (y.1 = r)) t).map (·.2)).getD 0
def Md.tb (mt : Md) (f : Str) : Tb := ((List.find? (fun x => decide (x.1 = f)) mt).map (·.2)).getD []
def TbOk (m : Nat) (t : Tb) : Prop := t.length ≤ 125 ∧ ∀ y ∈ t, (0 < y.2 ∧ y.2 < m) ∧ y.1.length ≤ 3 ∧ ∀ x ∈ y.1, 0 ≤ x ∧ x < m
def MdOk (ops : Sig) (m : Nat) (mt : Md) : Prop := mt.map (·.1) = ops.map Prod.fst ∧ (∀ x ∈ mt, TbOk m x.2) ∧ ∀ x ∈ mt, ∀ r, (x.1, r) ∈ ops → ∀ y ∈ x.2, y.1.length = r
def mdT (m : Nat) (mt : Md) : D := .tup [.int m, .dk (mdD mt)]
theorem map_inl_inj {a b : List Int} : a.map (Sum.inl (β := Str)) = b.map .inl ↔ a = b := by
  constructor
  · intro h
    induction a generalizing b with
    | nil => cases b with | nil => rfl | cons _ _ => cases h
    | cons x a ih => cases b with
      | nil => cases h
      | cons y b =>
        rw [List.map_cons, List.map_cons] at h
        injection h with h1 h2
        injection h1 with h1
        rw [h1, ih h2]
  · rintro rfl; rfl
theorem look_tbD (t : Tb) (r : List Int) : (look (tbD t) (r.map .inl)).getD (.int 0) = .int (t.at r) := by
  unfold look tbD Tb.at
  induction t with
  | nil => rfl
  | cons y t ih =>
    rw [List.map_cons, List.find?_cons, List.find?_cons]
    by_cases h : y.1 = r
    · simp [h]
    · have e1 : decide (y.1 = r) = false := decide_eq_false h
      have e2 : decide ((y.1.map .inl : List Key) = r.map .inl) = false := decide_eq_false fun z => h (map_inl_inj.mp z)
      simp only [e1, e2]
      exact ih
theorem look_mdD (mt : Md) (f : Str) (h : f ∈ mt.map (·.1)) : look (mdD mt) (.inr f) = some (.dt (tbD (mt.tb f))) := by
  unfold look mdD Md.tb
  induction mt with
  | nil => cases h
  | cons y t ih =>
    rw [List.map_cons, List.find?_cons, List.find?_cons]
    by_cases g : y.1 = f
    · simp [g]
    · have e1 : decide (y.1 = f) = false := decide_eq_false g
      have e2 : decide ((.inr y.1 : Key) = .inr f) = false := decide_eq_false fun z => g (by simpa using z)
      simp only [e1, e2]
      refine ih ?_
      rw [List.map_cons, List.mem_cons] at h
      exact h.resolve_left fun z => g z.symm
theorem dput_fresh {κ α : Type} [DecidableEq κ] {kds : List (κ × α)} {k : κ} {v : α} (h : k ∉ kds.map (·.1)) : dput kds k v = kds ++ [(k, v)] := by
  unfold dput
  have : (kds.any fun kv => decide (kv.1 = k)) = false := by
    rw [List.any_eq_false]
    intro x hx z
    exact h (by have := of_decide_eq_true z; rw [← this]; exact List.mem_map_of_mem (f := (·.1)) hx)
  rw [this]; rfl
/-! the value of a term -/
mutual
def Trm.ev (mt : Md) (env : Int → Int) : Trm → Int
  | .var v => env v
  | .app f ts => (mt.tb f).at (Trm.evs mt env ts)
def Trm.evs (mt : Md) (env : Int → Int) : List Trm → List Int
  | [] => []
  | t :: ts => t.ev mt env :: Trm.evs mt env ts
end
theorem evs_map (mt : Md) (env : Int → Int) : ∀ ts : List Trm, Trm.evs mt env ts = ts.map (Trm.ev mt env)
  | [] => rfl
  | t :: ts => by rw [Trm.evs, evs_map mt env ts, List.map_cons]
abbrev Ev := List (Int × Int)
def evD (e : Ev) : List (Key × D) := e.map fun x => (.inl x.1, .int x.2)
def Ev.fn (e : Ev) (v : Int) : Int := ((List.find? (fun x => decide (x.1 = v)) e).map (·.2)).getD 0
theorem look_evD (e : Ev) (v : Int) (h : v ∈ e.map (·.1)) : look (evD e) (.inl v) = some (.int (e.fn v)) := by
  unfold look evD Ev.fn
  induction e with
  | nil => cases h
  | cons y t ih =>
    rw [List.map_cons, List.find?_cons, List.find?_cons]
    by_cases g : y.1 = v
    · simp [g]
    · have e1 : decide (y.1 = v) = false := decide_eq_false g
      have e2 : decide ((.inl y.1 : Key) = .inl v) = false := decide_eq_false fun z => g (by simpa using z)
      simp only [e1, e2]
      refine ih ?_
      rw [List.map_cons, List.mem_cons] at h
      exact h.resolve_left fun z => g z.symm
/-- what was there is there -/
def Grow (W W' : Wd) : Prop := ∀ l o, W l = some o → W' l = some o
theorem Grow.refl (W : Wd) : Grow W W := fun _ _ h => h
theorem Grow.trans {W W' W'' : Wd} (h : Grow W W') (h' : Grow W' W'') : Grow W W'' := fun l m e => h' l m (h l m e)
theorem Grow.set {W W' : Wd} {p : Addr} {o : MO} (h : Grow W W') (hp : W p = none) : Grow W (W'.set p o) := fun l m e => by
  rw [Wd.set_ne (fun z => by subst z; rw [hp] at e; cases e)]
  exact h l m e
theorem Grow.del {W W' : Wd} {p : Addr} (h : Grow W W') (hp : W p = none) : Grow W (W'.del p) := fun l m e => by
  have ne : l ≠ p := fun z => by subst z; rw [hp] at e; cases e
  simp only [Wd.del]; rw [if_neg ne]
  exact h l m e
theorem Grow.none {W W' : Wd} {p : Addr} (h : Grow W W') (hp : W' p = none) : W p = none := by
  cases e : W p with
  | none => rfl
  | some o => rw [h p o e] at hp; cases hp
/-- rows, the first number first -/
theorem tups_succ (n m : Nat) : tups (n + 1) m = (tups n m).flatMap fun row => (List.range m).map fun k : Nat => row ++ [(k : Int)] := rfl
theorem tups_front (m : Nat) : ∀ n, tups (n + 1) m = (List.range m).flatMap fun x : Nat => (tups n m).map fun r => (x : Int) :: r
  | 0 => by
    simp only [tups, List.flatMap_cons, List.flatMap_nil, List.append_nil, List.nil_append, List.map_cons, List.map_nil]
    rw [← List.map_eq_flatMap]
  | n + 1 => by
    rw [tups_succ (n + 1)]
    conv => lhs; rw [tups_front m n, List.flatMap_assoc]
    congr 1
    funext x
    rw [tups_succ n, List.flatMap_map, List.map_flatMap]
    congr 1
    funext r
    rw [List.map_map]
    rfl
theorem ar_uniq {f : Str} {a b : Nat} : ∀ {ops : Sig}, (ops.map Prod.fst).Nodup → (f, a) ∈ ops → (f, b) ∈ ops → a = b
  | [], _, h, _ => by cases h
  | x :: ops, nd, h, h' => by
    rw [List.map_cons, List.nodup_cons] at nd
    rcases List.mem_cons.mp h with e | h
    · rcases List.mem_cons.mp h' with e' | h'
      · have := e.trans e'.symm
        exact (Prod.mk.inj this).2
      · exact absurd (List.mem_map.mpr ⟨_, h', rfl⟩) (by rw [← e] at nd; exact nd.1)
    · rcases List.mem_cons.mp h' with e' | h'
      · exact absurd (List.mem_map.mpr ⟨_, h, rfl⟩) (by rw [← e'] at nd; exact nd.1)
      · exact ar_uniq nd.2 h h'
end DL

/-! DLu: few names; a model's repr. -/
namespace DL
open PySem PySem.Spec PyProof.Rows L2
theorem nub_nodup : ∀ (ns acc : List Int), acc.Nodup → (nub acc ns).Nodup
  | [], acc, h => h
  | n :: ns, acc, h => by
    rw [nub]
    split
    · exact nub_nodup ns acc h
    · rename_i hn
      refine nub_nodup ns _ ?_
      rw [List.nodup_append]
      refine ⟨h, by simp, fun a ha b hb => ?_⟩
      rw [List.mem_singleton] at hb
      intro z
      exact hn (by rw [← hb, ← z]; exact ha)
theorem nodup_le : ∀ (c : Nat) {l : List Int}, l.Nodup → (∀ x ∈ l, 0 ≤ x ∧ x < (c : Int)) → l.length ≤ c
  | 0, l, _, h => by
    cases l with
    | nil => simp
    | cons a l => have := h a List.mem_cons_self; omega
  | c + 1, l, hn, h => by
    have ih := nodup_le c (l := l.erase (c : Int)) (hn.erase _) fun x hx => by
      have h1 := (hn.mem_erase_iff).mp hx
      have := h x h1.2
      have := h1.1
      omega
    rw [List.length_erase] at ih
    split at ih <;> omega
theorem vars_nodup (t : Trm) : t.vars.Nodup := nub_nodup _ _ (by simp)
theorem occ_vars {t : Trm} {v : Int} (h : v ∈ occ t) : v ∈ t.vars := nub_memR _ _ h
theorem vars_occ {t : Trm} {v : Int} (h : v ∈ t.vars) : v ∈ occ t := (nub_sub _ _ h).elim (fun z => by cases z) id
/-! a model's repr -/
def tbP (t : Tb) : PyData := .dict (t.map fun y => (.tuple (y.1.map .int), .int y.2))
def mdP (m : Nat) (mt : Md) : PyData := .tuple [.int m, .dict (mt.map fun x => (.str x.1, tbP x.2))]
theorem rpF_dk (W : Wd) (n : Nat) (kds : List (Key × D)) : rpF W (n + 1) (.dk kds) = (mapO (fun kd : Key × D => (rpF W n kd.2).map fun p => (keyP kd.1, p)) kds).map .dict := rfl
theorem rpF_md (W : Wd) (m : Nat) (mt : Md) : rpF W 4 (mdT m mt) = some (mdP m mt) := by
  have h1 : ∀ t : Tb, rpF W 2 (.dt (tbD t)) = some (tbP t) := fun t => by
    simp only [rpF, dkOf, dtOf]
    rw [tbD, mapO_of (g := fun kd : List Key × D => (PyData.tuple (kd.1.map keyP), match kd.2 with | .int i => PyData.int i | _ => .none)) (fun x hx => by
      obtain ⟨y, _, rfl⟩ := List.mem_map.mp hx
      rfl)]
    simp only [Option.map_some, List.map_map, tbP]
    congr 2
    refine List.map_congr_left fun y _ => ?_
    simp [keyP, Function.comp_def]
  have h2 : rpF W 3 (.dk (mdD mt)) = some (.dict (mt.map fun x => (.str x.1, tbP x.2))) := by
    rw [rpF_dk]
    have : mapO (fun kd : Key × D => (rpF W 2 kd.2).map fun p => (keyP kd.1, p)) (mdD mt) = some (mt.map fun x => (.str x.1, tbP x.2)) := by
      unfold mdD
      induction mt with
      | nil => rfl
      | cons x mt ih => rw [List.map_cons, mapO, ih, List.map_cons, h1]; rfl
    rw [this]; rfl
  show (mapO (rpF W 3) [.int m, .dk (mdD mt)]).map PyData.tuple = _
  simp only [mapO, h2]
  rfl
theorem mdP_ok {ops : Sig} (hO : Ops ops) {m : Nat} {mt : Md} (h : MdOk ops m mt) (hm : m ≤ 5) : Shp (mdP m mt) ∧ (mdP m mt).depth ≤ 100 ∧ (mdP m mt).weight ≤ 2 ^ 16 := by
  have small : ∀ x : Int, 0 ≤ x → x < m → Shp (.int x) ∧ (PyData.int x).weight ≤ 4 := fun x h0 h1 => ⟨shp_int (by omega), wt_int (k := 3) (by omega)⟩
  have tb : ∀ t : Tb, TbOk m t → PyData.leavesShortKv 13 (t.map fun y => (PyData.tuple (y.1.map .int), PyData.int y.2)) = true ∧ PyData.showableKv (t.map fun y => (PyData.tuple (y.1.map .int), PyData.int y.2)) = true ∧ PyData.weightKv (t.map fun y => (PyData.tuple (y.1.map .int), PyData.int y.2)) ≤ t.length * 40 ∧ PyData.depthKv (t.map fun y => (PyData.tuple (y.1.map .int), PyData.int y.2)) ≤ 2 := by
    intro t ht
    obtain ⟨hlen, ht⟩ := ht
    clear hlen
    induction t with
    | nil => simp [PyData.leavesShortKv, PyData.showableKv, PyData.weightKv, PyData.depthKv]
    | cons y t ih =>
      obtain ⟨b1, b2, b3, b4⟩ := ih fun z hz => ht z (List.mem_cons_of_mem _ hz)
      obtain ⟨⟨y1, y2⟩, y3, y4⟩ := ht y List.mem_cons_self
      have a := small y.2 (by omega) y2
      have ks : Shps (y.1.map PyData.int) := fun p hp => by obtain ⟨x, hx, rfl⟩ := List.mem_map.mp hp; exact (small x (y4 x hx).1 (y4 x hx).2).1
      have kw := wts_le (n := 4) (ps := y.1.map PyData.int) fun p hp => by obtain ⟨x, hx, rfl⟩ := List.mem_map.mp hp; exact (small x (y4 x hx).1 (y4 x hx).2).2
      have kd := dep_le (n := 0) (ps := y.1.map PyData.int) fun p hp => by obtain ⟨x, hx, rfl⟩ := List.mem_map.mp hp; simp [PyData.depth]
      have k := shp_tup ks
      rw [List.length_map] at kw
      rw [List.map_cons]
      refine ⟨?_, ?_, ?_, ?_⟩
      · rw [PyData.leavesShortKv, k.1, a.1.1, b1]; rfl
      · rw [PyData.showableKv, k.2, a.1.2, b2]; rfl
      · rw [PyData.weightKv, List.length_cons, PyData.weight]; omega
      · rw [PyData.depthKv, PyData.depth, PyData.depth]; omega
  have names : ∀ x ∈ mt, Nm x.1 := fun x hx => by
    have : x.1 ∈ ops.map Prod.fst := by rw [← h.1]; exact List.mem_map_of_mem hx
    obtain ⟨y, hy, e⟩ := List.mem_map.mp this
    rw [← e]
    exact hO.2.2.2 y hy
  have all : ∀ l : Md, (∀ x ∈ l, Nm x.1 ∧ TbOk m x.2) → PyData.leavesShortKv 13 (l.map fun x => (PyData.str x.1, tbP x.2)) = true ∧ PyData.showableKv (l.map fun x => (PyData.str x.1, tbP x.2)) = true ∧ PyData.weightKv (l.map fun x => (PyData.str x.1, tbP x.2)) ≤ l.length * 6000 ∧ PyData.depthKv (l.map fun x => (PyData.str x.1, tbP x.2)) ≤ 3 := by
    intro l hl
    induction l with
    | nil => simp [PyData.leavesShortKv, PyData.showableKv, PyData.weightKv, PyData.depthKv]
    | cons y l ih =>
      obtain ⟨b1, b2, b3, b4⟩ := ih fun z hz => hl z (List.mem_cons_of_mem _ hz)
      obtain ⟨yn, yt⟩ := hl y List.mem_cons_self
      obtain ⟨c1, c2, c3, c4⟩ := tb y.2 yt
      have k := shp_low yn.1
      have hs : y.1.cps.size ≤ 7 := yn.2.2
      have h64 := yt.1
      rw [List.map_cons]
      refine ⟨?_, ?_, ?_, ?_⟩
      · rw [PyData.leavesShortKv, k.1, tbP, PyData.leavesShort, c1, b1]; rfl
      · rw [PyData.showableKv, k.2, tbP, PyData.showable, c2, b2]; rfl
      · rw [PyData.weightKv, List.length_cons, tbP, PyData.weight, PyData.weight]; omega
      · rw [PyData.depthKv, PyData.depth, tbP, PyData.depth]; omega
  obtain ⟨a1, a2, a3, a4⟩ := all mt fun x hx => ⟨names x hx, h.2.1 x hx⟩
  have hl : mt.length ≤ 6 := by have := congrArg List.length h.1; simp at this; have := hO.len; omega
  have hi : Shp (.int (m : Int)) ∧ (PyData.int (m : Int)).weight ≤ 4 := ⟨shp_int (by omega), wt_int (k := 3) (by omega)⟩
  refine ⟨shp_tup fun p hp => ?_, ?_, ?_⟩
  · simp at hp
    rcases hp with rfl | rfl
    · exact hi.1
    · exact ⟨by rw [PyData.leavesShort]; exact a1, by rw [PyData.showable]; exact a2⟩
  · simp only [mdP, PyData.depth, PyData.depthAll]; omega
  · have e : (2 : Nat) ^ 16 = 65536 := by decide
    have := hi.2
    have ew : (PyData.dict (mt.map fun x => (PyData.str x.1, tbP x.2))).weight = PyData.weightKv (mt.map fun x => (PyData.str x.1, tbP x.2)) := by rw [PyData.weight]
    rw [mdP, PyData.weight, PyData.weightAll, PyData.weightAll, PyData.weightAll, ew]
    omega
end DL

/-! DLv: own __len__, __contains__, __iter__. -/
namespace DL
open PySem PySem.Spec PyProof.Rows L2
section
variable {X : Cx} {k : Nat} {f : Addr} {fd : FuncData} {ps : List Str} {sp : Sp}
theorem GR.low {k : Nat} {A : Around} (r : GR (k + 1) A) : GR k A.in1 := ⟨r.rm.in1, r.gd⟩
/-- the callee runs below a built-in -/
theorem fnG_at {A1 : Around} {pins : List (Addr × Obj)} {σ : L2.St} {H : Hp} {s : Shared} {Q : VK} {us : List Value} {vs : List V} (F : FnG X.prog X.w X.K X.mg X.base CX0 k f fd ps sp) (hA : A1.frames = X.A.frames) (hr : GR k A1) (hb : Binds X.K fd ps [])
    (I : Inv X pins σ H s) (r : Vals vs us) (h : sp vs H Q E0) : wpAny (model X.prog X.w) A1 (call (.ref f) us) (fun u s' => CE X.stack X.prog X.w H s Q u s') X.xe s := by
  have e0 : Env0 X.prog X.w X.K X.mg X.base A1 X.stack s H := by
    have e := I.env0
    exact ⟨by rw [hA]; exact e.frames, e.mod, e.bs, e.bsz, e.funs, e.frf, e.hok, e.bare⟩
  have b := hb s us I.kIn (by rw [List.append_nil, ← r.length]; exact F.len _ _ _ _ h)
  rw [List.append_nil] at b
  refine wpAny_call (codeAny_mono (F.go hr e0 b r h) fun res s' z => ?_)
  cases res with
  | error err => exact z.elim
  | ok fl => cases fl with
    | ret u => exact z
    | next => exact z.elim
    | brk => exact z.elim
    | cont => exact z.elim
end
/-! ### len(o) -/
def rLenO (P : Program) (w : World) (K : PySem.W.Frag) (C : Addr) (sp : Sp) : List V → Hp → VK → Prop := fun xs H Q => ∃ a dx fs, xs = [.ref a] ∧ H a = some (.ins C dx fs) ∧ sp [.ref a] H (fun v H' => ∃ n : Nat, v = .int n ∧ n ≤ 16777216 ∧ Q v H') E0
theorem call_lenO {X : Cx} {C fa : Addr} {k : Nat} {ps : List Str} {sp : SpD} (M : Meth X.K C "__len__" fa) (g : FkM X.prog X.w X.K X.mg X.base CX0 k fa ps sp) (hr : Room (k + 1) X.A) (hgd : X.A.guards = some []) : CallR X (.builtin "len") (rLenO X.prog X.w X.K C (liftSp X.K sp)) := by
  intro pins s σ H xs us Q I r h
  obtain ⟨a, dx, fs, rfl, e2, q⟩ := h
  obtain ⟨u, rfl, ru⟩ := vals1 r
  obtain rfl : u = Value.ref a := ru
  obtain ⟨mA, J, _⟩ := ins_get I.hok e2
  obtain ⟨od, J, _⟩ := J.look
  obtain ⟨fd, F, b⟩ := g.ex
  refine Calls.call_function_entry kind_len plain_len entry_len (args_len1 _) ?_
  unfold Builtin.«len»
  refine wpAny_bind (m := oneArg "len" _) (wpAny_pure ?_)
  refine wpAny_bind (m := callSpecial? (.ref a) (PySem.Str.ofString "__len__")) (PySem.W.special_fn I.kIn J M.at_ (beq_iff_eq.mp M.fn) ?_)
  refine wpAny_mono (fnG_at (vs := [V.ref a]) F (by rfl) (GR.low ⟨hr, hgd⟩) b I (.cons rfl .nil) q) (fun u s' z => ?_) fun _ _ z => z
  obtain ⟨v, H', I', rv, n, rfl, hn, q'⟩ := I.after z
  obtain ⟨t, rfl⟩ := rv
  refine wpAny_bind (wpAny_holding (wpAny_pure ?_))
  refine wpAny_bind (wpAny_letGo ?_)
  show wpAny _ _ (if ((n : Nat) : Int) < 0 then _ else _) _ _ _
  rw [if_neg (by omega)]
  show wpAny _ _ (if ((n : Nat) : Int) ≥ 2 ^ 63 then _ else _) _ _ _
  rw [if_neg (by omega)]
  exact wpAny_bind (wpAny_mkInt (wpAny_pure ⟨_, rfl, .int n, H', I'.tok _, ⟨_, rfl⟩, q'⟩))
def dLenO (c : Str) (sp : SpD) : RDC := fun ds W Q => ∃ x fs, ds = [x] ∧ objOf W x = some (c, fs) ∧ sp [x] W (fun d W' => ∃ n : Nat, d = .int n ∧ n ≤ 16777216 ∧ Q (.int n) W') ED0
theorem sc_lenO {P : Program} {w : World} {K : PySem.W.Frag} {c : Str} {sp : SpD} : SimRC K (rLenO P w K (He.ga K c) (liftSp K sp)) (dLenO c sp) := fun G H W xs ds Q QD R hx h k => by
  obtain ⟨x, fs, rfl, e1, q⟩ := h
  obtain ⟨v, rfl, hv⟩ := one_of hx
  obtain ⟨a, dx, vs, rfl, ha, hf⟩ := objOf_at R hv e1
  refine ⟨a, dx, vs, rfl, ha, G, W, [x], _, ED0, R, hx, q, fun v d G' H' W' s' R' hd z => ?_, liftX0⟩
  obtain ⟨n, rfl, hn, q'⟩ := z
  exact ⟨n, hd, hn, k _ _ _ _ _ s' R' hd q'⟩
theorem lenK {X : Cx} (K : PySem.W.Frag) {c : Str} {fa : Addr} {k : Nat} {ps : List Str} {sp : SpD} (M : Meth K (He.ga K c) "__len__" fa) (g : FkM X.prog X.w K X.mg X.base CX0 k fa ps sp) (hr : Room (k + 1) X.A) (hgd : X.A.guards = some []) (hK : X.K = K := by rfl) :
    CallR X (.builtin "len") (rLenO X.prog X.w K (He.ga K c) (liftSp K sp)) := by subst hK; exact call_lenO M g hr hgd
theorem go_lenO {c : Str} {sp : SpD} {x : D} {fs : List (Str × D)} {W : Wd} {Q : DQ} (h0 : objOf W x = some (c, fs)) (h : sp [x] W (fun d W' => ∃ n : Nat, d = .int n ∧ n ≤ 16777216 ∧ Q (.int n) W') ED0) : dLenO c sp [x] W Q := ⟨x, fs, rfl, h0, h⟩
/-! ### x in o -/
def rInO (K : PySem.W.Frag) (C : Addr) (sp : Sp) (neg : Bool) : R2 := fun x y H Q => ∃ a dx fs, y = .ref a ∧ H a = some (.ins C dx fs) ∧ sp [.ref a, x] H (fun v H' => ∃ b, v = .bl b ∧ Q (.bl (if neg = true then !b else b)) H') E0
section
variable {X : Cx} {C fa : Addr} {k : Nat} {ps : List Str} {sp : SpD}
theorem inO_run {pins : List (Addr × Obj)} {σ : L2.St} {H : Hp} {s : Shared} {Q : VK} {x : V} {v : Value} {a : Addr} {neg : Bool} (g : FkM X.prog X.w X.K X.mg X.base CX0 k fa ps sp) (hr : Room k X.A) (hgd : X.A.guards = some []) (I : Inv X pins σ H s) (rx : L2.RelV x v)
    (q : liftSp X.K sp [.ref a, x] H (fun v H' => ∃ b, v = .bl b ∧ Q (.bl (if neg = true then !b else b)) H') E0) : wpAny (model X.prog X.w) X.A (call (.ref fa) [.ref a, v]) (fun r s' => wpAny (model X.prog X.w) X.A (truthy r) (fun b => EP X pins σ Q (.bool (if neg = true then !b else b))) X.xe s') X.xe s := by
  obtain ⟨fd, F, b⟩ := g.ex
  refine wpAny_mono (fnG_at (vs := [V.ref a, x]) F rfl ⟨hr, hgd⟩ b I (.cons rfl (.cons rx .nil)) q) (fun u s' z => ?_) fun _ _ z => z
  obtain ⟨v, H', I', rv, b, rfl, q'⟩ := I.after z
  cases rv
  exact wpAny_pure ⟨.bl (if neg = true then !b else b), H', I', rfl, q'⟩
theorem op_inO (M : Meth X.K C "__contains__" fa) (g : FkM X.prog X.w X.K X.mg X.base CX0 k fa ps sp) (hr : Room k X.A) (hgd : X.A.guards = some []) : OpR X (compareOp .In) (rInO X.K C (liftSp X.K sp) false) := by
  intro pins s σ H x y v u Q I rx ry h
  obtain ⟨a, dx, fs, rfl, e2, q⟩ := h
  obtain rfl : u = Value.ref a := ry
  obtain ⟨mA, J, _⟩ := ins_get I.hok e2
  obtain ⟨od, J, _⟩ := J.look
  obtain ⟨m, hF⟩ := I.fr
  exact PySem.W.in_K hF I.ok.mod.kin J M.at_ M.fn (inO_run (neg := false) g hr hgd I rx q)
theorem op_notInO (M : Meth X.K C "__contains__" fa) (g : FkM X.prog X.w X.K X.mg X.base CX0 k fa ps sp) (hr : Room k X.A) (hgd : X.A.guards = some []) : OpR X (compareOp .NotIn) (rInO X.K C (liftSp X.K sp) true) := by
  intro pins s σ H x y v u Q I rx ry h
  obtain ⟨a, dx, fs, rfl, e2, q⟩ := h
  obtain rfl : u = Value.ref a := ry
  obtain ⟨mA, J, _⟩ := ins_get I.hok e2
  obtain ⟨od, J, _⟩ := J.look
  obtain ⟨m, hF⟩ := I.fr
  exact PySem.W.notIn_K hF I.ok.mod.kin J M.at_ M.fn (inO_run (neg := true) g hr hgd I rx q)
end
theorem inK {X : Cx} (K : PySem.W.Frag) {c : Str} {fa : Addr} {k : Nat} {ps : List Str} {sp : SpD} (M : Meth K (He.ga K c) "__contains__" fa) (g : FkM X.prog X.w K X.mg X.base CX0 k fa ps sp) (hr : Room k X.A) (hgd : X.A.guards = some []) (hK : X.K = K := by rfl) :
    OpR X (compareOp .In) (rInO K (He.ga K c) (liftSp K sp) false) := by subst hK; exact op_inO M g hr hgd
theorem notInK {X : Cx} (K : PySem.W.Frag) {c : Str} {fa : Addr} {k : Nat} {ps : List Str} {sp : SpD} (M : Meth K (He.ga K c) "__contains__" fa) (g : FkM X.prog X.w K X.mg X.base CX0 k fa ps sp) (hr : Room k X.A) (hgd : X.A.guards = some []) (hK : X.K = K := by rfl) :
    OpR X (compareOp .NotIn) (rInO K (He.ga K c) (liftSp K sp) true) := by subst hK; exact op_notInO M g hr hgd
def dInO (c : Str) (sp : SpD) (neg : Bool) : RD2 := fun x y W Q => ∃ fs, objOf W y = some (c, fs) ∧ sp [y, x] W (fun d W' => ∃ b, d = .bl b ∧ Q (.bl (if neg = true then !b else b)) W') ED0
theorem sr_inO {K : PySem.W.Frag} {c : Str} {sp : SpD} {neg : Bool} : SimR2 K (rInO K (He.ga K c) (liftSp K sp) neg) (dInO c sp neg) := fun G H W x y dx dy Q QD R hx hy h k => by
  obtain ⟨fs, e1, q⟩ := h
  obtain ⟨a, ax, vs, rfl, ha, hf⟩ := objOf_at R hy e1
  refine ⟨a, ax, vs, rfl, ha, G, W, [dy, dx], _, ED0, R, ⟨_, _, rfl, hy, _, _, rfl, hx, rfl⟩, q, fun v d G' H' W' s' R' hd z => ?_, liftX0⟩
  obtain ⟨b, rfl, q'⟩ := z
  exact ⟨b, hd, k _ (.bl (if neg = true then !b else b)) _ _ _ s' R' rfl q'⟩
theorem go_inOb {c : Str} {sp : SpD} {x y : D} {fs : List (Str × D)} {W : Wd} {Q : DQ} (h0 : objOf W y = some (c, fs)) (h : sp [y, x] W (fun d W' => ∃ b, d = .bl b ∧ Q (.bl b) W') ED0) : dInO c sp false x y W Q := ⟨fs, h0, by simpa using h⟩
theorem go_ninOb {c : Str} {sp : SpD} {x y : D} {fs : List (Str × D)} {W : Wd} {Q : DQ} (h0 : objOf W y = some (c, fs)) (h : sp [y, x] W (fun d W' => ∃ b, d = .bl b ∧ Q (.bl (!b)) W') ED0) : dInO c sp true x y W Q := ⟨fs, h0, by simpa using h⟩
/-! ### for x in o -/
/-- a def's promise that knows the state of its call -/
theorem fnS_of {P : Program} {w : World} {K : PySem.W.Frag} {mg : Str → Option Value} {base : Heap} {CX : CXT} {k : Nat} {f : Addr} {ps : List Str} {sp : Shared → Sp} {name qual : Str} {params : Arguments} {body : List Stmt} {scope : Scope} {dV kV doc pm cdv ct oc : Value} {an od : Option Addr} {osl : Array (Option Value)} {N : List Str}
    (lk : K.lookup f = some ⟨oc, od, .func (PySem.W.fnOf name qual params body scope dV kV doc pm an cdv ct), osl⟩) (code : PySem.W.codeIn K cdv qual = true) (S : FnScope N ps scope) (len : ∀ s vs H Q E, sp s vs H Q E → vs.length = ps.length)
    (hbody : ∀ (A : Around) (outer : List Env) (s : Shared) (H : Hp) (vs : List V) (Q : VK) (E : XK), GR k (A.deeper (envOfC qual scope s.heap.objs.size f cdv)) → sp s vs H Q E → ∃ t, PSs (cxOf CX P w K mg base N qual scope f cdv A outer s H E) body t ∧ t { nx := fun _ J => Q .non J, rt := Q } (start N vs) H)
    {A : Around} {outer : List Env} {s : Shared} {H : Hp} {args : Args} {us : List Value} {vs : List V} {Q : VK} {E : XK} (room : GR (k + 1) A) (ent : Env0 P w K mg base A outer s H) (bnd : BindsTo s (PySem.W.fnOf name qual params body scope dV kV doc pm an cdv ct) args (ps.zip us)) (rel : Vals vs us) (q : sp s vs H Q E) :
    codeAny (model P w) A (.call (.ref f) args) (CR CX outer P w H s Q E) s := by
  have inK : K.In s.heap := ent.mod.kin.keeps fun a o z => (ent.bs a o z).1
  have noL : s.heap.NoLimit := ent.mod.nolimit.keeps fun a o z => (ent.bs a o z).1
  have kinds : ∀ z ∈ ps.zip us, scope.names.lookup z.1 = some .local ∨ (scope.names.lookup z.1 = some .cell ∧ ((cellsFrom (s.heap.objs.size + 1) scope.names []).lookup z.1).isSome = true) := by
    rintro ⟨x, v⟩ hz
    exact (S.par x (List.of_mem_zip hz).1).imp id fun c => ⟨c, PySem.W.cellsFrom_some _ _ _ (.inl c)⟩
  refine codeAny_call_function room.rm.depth (inK _ _ lk) rfl S.co S.gen rfl (PySem.W.codeRec_of inK code) (bnd _ _ _ _ (wpAny_newFunctionEnv_cells S.kind kinds fun env he s1 x => ?_))
  subst he
  obtain ⟨t, body', q'⟩ := hbody A outer s H vs Q E (room.deeper _) q
  refine ⟨noL.keeps x.toInCall.keep, codeAny_func (wpAny_mono (body'.run [] s1 (start N vs) H _ (inv_start S room.rm.hd ent (len _ _ _ _ _ q) rel x) q') (fun fl s' z => ?_) fun _ _ z => z)⟩
  cases fl with
  | ret u => obtain ⟨v, _, J, I, rv, z⟩ := z; exact ⟨v, J, I.os, I.bare, I.base, I.hok, rv, z⟩
  | next => obtain ⟨_, J, I, z⟩ := z; exact ⟨.non, J, I.os, I.bare, I.base, I.hok, rfl, z⟩
  | brk => obtain ⟨_, _, _, z⟩ := z; exact z.elim
  | cont => obtain ⟨_, _, _, z⟩ := z; exact z.elim
def spIter (K : PySem.W.Frag) (C : Addr) (f : Str) (s : Shared) : Sp := fun vs H Q _ => ∃ a dx fs l zs, vs = [.ref a] ∧ H a = some (.ins C dx fs) ∧ fs.lookup f = some (.ref l) ∧ SqL K H l zs ∧ ∀ it, H it = none → s.heap.objs.size ≤ it → Q (.ref it) (upd H it (ItO l it 0))
/-- o's own __iter__ gives iter(o.f) -/
structure OwnIt (P : Program) (w : World) (K : PySem.W.Frag) (mg : Str → Option Value) (base : Heap) (k : Nat) (c f : Str) : Prop where
  ex : ∃ fa, Meth K (He.ga K c) "__iter__" fa ∧ ∀ {A : Around} {outer : List Env} {s : Shared} {H : Hp} {a : Addr} {Q : VK}, GR k A → Env0 P w K mg base A outer s H → K.In s.heap → spIter K (He.ga K c) f s [.ref a] H Q E0 → codeAny (model P w) A (.call (.ref fa) ⟨[.ref a], []⟩) (CR CX0 outer P w H s Q E0) s
theorem OwnIt.mono {P : Program} {w : World} {K : PySem.W.Frag} {mg : Str → Option Value} {base : Heap} {j k : Nat} {c f : Str} (g : OwnIt P w K mg base j c f) (h : j ≤ k) : OwnIt P w K mg base k c f := by
  obtain ⟨fa, M, F⟩ := g.ex
  exact ⟨fa, M, fun r e X q => F (r.mono h) e X q⟩
theorem ownIt_of {P : Program} {w : World} {K : PySem.W.Frag} {mg : Str → Option Value} {base : Heap} {k : Nat} {c f nm qual : Str} {params : Arguments} {body : List Stmt} {scope : Scope} {fa : Addr} {fd : FuncData} (F : FunD K nm qual params body scope [] [] fa fd) (M : Meth K (He.ga K c) "__iter__" fa) (S : FnScope ["self"] ["self"] scope)
    (hb : ∀ (kV doc pm : Value) (an : Option Addr) (cdv ct : Value) (us : List Value), us.length = 1 → bindArgs (PySem.W.fnOf nm qual params body scope .none kV doc pm an cdv ct) ⟨us, []⟩ = pure ((["self"] : List Str).zip us))
    (hbody : ∀ (cdv : Value) (A : Around) (outer : List Env) (s : Shared) (H : Hp) (E : XK), ∃ t, PSs (cxOf CX0 P w K mg base ["self"] qual scope fa cdv A outer s H E) body t ∧ ∀ a dx fs l zs (Q : VK), H a = some (.ins (He.ga K c) dx fs) → fs.lookup f = some (.ref l) → SqL K H l zs → (∀ it, H it = none → s.heap.objs.size ≤ it → Q (.ref it) (upd H it (ItO l it 0))) → t { nx := fun _ J => Q .non J, rt := Q } (start ["self"] [.ref a]) H) :
    OwnIt P w K mg base (k + 1) c f := by
  have b := F.bindsN (ps := ["self"]) hb
  obtain ⟨oc, od, dV, kV, doc, pm, an, cdv, ct, osl, rfl, lk, code, _, _⟩ := F.ex
  refine ⟨fa, M, fun {A outer s H a Q} r e X q => fnS_of (us := [.ref a]) (vs := [.ref a]) (sp := spIter K (He.ga K c) f) lk code S (fun s vs H Q E ⟨_, _, _, _, _, e, _⟩ => by rw [e]; rfl) (fun A outer s H vs Q E _ h => ?_) r e (by simpa using b s [.ref a] X rfl) (.cons rfl .nil) q⟩
  obtain ⟨a, dx, fs, l, zs, rfl, e2, e3, e4, q⟩ := h
  obtain ⟨t, ht, hh⟩ := hbody cdv A outer s H E
  exact ⟨t, ht, hh a dx fs l zs Q e2 e3 e4 q⟩
def iOwn (K : PySem.W.Frag) (C : Addr) (f : Str) (te : TE) : TI := fun σ H R => te σ H fun x H1 => ∃ a dx fs l, x = .ref a ∧ H1 a = some (.ins C dx fs) ∧ fs.lookup f = some (.ref l) ∧ (∃ zs, SqL K H1 l zs) ∧ R (Itl K l) H1
section
variable {X : Cx} {G0 : Hp} {tg e : Expr} {te : TE} {ae : AE} {k : Nat} {c f : Str}
theorem pi_own (T : OwnIt X.prog X.w X.K X.mg X.base k c f) (hr : Room k X.A) (hgd : X.A.guards = some []) (he : PE X e te) : PI X tg e (iOwn X.K (He.ga X.K c) f te) := ⟨fun pins s σ H R I h => thn (he.run pins s σ H _ I h) fun v s1 ⟨x, H1, I1, r1, a, dx, fs, l, e1, e2, e3, ⟨zs, e4⟩, q⟩ => by
  subst e1
  obtain rfl : v = Value.ref a := r1
  obtain ⟨fa, M, F⟩ := T.ex
  obtain ⟨mA, J, _⟩ := ins_get I1.hok e2
  obtain ⟨od, J, _⟩ := J.look
  obtain ⟨m, hF⟩ := I1.fr
  refine PySem.W.owit_iter hF I1.ok.mod.kin J M.at_ M.fn ?_
  have hsp : spIter X.K (He.ga X.K c) f s1 [.ref a] H1 (fun v H' => ∃ it, v = .ref it ∧ H1 it = none ∧ s1.heap.objs.size ≤ it ∧ H' = upd H1 it (ItO l it 0)) E0 := ⟨a, dx, fs, l, zs, rfl, e2, e3, e4, fun it h z => ⟨it, rfl, h, z, rfl⟩⟩
  refine wpAny_call (codeAny_mono (F ⟨hr, hgd⟩ I1.env0 I1.kIn hsp) fun res s' z => ?_)
  cases res with
  | error err => exact z.elim
  | ok fl => cases fl with
    | next => exact z.elim
    | brk => exact z.elim
    | cont => exact z.elim
    | ret u =>
      obtain ⟨v, H2, I2, rv, it, ev, hn, sz, eH⟩ := I1.after z
      subst ev
      obtain rfl : u = Value.ref it := rv
      subst eH
      have eo := itO_get I2 upd_same
      have hd := ItX.inv_drop I2 (a := it) (by exact upd_same)
      rw [ItX.dropH_upd hn] at hd
      show PySem.W.OwitIt _ _ _ _ _ _
      unfold PySem.W.OwitIt
      refine wpAny_specialOf (T := "list_iterator") ⟨_, eo, rfl⟩ slot_listiter_next.lookup ?_
      refine ⟨it, [it], _, _, H1, rfl, hd, turn_list l it, ⟨_, eo, rfl, rfl⟩, fun b hb => ?_, q⟩
      cases List.mem_singleton.mp hb
      exact I1.fpOk sz hn⟩
def aiOwn (c f : Str) (a : AE) : AI := fun δ W N => a δ W fun x W1 => ∃ fs d ds, objOf W1 x = some (c, fs) ∧ fs.lookup f = some d ∧ lstRd W1 d = some ds ∧ N ds (okOf d ds) W1
theorem di_own (T : OwnIt X.prog X.w X.K X.mg X.base k c f) (hr : Room k X.A) (hgd : X.A.guards = some []) (he : DE X G0 e te ae) : DI X G0 tg e (iOwn X.K (He.ga X.K c) f te) (aiOwn c f ae) := ⟨pi_own T hr hgd he.pe, fun σ H M G δ W N s0 R S h k => by
  refine he.sim σ H _ G δ W _ s0 R S h fun x d G1 H1 W1 s1 R1 d1 h1 => ?_
  obtain ⟨fs, d', ds, e1, e2, e3, q⟩ := h1
  obtain ⟨a, dx, vs, rfl, ha, hf⟩ := objOf_at R1 d1 e1
  rcases hf.look f with ⟨d2, v2, f1, f2, hv⟩ | ⟨f1, _⟩
  · rw [e2] at f1
    cases f1
    obtain ⟨l, zs, rfl, hl, _⟩ := lstRd_at R1 hv e3
    exact ⟨a, dx, vs, l, rfl, ha, f2, ⟨zs, hl⟩, k _ _ _ _ _ _ s1 R1 (walks_list R1 hv e3) q⟩
  · rw [e2] at f1; cases f1⟩
theorem di_ownK (K : PySem.W.Frag) (T : OwnIt X.prog X.w K X.mg X.base k c f) (hr : Room k X.A) (hgd : X.A.guards = some []) (he : DE X G0 e te ae) (hK : X.K = K := by rfl) : DI X G0 tg e (iOwn K (He.ga K c) f te) (aiOwn c f ae) := by subst hK; exact di_own T hr hgd he
end
/-- a loop that only looks: each turn sets the slot i and ends as it began -/
theorem forL_chk {i : Nat} {b : AS} {A : AEnds} {ok : Wd → Prop} {W : Wd} (hok : ok W) : ∀ {items : List D} {δ : Sl}, (∀ x ∈ items, ∀ N : Sl → Wd → Prop, N (δ.set i (some x)) W → b { nx := N, rt := A.rt, bk := A.nx, ct := N } (δ.set i (some x)) W) → (items = [] → A.nx δ W) → (∀ x ∈ items, A.nx (δ.set i (some x)) W) → forL (agName i) b A ok items δ W
  | [], δ, _, h0, _ => ⟨hok, h0 rfl⟩
  | x :: r, δ, hb, _, h1 => by
    refine ⟨hok, ?_⟩
    show b _ (δ.set i (some x)) W
    have hs : ∀ y, (δ.set i (some x)).set i (some y) = δ.set i (some y) := fun y => by rw [List.set_set]
    refine hb x List.mem_cons_self _ (forL_chk hok (fun y hy N hN => ?_) (fun _ => h1 x List.mem_cons_self) (fun y hy => ?_))
    · rw [hs] at hN ⊢
      exact hb y (List.mem_cons_of_mem _ hy) N hN
    · rw [hs]
      exact h1 y (List.mem_cons_of_mem _ hy)
theorem go_own {c f : Str} {a : AE} {δ : Sl} {W : Wd} {N : List D → (Wd → Prop) → Wd → Prop} (h : a δ W fun x W1 => ∃ fs d ds, objOf W1 x = some (c, fs) ∧ fs.lookup f = some d ∧ lstRd W1 d = some ds ∧ N ds (okOf d ds) W1) : aiOwn c f a δ W N := h
/-! ### a signature without flags -/
def fl0 (ops : Sig) : List Bool := ops.map fun _ => false
theorem fl0_len (ops : Sig) : (fl0 ops).length = ops.length := List.length_map ..
theorem fl0_ok (ops : Sig) : FlOk ops (fl0 ops) := ⟨fl0_len ops, fun x hx h => by
  have := List.of_mem_zip hx
  obtain ⟨y, _, e⟩ := List.mem_map.mp this.2
  rw [← e] at h
  cases h⟩
abbrev sg0 (ops : Sig) : SgS := mkS ops (fl0 ops)
theorem sg0_find {ops : Sig} (nd : (ops.map Prod.fst).Nodup) {f : Str} {m : Nat} (h : (f, m) ∈ ops) : (sg0 ops).find f = some ((m : Int), false) := by
  induction ops with
  | nil => cases h
  | cons x ops ih =>
    obtain ⟨g, n⟩ := x
    rw [List.map_cons, List.nodup_cons] at nd
    show ((List.find? _ ((g, (n : Int), false) :: sg0 ops)).map (·.2)) = _
    rw [List.find?_cons]
    rcases List.mem_cons.mp h with e | h
    · cases e
      simp
    · have ne : g ≠ f := fun e => nd.1 (by rw [e]; exact List.mem_map.mpr ⟨_, h, rfl⟩)
      rw [decide_eq_false ne]
      exact ih nd.2 h
theorem sg0_names (ops : Sig) : (sg0 ops).names = ops.map Prod.fst := mkS_names (fl0_len ops)
theorem Wf.names {ops : Sig} {n : Int} {t : Trm} (h : Wf ops n t) : ∀ f, .f f ∈ t.syms → f ∈ ops.map Prod.fst := by
  induction h with
  | var => intro f hf; simp [Trm.syms] at hf
  | @app g ts h0 _ ih =>
    intro f hf
    rw [Trm.syms] at hf
    rcases List.mem_cons.mp hf with e | hf
    · injection e with e; rw [e]; exact List.mem_map_of_mem (f := Prod.fst) h0
    · have : ∀ us : List Trm, (∀ u ∈ us, ∀ f, .f f ∈ u.syms → f ∈ ops.map Prod.fst) → .f f ∈ Trm.symss us → f ∈ ops.map Prod.fst := by
        intro us
        induction us with
        | nil => intro _ z; cases z
        | cons u us ih2 =>
          intro hu z
          rw [Trm.symss] at z
          rcases List.mem_append.mp z with z | z
          · exact hu u List.mem_cons_self f z
          · exact ih2 (fun v hv => hu v (List.mem_cons_of_mem _ hv)) z
      exact this ts ih hf
theorem rng_cut {n j : Nat} (h : j < n) : (rangeD 0 n).drop j = .int j :: (rangeD 0 n).drop (j + 1) := by
  rw [List.drop_eq_getElem_cons (by rw [rangeD_length]; exact h)]
  congr 1
  simp [rangeD]
/-! ### comprehensions with any target and a test -/
theorem lcG_inv {own : Bool} {g : AG} {t : AT} {e : AE} {ok : Wd → Prop} {δ : Sl} {items : List D} {W : Wd} {Q : DQ} (I : List D → List D → Wd → Prop) (h0 : I items [] W) (hz : items.length ≤ sizeLine) (hok : ∀ ds acc W' L, I ds acc W' → W' L = none → ok (W'.set L (.lst acc)))
    (hs : ∀ d ds acc W' (L : Addr) (Q' : DQ) (P : Wd → Prop), I (d :: ds) acc W' → W' L = none → (∀ y W'', W'' L = none → I ds (acc ++ [y]) W'' → Q' y (W''.set L (.lst acc))) → (∀ W'', W'' L = none → I ds acc W'' → P (W''.set L (.lst acc))) → g d δ (W'.set L (.lst acc)) fun δ' W1 => t δ' W1 fun k W2 => if k = true then e δ' W2 Q' else P W2)
    (hd : ∀ acc W', I [] acc W' → if own = true then ∀ p, W' p = none → Q (.ptr p) (W'.set p (.lst acc)) else Q (.lst acc) W') : lcE own g t e ok δ items W Q := by
  intro L hL
  have go : ∀ (ds acc : List D) (W' : Wd), W' L = none → acc.length + ds.length ≤ sizeLine → I ds acc W' → lcL g t e ok δ L (fun W2 => ∃ acc, W2 L = some (.lst acc) ∧ (if own = true then Q (.ptr L) W2 else Q (.lst acc) (W2.del L))) ds (W'.set L (.lst acc)) := by
    intro ds
    induction ds with
    | nil =>
      intro acc W' h1 _ h2
      refine ⟨hok _ _ _ _ h2 h1, acc, Wd.set_same _ _ _, ?_⟩
      have q := hd acc W' h2
      cases own with
      | true =>
        rw [if_pos rfl] at q ⊢
        exact q L h1
      | false =>
        rw [if_neg (by decide)] at q ⊢
        rw [Wd.del_set h1]
        exact q
    | cons d ds ih =>
      intro acc W' h1 hz h2
      rw [List.length_cons] at hz
      refine ⟨hok _ _ _ _ h2 h1, ?_⟩
      refine hs d ds acc W' L (fun y W3 => ∃ acc, W3 L = some (.lst acc) ∧ acc.length < sizeLine ∧ lcL g t e ok δ L _ ds (W3.set L (.lst (acc ++ [y])))) (fun W2 => lcL g t e ok δ L _ ds W2) h2 h1 (fun y W'' h3 q => ⟨acc, Wd.set_same _ _ _, by omega, ?_⟩) (fun W'' h3 q => ?_)
      · rw [Wd.set_set]
        exact ih _ _ h3 (by rw [List.length_append, List.length_singleton]; omega) q
      · exact ih _ _ h3 (by omega) q
  exact go items [] W hL (by simpa using hz) h0
theorem lcG_pure {own : Bool} {α : Type} {g : AG} {t : AT} {e : AE} {ok : Wd → Prop} {δ : Sl} {W : Wd} {Q : DQ} (a f : α → D) (b : α → Bool) (xs : List α) (hz : xs.length ≤ sizeLine) (hok : ∀ L m, W L = none → ok (W.set L m))
    (he : ∀ x ∈ xs, ∀ (W' : Wd) (Q' : DQ) (P : Wd → Prop), (b x = true → Q' (f x) W') → (b x = false → P W') → g (a x) δ W' fun δ' W1 => t δ' W1 fun k W2 => if k = true then e δ' W2 Q' else P W2)
    (hQ : if own = true then ∀ p, W p = none → Q (.ptr p) (W.set p (.lst ((xs.filter b).map f))) else Q (.lst ((xs.filter b).map f)) W) : lcE own g t e ok δ (xs.map a) W Q := by
  refine lcG_inv (fun ds acc W' => ∃ us vs : List α, W' = W ∧ ds = us.map a ∧ acc = (vs.filter b).map f ∧ vs ++ us = xs) ⟨xs, [], rfl, rfl, rfl, rfl⟩ (by rw [List.length_map]; exact hz) ?_ ?_ ?_
  · rintro ds acc W' L ⟨us, vs, rfl, _⟩ hL
    exact hok L _ hL
  · rintro d ds acc W' L Q' P ⟨us, vs, rfl, e1, rfl, e2⟩ hL k1 k2
    cases us with
    | nil => cases e1
    | cons u us =>
      rw [List.map_cons] at e1
      cases e1
      refine he u (by rw [← e2]; simp) _ Q' P (fun hb => ?_) (fun hb => ?_)
      · exact k1 _ _ hL ⟨us, vs ++ [u], rfl, rfl, by rw [List.filter_append]; simp [hb], by rw [← e2]; simp⟩
      · exact k2 _ hL ⟨us, vs ++ [u], rfl, rfl, by rw [List.filter_append]; simp [hb], by rw [← e2]; simp⟩
  · rintro acc W' ⟨us, vs, rfl, e1, rfl, e2⟩
    cases us with
    | cons u us => cases e1
    | nil => rw [List.append_nil] at e2; rw [e2]; exact hQ
end DL

/-! DLw: own exceptions that carry a field: super().__init__(text); self.f = f. -/
namespace DL
open PySem PySem.Spec PyProof.Rows L2
/-- what the text says of such a class -/
structure SupF (P : Program) (K : PySem.W.Frag) (C : Addr) (f : Str) (params : Arguments) (body : List Stmt) (scope : Scope) : Prop where
  oex : OexC K C
  noF : PySem.W.findIn K (.ref C) f = some none
  ini : ∃ fI nm qual oc od osl kV doc pm an tcl cda cc ccl cdd ccs vs file tf cl cld csl,
    PySem.W.findIn K (.ref C) "__init__" = some (some (.ref fI)) ∧ PySem.W.typeIn K (.ref fI) = some (.type "function") ∧
    K.lookup fI = some ⟨oc, od, .func (PySem.W.fnX nm qual params body scope [("__class__", cc)] .none kV doc pm an (.ref cda) tcl), osl⟩ ∧ PySem.W.codeIn K (.ref cda) qual = true ∧
    K.lookup cda = some ⟨ccl, cdd, .fields vs, ccs⟩ ∧ vs[2]? = some (.str file tf) ∧ ((P.main.file : Str) == file) = true ∧
    K.lookup cc = some ⟨cl, cld, .cell (some (.ref C)), csl⟩
  mro : PySem.W.mroIn K C (.ref C) = some true
  sup : PySem.W.ks_superIn K C C "__init__" = some (some (.builtin "ValueError.__init__"))
  sve : PySem.W.subIn K (.ref C) (.type "ValueError") = some true
  opq : PySem.W.nsIn K cStatics "thirdparty.any" = some none
  top : (P.main.scope.names.lookup ("super" : Str)).isSome = false
section
variable {P : Program} {w : World} {A : Around} {h : Heap} {g : Array GenState} {d : Drawn} {t : Nat} {os : OsState} {E : Value → Shared → Prop}
variable {nm q : Str} {C N : Addr} {bs bm : List Value} {hdct : Bool} {sn : List Str} {sub : List Value} {ab : Bool} {col : Option Bool} {dd : Option Addr} {k0 k1 k2 k3 k5 : Option Value}
open PySem.W in
/-- super().__init__(..) called -/
theorem call_mw {u e t0 : Addr} {rest : List Value} {Q : Value → Shared → Prop} (hC : h.get? C = some (excClassObj nm q C N bs bm hdct sn sub ab col dd k0 k1 k2 k3 k5 "ValueError.__new__")) (he : h.get? e = some (HandSPX.excO C t0)) (hu : h.get? u = some (kxs_mw "ValueError.__init__" e)) (hrest : rest.length ≤ sizeLine)
    (hq : ∀ h' t1, (∀ b o, b ≠ e → h.get? b = some o → h'.get? b = some o) → h'.get? e = some (HandSPX.excO C t1) → Q .none ⟨h', g, d, t, os⟩) :
    wpAny (model P w) A (call (.ref u) rest) Q E ⟨h, g, d, t, os⟩ := by
  refine wpAny_call (codeAny_of_tree ?_)
  show wpAny _ A.in1 (callAny (.ref u) ⟨rest, []⟩) _ _ _
  simp only [callAny]
  refine wpAny_bind (wpAny_load hu ?_)
  simp only [kxs_mw, show (Value.type "method-wrapper" == Value.type "method" || Value.type "method-wrapper" == Value.type "builtin_function_or_method" || Value.type "method-wrapper" == Value.type "method-wrapper") = true by decide, if_true]
  refine W.KFB.if_so (by decide) ?_
  refine wpAny_bind (ESX.check_bound PySem.F.excBase_ValueError hC he rfl ?_)
  refine wpAny_bind (wpAny_pure (wpAny_pure ?_))
  refine ⟨Code.quiet_builtin _ (by decide +kernel), codeAny_builtin PySem.F.excBase_ValueError.initEntry ?_⟩
  rw [Around.under_plainId PySem.F.excBase_ValueError.init.plain _]
  wp_walk
  refine hq _ h.objs.size (fun b o hb ho => ?_) ?_
  · rw [Heap.get?_update_other _ _ (Ne.symm hb)]
    exact Heap.get?_push_of_some _ ho
  · rw [Heap.get?_update_self _ (Heap.get?_push_of_some _ he) rfl]
    rfl
end
section
variable {P : Program} {w : World} {A : Around} {R : Result → Shared → Prop} {K : PySem.W.Frag} {C fI cc cda a t0 : Addr} {nm qual f tx : Str} {params : Arguments} {scope : Scope} {oc : Value} {od : Option Addr} {osl : Array (Option Value)} {dV kV doc pm tcl u : Value} {an : Option Addr}
  {p0 p1 p2 p3 p4 p5 p6 p7 p8 p9 : PySem.Pos} {jj : Nat} {body : List Stmt} {mg mb : Str → Option Value} {ar : Arg} {vs : Array Value} {file : Str} {tf : Tok} {ccl cl : Value} {cdd cld : Option Addr} {ccs csl : Array (Option Value)}
open PySem.W in
theorem sup_run {s : Shared} (hbody : body = [.Expr (.Call (.Attribute (.Call (.Name "super" p0) [] [] p1) "__init__" p2) [.Constant (.str tx) jj p3] [] p4) p5, .Assign [.Attribute (.Name "self" p6) f p7] (.Name f p8) p9])
    (X : K.In s.heap) (hmg : s.heap.Ns mainGlobals mg) (hsu : mg "super" = none) (hmb : s.heap.Ns builtinsNs mb) (hb : mb "super" = some (.type "super"))
    (T : OexC K C) (hno : findIn K (.ref C) f = some none) (ho : K.lookup fI = some ⟨oc, od, .func (fnX nm qual params body scope [("__class__", cc)] dV kV doc pm an (.ref cda) tcl), osl⟩) (hcd : codeIn K (.ref cda) qual = true)
    (hcode : K.lookup cda = some ⟨ccl, cdd, .fields vs, ccs⟩) (hvs : vs[2]? = some (.str file tf)) (hfile : ((P.main.file : Str) == file) = true) (hcell : K.lookup cc = some ⟨cl, cld, .cell (some (.ref C)), csl⟩)
    (hm : ks_superIn K C C "__init__" = some (some (.builtin "ValueError.__init__"))) (hmr : mroIn K C (.ref C) = some true) (hsv : subIn K (.ref C) (.type "ValueError") = some true) (hop : nsIn K cStatics "thirdparty.any" = some none) (htop : (P.main.scope.names.lookup ("super" : Str)).isSome = false)
    (ha : s.heap.get? a = some (HandSPX.excO C t0)) (hKa : K.lookup a = none) (hroom : A.depth < recursionLimit) (hlim : s.heap.NoLimit) (hbind : BindsTo s (fnX nm qual params body scope [("__class__", cc)] dV kV doc pm an (.ref cda) tcl) ⟨[.ref a, u], []⟩ [("self", .ref a), (f, u)])
    (hp : (params.posonlyargs ++ params.args).head? = some ar) (har : ar.arg = "self") (hfs : f ≠ "self") (hfd : (f == ("__debug__" : Str)) = false) (hk : scope.kind = .function) (hco : scope.isCoroutine = false) (hgen : scope.isGenerator = false) (hcells : ∀ x ∈ scope.names, x.2 ≠ .cell)
    (l1 : scope.names.lookup ("self" : Str) = some .local) (l2 : scope.names.lookup f = some .local) (l3 : scope.names.lookup ("super" : Str) = some .globalImplicit) (l4 : scope.names.lookup ("__class__" : Str) = some .free)
    {pl : Sem Bool} (he : ∀ L, eval (.Call (.Attribute (.Call (.Name "super" p0) [] [] p1) "__init__" p2) [.Constant (.str tx) jj p3] [] p4) (callEnv (fnX nm qual params body scope [("__class__", cc)] dV kV doc pm an (.ref cda) tcl) L fI) = (do
      let ov ← attributeBase (.Call (.Name "super" p0) [] [] p1) "__init__" (callEnv (fnX nm qual params body scope [("__class__", cc)] dV kV doc pm an (.ref cda) tcl) L fI) (eval (.Call (.Name "super" p0) [] [] p1) (callEnv (fnX nm qual params body scope [("__class__", cc)] dV kV doc pm an (.ref cda) tcl) L fI))
      standAt p2.atName
      let (f, first) ← holding [ov] (getMethod ov "__init__" pl)
      callWith p4 f first (backTo p4 (starEach [.Constant (.str tx) jj p3] (callEnv (fnX nm qual params body scope [("__class__", cc)] dV kV doc pm an (.ref cda) tcl) L fI))) []))
    (hq : ∀ h' tk' dx fv, (∀ b o, b ≠ a → s.heap.get? b = some o → h'.get? b = some o) → s.heap.objs.size ≤ dx → dx ≠ a → h'.get? a = some { cls := .ref C, dict := some dx, data := .fields #[.ref fv, .none, .none, .none, .bool false, .none] } →
      h'.Ns1 dx (fun y => if y = f then some u else none) → R (.ok (.ret .none)) { s with heap := h', toks := tk' }) :
    codeAny (model P w) A (.call (.ref fI) ⟨[.ref a, u], []⟩) R s := by
  subst hbody
  have boot : bootBuiltins "super" = some (.type "super") := by decide +kernel
  obtain ⟨nm2, q2, N, bs, bm, sn, sub, ab, col, dd, k0, k1, k2, k3, k5, hC, hbm⟩ := T.cls
  have hcl : clsIn K C = some { name := nm2, bases := bs, mro := .ref C :: bm, ns := N, qualname := q2, hasDict := true, slotNames := sn, subclasses := sub, abstract := ab, collection := col, hasDel := false } := by unfold clsIn; rw [hC] <;> rfl
  refine ks_codeAny_call_defAt (fd := fnX nm qual params _ scope [("__class__", cc)] dV kV doc pm an (.ref cda) tcl) (binds := [("self", .ref a), (f, u)]) hroom (X _ _ ho) rfl hlim (codeRec_of X hcd) rfl hbind hcells (fun z hz => ?_) (fun h₁ hns hk₁ => ?_) hco hgen hk
  · simp only [List.mem_cons, List.not_mem_nil, or_false] at hz
    rcases hz with rfl | rfl
    · exact l1
    · exact l2
  have X1 : K.In h₁ := X.keeps hk₁
  have e1 : (fun x => List.lookup x (List.reverse [(("self" : Str), Value.ref a), (f, u)])) ("self" : Str) = some (.ref a) := by
    show List.lookup ("self" : Str) [(f, u), ("self", Value.ref a)] = _
    rw [List.lookup_cons, show (("self" : Str) == f) = false from by simpa using Ne.symm hfs]
    simp
  have e2 : (fun x => List.lookup x (List.reverse [(("self" : Str), Value.ref a), (f, u)])) f = some u := by
    show List.lookup f [(f, u), ("self", Value.ref a)] = _
    simp
  obtain ⟨h0, g, dr, tk, os⟩ := s
  dsimp only at hk₁ hns X hmg hmb ha hlim hq ⊢
  refine ks_wpAt_execs_cons (ks_wpAt_Expr_any (ks_wpAt_MethodCall ?_ (he _)) (hi := by unfold interactive callEnv newEnv; simp [hk]))
  refine ks_wpAt_super_base (attr := "__init__") l3 l4 (by decide) rfl (X1 _ _ ho) rfl hp rfl (X1 _ _ hcode) rfl hvs hfile htop ?_
  refine ks_loadName_global hk l3 (Calls.loadGlobal_builtin (hmg.keeps hk₁) hsu (hmb.keeps hk₁) hb ⟨rfl, ?_⟩)
  refine wpAny_loadName_free hk l4 rfl ⟨_, X1 _ _ hcell, rfl⟩ ?_
  rw [har]
  refine wpAny_loadName_local hk l1 hns e1 ?_
  refine ks_wpAny_isType_cls (X1 _ _ hC) rfl ⟨rfl, ?_⟩
  refine ks_wpAny_call_super (X1 _ _ hC) rfl (hk₁ _ _ ha) rfl (fun c e => ?_) (looks_mroIn X1 hmr) (fun h₂ e₂ k₂ => ?_)
  · cases e
  have X2 : K.In h₂ := X1.keeps k₂
  have a2 := k₂ _ _ (hk₁ _ _ ha)
  have I2 : InstAt h₂ a (HandSPX.excO C t0) C none := ⟨a2, rfl, rfl, trivial⟩
  have hI : Looks (model P w) h₂ (isInstance (.ref a) (.type "ValueError")) true := I2.type.andThen (looks_subIn X2 hsv)
  have hm' := hm
  unfold ks_superIn at hm'
  rw [hcl] at hm'
  refine kxs_getMethod kxs_ValueError e₂ (looks_opaque X2 hop) (l₀ := .ref C :: bm) ?_ rfl X2 hm' hI (ks_ne X2 I2 hcl) (by decide) ?_
  · exact fun A Q E s k q => wpAny_bind ((looks_clsIn X2 hcl) A _ E s k (wpAny_pure q))
  have up3 : ∀ b o, h₂.get? b = some o → (h₂.push (kxs_mw "ValueError.__init__" a)).get? b = some o := fun b o e => Heap.get?_push_of_some _ e
  have m3 : (h₂.push (kxs_mw "ValueError.__init__" a)).get? h₂.objs.size = some (kxs_mw "ValueError.__init__" a) := Heap.get?_push_at rfl rfl
  show wpAny _ _ (callWith _ (.ref h₂.objs.size) [] (backTo _ (starEach [_] _)) []) _ _ _
  refine kxs_callWith (i := "ValueError.__init__") (x := a) (by rfl) (Calls.evalArgs_plain (Calls.spliced_cons (wpAny_Constant_str (k := jj) (pos := p3) ?_)))
  refine Calls.spliced_nil ⟨m3, ?_⟩
  refine call_mw (C := C) (up3 _ _ (X2 _ _ hC)) (up3 _ _ a2) m3 (by rw [sizeLine_eq]; show 1 ≤ 16777216; decide) (fun h₄ t1 k₄ a4 => ?_)
  have old4 : ∀ b o, b ≠ a → h0.get? b = some o → h₄.get? b = some o := fun b o hb e => k₄ b o hb (up3 _ _ (k₂ _ _ (hk₁ _ _ e)))
  have X4 : K.In h₄ := fun b o e => by
    have hb : b ≠ a := fun z => by rw [z, hKa] at e; cases e
    exact old4 b o hb (X b o e)
  have hns4 : h₄.Ns h0.objs.size (fun x => List.lookup x (List.reverse [(("self" : Str), Value.ref a), (f, u)])) := hns.at fun o e => k₄ _ _ (Nat.ne_of_gt (Heap.lt_size ha)) (up3 _ _ (k₂ _ _ e))
  have le4 : h0.objs.size ≤ h₄.objs.size := by
    obtain ⟨o, es, ep, e, _⟩ := hns4
    exact Nat.le_of_lt (Heap.lt_size e)
  show PySem.wpAt _ _ _ (execs [_] _) _ _ _
  refine ks_wpAt_execs_cons (wpAt_of_wpAny (plainObj_wpAny_Assign_Attribute ?_))
  refine wpAny_Name (wpAny_loadName_local hk l2 hns4 e2 ?_) hfd
  refine wpAny_Name (wpAny_loadName_local hk l1 hns4 e1 ?_) (by decide)
  refine set_plain X4 (ox := HandSPX.excO C t1) (od := none) ⟨a4, rfl, rfl, trivial⟩ T.sa ?_
  refine HandSPX.exc_osa X4 a4 hcl (show HandSPX.refsVE (.ref C :: bm) = true from hbm) rfl hno (fun h' tk' dx k dn dne hx hn => ?_)
  show PySem.wpAt _ _ _ (execs [] _) _ _ _
  refine wpAt_of_wpAny (wpAny_pure ?_)
  exact hq h' tk' dx t1 (fun b o hb e => k b o hb (old4 b o hb e)) (Nat.le_trans le4 dn) dne hx hn
end
/-- what the body, the parameters and the scope of such an __init__ are -/
structure SupB (f : Str) (params : Arguments) (body : List Stmt) (scope : Scope) : Prop where
  bind : ∀ (nm qual : Str) (cl : List (Str × Addr)) (kV doc pm : Value) (an : Option Addr) (cdv ct x y : Value), bindArgs (PySem.W.fnX nm qual params body scope cl .none kV doc pm an cdv ct) ⟨[x, y], []⟩ = pure [(("self" : Str), x), (f, y)]
  par : ∃ ar, (params.posonlyargs ++ params.args).head? = some ar ∧ ar.arg = "self"
  hfs : f ≠ "self"
  hfd : (f == ("__debug__" : Str)) = false
  hk : scope.kind = .function
  hco : scope.isCoroutine = false
  hgen : scope.isGenerator = false
  hcells : ∀ x ∈ scope.names, x.2 ≠ .cell
  l1 : scope.names.lookup ("self" : Str) = some .local
  l2 : scope.names.lookup f = some .local
  l3 : scope.names.lookup ("super" : Str) = some .globalImplicit
  l4 : scope.names.lookup ("__class__" : Str) = some .free
  bd : ∃ (p0 p1 p2 p3 p4 p5 p6 p7 p8 p9 : PySem.Pos) (tx : Str) (jj : Nat) (pl : Sem Bool), body = [.Expr (.Call (.Attribute (.Call (.Name "super" p0) [] [] p1) "__init__" p2) [.Constant (.str tx) jj p3] [] p4) p5, .Assign [.Attribute (.Name "self" p6) f p7] (.Name f p8) p9] ∧
    ∀ env : Env, eval (.Call (.Attribute (.Call (.Name "super" p0) [] [] p1) "__init__" p2) [.Constant (.str tx) jj p3] [] p4) env = (do
      let ov ← attributeBase (.Call (.Name "super" p0) [] [] p1) "__init__" env (eval (.Call (.Name "super" p0) [] [] p1) env)
      standAt p2.atName
      let (f, first) ← holding [ov] (getMethod ov "__init__" pl)
      callWith p4 f first (backTo p4 (starEach [.Constant (.str tx) jj p3] env)) [])
def tMkS (C : Addr) (f : Str) (ta : L2.TA) : L2.St → Hp → XK → Prop := fun σ H Q => ta σ H fun vs H1 => ∃ v, vs = [v] ∧ ∀ d, H1 d = none → Q (.ref C) (some d) (upd H1 d (.xd [(f, v)]))
open PySem.W in
theorem pmk_sup {X : Cx} {x f : Str} {C : Addr} {k : Nat} {params : Arguments} {body : List Stmt} {scope : Scope} {e : Expr} {ta : L2.TA} {p pos : PySem.Pos} (T : SupF X.prog X.K C f params body scope) (B : SupB f params body scope) (hm : X.mg x = some (.ref C)) (hsu : X.mg "super" = none) (hr : Room k X.A) (ha : PA X [e] ta) (hg : Gl X x)
    (hdb : (x == ("__debug__" : Str)) = false := by decide) (he : starEach [e] X.env = (false, eval e X.env) :: starEach [] X.env := by rfl) (hpl : (backTo pos (starEach [] X.env)).any (·.1) = false := by rfl) :
    PMk X (.Call (.Name x p) [e] [] pos) (tMkS C f ta) := by
  intro pins s σ H Q I h
  obtain ⟨nm2, q2, N, bs, bm, sn, sub, ab, col, dd, k0, k1, k2, k3, k5, hC, hbm⟩ := T.oex.cls
  obtain ⟨fI, nm, qual, oc, od, osl, kV, doc, pm, an, tcl, cda, cc, ccl, cdd, ccs, vs, file, tf, cl, cld, csl, iC, tI, lk, hcd, lk2, hvs, hfile, lk3⟩ := T.ini
  obtain ⟨ar, par1, par2⟩ := B.par
  obtain ⟨p0, p1, p2, p3, p4, p5, p6, p7, p8, p9, tx, jj, pl, hbody, hev⟩ := B.bd
  refine wpAny_Call_Name_kw (ld_glob I hg hm ?_ hdb)
  refine PySem.W.callWith_K (h₀ := X.base) I.ok.mod.kin T.oex.kC (thn (ha.run pos pins s σ H _ I h) fun us s1 ⟨vs1, H1, I1, r1, v, ev, q1⟩ => ⟨I1.kIn, ?_⟩) he hpl
  subst ev
  obtain ⟨u, rfl, ru⟩ := vals1 r1
  show wpAny _ _ (call (.ref C) [u]) _ _ _
  obtain ⟨hp, g, dr, tk, os⟩ := s1
  have kk : ∀ b o, hp.get? b = some o → ((hp.push (PySem.W.kdv_tup [u])).push (PySem.HandSPX.excO C hp.objs.size)).get? b = some o := fun b o e => Heap.get?_push_of_some _ (Heap.get?_push_of_some _ e)
  have hget : ((hp.push (PySem.W.kdv_tup [u])).push (PySem.HandSPX.excO C hp.objs.size)).get? (hp.objs.size + 1) = some (PySem.HandSPX.excO C hp.objs.size) := by heap_get
  have hsz : hp.objs.size ≤ hp.objs.size + 1 := Nat.le_succ _
  have hn : H1 (hp.objs.size + 1) = none := I1.hok.fresh hsz
  have hKa : X.K.lookup (hp.objs.size + 1) = none := by
    cases e : X.K.lookup (hp.objs.size + 1) with
    | none => rfl
    | some o => exact absurd (Heap.lt_size (I1.kIn _ _ e)) (Nat.not_lt.mpr hsz)
  obtain ⟨mb, hb1, hb2⟩ := I1.mod.blt
  refine wpAny_call (PySem.HandSPX.call_own PySem.F.excBase_ValueError (fun Y => PySem.HandSPX.refsVE_contains Y bm hbm) (I1.kIn _ _ hC) (PySem.W.looks_findIn I1.kIn iC) (fun self => PySem.W.bind_fn I1.kIn self tI) (by rw [sizeLine_eq]; show 1 ≤ 16777216; decide) ?_)
  refine sup_run (C := C) (a := hp.objs.size + 1) hbody (I1.kIn.keeps kk) ((I1.mod.glob.keeps I1.bk).keeps kk) hsu ((hb1.keeps I1.bk).keeps kk) ((hb2 _ (by decide)).trans (by decide +kernel)) T.oex T.noF lk hcd lk2 hvs hfile lk3 T.sup T.mro T.sve T.opq T.top hget hKa ?_ ((I1.mod.nolimit.keeps I1.bk).keeps kk) (.of_eq (B.bind ..)) par1 par2 B.hfs B.hfd B.hk B.hco B.hgen B.hcells B.l1 B.l2 B.l3 B.l4 (fun L => hev _) (fun h' tk' dx fv kp dn dne hx hns => ?_)
  · have e := make_depth (A := X.A) (C := C) (us := [u]) (kw := [])
    have := hr.dp
    rw [e]
    omega
  · refine ⟨rfl, ?_⟩
    have sz2 : hp.objs.size ≤ ((hp.push (PySem.W.kdv_tup [u])).push (PySem.HandSPX.excO C hp.objs.size)).objs.size := by
      rw [Heap.size_push, Heap.size_push]; omega
    have dn2 : hp.objs.size ≤ dx := Nat.le_trans sz2 dn
    obtain ⟨G, g1', g2'⟩ := restrict h' fun b => decide (b ≠ hp.objs.size + 1)
    have gk : ∀ b, b ≠ hp.objs.size + 1 → G.get? b = h'.get? b := fun b hb => g1' b (decide_eq_true hb)
    have ge : G.get? (hp.objs.size + 1) = none := g2' _ (by simp)
    have J : Inv X pins σ (upd H1 dx (.xd [(f, v)])) ⟨G, g, dr, tk', os⟩ := I1.laid (t' := tk') (a := dx) (o := .xd [(f, v)]) (h' := G) (fun b o e => by
        have hb : b ≠ hp.objs.size + 1 := Nat.ne_of_lt (Nat.lt_succ_of_lt (Heap.lt_size e))
        rw [gk b hb]
        exact kp b o hb (kk b o e)) dn2 ⟨_, hns.at fun o y => (gk dx dne).trans y, relO_put (fs := []) ru fun g => trivial⟩
    exact ⟨hp.objs.size + 1, _, _, ⟨G, g, dr, tk', os⟩, _, .ref C, some dx, rfl, J, fun b o z => by
        by_cases hba : b = hp.objs.size + 1
        · rw [hba, ge] at z; cases z
        · exact (gk b hba).symm.trans z, ge, hx, ⟨rfl, rfl⟩, rfl, rfl, by rw [upd_ne (Ne.symm dne)]; exact hn, rfl, I1.bare, raises_own T.oex.exC T.oex.tyC, q1 dx (I1.hok.fresh dn2)⟩
end DL

/-! DLx: dicts with tuple keys: walked by items, copied. -/
namespace DL
open PySem PySem.Spec PyProof.Rows L2
theorem IsTs.get {K : PySem.W.Frag} {G : Hp} : ∀ {kds : List (List Key × D)} {kvs : List (List Key × V)} {i : Nat} {k : List Key} {v : V}, IsTs K G kds kvs → kvs[i]? = some (k, v) → ∃ d, kds[i]? = some (k, d) ∧ IsD K G d v
  | [], _, _, _, _, h, e => by cases h; simp at e
  | (k', d) :: ds, _, 0, _, _, h, e => by
    obtain ⟨v, r, rfl, h1, _⟩ := h
    simp at e
    obtain ⟨rfl, rfl⟩ := e
    exact ⟨d, rfl, h1⟩
  | (k', d) :: ds, _, i + 1, _, _, h, e => by
    obtain ⟨v, r, rfl, _, h2⟩ := h
    obtain ⟨d', e2, q⟩ := IsTs.get (i := i) h2 (by simpa using e)
    exact ⟨d', by simpa using e2, q⟩
section
variable {K : PySem.W.Frag} {G0 G H : Hp} {W : Wd}
theorem same_lockT {a : Addr} {kvs : List (List Key × V)} {u : Obj} (h : G a = some (.dT kvs)) : Same G (upd G a (.frz u (.dT kvs))) := fun b o e => by
  by_cases hb : b = a
  · subst hb
    rw [h] at e
    cases e
    exact ⟨_, upd_same, .inr (.inr ⟨kvs, u, rfl, rfl⟩)⟩
  · exact ⟨o, by rw [upd_ne hb]; exact e, .inl rfl⟩
theorem same_unlockT {a : Addr} {kvs : List (List Key × V)} {u : Obj} (h : G a = some (.frz u (.dT kvs))) : SameL G (upd G a (.dT kvs)) := fun b o e => by
  by_cases hb : b = a
  · subst hb
    rw [h] at e
    cases e
    exact ⟨_, upd_same, .inr (.inr ⟨kvs, rfl, rfl⟩)⟩
  · exact ⟨o, by rw [upd_ne hb]; exact e, .inl rfl⟩
theorem Rel.lockT (R : Rel K G H W) {a : Addr} {kvs : List (List Key × V)} {u : Obj} (h : G a = some (.dT kvs)) : Rel K (upd G a (.frz u (.dT kvs))) (upd H a (.frz u (.dT kvs))) W := by
  refine ⟨fun b o e => ?_, fun l m e => ?_⟩
  · by_cases hb : b = a
    · subst hb
      rw [upd_same] at e
      cases e
      exact .inl upd_same
    · rw [upd_ne hb] at e
      rcases R.st b o e with h1 | ⟨w, h1, q⟩
      · exact .inl (by rw [upd_ne hb]; exact h1)
      · exact .inr ⟨w, by rw [upd_ne hb]; exact h1, q⟩
  · obtain ⟨g, o, e1, q⟩ := R.own l m e
    have ne : l ≠ a := fun z => by rw [z, h] at g; cases g
    exact ⟨by rw [upd_ne ne]; exact g, o, by rw [upd_ne ne]; exact e1, q.up (same_lockT h)⟩
theorem Rel.relockT (R : Rel K G H W) {a : Addr} {kvs : List (List Key × V)} {u : Obj} (h : G a = some (.dT kvs)) (h2 : H a = some (.frz u (.dT kvs))) : Rel K (upd G a (.frz u (.dT kvs))) H W := by
  refine ⟨fun b o e => ?_, fun l m e => ?_⟩
  · by_cases hb : b = a
    · subst hb
      rw [upd_same] at e
      cases e
      exact .inl h2
    · rw [upd_ne hb] at e
      exact R.st b o e
  · obtain ⟨g, o, e1, q⟩ := R.own l m e
    have ne : l ≠ a := fun z => by rw [z, h] at g; cases g
    exact ⟨by rw [upd_ne ne]; exact g, o, e1, q.up (same_lockT h)⟩
theorem Rel.unlockT (R : Rel K G H W) {a : Addr} {kvs : List (List Key × V)} {u : Obj} (h : G a = some (.frz u (.dT kvs))) : H a = some (.frz u (.dT kvs)) ∧ Rel K (upd G a (.dT kvs)) (upd H a (.dT kvs)) W := by
  refine ⟨(R.st _ _ h).eq rfl, fun b o e => ?_, fun l m e => ?_⟩
  · by_cases hb : b = a
    · subst hb
      rw [upd_same] at e
      cases e
      exact .inl upd_same
    · rw [upd_ne hb] at e
      rcases R.st b o e with h1 | ⟨w, h1, q⟩
      · exact .inl (by rw [upd_ne hb]; exact h1)
      · exact .inr ⟨w, by rw [upd_ne hb]; exact h1, q⟩
  · obtain ⟨g, o, e1, q⟩ := R.own l m e
    have ne : l ≠ a := fun z => by rw [z, h] at g; cases g
    exact ⟨by rw [upd_ne ne]; exact g, o, by rw [upd_ne ne]; exact e1, q.upL (same_unlockT h)⟩
theorem same_backT {G1 G' : Hp} {a : Addr} {kvs : List (List Key × V)} {u : Obj} (h : G a = some (.dT kvs)) (s : Same (upd G a (.frz u (.dT kvs))) G') : Same G (upd G' a (.dT kvs)) := fun b o e => by
  by_cases hb : b = a
  · subst hb
    rw [h] at e
    cases e
    exact ⟨_, upd_same, .inl rfl⟩
  · obtain ⟨o', e', l⟩ := s b o (by rw [upd_ne hb]; exact e)
    exact ⟨o', by rw [upd_ne hb]; exact e', l⟩
/-- the statement runs while the dict in slot i is locked -/
def aLockT (i : Nat) (f : List (List Key × D) → AS) : AS := fun A δ W => ∃ kds, δ[i]? = some (some (.dt kds)) ∧ f kds A δ W
theorem sim_lockT {t : TS} {f : List (List Key × D) → AS} {i : Nat} (h : ∀ E A σ H G δ W a od kds kvs, Same G0 G → Rel K G H W → IsSl K G δ σ → EndsOk K G E A → σ[i]? = some (some (.ref a)) → G a = some (.frz od (.dT kvs)) → IsTs K G kds kvs → f kds A δ W → t E σ H) :
    SimS K G0 (fun E σ H => tLock t E σ H ∨ t E σ H) (aLockT i f) := fun E A σ H G δ W s0 R S eo ⟨kds, e, q⟩ => by
  obtain ⟨v, e2, a, kvs, rfl, ⟨o, g, c⟩, ks⟩ := S.get i _ e
  unfold dtC at c
  split at c
  · cases c
    rcases R.st _ _ g with r | ⟨u, r, _⟩
    · refine .inl ⟨a, .dT kvs, r, trivial, fun od => ?_⟩
      have s1 := same_lockT (u := od) g
      have back : ∀ {G' H' : Hp} {W' : Wd}, Same (upd G a (.frz od (.dT kvs))) G' → Rel K G' H' W' → G' a = some (.frz od (.dT kvs)) := fun s R' => s.frz upd_same
      refine h _ A σ _ _ δ W a od kds kvs (s0.trans s1) (R.lockT g) (S.up s1) ⟨?_, ?_, ?_, ?_⟩ e2 upd_same (IsTs.up s1 _ _ ks) q
      · intro σ' δ' G' H' W' s R' S' n
        have g' := back s R'
        obtain ⟨x, y⟩ := R'.unlockT g'
        exact ⟨x, eo.nx _ _ _ _ _ (same_backT (G1 := G) g s) y (S'.upL (same_unlockT g')) n⟩
      · intro v' d' G' H' W' s R' hd n
        have g' := back s R'
        obtain ⟨x, y⟩ := R'.unlockT g'
        exact ⟨x, eo.rt _ _ _ _ _ (same_backT (G1 := G) g s) y (IsD.upL (same_unlockT g') _ _ hd) n⟩
      · intro σ' δ' G' H' W' s R' S' n
        have g' := back s R'
        obtain ⟨x, y⟩ := R'.unlockT g'
        exact ⟨x, eo.bk _ _ _ _ _ (same_backT (G1 := G) g s) y (S'.upL (same_unlockT g')) n⟩
      · intro σ' δ' G' H' W' s R' S' n
        have g' := back s R'
        obtain ⟨x, y⟩ := R'.unlockT g'
        exact ⟨x, eo.ct _ _ _ _ _ (same_backT (G1 := G) g s) y (S'.upL (same_unlockT g')) n⟩
    · have s1 := same_lockT (u := u) g
      exact .inr (h E A σ H _ δ W a u kds kvs (s0.trans s1) (R.relockT g r) (S.up s1) (eo.up s1) e2 upd_same (IsTs.up s1 _ _ ks) q)
  · rename_i u _
    cases c
    exact .inr (h E A σ H G δ W a u kds kvs s0 R S eo e2 g ks q)
  · cases c
end
/-! ### items of a dict with tuple keys -/
theorem Inv.frzTv {X : Cx} {pins : List (Addr × Obj)} {σ : L2.St} {H : Hp} {s : Shared} {d : Addr} {o : Obj} {kvs : List (List Key × V)} (I : L2.Inv X pins σ H s) (h : H d = some (.frz o (.dT kvs))) :
    (d == sysModules) = false ∧ s.heap.get? d = some o ∧ o.ExactDict ∧ ∃ (es : Array DictEntry) (ep : Nat), o.data = .dict es ep ∧ es.size = kvs.length ∧
      ∀ (i : Nat) (k : List Key) (v : V), kvs[i]? = some (k, v) → ∃ (en : DictEntry) (q : Addr), es[i]? = some en ∧ en.key = .ref q ∧ H q = some (.tup (k.map kV)) ∧ L2.RelV v en.val := by
  obtain ⟨hd, z, hs, xs, pr, o', es, ep, ho, hx, hdt, he, _⟩ := I.hok d _ h
  rw [hd] at ho
  cases ho
  refine ⟨hs, hd, hx, es, ep, hdt, ?_, fun i k v e => ?_⟩
  · have l1 : es.size = xs.length := size_of_entries he
    have l2 : kvs.length = xs.length := Paired.length pr
    omega
  · obtain ⟨b, hb, e1, e2, e3⟩ := paired_get pr e
    have q := entry_at he i
    rw [hb] at q
    exact ⟨_, b.2.1, q, rfl, e2, e3⟩
def Itit (d : Addr) (o : Obj) (kvs : List (List Key × V)) : It :=
  ⟨fun i H => H d = some (.frz o (.dT kvs)) ∧ i < kvs.length, fun i H x H' => ∃ T k v q, kvs[i]? = some (k, v) ∧ x = .ref T ∧ H T = none ∧ H q = some (.tup (k.map kV)) ∧ H' = upd H T (.tup [.ref q, v]), fun i H => H d = some (.frz o (.dT kvs)) ∧ kvs.length ≤ i⟩
theorem turn_itemsT {P : Program} {w : World} {K : PySem.W.Frag} {d : Addr} {o : Obj} {es : Array DictEntry} {ep : Nat} {kvs : List (List Key × V)} {elts : List Expr} {kk : Nat} {tpos : PySem.Pos} (it : Addr) (hod : o.data = .dict es ep) :
    Turn P w K (.Tuple elts kk tpos) (Itit d o kvs) [it] it (fun i h => ∃ ok ov, IsItemIter h it d i kvs.length ep ok ov) where
  mem := by simp
  obj := fun i h st b hb => by
    have e : b = it := by simpa using hb
    subst e
    obtain ⟨ok, ov, e⟩ := st
    exact ⟨_, e, fun v z => nomatch z⟩
  keep := fun i h h' st k => let ⟨ok, ov, e⟩ := st; ⟨ok, ov, k it (by simp) _ e⟩
  item := by
    intro X hP hw hK hc i pins s σ H E I hf st hg
    subst hP hw hK
    obtain ⟨hd, hi⟩ := hg
    obtain ⟨hs, hgd, hx, es', ep', hdt, hsz, ent⟩ := Inv.frzTv I hd
    obtain ⟨rfl, rfl⟩ := dict_ep hod hdt
    obtain ⟨⟨k, v⟩, hkv⟩ : ∃ p, kvs[i]? = some p := ⟨kvs[i], List.getElem?_eq_getElem hi⟩
    obtain ⟨en, q, hen, hkey, hq, rv⟩ := ent i k v hkv
    obtain ⟨ok, ov, he⟩ := st
    rw [← hsz] at he
    have hlt : it < s.heap.objs.size := Heap.lt_size he
    have hi2 : i < es'.size := by omega
    have hen2 : es'[i] = en := by
      rw [Array.getElem?_eq_getElem hi2] at hen
      exact Option.some.inj hen
    refine DT.nextI he ⟨o, hgd, hx, hdt⟩ hi2 fun h' ho hT hz hk => ?_
    rw [hen2] at ho hT
    refine ⟨_, rfl, wpAny_letOwnedTupleGo_items (s := { s with heap := h' }) ho fun h'' he' sb => ?_⟩
    have hT2 : h''.get? s.heap.objs.size = some { cls := .type "tuple", data := .seq #[en.key, en.val] } := (sb.2 _ (Nat.ne_of_gt hlt)).trans hT
    have new : ObjOk X.prog X.w (upd H s.heap.objs.size (.tup [.ref q, v])) h'' s.heap.objs.size (.tup [.ref q, v]) :=
      ⟨by show 2 ≤ sizeLine; rw [sizeLine_eq]; decide, [en.key, en.val], .cons hkey (.cons rv .nil), ⟨_, hT2, rfl, _, rfl⟩⟩
    have I1 : L2.Inv X pins σ (upd H s.heap.objs.size (.tup [.ref q, v])) { s with heap := h'' } :=
      I.turnedNew (t' := s.toks) (ch := [it]) (fun b ob hb e => (sb.2 b (by simpa using hb)).trans (hk b ob (by simpa using hb) e)) hf (Nat.le_refl _) new
    refine ⟨.ref s.heap.objs.size, _, I1, rfl, ⟨_, k, v, q, hkv, rfl, I.hok.fresh (Nat.le_refl _), hq, rfl⟩, ⟨en.key, en.val, ?_⟩, fun b hb => ?_⟩
    · rw [← hsz]; exact he'
    · have e : b = it := by simpa using hb
      rw [e, upd_ne (Nat.ne_of_lt hlt)]
      exact (hf it (by simp)).1
  done := by
    intro X hP hw hK hc i pins s σ H E I hf st hg
    subst hP hw hK
    obtain ⟨hd, hi⟩ := hg
    obtain ⟨f0, f1, f2, f3, f4, f5⟩ := hf it (by simp)
    obtain ⟨hs, hgd, hx, es', ep', hdt, hsz, ent⟩ := Inv.frzTv I hd
    obtain ⟨rfl, rfl⟩ := dict_ep hod hdt
    obtain ⟨ok, ov, he⟩ := st
    rw [← hsz] at he
    exact DT.endI (I.ok.hd hc) he ⟨o, hgd, hx, hdt⟩ (by omega) fun h' eb => ⟨rfl, I.turned (t' := s.toks) (fun b ob hb e => eb b ob hb e) f0 f1 f3 f4 f5⟩
  self := fun A i s Q E st h => let ⟨_, _, e⟩ := st; PySem.W.kcp_self e h
def iItemsT (td : TE) : TI := fun σ H R => td σ H fun x H1 => ∃ d o kvs, x = .ref d ∧ H1 d = some (.frz o (.dT kvs)) ∧ R (Itit d o kvs) H1
theorem pi_itemsT {X : Cx} {e : Expr} {td : TE} {apos cpos : PySem.Pos} {elts : List Expr} {kk : Nat} {tpos : PySem.Pos} (he : PE X e td) (hbase : attributeBase e "items" X.env (eval e X.env) = eval e X.env := by rfl) (hline : (apos.endLine == cpos.line) = true := by rfl) :
    PI X (.Tuple elts kk tpos) (.Call (.Attribute e "items" apos) [] [] cpos) (iItemsT td) := by
  refine ⟨fun pins s σ H R I h => ?_⟩
  refine wpAny_Call_method (T := "dict") (id := "dict.items") hbase rfl hline PySem.F.plainAttrs_dict PySem.F.slot_dict_items PySem.F.type_dict_items (thn (he.run pins s σ H _ I h) fun u s1 ⟨x, H1, I1, rx, d, o, kvs, ex, hd, q⟩ => ?_)
  subst ex
  obtain rfl : u = Value.ref d := rx
  obtain ⟨hs, hgd, hx, es, ep, hdt, hsz, ent⟩ := Inv.frzTv I1 hd
  have raw : DT.Raw s1.heap d es ep := ⟨o, hgd, hx, hdt⟩
  refine ⟨raw.typeIs, fun a e => by cases e; exact ⟨o, hgd, hx.2.1⟩, ?_⟩
  have I2 : L2.Inv X pins σ H1 { s1 with heap := s1.heap.push { cls := .type "dict_items", data := .fields #[.ref d] } } := I1.kept (t' := s1.toks) fun b ob q => Heap.get?_push_of_some _ q
  have fin : wpAny (model X.prog X.w) X.A (pyIter (.ref s1.heap.objs.size)) (PIE X pins σ (.Tuple elts kk tpos) R) X.xe { s1 with heap := s1.heap.push { cls := .type "dict_items", data := .fields #[.ref d] } } := by
    refine DT.iterI (d := d) (es := es) (ep := ep) ⟨_, Heap.get?_push_size _ rfl, rfl, rfl⟩ (raw.push _) (pi_one (tk := s1.toks) I2 _ (turn_itemsT _ hdt) ⟨.none, .none, ?_⟩ q)
    rw [← hsz]
    exact Heap.get?_push_size _ rfl
  show wpAny _ _ (callWith cpos (.builtin "dict.items") [.ref d] [] []) _ X.xe s1
  exact method_meetsIn PySem.F.slot_dict_items PySem.F.entry_dict_items rfl (PySem.evalArgs_none ⟨rfl, raw.typeIs, PySem.F.args_dict_items_1 _, _, DT.meetsItems (es := es) (ep := ep) hs, ⟨raw, fin⟩⟩)
def keysD (k : List Key) : D := .tup (k.map keyD)
theorem keysD_at {K : PySem.W.Frag} {G : Hp} : ∀ k : List Key, IsDs K G (k.map keyD) (k.map kV)
  | [] => rfl
  | k :: r => ⟨_, _, rfl, keyD_at k, keysD_at r⟩
section
variable {K : PySem.W.Frag} {G G0 : Hp}
theorem walks_itemsT {a : Addr} {od : Obj} {kds : List (List Key × D)} {kvs : List (List Key × V)} (hG : G a = some (.frz od (.dT kvs))) (ks : IsTs K G kds kvs) : Walks K G (Itit a od kvs) (kds.map fun kv => .tup [keysD kv.1, kv.2]) (fun _ => True) := by
  refine ⟨fun i G' H' W' s R' ok hi => ?_, fun i G' H' W' s R' ok hi => ?_, fun i G' H' W' x H2 s R' ok hi hy => ?_⟩
  · exact ⟨(R'.st _ _ (s.frz hG)).eq rfl, by rw [← ks.length]; simpa using hi⟩
  · exact ⟨(R'.st _ _ (s.frz hG)).eq rfl, by rw [← ks.length]; simpa using hi⟩
  · obtain ⟨T, k, v, q, e, rfl, hT, hq, rfl⟩ := hy
    obtain ⟨d, e2, qd⟩ := ks.get e
    have nq : q ≠ T := ne_of_none hq hT
    obtain ⟨s2, R2⟩ := R'.new (o := .tup [.ref q, v]) hT
    -- the key's tuple stands for good from here on
    have key : ∃ G3, Same (upd G' T (.tup [.ref q, v])) G3 ∧ Rel K G3 (upd H' T (.tup [.ref q, v])) W' ∧ G3 q = some (.tup (k.map kV)) := by
      have hq2 : (upd H' T (.tup [.ref q, v])) q = some (.tup (k.map kV)) := by rw [upd_ne nq]; exact hq
      cases eg : (upd G' T (.tup [.ref q, v])) q with
      | some o =>
        have := (R2.st _ _ eg).rd
        rcases R2.st _ _ eg with h1 | ⟨u, h1, _⟩
        · rw [hq2] at h1; cases h1; exact ⟨_, Same.refl _, R2, eg⟩
        · rw [hq2] at h1; cases h1
      | none =>
        have nw : W' q = none := by
          cases ew : W' q with
          | none => rfl
          | some m =>
            obtain ⟨_, o, eo, hm⟩ := R2.own q m ew
            rw [hq2] at eo
            cases eo
            cases m with
            | lst _ => obtain ⟨_, z, _⟩ := hm; cases z
            | dk _ => obtain ⟨_, z, _⟩ := hm; cases z
            | dt _ => obtain ⟨_, z, _⟩ := hm; cases z
            | obj _ _ => obtain ⟨_, _, z, _⟩ := hm; cases z
        refine ⟨upd (upd G' T (.tup [.ref q, v])) q (.tup (k.map kV)), same_updG eg, ⟨fun b o e => ?_, fun l m e => ?_⟩, upd_same⟩
        · by_cases hb : b = q
          · subst hb; rw [upd_same] at e; cases e; exact .inl hq2
          · rw [upd_ne hb] at e; exact R2.st b o e
        · obtain ⟨g, o, e1, qm⟩ := R2.own l m e
          have ne : l ≠ q := fun z => by rw [z, nw] at e; cases e
          exact ⟨by rw [upd_ne ne]; exact g, o, e1, qm.up (same_updG eg)⟩
    obtain ⟨G3, s3, R3, g3⟩ := key
    refine ⟨.tup [keysD k, d], G3, by rw [List.getElem?_map, e2]; rfl, s2.trans s3, R3, T, [.ref q, v], rfl, ?_, .ref q, [v], rfl, ⟨q, _, rfl, g3, keysD_at k⟩, v, [], rfl, IsD.up (s.trans (s2.trans s3)) _ _ qd, rfl⟩
    exact s3.at upd_same rfl rfl
end
section
variable {X : Cx} {G0 : Hp} {pos apos cpos p : PySem.Pos}
def aForItemsT (i : Nat) (g : AG) (b : AS) : AS := aLockT i fun kds A δ W => forL g b A (fun _ => True) (kds.map fun kv => .tup [keysD kv.1, kv.2]) δ W
variable {tg : Expr} {body : List Stmt} {g : TG} {ag : AG} {tb : TS} {ab : AS} {i : Nat} {x : Str} {elts : List Expr} {kk : Nat} {tpos : PySem.Pos}
theorem ds_forItemsT (hp : PassesOwn (model X.prog X.w) X.A X.env X.xe) (hc : X.calm = true) (hx : DE X G0 (.Name x p) (tVar i) (aVar i)) (hg : DG X G0 (.Tuple elts kk tpos) g ag) (hb : DSs X G0 body tb ab)
    (hs : ∀ y, foldedSetIterable (.Call (.Attribute (.Name x p) "items" apos) [] [] cpos) X.env y = pure y := by intro _; rfl) (hbase : attributeBase (.Name x p) "items" X.env (eval (.Name x p) X.env) = eval (.Name x p) X.env := by rfl) (hline : (apos.endLine == cpos.line) = true := by rfl) :
    DS X G0 (.For (.Tuple elts kk tpos) (.Call (.Attribute (.Name x p) "items" apos) [] [] cpos) body [] pos) (fun E σ H => tLock (tFor (iItemsT (tVar i)) g tb) E σ H ∨ tFor (iItemsT (tVar i)) g tb E σ H) (aForItemsT i ag ab) := by
  have h := ps_for (pos := pos) hp hc (pi_itemsT hx.pe hbase hline) hg.pg hb.ps hs
  refine ⟨ps_or (ps_lock h) h, sim_lockT fun E A σ H G δ W a od kds kvs s0 R S eo e g k q => ?_⟩
  exact ⟨.ref a, e, a, od, kvs, rfl, (R.st _ _ g).eq rfl, sim_forW hg.sim hb.sim s0 R S eo (walks_itemsT g k) q⟩
end
theorem go_itemsT {kds : List (List Key × D)} {g : AG} {s : AS} {A : AEnds} {δ : Sl} {W : Wd} {n : Nat} (h0 : δ[n]? = some (some (.dt kds))) (h : forL g s A (fun _ => True) (kds.map fun kv => .tup [keysD kv.1, kv.2]) δ W) : aForItemsT n g s A δ W := ⟨kds, h0, h⟩
end DL

/-! DLy: what repr says of data, bounds put together part by part. -/
namespace DL
open PySem PySem.Spec PyProof.Rows L2
mutual
def D.rp : D → Option PyData
  | .non => some .none
  | .bl b => some (.bool b)
  | .int i => some (.int i)
  | .str x => some (.str x)
  | .tup ds => (D.rps ds).map .tuple
  | .lst ds => (D.rps ds).map .list
  | .dk kds => (D.rpk kds).map .dict
  | .dt kds => (D.rpt kds).map .dict
  | _ => none
def D.rps : List D → Option (List PyData)
  | [] => some []
  | d :: ds => match d.rp, D.rps ds with
    | some p, some ps => some (p :: ps)
    | _, _ => none
def D.rpk : List (Key × D) → Option (List (PyData × PyData))
  | [] => some []
  | (k, d) :: ds => match d.rp, D.rpk ds with
    | some p, some ps => some ((keyP k, p) :: ps)
    | _, _ => none
def D.rpt : List (List Key × D) → Option (List (PyData × PyData))
  | [] => some []
  | (k, d) :: ds => match d.rp, D.rpt ds with
    | some p, some ps => some ((.tuple (k.map keyP), p) :: ps)
    | _, _ => none
end
mutual
theorem D.rp_rpF (W : Wd) : ∀ (d : D) (p : PyData), d.rp = some p → ∀ n, p.depth < n → rpF W n d = some p
  | .non, p, h, n + 1, _ => by cases h; rfl
  | .bl b, p, h, n + 1, _ => by cases h; rfl
  | .int i, p, h, n + 1, _ => by cases h; rfl
  | .str x, p, h, n + 1, _ => by cases h; rfl
  | .tup ds, p, h, n + 1, hn => by
    rw [D.rp, Option.map_eq_some_iff] at h
    obtain ⟨ps, h, rfl⟩ := h
    rw [PyData.depth] at hn
    show (mapO (rpF W n) ds).map PyData.tuple = _
    rw [D.rps_mapO W ds ps h n (by omega)]; rfl
  | .lst ds, p, h, n + 1, hn => by
    rw [D.rp, Option.map_eq_some_iff] at h
    obtain ⟨ps, h, rfl⟩ := h
    rw [PyData.depth] at hn
    show (mapO (rpF W n) ds).map PyData.list = _
    rw [D.rps_mapO W ds ps h n (by omega)]; rfl
  | .flst _, _, h, _, _ => by cases h
  | .dk kds, p, h, n + 1, hn => by
    rw [D.rp, Option.map_eq_some_iff] at h
    obtain ⟨ps, h, rfl⟩ := h
    rw [PyData.depth] at hn
    show (mapO (fun kd : Key × D => (rpF W n kd.2).map fun p => (keyP kd.1, p)) kds).map PyData.dict = _
    rw [D.rpk_mapO W kds ps h n (by omega)]; rfl
  | .dt kds, p, h, n + 1, hn => by
    rw [D.rp, Option.map_eq_some_iff] at h
    obtain ⟨ps, h, rfl⟩ := h
    rw [PyData.depth] at hn
    show (mapO (fun kd : List Key × D => (rpF W n kd.2).map fun p => (PyData.tuple (kd.1.map keyP), p)) kds).map PyData.dict = _
    rw [D.rpt_mapO W kds ps h n (by omega)]; rfl
  | .ty _, _, h, _, _ => by cases h
  | .ptr _, _, h, _, _ => by cases h
  | .fobj _ _, _, h, _, _ => by cases h
theorem D.rps_mapO (W : Wd) : ∀ (ds : List D) (ps : List PyData), D.rps ds = some ps → ∀ n, PyData.depthAll ps < n → mapO (rpF W n) ds = some ps
  | [], ps, h, n, _ => by cases h; rfl
  | d :: ds, ps, h, n, hn => by
    rw [D.rps] at h
    split at h
    · rename_i p qs e1 e2
      cases h
      rw [PyData.depthAll] at hn
      rw [mapO, D.rp_rpF W d p e1 n (by omega), D.rps_mapO W ds qs e2 n (by omega)]
    · cases h
theorem D.rpk_mapO (W : Wd) : ∀ (ds : List (Key × D)) (ps : List (PyData × PyData)), D.rpk ds = some ps → ∀ n, PyData.depthKv ps < n → mapO (fun kd : Key × D => (rpF W n kd.2).map fun p => (keyP kd.1, p)) ds = some ps
  | [], ps, h, n, _ => by cases h; rfl
  | (k, d) :: ds, ps, h, n, hn => by
    rw [D.rpk] at h
    split at h
    · rename_i p qs e1 e2
      cases h
      rw [PyData.depthKv] at hn
      rw [mapO, D.rp_rpF W d p e1 n (by omega), D.rpk_mapO W ds qs e2 n (by omega)]; rfl
    · cases h
theorem D.rpt_mapO (W : Wd) : ∀ (ds : List (List Key × D)) (ps : List (PyData × PyData)), D.rpt ds = some ps → ∀ n, PyData.depthKv ps < n → mapO (fun kd : List Key × D => (rpF W n kd.2).map fun p => (PyData.tuple (kd.1.map keyP), p)) ds = some ps
  | [], ps, h, n, _ => by cases h; rfl
  | (k, d) :: ds, ps, h, n, hn => by
    rw [D.rpt] at h
    split at h
    · rename_i p qs e1 e2
      cases h
      rw [PyData.depthKv] at hn
      rw [mapO, D.rp_rpF W d p e1 n (by omega), D.rpt_mapO W ds qs e2 n (by omega)]; rfl
    · cases h
end
def D.sh (d : D) : Str := (d.rp.getD .none).shown
def Rp (d : D) (n w : Nat) : Prop := ∃ p, d.rp = some p ∧ Shp p ∧ p.depth ≤ n ∧ p.weight ≤ w
def Rps (ds : List D) (n w : Nat) : Prop := ∃ ps, D.rps ds = some ps ∧ Shps ps ∧ PyData.depthAll ps ≤ n ∧ PyData.weightAll ps ≤ w
theorem go_reprE {W : Wd} {Q : DQ} {d : D} {n w : Nat} (h : Rp d n w) (hn : n ≤ 150) (hw : w ≤ 2 ^ 20) (k : Q (.str d.sh) W) : dReprX [d] W Q := by
  obtain ⟨p, e, s, a, b⟩ := h
  refine go_reprX 151 (D.rp_rpF W d p e 151 (by omega)) s (by omega) (by omega) ?_
  unfold D.sh at k
  rw [e] at k
  exact k
theorem Rp.mono {d : D} {n w n' w' : Nat} (h : Rp d n w) (hn : n ≤ n') (hw : w ≤ w') : Rp d n' w' := by
  obtain ⟨p, e, s, a, b⟩ := h
  exact ⟨p, e, s, Nat.le_trans a hn, Nat.le_trans b hw⟩
theorem rp_non : Rp .non 0 0 := ⟨_, rfl, shp_non, by simp [PyData.depth], by simp [PyData.weight]⟩
theorem rp_bl (b : Bool) : Rp (.bl b) 0 0 := ⟨_, rfl, shp_bl b, by simp [PyData.depth], by simp [PyData.weight]⟩
theorem rp_int {i : Int} (h0 : -1000 ≤ i) (h1 : i ≤ 1000) : Rp (.int i) 0 11 := ⟨_, rfl, shp_int (by omega), by simp [PyData.depth], wt_int (k := 10) (by omega)⟩
theorem rp_intB {i : Int} (h1 : i.natAbs < 10 ^ 12) : Rp (.int i) 0 41 := ⟨_, rfl, shp_int h1, by simp [PyData.depth], wt_int (k := 40) (by omega)⟩
theorem rp_str {x : Str} (h : ∀ c ∈ x.cps.toList, c < 16 ^ 8) : Rp (.str x) 0 x.cps.size := ⟨_, rfl, shp_str h, by simp [PyData.depth], by simp [PyData.weight]⟩
theorem rp_low {x : Str} (h : Low x) : Rp (.str x) 0 x.cps.size := ⟨_, rfl, shp_low h, by simp [PyData.depth], by simp [PyData.weight]⟩
theorem rps_nil : Rps [] 0 0 := ⟨[], rfl, (fun p h => by cases h), by simp [PyData.depthAll], by simp [PyData.weightAll]⟩
theorem rps_cons {d : D} {ds : List D} {n n' w w' : Nat} (h : Rp d n w) (h' : Rps ds n' w') : Rps (d :: ds) (max n n') (w + 1 + w') := by
  obtain ⟨p, e, s, a, b⟩ := h
  obtain ⟨ps, e', s', a', b'⟩ := h'
  refine ⟨p :: ps, by rw [D.rps, e, e'], fun q hq => ?_, ?_, ?_⟩
  · rcases List.mem_cons.mp hq with rfl | hq
    · exact s
    · exact s' q hq
  · rw [PyData.depthAll]; omega
  · rw [PyData.weightAll]; omega
theorem rps_all {n w : Nat} : ∀ {ds : List D}, (∀ d ∈ ds, Rp d n w) → Rps ds n (ds.length * (w + 1))
  | [], _ => ⟨[], rfl, (fun p h => by cases h), by simp [PyData.depthAll], by simp [PyData.weightAll]⟩
  | d :: ds, h => by
    have a := rps_cons (h d List.mem_cons_self) (rps_all fun x hx => h x (List.mem_cons_of_mem _ hx))
    rw [Nat.max_self] at a
    rw [List.length_cons, Nat.add_mul, Nat.one_mul, Nat.add_comm]
    exact a
theorem rps_app {xs ys : List D} {n n' w w' : Nat} (h : Rps xs n w) (h' : Rps ys n' w') : Rps (xs ++ ys) (max n n') (w + w') := by
  induction xs generalizing n w with
  | nil =>
    obtain ⟨ps, e, s, a, b⟩ := h'
    exact ⟨ps, e, s, by omega, by omega⟩
  | cons x xs ih =>
    obtain ⟨ps, e, s, a, b⟩ := h
    rw [D.rps] at e
    split at e
    · rename_i p qs e1 e2
      cases e
      rw [PyData.depthAll] at a
      rw [PyData.weightAll] at b
      obtain ⟨rs, e', s', a', b'⟩ := ih (n := PyData.depthAll qs) (w := PyData.weightAll qs) ⟨qs, e2, fun q hq => s q (List.mem_cons_of_mem _ hq), Nat.le_refl _, Nat.le_refl _⟩
      refine ⟨p :: rs, by rw [List.cons_append, D.rps, e1, e'], fun q hq => ?_, ?_, ?_⟩
      · rcases List.mem_cons.mp hq with rfl | hq
        · exact s _ List.mem_cons_self
        · exact s' q hq
      · rw [PyData.depthAll]; omega
      · rw [PyData.weightAll]; omega
    · cases e
theorem rp_tup {ds : List D} {n w : Nat} (h : Rps ds n w) : Rp (.tup ds) (n + 1) w := by
  obtain ⟨ps, e, s, a, b⟩ := h
  exact ⟨.tuple ps, by rw [D.rp, e]; rfl, shp_tup s, by rw [PyData.depth]; omega, by rw [PyData.weight]; exact b⟩
theorem rp_lstS {ds : List D} {n w : Nat} (h : Rps ds n w) : Rp (.lst ds) (n + 1) w := by
  obtain ⟨ps, e, s, a, b⟩ := h
  exact ⟨.list ps, by rw [D.rp, e]; rfl, shp_lst s, by rw [PyData.depth]; omega, by rw [PyData.weight]; exact b⟩
theorem trm_rp (t : Trm) : t.d.rp = some t.d.py := by
  induction t using Trm.ind with
  | hv n => rfl
  | ha f ts ih =>
    rw [Trm.d_app, D.rp, D.rps, D.py, D.pys, D.rp]
    have : D.rps (ts.map Trm.d) = some (D.pys (ts.map Trm.d)) := by
      induction ts with
      | nil => rfl
      | cons u us ih2 => rw [List.map_cons, D.rps, ih u List.mem_cons_self, ih2 fun v hv => ih v (List.mem_cons_of_mem _ hv), D.pys]
    rw [this]; rfl
theorem rp_trm {t : Trm} (h : Tn t) : Rp t.d t.depth (12 * t.size) := ⟨_, trm_rp t, h.shp.1, t.depth_py, by have := h.shp.2; omega⟩
theorem rp_ints {xs : List Int} (h : ∀ x ∈ xs, -1000 ≤ x ∧ x ≤ 1000) : Rp (posD xs) 1 (xs.length * 12) := by
  have := rp_tup (rps_all (ds := xs.map D.int) (n := 0) (w := 11) fun d hd => by
    obtain ⟨x, hx, rfl⟩ := List.mem_map.mp hd
    exact rp_int (h x hx).1 (h x hx).2)
  rw [List.length_map] at this
  exact this
/-- a dict with whole numbers as keys -/
theorem rp_dkI {kds : List (Key × D)} {n w : Nat} (h : ∀ kd ∈ kds, (∃ i : Int, kd.1 = .inl i ∧ -1000 ≤ i ∧ i ≤ 1000) ∧ Rp kd.2 n w) : Rp (.dk kds) (n + 1) (kds.length * (w + 13)) := by
  have go : ∃ ps, D.rpk kds = some ps ∧ PyData.leavesShortKv 13 ps = true ∧ PyData.showableKv ps = true ∧ PyData.depthKv ps ≤ n ∧ PyData.weightKv ps ≤ kds.length * (w + 13) := by
    induction kds with
    | nil => exact ⟨[], rfl, by simp [PyData.leavesShortKv], by simp [PyData.showableKv], by simp [PyData.depthKv], by simp [PyData.weightKv]⟩
    | cons x kds ih =>
      obtain ⟨k, d⟩ := x
      obtain ⟨⟨i, e, i0, i1⟩, p, e1, s, a, b⟩ := h _ List.mem_cons_self
      obtain ⟨ps, e2, s1, s2, a', b'⟩ := ih fun y hy => h y (List.mem_cons_of_mem _ hy)
      dsimp only at e e1
      subst e
      have si := shp_int (i := i) (by omega)
      have wi := wt_int (i := i) (k := 10) (by omega)
      refine ⟨(.int i, p) :: ps, by rw [D.rpk, e1, e2]; rfl, ?_, ?_, ?_, ?_⟩
      · rw [PyData.leavesShortKv, si.1, s.1, s1]; rfl
      · rw [PyData.showableKv, si.2, s.2, s2]; rfl
      · rw [PyData.depthKv, PyData.depth]; omega
      · rw [PyData.weightKv, List.length_cons, Nat.add_mul]; omega
  obtain ⟨ps, e, s1, s2, a, b⟩ := go
  exact ⟨.dict ps, by rw [D.rp, e]; rfl, ⟨by rw [PyData.leavesShort]; exact s1, by rw [PyData.showable]; exact s2⟩, by rw [PyData.depth]; omega, by rw [PyData.weight]; exact b⟩
theorem rp_md {ops : Sig} (hO : Ops ops) {m : Nat} {mt : Md} (h : MdOk ops m mt) (hm : m ≤ 5) : Rp (mdT m mt) 100 (2 ^ 16) := by
  obtain ⟨s1, s2, s3⟩ := mdP_ok hO h hm
  refine ⟨mdP m mt, ?_, s1, s2, s3⟩
  have tb : ∀ t : Tb, D.rpt (tbD t) = some (t.map fun y => (PyData.tuple (y.1.map .int), PyData.int y.2)) := by
    intro t
    induction t with
    | nil => rfl
    | cons y t ih =>
      show D.rpt ((y.1.map .inl, .int y.2) :: tbD t) = _
      rw [D.rpt, D.rp, ih, List.map_cons]
      simp [keyP, Function.comp_def]
  have md : ∀ l : Md, D.rpk (mdD l) = some (l.map fun x => (PyData.str x.1, tbP x.2)) := by
    intro l
    induction l with
    | nil => rfl
    | cons x l ih =>
      show D.rpk ((.inr x.1, .dt (tbD x.2)) :: mdD l) = _
      rw [D.rpk, D.rp, tb, ih]
      rfl
  show D.rp (.tup [.int m, .dk (mdD mt)]) = _
  rw [D.rp, D.rps, D.rps, D.rps, D.rp, D.rp, md]
  rfl
end DL

/-! DLz: exceptions with a field: raised, caught, read, asked by isinstance. -/
namespace PySem.W
open PySem PySem.Spec PySem.Calls PyProof.Rows
section
variable {prog : Program} {w : World} {A : Around} {E : Value → Shared → Prop} {s : Shared} {K : Frag} {x D : Addr} {ox : Obj} {od : Option Obj}
theorem dl_findObj_data {C : Addr} {name : Str} {a g : Value} (hc : (clsIn K C).isSome = true) (ha : findIn K (.ref C) name = some (some a)) (hg : specialIn K a "__get__" = some (some g)) (ht : takesIn K a = some true) : findObj K C od name = some (.bind g a) := by
  obtain ⟨cd, hc⟩ := Option.isSome_iff_exists.mp hc
  unfold findObj
  rw [hc, Option.bind_some, ha, Option.bind_some]
  simp [hg, ht]
theorem dl_kin_classE {Q : Option Value → Shared → Prop} (hga : findIn K (.ref D) "__getattribute__" = some (some (.builtin "BaseException.__getattribute__"))) (hgt : findIn K (.ref D) "__getattr__" = some none) (hsub : subIn K (.ref D) (.type "BaseException") = some true)
    (hdct : hasDictIn K D = true) (ha : findIn K (.ref D) "__class__" = some (some (.builtin "object.__class__")))
    (hn : specialIn K (.builtin "object.__class__") "__get__" = some (some (.builtin "getset_descriptor.__get__"))) (htk : takesIn K (.builtin "object.__class__") = some true) (hm : mroIn K D (.type "object") = some true)
    (X : K.In s.heap) (I : InstAt s.heap x ox D od) (h : Q (some (.ref D)) { s with toks := s.toks + 1 }) : wpAny (model prog w) A (getAttr? (.ref x) "__class__") Q E s := by
  have hf : findObj K D od "__class__" = some (.bind (.builtin "getset_descriptor.__get__") (.builtin "object.__class__")) := dl_findObj_data (by obtain ⟨cd, hc, _⟩ := any_some hdct; rw [hc]; rfl) ha hn htk
  obtain ⟨hp, g, d, t, os⟩ := s
  have L0 := I.type (M := model prog w)
  have L1 := looks_findIn (M := model prog w) X hga
  have L2 := looks_findIn (M := model prog w) X hgt
  have L3 := looks_find (M := model prog w) X I hf
  have sub : Looks (model prog w) hp (isInstance (.ref x) (.type "BaseException")) true := L0.andThen (looks_subIn X hsub)
  have hx0 : (false && onTheHeap (Value.builtin "BaseException.__getattribute__")) = false := rfl
  have hx2 : (Value.builtin "BaseException.__getattribute__" == Value.builtin "object.__getattribute__") = false := by decide +kernel
  have hx1 : (onTheHeap (Value.ref D) && Value.builtin "BaseException.__getattribute__" == Value.builtin "object.__getattribute__") = false := by rw [hx2]; rfl
  unfold getAttr? getAttrBy? getAttrBy
  refine wpAny_bind (wpAny_mkText (wpAny_bind (wpAny_attempt (wpAny_holding (wpAny_bind (L0.at (wpAny_bind (L1.at ?_))))))))
  show wpAny _ _ (if (onTheHeap (Value.ref D) && Value.builtin "BaseException.__getattribute__" == Value.builtin "object.__getattribute__") = true then _ else _) _ _ _
  rw [hx1, if_neg Bool.false_ne_true]
  unfold getAttrByItsOwn hookBefore
  refine wpAny_bind ?_
  rw [if_pos (show onTheHeap (Value.ref D) = true from rfl)]
  refine L2.at ?_
  refine wpAny_bind (wpAny_attempt (wpAny_holding ?_))
  unfold callGetattribute
  rw [hx0, if_neg Bool.false_ne_true]
  unfold boundAndCalled
  rw [PySem.F.excAttr_ValueError.ga.bind (.ref x)]
  refine wpAny_bind (wpAny_pure ?_)
  show wpAny _ _ (call (.builtin "BaseException.__getattribute__") [.ref x, .str "__class__" t]) _ _ _
  refine wpAny_call (codeAny_call_builtin PySem.F.excAttr_ValueError.ga.plain PySem.F.entry_bexc_ga ?_)
  refine @check_slot (model prog w) _ _ ⟨hp, g, d, t + 1, os⟩ "BaseException.__getattribute__" "BaseException" "__getattribute__" (.ref x) [.str "__class__" t] [] _ (by decide +kernel) (by decide +kernel) sub (PySem.F.args_bexc_ga (.ref x) (.str "__class__" t)) ?_
  unfold Builtin.«object.__getattribute__»
  refine wpAny_bind (wpAny_of_eq (a := ((Value.ref x : Value), [Value.str "__class__" t])) (by first | rfl | (simp only [slotArgs]; rfl)) ?_)
  refine wpAny_bind (wpAny_pure (wpAny_bind (L0.at (wpAny_bind (L3.at ?_)))))
  show wpAny _ _ (holding [Value.builtin "object.__class__"] (call (.builtin "getset_descriptor.__get__") [.builtin "object.__class__", .ref x, .ref D]) >>= ret) _ _ _
  refine wpAny_bind (wpAny_holding (wpAny_call (class_get (s := ⟨hp, g, d, t + 1, os⟩) (ox := ox) (od := od) X I hm ?_)))
  refine wpAny_pure ?_
  show wpAny _ _ (handedOut (.ref D)) _ _ _
  rw [handedOut_of (v := .ref D) rfl]
  first
    | exact wpAny_pure (wpAny_pure h)
    | exact wpAny_pure h
    | exact wpAny_pure (wpAny_bind (wpAny_pure (wpAny_pure h)))
theorem dl_kitx (hga : findIn K (.ref D) "__getattribute__" = some (some (.builtin "BaseException.__getattribute__"))) (hgt : findIn K (.ref D) "__getattr__" = some none) (hsub : subIn K (.ref D) (.type "BaseException") = some true) (hdct : hasDictIn K D = true) (ha : findIn K (.ref D) "__class__" = some (some (.builtin "object.__class__")))
    (hn : specialIn K (.builtin "object.__class__") "__get__" = some (some (.builtin "getset_descriptor.__get__"))) (htk : takesIn K (.builtin "object.__class__") = some true) (hm : mroIn K D (.type "object") = some true) :
    KitX K (.ref x) (.ref D) (fun h => ∃ od, InstAt h x ox D od) where
  ty := fun _ _ _ ⟨_, I⟩ => I.type
  it := fun _ _ X _ => by
    obtain ⟨cdD, hcD, _⟩ := any_some hdct
    unfold clsIn at hcD
    split at hcD
    · rename_i c' d' cd' sl' ho
      intro A' Q' E' s' k q
      unfold isType loadHead
      exact wpAny_bind (wpAny_loadPart (k _ _ (X _ _ ho)) (wpAny_pure q))
    · cases hcD
  ne := fun h tp dd its n sl X htp => by
    obtain ⟨cdD, hcD, _⟩ := any_some hdct
    refine Bool.eq_false_iff.mpr fun q => ?_
    have e : D = tp := Value.ref.inj (beq_iff_eq.mp q)
    subst e
    unfold clsIn at hcD
    split at hcD
    · rename_i c' d' cd' sl' ho
      have z := (X _ _ ho).symm.trans htp
      cases z
    · cases hcD
  ca := fun X ⟨od, I⟩ k => dl_kin_classE hga hgt hsub hdct ha hn htk hm X I k
end
end PySem.W
namespace DL
open PySem PySem.Spec PyProof.Rows L2
section
variable {X : Cx} {G0 : Hp} {pos p pos' np : PySem.Pos} {x n m f : Str} {W : WX} {WD : AW} {e : Expr} {te : TE} {ae : AE} {k i : Nat} {params : Arguments} {body : List Stmt} {scope : Scope}
/-! ### raise C(e) -/
def aRaise1 (n f : Str) (WD : AW) (a : AE) : AS := fun _ δ W => a δ W fun x W1 => WD δ n [(f, x)] W1
theorem ds_raise1 (K : PySem.W.Frag) (hc : X.calm = true) (tk : Takes X W) (hl : LiftS K G0 (WE W) WD) (T : SupF X.prog K (He.ga K n) f params body scope) (B : SupB f params body scope) (hm : X.mg n = some (.ref (He.ga K n))) (hsu : X.mg "super" = none) (hr : Room k X.A) (he : DE X G0 e te ae)
    (hK : X.K = K := by rfl) (hg : Gl X n := by rfl) (hdb : (n == ("__debug__" : Str)) = false := by decide) (hst : starEach [e] X.env = (false, eval e X.env) :: starEach [] X.env := by rfl) (hpl : (backTo pos (starEach [] X.env)).any (·.1) = false := by rfl) :
    DS X G0 (.Raise (some (.Call (.Name n p) [e] [] pos)) none pos') (fun _ σ H => tMkS (He.ga K n) f (tCons te tNil) σ H fun cls d H' => W cls d σ H') (aRaise1 n f WD ae) := by
  subst hK
  refine ⟨ps_raise hc tk (pmk_sup T B hm hsu hr (pa_cons he.pe pa_nil hst) hg hdb hst hpl), fun E A σ H G δ W' s0 R S eo h => ?_⟩
  refine he.sim σ H _ G δ W' _ s0 R S h fun v d G1 H1 W1 s1 R1 d1 h1 => ?_
  refine ⟨v, rfl, fun q hq => ?_⟩
  obtain ⟨s2, R2⟩ := R1.new (o := .xd [(f, v)]) hq
  exact hl σ δ G s0 S n [(f, d)] (some q) _ _ W1 (s1.trans s2) R2 (.inr ⟨q, [(f, v)], by simp, rfl, upd_same, v, [], rfl, IsD.up s2 _ _ d1, rfl⟩) h1
/-! ### except C as n, C with a field -/
def aTryAsF (i : Nat) (n f : Str) (ab : AW → AS) (asu : Addr → D → AS) : AS := fun A δ W => ab (fun δ' n' fs W' => ∃ v, n' = n ∧ fs = [(f, v)] ∧ ∀ a, W' a = none → asu a v (Acut i A) (δ'.set i (some (.ptr a))) W') A δ W
open Classical in
noncomputable def tsOfF (D : Value) (ts : Addr → Addr → TS) : Addr → Value → Option Addr → TS := fun a cls d => if h : cls = D ∧ ∃ q, d = some q then ts a (Classical.choose h.2) else tNever
variable {tb : WX → TS} {ts : Addr → Addr → TS} {ab : AW → AS} {asu : Addr → D → AS} {Wout : WX} {suite bodyS : List Stmt} {b₀ : Stmt}
theorem ds_tryAsF (n f : Str) (hs : X.stack = X.env :: X.outer) (hf : X.env.frame = some X.env.locals) (hN : X.N.Nodup) (hi : X.N[i]? = some m) (hln : X.env.kindOf m = some .local) (hc : Names X x (.ref (He.ga X.K x))) (hex : PySem.W.exmOne X.K (.ref (He.ga X.K n)) (.ref (He.ga X.K x)) = some true) (tk : Takes X Wout)
    (hb : ∀ (W : WX) (WD : AW) (pn : List (Addr × Obj)) (xe : Value → Shared → Prop) (G1 : Hp), Same G0 G1 → Takes (X.tr pn xe) W → PassesOwn (model X.prog X.w) X.A X.env xe → LiftS X.K G1 (WE W) WD → DSs (X.tr pn xe) G1 bodyS (tb W) (ab WD))
    (hsu : ∀ (a q : Addr) (oe : Obj) (pn : List (Addr × Obj)) (G1 : Hp) (v : V) (d : D), Zc (.ref (He.ga X.K n)) (some q) oe → (∃ vs, oe.data = .fields vs) → G1 q = some (.xd [(f, v)]) → IsD X.K G1 d v → DSs (X.suite a ((a, oe) :: pn)) G1 (b₀ :: suite) (ts a q) (asu a d)) :
    DS X G0 (.Try bodyS [.ExceptHandler (some (.Name x np)) (some m) (b₀ :: suite) pos'] [] [] pos) (fun D σ H => tb (wAs X.K (.ref (He.ga X.K x)) i (tsOfF (.ref (He.ga X.K n)) ts) Wout D) D σ H) (aTryAsF i n f ab asu) := by
  refine ⟨ps_try_as hs hf hN hi hln hc tk (fun W pn xe tk' hp => (hb W AW.none pn xe G0 (Same.refl G0) tk' hp liftS_none).ps) (fun a oe cls d pn hz hf' => ?_), ?_⟩
  · unfold tsOfF
    by_cases h : cls = .ref (He.ga X.K n) ∧ ∃ q, d = some q
    · rw [dif_pos h]
      have hq := Classical.choose_spec h.2
      generalize Classical.choose h.2 = q at hq
      obtain ⟨rfl, _⟩ := h
      subst hq
      exact (hsu a q oe pn (upd (fun _ => none) q (.xd [(f, .non)])) .non .non hz hf' upd_same rfl).ps
    · rw [dif_neg h]; exact pss_never
  · intro E A σ H G δ W s0 R S eo h
    refine (hb (wAs X.K (.ref (He.ga X.K x)) i (tsOfF (.ref (He.ga X.K n)) ts) Wout E) _ X.pn (xeLook X) G s0 (takes_look hs hf) passes_look ?_).sim E A σ H G δ W (Same.refl G) R S eo h
    intro σ1 δ1 G1 s1 S1 n1 fs od G2 H2 W2 s2 R2 hx hw
    obtain ⟨v, rfl, rfl, hw⟩ := hw
    refine ⟨true, hex, fun _ a ha => ?_, fun z => nomatch z⟩
    rcases hx with ⟨e, _⟩ | ⟨q, vs, _, rfl, gq, hvs⟩
    · cases e
    obtain ⟨u, r, rfl, hu, hr⟩ := hvs
    cases hr
    unfold tsOfF
    have hh : (Value.ref (He.ga X.K n1) = .ref (He.ga X.K n1)) ∧ ∃ q', some q = some q' := ⟨rfl, q, rfl⟩
    rw [dif_pos hh]
    have hq := Classical.choose_spec hh.2
    generalize Classical.choose hh.2 = q' at hq
    cases hq
    have s02 := s1.trans s2
    exact (hsu a q { cls := .ref (He.ga X.K n1), dict := some q, data := .fields #[] } [] G2 u v ⟨rfl, rfl⟩ ⟨_, rfl⟩ gq hu).sim _ (Acut i A) _ _ _ _ _ (Same.refl _) R2 ((S1.up s2).set i (d := .ptr a) (v := .ref a) rfl) ((eo.up s02).cut i) (hw a (R2.freeW ha))
/-! ### e.f in a suite -/
def aXf (i : Nat) (a : Addr) (d : D) : AE := fun δ W Q => δ[i]? = some (some (.ptr a)) ∧ Q d W
theorem de_xf {a q : Addr} {oe : Obj} {pn : List (Addr × Obj)} {v : V} {d : D} {y : Str} {p1 : PySem.Pos} (T : XfC X.K (He.ga X.K n)) (hno : PySem.W.findIn X.K (.ref (He.ga X.K n)) f = some none) (hz : Zc (.ref (He.ga X.K n)) (some q) oe) (hf : ∃ vs, oe.data = .fields vs) (hG : G0 q = some (.xd [(f, v)])) (hd : IsD X.K G0 d v)
    (hv : PE (X.suite a ((a, oe) :: pn)) (.Name y p1) (tVar i)) (hb : attributeBase (.Name y p1) f X.env (eval (.Name y p1) X.env) = eval (.Name y p1) X.env := by rfl) :
    DE (X.suite a ((a, oe) :: pn)) G0 (.Attribute (.Name y p1) f pos) (tXf a (.ref (He.ga X.K n)) (some q) (He.ga X.K n) f (tVar i)) (aXf i a d) := by
  refine ⟨pe_xf T hno hz hf hv hb, fun σ H Q G δ W QD s0 R S h k => ?_⟩
  obtain ⟨e, h⟩ := h
  obtain ⟨u, e2, hu⟩ := S.get i _ e
  cases (show u = .ref a from hu)
  refine ⟨_, e2, rfl, rfl, q, _, v, rfl, (R.st _ _ (s0.at hG rfl rfl)).eq rfl, by simp, k.here R (IsD.up s0 _ _ hd) h⟩
/-! ### isinstance(e, C) -/
def rIsF (K : PySem.W.Frag) (D a q : Addr) : List V → Hp → VK → Prop := fun xs H Q => ∃ (c : V) (cv : Value) (b : Bool) (fs : List (Str × V)), xs = [.ref a, c] ∧ (∀ u, L2.RelV c u → u = cv) ∧ PySem.W.kitOne K (.ref D) cv = some b ∧ H q = some (.xd fs) ∧ Q (.bl b) H
theorem call_isF {a D q : Addr} {oe : Obj} {pn : List (Addr × Obj)} (C : ExcC X.K D) (hz : Zc (.ref D) (some q) oe) (hf : ∃ vs, oe.data = .fields vs) : CallR (X.suite a ((a, oe) :: pn)) (.builtin "isinstance") (rIsF X.K D a q) := by
  intro pins s σ H xs us Q I r h
  obtain ⟨c, cv, b, fs, rfl, hcv, e, hq, qq⟩ := h
  cases r with
  | cons rx rr =>
    cases rr with
    | cons rt rr =>
      cases rr
      cases rx
      have ec := hcv _ rt
      subst ec
      obtain ⟨hget, _⟩ := I.pin (a, oe) (List.mem_append.mpr (.inl List.mem_cons_self))
      obtain ⟨vs, hv⟩ := hf
      obtain ⟨mA, hns, _⟩ := (show ObjOk X.prog X.w H s.heap q (.xd fs) from I.hok q _ hq)
      obtain ⟨od, es, ep, hod, _⟩ := hns
      have J : ∃ od, PySem.W.InstAt s.heap a oe D od := by
        obtain ⟨oc, odd, oda, osl⟩ := oe
        obtain ⟨h1, h2⟩ := hz
        dsimp only at h1 h2 hv
        subst h1 h2 hv
        exact ⟨some od, hget, rfl, rfl, hod⟩
      exact PySem.W.kia_one (PySem.W.dl_kitx C.hg C.hk C.hs C.hd C.ha C.hn C.ht C.hm) I.kIn J e (fun z => nomatch z) fun tk => ⟨.bl b, H, I.kept (t' := tk) fun _ _ z => z, rfl, qq⟩
theorem de_isF {a q : Addr} {oe : Obj} {pn : List (Addr × Obj)} {cV : V} {cv : Value} {b : Bool} {v : V} {y z : Str} {p1 p2 p3 : PySem.Pos} (C : ExcC X.K (He.ga X.K n)) (hz : Zc (.ref (He.ga X.K n)) (some q) oe) (hf : ∃ vs, oe.data = .fields vs) (hG : G0 q = some (.xd [(f, v)]))
    (hv : PE (X.suite a ((a, oe) :: pn)) (.Name y p1) (tVar i)) (hc : PE (X.suite a ((a, oe) :: pn)) (.Name z p2) (tC cV)) (hcv : ∀ u, L2.RelV cV u → u = cv) (hk : PySem.W.kitOne X.K (.ref (He.ga X.K n)) cv = some b) (hm : X.mg "isinstance" = none)
    (hg : Gl (X.suite a ((a, oe) :: pn)) "isinstance" := by rfl) (he : starEach [.Name y p1, .Name z p2] X.env = (false, eval (.Name y p1) X.env) :: starEach [.Name z p2] X.env := by rfl) (he2 : starEach [.Name z p2] X.env = (false, eval (.Name z p2) X.env) :: starEach [] X.env := by rfl) (hpl : (backTo pos (starEach [.Name z p2] X.env)).any (·.1) = false := by rfl) :
    DE (X.suite a ((a, oe) :: pn)) G0 (.Call (.Name "isinstance" p3) [.Name y p1, .Name z p2] [] pos) (tCB (rIsF X.K (He.ga X.K n) a q) (tCons (tVar i) (tCons (tC cV) tNil))) (aIsE i a b) := by
  refine ⟨pe_callB (call_isF C hz hf) hg hm (by decide +kernel) (pa_cons hv (pa_cons hc pa_nil he2) he) (by decide) (by decide) he hpl, fun σ H Q G δ W QD s0 R S h k => ?_⟩
  obtain ⟨e, h⟩ := h
  obtain ⟨u, e2, hu⟩ := S.get i _ e
  cases (show u = .ref a from hu)
  exact ⟨_, e2, cV, cv, b, _, rfl, hcv, hk, (R.st _ _ (s0.at hG rfl rfl)).eq rfl, k.here (d := .bl b) R rfl h⟩
end
section
variable {n : Nat} {nm f : Str} {WD : AW} {a : AE} {A : AEnds} {δ : Sl} {W : Wd} {Q : DQ}
theorem go_raise1 (h : a δ W fun x W1 => WD δ nm [(f, x)] W1) : aRaise1 nm f WD a A δ W := h
theorem go_tryAsF {ab : AW → AS} {asu : Addr → D → AS} (h : ab (fun δ' n' fs W' => ∃ v, n' = nm ∧ fs = [(f, v)] ∧ ∀ a, W' a = none → asu a v (Acut n A) (δ'.set n (some (.ptr a))) W') A δ W) : aTryAsF n nm f ab asu A δ W := h
theorem go_xf {b : Addr} {d : D} (h0 : δ[n]? = some (some (.ptr b))) (h : Q d W) : aXf n b d δ W Q := ⟨h0, h⟩
end
end DL

/-! DMa: the head's looks at exceptions that carry a field. -/
namespace DL
open PySem PySem.Spec PyProof.Rows L2
structure SupD where
  cls : Str
  params : Arguments
  body : List Stmt
  scope : Scope
abbrev SupV := Option (Arguments × FuncBody × Scope × Addr × List Str × Addr)
def supObs (K : PySem.W.Frag) (c : Str) : SupV := match K.lookup (He.ma K (He.ga K c) "__init__") with
  | some ⟨_, _, .func fd, _⟩ => some (fd.params, fd.body, fd.scope, fd.globals, fd.closure.map (·.1), fd.builtins)
  | _ => none
def SupD.val (d : SupD) : SupV := some (d.params, .stmts d.body, d.scope, mainGlobals, ["__class__"], builtinsNs)
abbrev AlY := (Bool × He.AlD) × List SupV
def obsY (fa : List He.Fa) (fn : List He.DefD) (xs : List Lk) (ss : List SupD) (K : PySem.W.Frag) : AlY := (obsX fa fn xs K, ss.map fun d => supObs K d.cls)
def SaysY (fa : List He.Fa) (fn : List He.DefD) (xs : List Lk) (ss : List SupD) (K : PySem.W.Frag) : Prop := obsY fa fn xs ss K = ((true, He.valD fn), ss.map SupD.val)
section
variable {fa : List He.Fa} {fn : List He.DefD} {xs : List Lk} {ss : List SupD} {K : PySem.W.Frag}
theorem SaysY.to (c : SaysY fa fn xs ss K) : SaysX fa fn xs K := congrArg (fun z : AlY => z.1) c
theorem SaysY.s (c : SaysY fa fn xs ss K) (i : Nat) {d : SupD} (h : ss[i]? = some d := by rfl) : supObs K d.cls = d.val := by
  have e : ss.map (fun d => supObs K d.cls) = ss.map SupD.val := congrArg (fun z : AlY => z.2) c
  have e2 : (ss.map fun d => supObs K d.cls)[i]? = (ss.map SupD.val)[i]? := by rw [e]
  rw [List.getElem?_map, List.getElem?_map, h] at e2
  exact Option.some.inj e2
end
def hookY (n : Nat) (fa : List He.Fa) (fn : List He.DefD) (xs : List Lk) (ss : List SupD) : PySem.W.Hook where
  α := AlY
  obs := fun s => obsY fa fn xs ss (He.frG s.heap.get? (cStatics :: sysModules :: He.asD s.heap.get? n))
  val := fun _ => ((true, He.valD fn), ss.map SupD.val)
  says := fun _ h => ∃ K : PySem.W.Frag, K.In h ∧ SaysY fa fn xs ss K
  of := fun _ _ e => ⟨_, He.frG_in, e⟩
  keeps := fun _ _ _ ⟨K, hK, c⟩ k => ⟨K, PySem.W.Frag.In.keeps hK k, c⟩
def obsYG (n : Nat) (fa : List He.Fa) (fn : List He.DefD) (xs : List Lk) (ss : List SupD) (g : Addr → Option Obj) : AlY := obsY fa fn xs ss (He.frG g (cStatics :: sysModules :: He.asD g n))
theorem obsYG_eq {n : Nat} {fa : List He.Fa} {fn : List He.DefD} {xs : List Lk} {ss : List SupD} {g : Addr → Option Obj} {s : Shared} (h : ∀ a, g a = s.heap.get? a) : obsYG n fa fn xs ss g = (hookY n fa fn xs ss).obs s := by
  have e : g = s.heap.get? := funext h
  rw [e]; rfl
/-- the class as such -/
def oexB (K : PySem.W.Frag) (C : Addr) : Bool := (match K.lookup C with
  | some ⟨.type "type", _, .cls cd, sl⟩ => (match cd.mro, sl.toList with
    | .ref C' :: bm, [_, _, _, _, some (.builtin n), _] => C' == C && n == "ValueError.__new__" && !cd.hasDel && cd.hasDict && PySem.HandSPX.refsVE bm
    | _, _ => false)
  | _ => false) && (decide (PySem.W.findIn K (.ref C) "__setattr__" = some (some (.builtin "object.__setattr__"))) && (decide (PySem.W.subIn K (.ref C) (.type "BaseException") = some true) && (decide (PySem.W.typeIn K (.ref C) = some (.type "type")) && PySem.W.keepIn K (.ref C))))
theorem oexB_ok {K : PySem.W.Frag} {C : Addr} (h : oexB K C = true) : OexC K C := by
  unfold oexB at h
  simp only [Bool.and_eq_true, decide_eq_true_eq] at h
  obtain ⟨q, h1, h2, h3, h4⟩ := h
  refine ⟨?_, h1, h2, h3, h4⟩
  split at q
  · rename_i dd cd sl ho
    split at q
    · rename_i C' bm k0 k1 k2 k3 n k5 hm hs
      simp only [Bool.and_eq_true, beq_iff_eq, Bool.not_eq_true'] at q
      obtain ⟨⟨⟨⟨rfl, rfl⟩, hdel⟩, hdi⟩, ht⟩ := q
      obtain ⟨nm, bs, mro, ns, qn, hd, sn, sub, ab, col, del⟩ := cd
      dsimp only at hm hdel hdi
      subst hm hdel hdi
      have hsl : sl = #[k0, k1, k2, k3, some (.builtin "ValueError.__new__"), k5] := by
        obtain ⟨l⟩ := sl
        simp only at hs
        rw [hs]
      subst hsl
      exact ⟨nm, qn, ns, bs, bm, sn, sub, ab, col, dd, k0, k1, k2, k3, k5, ho, ht⟩
    · cases q
  · cases q
/-- its __init__ -/
def inB (file : Str) (K : PySem.W.Frag) (C : Addr) : Bool := decide (PySem.W.findIn K (.ref C) "__init__" = some (some (.ref (He.ma K C "__init__")))) && (decide (PySem.W.typeIn K (.ref (He.ma K C "__init__")) = some (.type "function")) && (match K.lookup (He.ma K C "__init__") with
  | some ⟨_, _, .func fd, _⟩ => (match fd.closure, fd.defaults, fd.code with
    | [(_, cc)], .none, .ref cda => PySem.W.codeIn K (.ref cda) fd.qualname && ((match K.lookup cda with
      | some ⟨_, _, .fields vs, _⟩ => (match (vs[2]? : Option Value) with
        | some (Value.str fl _) => file == fl
        | _ => false)
      | _ => false) && (match K.lookup cc with
      | some ⟨_, _, .cell (some (.ref D)), _⟩ => D == C
      | _ => false))
    | _, _, _ => false)
  | _ => false))
def lkSup (file : Str) (n f : Str) : Lk := fun K => oexB K (He.ga K n) && (decide (PySem.W.findIn K (.ref (He.ga K n)) f = some none) && (inB file K (He.ga K n) && (decide (PySem.W.mroIn K (He.ga K n) (.ref (He.ga K n)) = some true) && (decide (PySem.W.ks_superIn K (He.ga K n) (He.ga K n) "__init__" = some (some (.builtin "ValueError.__init__"))) && (decide (PySem.W.subIn K (.ref (He.ga K n)) (.type "ValueError") = some true) && decide (PySem.W.nsIn K cStatics "thirdparty.any" = some none))))))
theorem lkSup_ok {P : Program} {K : PySem.W.Frag} {d : SupD} {f file : Str} (h : lkSup file d.cls f K = true) (ho : supObs K d.cls = d.val) (hf : P.main.file = file) (ht : (P.main.scope.names.lookup ("super" : Str)).isSome = false) : SupF P K (He.ga K d.cls) f d.params d.body d.scope := by
  unfold lkSup at h
  simp only [Bool.and_eq_true, decide_eq_true_eq] at h
  obtain ⟨h1, h2, h3, h4, h5, h6, h7⟩ := h
  refine ⟨oexB_ok h1, h2, ?_, h4, h5, h6, h7, ht⟩
  unfold inB at h3
  simp only [Bool.and_eq_true, decide_eq_true_eq] at h3
  obtain ⟨g1, g2, g3⟩ := h3
  unfold supObs at ho
  split at g3
  · rename_i oc od fd osl lk
    rw [lk] at ho
    split at g3
    · rename_i nn cc cda hcl hdf hcd
      simp only [Bool.and_eq_true] at g3
      obtain ⟨k1, k2, k3⟩ := g3
      split at k2
      · rename_i ccl cdd vs ccs lk2
        split at k2
        · rename_i fl tf hvs
          split at k3
          · rename_i cl cld D csl lk3
            have eD : D = He.ga K d.cls := eq_of_beq k3
            subst eD
            obtain ⟨n1, n2, n3, n4, n5, n6, n7, n8, n9, n10, n11, n12, n13, n14, n15⟩ := fd
            dsimp only at hcl hdf hcd ho k1
            subst hcl hdf hcd
            simp only [SupD.val, Option.some.injEq, Prod.mk.injEq, List.map_cons, List.map_nil, List.cons.injEq, and_true] at ho
            obtain ⟨e1, e2, e3, e4, e5, e6⟩ := ho
            subst e4 e5 e6
            rw [e1, e2, e3] at lk
            exact ⟨_, n1, n2, oc, od, osl, n9, n10, n11, n12, n14, cda, cc, ccl, cdd, ccs, vs, fl, tf, cl, cld, csl, g1, g2, lk, k1, lk2, hvs, by rw [hf]; exact k2, lk3⟩
          · cases k3
        · cases k2
      · cases k2
    · cases g3
  · cases g3
/-- what the text of such an __init__ must be -/
theorem supB_of {f : Str} {params : Arguments} {body : List Stmt} {scope : Scope} {p0 p1 p2 p3 p4 p5 p6 p7 p8 p9 : PySem.Pos} {tx : Str} {jj : Nat} {pl : Sem Bool} {ar : Arg}
    (bd : body = [.Expr (.Call (.Attribute (.Call (.Name "super" p0) [] [] p1) "__init__" p2) [.Constant (.str tx) jj p3] [] p4) p5, .Assign [.Attribute (.Name "self" p6) f p7] (.Name f p8) p9])
    (bind : ∀ (nm qual : Str) (cl : List (Str × Addr)) (kV doc pm : Value) (an : Option Addr) (cdv ct x y : Value), bindArgs (PySem.W.fnX nm qual params body scope cl .none kV doc pm an cdv ct) ⟨[x, y], []⟩ = pure [(("self" : Str), x), (f, y)])
    (par : (params.posonlyargs ++ params.args).head? = some ar) (har : ar.arg = "self") (hfs : f ≠ "self") (hfd : (f == ("__debug__" : Str)) = false) (hk : scope.kind = .function) (hco : scope.isCoroutine = false) (hgen : scope.isGenerator = false) (hcells : ∀ x ∈ scope.names, x.2 ≠ .cell)
    (l1 : scope.names.lookup ("self" : Str) = some .local) (l2 : scope.names.lookup f = some .local) (l3 : scope.names.lookup ("super" : Str) = some .globalImplicit) (l4 : scope.names.lookup ("__class__" : Str) = some .free)
    (ev : ∀ env : Env, eval (.Call (.Attribute (.Call (.Name "super" p0) [] [] p1) "__init__" p2) [.Constant (.str tx) jj p3] [] p4) env = (do
      let ov ← attributeBase (.Call (.Name "super" p0) [] [] p1) "__init__" env (eval (.Call (.Name "super" p0) [] [] p1) env)
      standAt p2.atName
      let (f, first) ← holding [ov] (getMethod ov "__init__" pl)
      callWith p4 f first (backTo p4 (starEach [.Constant (.str tx) jj p3] env)) [])) : SupB f params body scope :=
  ⟨bind, ⟨ar, par, har⟩, hfs, hfd, hk, hco, hgen, hcells, l1, l2, l3, l4, ⟨p0, p1, p2, p3, p4, p5, p6, p7, p8, p9, tx, jj, pl, bd, ev⟩⟩
def lkXf (n : Str) : Lk := fun K => xfB K (He.ga K n)
theorem lkXf_ok {K : PySem.W.Frag} {n : Str} (h : lkXf n K = true) : XfC K (He.ga K n) := xfB_ok h
end DL

/-! DMb: plain defs called within an except suite. -/
namespace DL
open PySem PySem.Spec PyProof.Rows L2
/-- what such a def promises, an object p standing there -/
structure FnC (P : Program) (w : World) (K : PySem.W.Frag) (mg : Str → Option Value) (base : Heap) (k : Nat) (f : Addr) (fd : FuncData) (ps : List Str) (sp : Sp) : Prop where
  len : ∀ vs H Q E, sp vs H Q E → vs.length = ps.length
  run : ∀ {A : Around} {outer : List Env} {s : Shared} {H : Hp} {args : Args} {us : List Value} {vs : List V} {Q : VK} {E : XK} {p : Addr × Obj}, L2H.RoomH k A → L2H.PinOk outer H s p → Env0 P w K mg base A outer s H → BindsTo s fd args (ps.zip us) → Vals vs us → sp vs H Q E → codeAny (model P w) A (.call (.ref f) args) (CR CX0 outer P w H s Q E) s
section
variable {P : Program} {w : World} {K : PySem.W.Frag} {mg : Str → Option Value} {base : Heap} {j k : Nat} {f : Addr} {fd : FuncData} {ps : List Str} {sp : Sp}
theorem FnC.mono (F : FnC P w K mg base j f fd ps sp) (h : j ≤ k) : FnC P w K mg base k f fd ps sp := ⟨F.len, fun r p e b v q => F.run (L2H.RoomH.mono r h) p e b v q⟩
theorem FunD.okC {x qual : Str} {params : Arguments} {body : List Stmt} {scope : Scope} {dvs : List V} {kws : List (Str × V)} {N : List Str} (F : FunD K x qual params body scope dvs kws f fd) (S : FnScope N ps scope) (len : ∀ vs H Q E, sp vs H Q E → vs.length = ps.length)
    (hbody : ∀ (cdv : Value) (A : Around) (outer : List Env) (s : Shared) (H : Hp) (vs : List V) (Q : VK) (E : XK) (p : Addr × Obj), L2H.RoomH k (A.deeper (envOfC qual scope s.heap.objs.size f cdv)) → sp vs H Q E → ∃ t, PSs (L2H.cxH CX0 P w K mg base N qual scope f cdv A outer s H E p) body t ∧ t { nx := fun _ J => Q .non J, rt := Q } (start N vs) H) :
    FnC P w K mg base (k + 1) f fd ps sp := by
  obtain ⟨oc, od, dV, kV, doc, pm, an, cdv, ct, osl, rfl, lk, code, _, _⟩ := F.ex
  refine ⟨len, fun {A outer s H args us vs Q E p} room pin ent bnd rel q => ?_⟩
  have inK : K.In s.heap := ent.mod.kin.keeps fun a o z => (ent.bs a o z).1
  have noL : s.heap.NoLimit := ent.mod.nolimit.keeps fun a o z => (ent.bs a o z).1
  have kinds : ∀ z ∈ ps.zip us, scope.names.lookup z.1 = some .local ∨ (scope.names.lookup z.1 = some .cell ∧ ((cellsFrom (s.heap.objs.size + 1) scope.names []).lookup z.1).isSome = true) := by
    rintro ⟨x, v⟩ hz
    exact (S.par x (List.of_mem_zip hz).1).imp id fun c => ⟨c, PySem.W.cellsFrom_some _ _ _ (.inl c)⟩
  refine codeAny_call_function room.depth (inK _ _ lk) rfl S.co S.gen rfl (PySem.W.codeRec_of inK code) (bnd _ _ _ _ (wpAny_newFunctionEnv_cells S.kind kinds fun env he s1 x => ?_))
  subst he
  obtain ⟨t, body', q'⟩ := hbody cdv A outer s H vs Q E p (room.deeper _) q
  refine ⟨noL.keeps x.toInCall.keep, codeAny_func (wpAny_mono (body'.run [] s1 (start N vs) H _ (L2H.inv_startH S pin ent (len _ _ _ _ q) rel x) q') (fun fl s' z => ?_) fun _ _ z => z)⟩
  cases fl with
  | ret u => obtain ⟨v, _, J, I, rv, z⟩ := z; exact ⟨v, J, I.os, I.bare, I.base, I.hok, rv, z⟩
  | next => obtain ⟨_, J, I, z⟩ := z; exact ⟨.non, J, I.os, I.bare, I.base, I.hok, rfl, z⟩
  | brk => obtain ⟨_, _, _, z⟩ := z; exact z.elim
  | cont => obtain ⟨_, _, _, z⟩ := z; exact z.elim
end
section
variable {X : Cx} {k : Nat} {f : Addr} {fd : FuncData} {ps : List Str} {sp : Sp} {x : Str} {p pos : PySem.Pos} {e : Expr} {es : List Expr} {t : L2.TA}
theorem fnC_run {pins : List (Addr × Obj)} {σ : L2.St} {H : Hp} {s : Shared} {Q : VK} {us : List Value} {vs : List V} {pp : Addr × Obj} (F : FnC X.prog X.w X.K X.mg X.base k f fd ps sp) (hr : L2H.RoomH k X.A) (hp : pp ∈ X.pn) (hb : Binds X.K fd ps [])
    (I : Inv X pins σ H s) (r : Vals vs us) (h : sp vs H Q E0) : wpAny (model X.prog X.w) X.A (call (.ref f) us) (EP X pins σ Q) X.xe s := by
  have P1 := I.pin pp (List.mem_append_left _ hp)
  have hpin : L2H.PinOk X.stack H s pp := ⟨P1.1, P1.2.1, fun hm => (List.mem_cons.mp (I.stkSub pp.1 hm)).elim P1.2.2.1 P1.2.2.2.1, P1.2.2.2.2⟩
  have b := hb s us I.kIn (by rw [List.append_nil, ← r.length]; exact F.len _ _ _ _ h)
  rw [List.append_nil] at b
  refine wpAny_call (codeAny_mono (F.run hr hpin I.env0 b r h) fun res s' z => ?_)
  cases res with
  | error err => exact passA0 (E := E0) (σ := σ) pins H s err s' I z
  | ok fl => cases fl with
    | ret u => exact I.after z
    | next => exact z.elim
    | brk => exact z.elim
    | cont => exact z.elim
theorem pe_callC {pp : Addr × Obj} (F : FnC X.prog X.w X.K X.mg X.base k f fd ps sp) (hr : L2H.RoomH k X.A) (hp : pp ∈ X.pn) (hg : Gl X x) (hm : X.mg x = some (.ref f)) (hk : PySem.W.keepIn X.K (.ref f) = true) (hb : Binds X.K fd ps [])
    (ha : PA X (e :: es) t) (hdb : (x == ("__debug__" : Str)) = false := by decide) (he : starEach (e :: es) X.env = (false, eval e X.env) :: starEach es X.env := by rfl) (hpl : (backTo pos (starEach es X.env)).any (·.1) = false := by rfl) :
    PE X (.Call (.Name x p) (e :: es) [] pos) (tCallD sp [] (fun _ => E0) t) := ⟨fun pins s σ H Q I h =>
  wpAny_Call_Name_kw (ld_glob I hg hm (PySem.W.callWith_K (h₀ := X.base) I.ok.mod.kin hk (thn (ha.run pos pins s σ H _ I h) fun us s1 ⟨vs, J, I1, r, q⟩ => ⟨I1.kIn, fnC_run F hr hp hb I1 r (by simpa using q)⟩) he hpl) hdb)⟩
end
structure FkC (P : Program) (w : World) (K : PySem.W.Frag) (mg : Str → Option Value) (base : Heap) (k : Nat) (x : Str) (ps : List Str) (sp : SpD) : Prop where
  ex : ∃ f fd, FnC P w K mg base k f fd ps (liftSp K sp) ∧ mg x = some (.ref f) ∧ PySem.W.keepIn K (.ref f) = true ∧ Binds K fd ps []
section
variable {P : Program} {w : World} {K : PySem.W.Frag} {mg : Str → Option Value} {base : Heap}
theorem FkC.mono {j k : Nat} {x : Str} {ps : List Str} {sp : SpD} (g : FkC P w K mg base j x ps sp) (h : j ≤ k) : FkC P w K mg base k x ps sp := by
  obtain ⟨f, fd, F, m⟩ := g.ex
  exact ⟨f, fd, F.mono h, m⟩
theorem okC {x nm : Str} {st : Stmt} {N ps : List Str} {k : Nat} {sp : SpD} (F : Df K mg x nm st) (S : FnScope N ps (defScope st))
    (hb : ∀ (kV doc pm : Value) (an : Option Addr) (cdv ct : Value) (us : List Value), us.length = ps.length → bindArgs (PySem.W.fnOf nm nm (defArgs st) (defBody st) (defScope st) .none kV doc pm an cdv ct) ⟨us, []⟩ = pure (ps.zip us))
    (len : ∀ ds W Q E, sp ds W Q E → ds.length = ps.length)
    (hbody : ∀ (cdv : Value) (A : Around) (outer : List Env) (s : Shared) (H : Hp) (E : XK) (G : Hp) (f : Addr) (p : Addr × Obj), L2H.RoomH k (A.deeper (envOfC nm (defScope st) s.heap.objs.size f cdv)) →
      ∃ t a, DSs (L2H.cxH CX0 P w K mg base N nm (defScope st) f cdv A outer s H E p).nox G (defBody st) t a ∧ ∀ ds W QD ED, sp ds W QD ED → a { nx := fun _ W' => QD .non W', rt := QD } (startD N ds) W) : FkC P w K mg base (k + 1) x ps sp := by
  obtain ⟨f, fd, F, m⟩ := F.ex
  refine ⟨f, fd, FunD.okC F S (fun vs H Q E h => ?_) (fun cdv A outer s H vs Q E p hr h => ?_), m, F.kp, F.bindsN hb⟩
  · obtain ⟨G, W, ds, QD, ED, _, d, h, _⟩ := h
    rw [← d.length]
    exact len _ _ _ _ h
  · obtain ⟨G, W, ds, QD, ED, R, d, h, kt, _⟩ := h
    obtain ⟨t, a, db, hb⟩ := hbody cdv A outer s H E G f p hr
    refine ⟨t, db.ps.nox, db.sim _ { nx := fun _ W' => QD .non W', rt := QD } _ H G _ W (Same.refl G) R (isSl_start d) ⟨?_, kt, ?_, ?_⟩ (hb ds W QD ED h)⟩
    · exact fun σ δ G' H' W' s' R' S' q => kt _ .non G' H' W' s' R' rfl q
    · exact fun _ _ _ _ _ _ _ _ q => q.elim
    · exact fun _ _ _ _ _ _ _ _ q => q.elim
end
section
variable {X : Cx} {G0 : Hp} {x : Str} {p pos : PySem.Pos} {e : Expr} {es : List Expr} {t : L2.TA} {at' : AA} {k : Nat} {ps : List Str} {sp : SpD} {a : Addr} {oe : Obj} {pn : List (Addr × Obj)}
theorem de_fnC (g : FkC X.prog X.w X.K X.mg X.base k x ps sp) (hr : Room k X.A) (ha : DA (X.suite a ((a, oe) :: pn)) G0 (e :: es) t at') (hg : Gl (X.suite a ((a, oe) :: pn)) x := by rfl)
    (hdb : (x == ("__debug__" : Str)) = false := by decide) (he : starEach (e :: es) X.env = (false, eval e X.env) :: starEach es X.env := by rfl) (hpl : (backTo pos (starEach es X.env)).any (·.1) = false := by rfl) :
    DE (X.suite a ((a, oe) :: pn)) G0 (.Call (.Name x p) (e :: es) [] pos) (tCallD (liftSp X.K sp) [] (fun _ => E0) t) (aCall sp [] ED0 at') := by
  obtain ⟨f, fd, F, hm, hk, hb⟩ := g.ex
  have hr' : L2H.RoomH k (X.suite a ((a, oe) :: pn)).A := ⟨hr.dp, hr.un⟩
  exact ⟨pe_callC (X := X.suite a ((a, oe) :: pn)) F hr' List.mem_cons_self hg hm hk hb ha.pa hdb he hpl, sim_callD (fun _ => liftX0) (fun _ => rfl) ha.sim⟩
end
theorem hu151s {A : Around} {k : Nat} {h : Option Value} (hr : Room k A) : (A.mark h).units + 151 < cLine := by have := hr.un; show A.units + 151 < cLine; omega
theorem hu152s {A : Around} {k : Nat} {h : Option Value} (hr : Room k A) : (A.mark h).units + 152 < cLine := by have := hr.un; show A.units + 152 < cLine; omega
theorem hu_ofs {A : Around} {k : Nat} {h : Option Value} (hr : Room k A) : (A.mark h).units + 1 < cLine := by have := hr.un; show A.units + 1 < cLine; omega
end DL

/-! DMc: rules: pairs of terms. -/
namespace DL
open PySem PySem.Spec PyProof.Rows L2
abbrev Ru := Trm × Trm
def ruD (r : Ru) : D := .tup [r.1.d, r.2.d]
theorem ruD_mk (l r : Trm) : ruD (l, r) = .tup [l.d, r.d] := rfl
theorem ruD_eq (l r : Trm) : D.tup [l.d, r.d] = ruD (l, r) := rfl
def isRu (r : Ru) : Bool := !r.1.isVar && r.2.vars.all fun v => decide (v ∈ r.1.vars)
/-- the first that is no rule -/
def fbad (rs : List Ru) : Int := match rs.findIdx? (fun r => !isRu r) with
  | some k => k
  | none => -1
theorem eqvAll_self : ∀ {ds : List D}, (∀ d ∈ ds, PyData.eqv d.py d.py = true) → PyData.eqvAll (D.pys ds) (D.pys ds) = true
  | [], _ => rfl
  | d :: ds, h => by
    rw [D.pys, PyData.eqvAll, h d List.mem_cons_self, eqvAll_self fun x hx => h x (List.mem_cons_of_mem _ hx)]; rfl
theorem ruD_eqv (r : Ru) : PyData.eqv (ruD r).py (ruD r).py = true := by
  unfold ruD
  rw [D.py, PyData.eqv]
  exact eqvAll_self fun d hd => by
    simp only [List.mem_cons, List.not_mem_nil, or_false] at hd
    rcases hd with rfl | rfl <;> exact (Trm.eqv_iff _ _).mpr rfl
theorem ruD_plain (r : Ru) : (ruD r).plain = true := by
  unfold ruD
  rw [D.plain]
  exact plains_of fun d hd => by
    simp only [List.mem_cons, List.not_mem_nil, or_false] at hd
    rcases hd with rfl | rfl <;> exact Trm.plain_d _
theorem ruD_depth {r : Ru} {n : Nat} (h1 : r.1.depth ≤ n) (h2 : r.2.depth ≤ n) : (ruD r).py.depth ≤ n + 1 := by
  unfold ruD
  rw [D.py, PyData.depth]
  have : PyData.depthAll (D.pys [r.1.d, r.2.d]) ≤ n := depthAll_le fun d hd => by
    simp only [List.mem_cons, List.not_mem_nil, or_false] at hd
    rcases hd with rfl | rfl
    · exact Nat.le_trans r.1.depth_py h1
    · exact Nat.le_trans r.2.depth_py h2
  omega
theorem go_neRs {rs : List Ru} {W : Wd} {Q : DQ} (h : ∀ r ∈ rs, r.1.depth ≤ 100 ∧ r.2.depth ≤ 100) (q : Q (.bl false) W) : dNe (.lst (rs.map ruD)) (.lst (rs.map ruD)) W Q := by
  have p : (D.lst (rs.map ruD)).plain = true := by
    rw [D.plain]
    exact plains_of fun d hd => by obtain ⟨r, _, rfl⟩ := List.mem_map.mp hd; exact ruD_plain r
  have z : (D.lst (rs.map ruD)).py.depth ≤ 102 := by
    rw [D.py, PyData.depth]
    have : PyData.depthAll (D.pys (rs.map ruD)) ≤ 101 := depthAll_le fun d hd => by
      obtain ⟨r, hr, rfl⟩ := List.mem_map.mp hd
      exact ruD_depth (h r hr).1 (h r hr).2
    omega
  refine ⟨⟨p, p, by omega⟩, ?_⟩
  have e : (D.lst (rs.map ruD)).eqv (.lst (rs.map ruD)) = true := by
    show PyData.eqv _ _ = true
    rw [D.py, PyData.eqv]
    exact eqvAll_self fun d hd => by obtain ⟨r, _, rfl⟩ := List.mem_map.mp hd; exact ruD_eqv r
  rw [e]
  exact q
theorem ru_at {rs : List Ru} {i : Int} (h0 : 0 ≤ i) (h1 : i < rs.length) : atI (rs.map ruD) i = some (ruD (rs[i.toNat]'(by omega))) := by
  rw [atI_of h0, List.getElem?_map, List.getElem?_eq_getElem (by omega)]; rfl
theorem ru_atN {rs : List Ru} {i : Nat} (h1 : i < rs.length) : atI (rs.map ruD) (i : Int) = some (ruD rs[i]) := ru_at (i := (i : Int)) (by omega) (by omega)
/-- the first bad one, one by one -/
theorem fbad_no {rs : List Ru} {k : Nat} (h : ∀ j (hj : j < rs.length), j < k → isRu rs[j] = true) (hk : k = rs.length) : rs.findIdx? (fun r => !isRu r) = none := by
  rw [List.findIdx?_eq_none_iff]
  intro x hx
  obtain ⟨j, hj, rfl⟩ := List.getElem_of_mem hx
  simp [h j hj (by omega)]
theorem fbad_at {rs : List Ru} {k : Nat} (hk : k < rs.length) (h : ∀ j (hj : j < rs.length), j < k → isRu rs[j] = true) (hb : isRu rs[k] = false) : rs.findIdx? (fun r => !isRu r) = some k := by
  rw [List.findIdx?_eq_some_iff_getElem]
  exact ⟨hk, by simp [hb], fun j hj => by simp [h j (by omega) hj]⟩
theorem int_eq_nil {ns : List Int} {W : Wd} {Q : DQ} (h : Q (.bl (decide (ns = []))) W) : dEq (.lst (ns.map .int)) (.lst []) W Q := by
  refine ⟨⟨?_, rfl, ?_⟩, ?_⟩
  · rw [D.plain]; exact plains_of fun d hd => by obtain ⟨n, _, rfl⟩ := List.mem_map.mp hd; rfl
  · have : (D.lst []).py.depth ≤ 1 := by decide
    omega
  · have e : (D.lst (ns.map .int)).eqv (.lst []) = decide (ns = []) := by
      cases ns with
      | nil => decide
      | cons n ns => show PyData.eqv _ _ = _; rw [D.py, D.py, PyData.eqv, List.map_cons, D.pys, D.pys, PyData.eqvAll]; rfl
    rw [e]; exact h
theorem symss_occ_of {v : Int} : ∀ {ts : List Trm}, v ∈ (Trm.symss ts).filterMap Sy.int? → ∃ t ∈ ts, v ∈ occ t
  | [], h => by cases h
  | t :: ts, h => by
    rw [Trm.symss, List.filterMap_append, List.mem_append] at h
    rcases h with h | h
    · exact ⟨t, List.mem_cons_self, h⟩
    · obtain ⟨u, hu, hv⟩ := symss_occ_of h
      exact ⟨u, List.mem_cons_of_mem _ hu, hv⟩
theorem occ_app {f : Str} {ts : List Trm} : occ (.app f ts) = (Trm.symss ts).filterMap Sy.int? := by
  unfold occ; rw [Trm.syms, List.filterMap_cons]; rfl
theorem occ_subE {f : Int → Trm} {v : Int} (t : Trm) : v ∈ occ (t.sub f) → ∃ u ∈ occ t, v ∈ occ (f u) := by
  induction t using Trm.ind with
  | hv n => exact fun h => ⟨n, by simp [occ, Trm.syms, Sy.int?], h⟩
  | ha g ts ih =>
    intro h
    rw [sub_app, occ_app] at h
    obtain ⟨t, ht, hv⟩ := symss_occ_of h
    obtain ⟨t', ht', rfl⟩ := List.mem_map.mp ht
    obtain ⟨u, hu, hw⟩ := ih t' ht' hv
    exact ⟨u, by rw [occ_app]; exact occ_mem ht' hu, hw⟩
theorem isRu_of {l r : Trm} (h : l.isVar = false) (hv : ∀ v ∈ occ r, v ∈ occ l) : isRu (l, r) = true := by
  unfold isRu
  rw [Bool.and_eq_true]
  exact ⟨by rw [h]; rfl, List.all_eq_true.mpr fun v hv' => decide_eq_true (mem_vars.mpr (hv v (mem_vars.mp hv')))⟩
theorem posAt {t : Trm} {i : Int} (h0 : 0 ≤ i) (h1 : i < t.pos.length) : ∃ p, atI (t.pos.map posD) i = some (posD p) ∧ p ∈ t.pos := by
  refine ⟨t.pos[i.toNat]'(by omega), ?_, List.getElem_mem _⟩
  rw [atI_of h0, List.getElem?_map, List.getElem?_eq_getElem (by omega)]; rfl
theorem Wf.more {ops : Sig} {n m : Int} (h : n ≤ m) {t : Trm} (ht : Wf ops n t) : Wf ops m t := by
  induction t using Trm.ind with
  | hv v => cases ht with | var a b => exact .var a (by omega)
  | ha f ts ih =>
    obtain ⟨a, b⟩ := ht.args
    exact .app a fun t h => ih t h (b t h)
theorem dput_len {κ α : Type} [DecidableEq κ] (kds : List (κ × α)) (k : κ) (v : α) : (dput kds k v).length ≤ kds.length + 1 := by
  unfold dput
  split
  · simp
  · simp
end DL

/-! DMd: == with the empty list. -/
namespace PySem.SeqAt
variable {prog : Program} {w : World}
theorem dl_list_neIn (l b : Addr) (items items2 : Array Value) (n n2 : Nat) (dd dd2 : Option Addr) (sl sl2 : Array (Option Value)) (hne : (items.size != items2.size) = true) :
    MeetsIn prog w (Builtin.«list.__eq__» ⟨[.ref l, .ref b], []⟩)
      (fun A R s => s.heap.get? l = some { cls := .type "list", dict := dd, data := .seq items n, slots := sl } ∧ s.heap.get? b = some { cls := .type "list", dict := dd2, data := .seq items2 n2, slots := sl2 } ∧
        R (.ok (.ret (.bool false))) s) := by
  intro A R s h
  obtain ⟨hp, g, d, tk, os⟩ := s; obtain ⟨hl, hb, h⟩ := h
  have f3 := AutoSeq1.sub_list_list
  wp_walk using wpAny_loadPart' hl, wpAny_loadPart' hb
  exact h
theorem dl_rcP_ne {A : Around} {s : Shared} {l b : Addr} {items items2 : Array Value} (hl : s.heap.IsList l items) (hb : s.heap.IsList b items2) (hne : (items.size != items2.size) = true) (hu : A.units < cLine)
    (E Q : Value → Shared → Prop) (h : Q (.bool false) s) : wpAny (model prog w) A (richCompare .Eq (.ref l) (.ref b)) Q E s := by
  obtain ⟨⟨cls, dd, data, sl⟩, ho, hc, n, hd⟩ := id hl
  obtain ⟨⟨cls2, dd2, data2, sl2⟩, ho2, hc2, n2, hd2⟩ := id hb
  simp only at hc hd hc2 hd2
  subst hc hd hc2 hd2
  have ta : s.TypeIs (.ref l) "list" := ⟨_, ho, rfl⟩
  have tb : s.TypeIs (.ref b) "list" := ⟨_, ho2, rfl⟩
  exact wpAny_richCompare_same_room (op := .Eq) ta tb F.slot_list_eq (call_meetsIn F.slot_list_eq ta F.entry_list_eq (F.args_list_eq_2 _ _) (dl_list_neIn l b items items2 n n2 dd dd2 sl sl2 hne)
    ⟨ho, ho2, show Value.bool false ≠ Value.notImplemented ∧ Q (.bool false) s from ⟨(fun x => nomatch x), h⟩⟩) hu
end PySem.SeqAt
namespace DL
open PySem PySem.Spec PyProof.Rows L2
def rEqNil (K : PySem.W.Frag) : R2 := fun x y H Q => ∃ a b xs, x = .ref a ∧ y = .ref b ∧ SqL K H a xs ∧ SqL K H b [] ∧ Q (.bl (decide (xs = []))) H
theorem op_eqNil {X : Cx} (hu : X.A.units + 151 < cLine) : OpR X (compareOp .Eq) (rEqNil X.K) := by
  intro pins s σ H x y v u Q I rx ry h
  obtain ⟨a, b, xs, rfl, rfl, ha, hb, q⟩ := h
  cases (show v = Value.ref a from rx)
  cases (show u = Value.ref b from ry)
  obtain ⟨us, r1, p1, _⟩ := I.list ha
  obtain ⟨ws, r2, p2, _⟩ := I.list hb
  cases r2
  cases r1 with
  | nil => exact SeqAt.rcP_lists (e := fun _ => true) p1.isList p2.isList rfl (by omega) (fun j h1 h2 => absurd h1 (by simp)) _ _ ⟨.bl true, H, I, rfl, q⟩
  | cons r rr => exact SeqAt.dl_rcP_ne p1.isList p2.isList (by simp) (by omega) _ _ ⟨.bl false, H, I, rfl, q⟩
def dEqNil : RD2 := fun x y W Q => y = .lst [] ∧ ∃ ds, lstRd W x = some ds ∧ Q (.bl (decide (ds = []))) W
theorem sr_eqNil {K : PySem.W.Frag} : SimR2 K (rEqNil K) dEqNil := fun G H W x y dx dy Q QD R hx hy h k => by
  obtain ⟨rfl, ds, e, q⟩ := h
  obtain ⟨a, vs, rfl, ha, qa⟩ := lstRd_at R hx e
  obtain ⟨b, ws, rfl, hb, qb⟩ := lstRd_at (W := W) R hy rfl
  cases qb
  refine ⟨a, b, vs, rfl, rfl, ha, hb, k.here (d := .bl (decide (ds = []))) R ?_ q⟩
  show V.bl _ = _
  congr 1
  cases ds with
  | nil => cases qa; rfl
  | cons d ds => obtain ⟨v, r, rfl, _⟩ := qa; rfl
theorem go_eqNil {W : Wd} {x : D} {ds : List D} {Q : DQ} (h0 : lstRd W x = some ds) (h : Q (.bl (decide (ds = []))) W) : dEqNil x (.lst []) W Q := ⟨rfl, ds, h0, h⟩
theorem go_eqNilM {α : Type} [DecidableEq α] {f : α → D} {W : Wd} {x : D} {xs : List α} {Q : DQ} (h0 : lstRd W x = some (xs.map f)) (h : Q (.bl (decide (xs = []))) W) : dEqNil x (.lst []) W Q := by
  refine ⟨rfl, _, h0, ?_⟩
  rw [show decide (xs.map f = []) = decide (xs = []) from by cases xs <;> rfl]
  exact h
theorem go_eqNilE {α : Type} {f : α → D} {W : Wd} {x : D} {xs : List α} {Q : DQ} (h0 : lstRd W x = some (xs.map f)) (h : Q (.bl xs.isEmpty) W) : dEqNil x (.lst []) W Q := by
  refine ⟨rfl, _, h0, ?_⟩
  rw [show decide (xs.map f = []) = xs.isEmpty from by cases xs <;> rfl]
  exact h
end DL

/-! DMe: steps of rewriting. -/
namespace DL
open PySem PySem.Spec PyProof.Rows L2
/-- the k-th rule at a position, by a substitution -/
abbrev Stp := Nat × List Int × Sb
def stG (x : Stp) : D := .tup [.tup [.str "given", .int x.1], .bl true, posD x.2.1, .dk (dkS x.2.2)]
theorem stG_mk (k : Nat) (p : List Int) (s : Sb) : D.tup [.tup [.str "given", .int k], .bl true, posD p, .dk (dkS s)] = stG (k, p, s) := rfl
def stO : Option Stp → D
  | none => .non
  | some x => stG x
def redK (rs : List Ru) (t : Trm) (p : List Int) (k : Nat) : Option Stp := match rs[k]? with
  | none => none
  | some r => if (mt r.1 (t.at p) []).1 = true then some (k, p, (mt r.1 (t.at p) []).2) else none
def redTo (rs : List Ru) (t : Trm) (p : List Int) (k : Nat) : List Stp := (List.range k).filterMap (redK rs t p)
abbrev redAt (rs : List Ru) (t : Trm) (p : List Int) : List Stp := redTo rs t p rs.length
def reds (rs : List Ru) (t : Trm) : List Stp := t.pos.flatMap (redAt rs t)
theorem redTo_yes {rs : List Ru} {t : Trm} {p : List Int} {k : Nat} (hk : k < rs.length) (h : (mt rs[k].1 (t.at p) []).1 = true) : redTo rs t p (k + 1) = redTo rs t p k ++ [(k, p, (mt rs[k].1 (t.at p) []).2)] := by
  unfold redTo
  rw [List.range_succ, List.filterMap_append]
  congr 1
  simp [redK, List.getElem?_eq_getElem hk, h]
theorem redTo_no {rs : List Ru} {t : Trm} {p : List Int} {k : Nat} (hk : k < rs.length) (h : (mt rs[k].1 (t.at p) []).1 = false) : redTo rs t p (k + 1) = redTo rs t p k := by
  unfold redTo
  rw [List.range_succ, List.filterMap_append]
  simp [redK, List.getElem?_eq_getElem hk, h]
theorem redTo_len {rs : List Ru} {t : Trm} {p : List Int} {k : Nat} : (redTo rs t p k).length ≤ k := by
  unfold redTo
  exact Nat.le_trans (List.length_filterMap_le ..) (by rw [List.length_range]; exact Nat.le_refl _)
theorem redAt_mem {rs : List Ru} {t : Trm} {p : List Int} {x : Stp} (h : x ∈ redAt rs t p) : ∃ r, rs[x.1]? = some r ∧ x.2.1 = p ∧ (mt r.1 (t.at p) []).1 = true ∧ x.2.2 = (mt r.1 (t.at p) []).2 := by
  obtain ⟨k, hk, e⟩ := List.mem_filterMap.mp h
  unfold redK at e
  split at e
  · cases e
  · rename_i r hr
    split at e
    · rename_i hm
      cases e
      exact ⟨r, hr, rfl, hm, rfl⟩
    · cases e
theorem redAt_small {rs : List Ru} {t : Trm} {p : List Int} (hp : t.isPos p = true) {x : Stp} (h : x ∈ redAt rs t p) : ∀ vt ∈ x.2.2, vt.2.depth ≤ t.depth ∧ vt.2.size ≤ t.size := by
  obtain ⟨r, _, _, _, e⟩ := redAt_mem h
  intro vt hv
  rw [e] at hv
  have a := at_size hp
  rcases mt_sub _ _ _ vt hv with h | h
  · cases h
  · exact ⟨by omega, by omega⟩
theorem flat_len {α β : Type} {f : α → List β} {n : Nat} : ∀ {l : List α}, (∀ x ∈ l, (f x).length ≤ n) → (l.flatMap f).length ≤ l.length * n
  | [], _ => by simp
  | x :: l, h => by
    rw [List.flatMap_cons, List.length_append, List.length_cons, Nat.succ_mul]
    have := h x List.mem_cons_self
    have := flat_len (l := l) fun y hy => h y (List.mem_cons_of_mem _ hy)
    omega
theorem reds_small {rs : List Ru} {t : Trm} {x : Stp} (h : x ∈ reds rs t) : (∀ vt ∈ x.2.2, vt.2.depth ≤ t.depth ∧ vt.2.size ≤ t.size) ∧ x.2.1.length < t.depth := by
  obtain ⟨p, hp, hx⟩ := List.mem_flatMap.mp h
  have pk := pos_ok t p hp
  obtain ⟨_, _, e, _⟩ := redAt_mem hx
  exact ⟨redAt_small pk.isPos hx, by rw [e]; exact pk.short⟩
/-! positions, the inner ones first -/
mutual
def Trm.ipos : Trm → List (List Int)
  | .var _ => [[]]
  | .app _ ts => Trm.iposs 1 ts ++ [[]]
def Trm.iposs (i : Int) : List Trm → List (List Int)
  | [] => []
  | t :: ts => (t.ipos.map (i :: ·)) ++ Trm.iposs (i + 1) ts
end
theorem iposs_len (i : Int) : ∀ (ts : List Trm), (∀ t ∈ ts, t.ipos.length = t.size) → (Trm.iposs i ts).length = Trm.sizes ts := by
  intro ts
  induction ts generalizing i with
  | nil => intro _; rfl
  | cons t ts ih =>
    intro h
    rw [Trm.iposs, List.length_append, List.length_map, h t List.mem_cons_self, ih _ fun u hu => h u (List.mem_cons_of_mem _ hu)]; rfl
theorem ipos_len (t : Trm) : t.ipos.length = t.size := by
  induction t using Trm.ind with
  | hv n => rfl
  | ha f ts ih => rw [Trm.ipos, List.length_append, iposs_len _ _ ih, Trm.size]; simp; omega
theorem iposs_mem {p : List Int} : ∀ {ts : List Trm} {i : Int}, p ∈ Trm.iposs i ts → ∃ j : Nat, ∃ t, ts[j]? = some t ∧ ∃ q ∈ t.ipos, p = (i + j) :: q
  | t :: ts, i, h => by
    rw [Trm.iposs, List.mem_append] at h
    rcases h with h | h
    · obtain ⟨q, hq, rfl⟩ := List.mem_map.mp h
      exact ⟨0, t, rfl, q, hq, by simp⟩
    · obtain ⟨j, u, hu, q, hq, rfl⟩ := iposs_mem h
      exact ⟨j + 1, u, by simpa using hu, q, hq, by congr 1; omega⟩
theorem ipos_ok (t : Trm) : ∀ p ∈ t.ipos, t.isPos p = true := by
  induction t using Trm.ind with
  | hv n => intro p hp; rw [Trm.ipos, List.mem_singleton] at hp; rw [hp]; rfl
  | ha f ts ih =>
    intro p hp
    rw [Trm.ipos, List.mem_append] at hp
    rcases hp with hp | hp
    · obtain ⟨j, u, hu, q, hq, rfl⟩ := iposs_mem hp
      have hm : u ∈ ts := List.mem_of_getElem? hu
      rw [isPos_cons (x := u) (by omega) (by rw [show (1 + (j : Int) - 1).toNat = j by omega]; exact hu)]
      exact ih u hm q hq
    · rw [List.mem_singleton] at hp; rw [hp]; rfl
theorem mts_one (p t : Trm) : mres (mts [p] [t] []) = mres (mt p t []) := by
  rw [mts]
  cases h : (mt p t []).1 with
  | true => rw [if_pos rfl]; simp [mts, mres, h]
  | false => rw [if_neg (by simp)]; unfold mres; rw [h]
/-- small rules, terms -/
def RsOk (rs : List Ru) : Prop := rs.length ≤ 100 ∧ ∀ r ∈ rs, r.1.depth ≤ 40 ∧ r.1.size ≤ 10000 ∧ r.2.depth ≤ 40 ∧ r.2.size ≤ 10000
theorem RsOk.big {rs : List Ru} (h : RsOk rs) : rs.length ≤ 1000 ∧ ∀ r ∈ rs, r.1.depth ≤ 100 ∧ r.1.size ≤ 10000 ∧ r.2.depth ≤ 100 ∧ r.2.size ≤ 10000 :=
  ⟨by have := h.1; omega, fun r hr => by obtain ⟨a, b, c, d⟩ := h.2 r hr; exact ⟨by omega, b, by omega, d⟩⟩
/-- plain values below a depth -/
def Eqs : Nat → D → Prop
  | 0, _ => False
  | n + 1, .tup ds => ds.length ≤ 10000 ∧ ∀ d ∈ ds, Eqs n d
  | _ + 1, .int _ => True
  | _ + 1, .str _ => True
  | _ + 1, .non => True
  | _, _ => False
theorem Eqs.pos {n : Nat} {p : List Int} (h : p.length ≤ 10000) : Eqs (n + 2) (posD p) := ⟨by simpa using h, fun d hd => by obtain ⟨i, _, rfl⟩ := List.mem_map.mp hd; trivial⟩
theorem Eqs.given {n : Nat} {k : Nat} : Eqs (n + 2) (.tup [.str "given", .int k]) := ⟨by simp, fun d hd => by
  simp only [List.mem_cons, List.not_mem_nil, or_false] at hd
  rcases hd with rfl | rfl <;> trivial⟩
end DL

/-! DMf: dict comprehensions. -/
namespace DL
open PySem PySem.Spec PyProof.Rows L2
/-- the turns; the new dict is owned at L -/
def dcL (g : AG) (t : AT) (ek ev : AE) (ok : Wd → Prop) (δ : Sl) (L : Addr) (Q : Wd → Prop) : List D → Wd → Prop
  | [], W => ok W ∧ Q W
  | d :: ds, W => ok W ∧ g d δ W fun δ' W' => t δ' W' fun k W2 => if k = true then ek δ' W2 fun y W3 => ev δ' W3 fun z W4 => ∃ kds key, keyOf y = some key ∧ W4 L = some (.dk kds) ∧ kds.length < sizeLine ∧ dcL g t ek ev ok δ L Q ds (W4.set L (.dk (dput kds key z))) else dcL g t ek ev ok δ L Q ds W2
def dcE (own : Bool) (g : AG) (t : AT) (ek ev : AE) (ok : Wd → Prop) (δ : Sl) (items : List D) (W : Wd) (Q : DQ) : Prop := ∀ L, W L = none → dcL g t ek ev ok δ L (fun W2 => ∃ kds, W2 L = some (.dk kds) ∧ (if own = true then Q (.ptr L) W2 else Q (.dk kds) (W2.del L))) items (W.set L (.dk []))
def aDc (own : Bool) (ai : AI) (g : AG) (t : AT) (ek ev : AE) (vs : List Nat) : AE := fun δ W Q => ai δ W fun items ok W1 => dcE own g t ek ev ok (wipeD δ vs) items W1 Q
section
variable {K : PySem.W.Frag} {G0 : Hp}
theorem sim_dc {own : Bool} {wi : TI} {ai : AI} {g : TG} {ag : AG} {tt : TT} {at' : AT} {tk tv : TE} {ak av : AE} {vs : List Nat} (hi : SimI K G0 wi ai) (hg : SimG K G0 g ag) (ht : SimT K G0 tt at') (hek : SimE K G0 tk ak) (hev : SimE K G0 tv av)
    (hw : ∀ x σ H N, g x (wipe σ vs) H N → g x (wipe σ vs) H fun σ' H' => wipe σ' vs = wipe σ vs ∧ N σ' H') : SimE K G0 (tDc wi g tt tk tv vs) (aDc own ai ag at' ak av vs) := fun σ H Q G δ W QD s0 R S h k => by
  refine hi σ H _ G δ W _ s0 R S h fun J items ok G1 H1 W1 s1 R1 wk h1 L hL => ?_
  have q0 := h1 L (R1.freeW hL)
  refine ⟨fun i m H => m = items.length - i ∧ i ≤ items.length ∧ ∃ G2 W2, Same G1 G2 ∧ Rel K G2 H W2 ∧ dcL ag at' ak av ok (wipeD δ vs) L (fun W2 => ∃ kds, W2 L = some (.dk kds) ∧ (if own = true then QD (.ptr L) W2 else QD (.dk kds) (W2.del L))) (items.drop i) W2,
    ⟨_, rfl, Nat.zero_le _, G1, _, Same.refl G1, R1.newOwn (m := .dk []) hL ⟨[], rfl, rfl⟩, by simpa using q0⟩, ?_⟩
  rintro i m H2 ⟨rfl, hle, G2, W2, s2, R2, h2⟩
  by_cases hlt : i < items.length
  · rw [List.drop_eq_getElem_cons hlt] at h2
    obtain ⟨hok, q⟩ := h2
    refine .inr ⟨wk.go i G2 H2 W2 s2 R2 hok hlt, fun H' => ∃ G3 W3, Same G1 G3 ∧ Rel K G3 H' W3 ∧ dcL ag at' ak av ok (wipeD δ vs) L (fun W2 => ∃ kds, W2 L = some (.dk kds) ∧ (if own = true then QD (.ptr L) W2 else QD (.dk kds) (W2.del L))) (items.drop (i + 1)) W3, fun H' q' => ⟨items.length - (i + 1), by omega, rfl, by omega, q'⟩, fun x H' hy => ?_⟩
    obtain ⟨d, G3, e3, s3, R3, d3⟩ := wk.yld i G2 H2 W2 x H' s2 R2 hok hlt hy
    rw [List.getElem?_eq_getElem hlt] at e3
    cases e3
    have s03 := s0.trans (s1.trans (s2.trans s3))
    refine hw x σ H' _ (hg x _ _ H' _ G3 _ W2 _ s03 R3 ((S.up (s1.trans (s2.trans s3))).wipe vs) d3 q fun σ4 δ4 G4 H4 W4 s4 R4 S4 q4 => ?_)
    refine ht σ4 H4 _ G4 δ4 W4 _ (s03.trans s4) R4 S4 q4 fun b G5 H5 W5 s5 R5 q5 => ?_
    cases b with
    | false => exact iteF ⟨G5, W5, s2.trans (s3.trans (s4.trans s5)), R5, by simpa using q5⟩
    | true =>
      refine iteT (hek σ4 H5 _ G5 δ4 W5 _ (s03.trans (s4.trans s5)) R5 (S4.up s5) (by simpa using q5) fun y dy G6 H6 W6 s6 R6 d6 h6 => ?_)
      refine hev σ4 H6 _ G6 δ4 W6 _ (s03.trans (s4.trans (s5.trans s6))) R6 (S4.up (s5.trans s6)) h6 fun z dz G7 H7 W7 s7 R7 d7 h7 => ?_
      obtain ⟨kds, key, ek, e6, z6, q6⟩ := h7
      obtain ⟨_, o, e7, us, e8, e9⟩ := R7.own _ _ e6
      subst e8
      exact ⟨us, key, keyOf_at d6 ek, e7, by rw [← e9.length]; exact z6, G7, _, s2.trans (s3.trans (s4.trans (s5.trans (s6.trans s7)))), R7.put (m := .dk (dput kds key dz)) e6 ⟨_, rfl, e9.put key d7⟩, q6⟩
  · have e : i = items.length := by omega
    subst e
    rw [List.drop_length] at h2
    obtain ⟨hok, kds, e2, q⟩ := h2
    refine .inl ⟨wk.stop _ G2 H2 W2 s2 R2 hok (Nat.le_refl _), ?_⟩
    cases own with
    | true => exact (k.up (s1.trans s2)).here (d := .ptr L) R2 rfl (by simpa using q)
    | false =>
      obtain ⟨G3, s3, R3, d3⟩ := frz_at (d := .dk kds) R2 e2 rfl
      exact k _ (.dk kds) _ _ _ (s1.trans (s2.trans s3)) R3 d3 (by simpa using q)
/-- the expression is told while the dict in slot i is locked -/
def aLockE (i : Nat) (f : List (Key × D) → AE) : AE := fun δ W Q => ∃ kds, δ[i]? = some (some (.dk kds)) ∧ f kds δ W Q
theorem sim_lockE {t : TE} {f : List (Key × D) → AE} {i : Nat} (h : ∀ σ H Q G δ W QD a od kds kvs, Same G0 G → Rel K G H W → IsSl K G δ σ → σ[i]? = some (some (.ref a)) → G a = some (.frz od (.dK kvs)) → IsKs K G kds kvs → f kds δ W QD → Kont K G QD Q → t σ H Q) :
    SimE K G0 (fun σ H Q => tLockE t σ H Q ∨ t σ H Q) (aLockE i f) := fun σ H Q G δ W QD s0 R S ⟨kds, e, q⟩ kq => by
  obtain ⟨v, e2, a, kvs, rfl, ⟨o, g, c⟩, ks⟩ := S.get i _ e
  unfold dkC at c
  split at c
  · cases c
    rcases R.st _ _ g with r | ⟨u, r, _⟩
    · refine .inl ⟨a, .dK kvs, r, trivial, fun od => ?_⟩
      have s1 := same_lock (u := od) g
      refine h σ _ _ _ δ W QD a od kds kvs (s0.trans s1) (R.lockK g) (S.up s1) e2 upd_same (IsKs.up s1 _ _ ks) q ?_
      intro v' d' G' H' W' s R' hd n
      have g' : G' a = some (.frz od (.dK kvs)) := s.frz upd_same
      obtain ⟨x, y⟩ := R'.unlockK g'
      exact ⟨x, kq _ _ _ _ _ (same_back (G1 := G) g s) y (IsD.upL (same_unlock g') _ _ hd) n⟩
    · have s1 := same_lock (u := u) g
      exact .inr (h σ H Q _ δ W QD a u kds kvs (s0.trans s1) (R.relock g r) (S.up s1) e2 upd_same (IsKs.up s1 _ _ ks) q (kq.up s1))
  · rename_i u _
    cases c
    exact .inr (h σ H Q G δ W QD a u kds kvs s0 R S e2 g ks q kq)
  · cases c
end
section
variable {X : Cx} {G0 : Hp} {pos apos cpos p spos py : PySem.Pos}
theorem pe_or {e : Expr} {t t' : TE} (h : PE X e t) (h' : PE X e t') : PE X e (fun σ H Q => t σ H Q ∨ t' σ H Q) := ⟨fun pins s σ H Q I q => by
  rcases q with q | q
  · exact h.run pins s σ H Q I q
  · exact h'.run pins s σ H Q I q⟩
theorem ps_setDc {i : Nat} {y : Str} {py : PySem.Pos} {kx vx tg iter : Expr} {ifs : List Expr} {scope : Scope} {own : List (Str × Nat)} {pos spos : PySem.Pos} {wi : TI} {g : TG} {tt : TT} {tk tv : TE} (hc : X.calm = true) (hN : X.N.Nodup) (hy : X.N[i]? = some y) (hyl : X.env.scope.names.lookup y = some .local)
    (hsw : swapsWith (.DictComp kx vx [⟨tg, iter, ifs, 0⟩] scope pos) (some (.Name y py)) spos.line X.env = pure true) (hi : PI X tg iter wi) (ok : BlkOk X.N X.env.scope scope own)
    (hg : ∀ (s : Shared) (H : Hp) (C : Addr) (cl : List (Str × Addr)) (fp : List Addr), PG (X.blk s H scope (compEnvC scope cl C X.env) fp) tg g) (ht : ∀ (s : Shared) (H : Hp) (C : Addr) (cl : List (Str × Addr)) (fp : List Addr), PTs (X.blk s H scope (compEnvC scope cl C X.env) fp) ifs tt)
    (hk : ∀ (s : Shared) (H : Hp) (C : Addr) (cl : List (Str × Addr)) (fp : List Addr), PE (X.blk s H scope (compEnvC scope cl C X.env) fp) kx tk)
    (he : ∀ (s : Shared) (H : Hp) (C : Addr) (cl : List (Str × Addr)) (fp : List Addr), PE (X.blk s H scope (compEnvC scope cl C X.env) fp) vx tv) (hs : ∀ x, foldedSetIterable iter X.env x = pure x := by intro _; rfl) :
    PS X (.Assign [.Name y py] (.DictComp kx vx [⟨tg, iter, ifs, 0⟩] scope pos) spos) (tAsg (tDc wi g tt tk tv (own.map (·.2))) (gName i)) := by
  refine ⟨fun pins s σ H D I h => ?_⟩
  rw [exec_Assign_Name_used _ _ _ _ hsw]
  refine wpAny_bind (wpAny_standAt (wpAny_bind ?_))
  show wpAny _ X.A (do let _ ← comprehension (.DictComp kx vx [⟨tg, iter, ifs, 0⟩] scope pos) scope X.env (firstIterPos [⟨tg, iter, ifs, 0⟩] pos) newDict false (eval iter X.env) (some (assign (.Name y py) X.env))) _ _ s
  have h : tDc wi g tt tk tv (own.map (·.2)) σ H (fun x H1 => gName i x σ H1 D.nx) := h
  refine wpAny_bind (thn (dc_core (Qf := fun _ s' => SP X pins D .next s') hc hN I hi ok hg ht hk he hs h fun L C s' m H' I' q hn f => ?_) fun _ s' hq => wpAny_pure (wpAny_pure hq))
  show wpAny _ _ (assign (.Name y py) X.env (.ref L)) _ _ _
  refine wpAny_assign_Name (store_ok2 (v := V.ref L) I' hN hy (.inl hyl) rfl (fun s2 I2 ⟨a, sb, ha⟩ => ?_) (.inr hyl))
  obtain ⟨f0, f1, f2, f3, f4, f5⟩ := f
  have haC : C ≠ a := by
    rcases ha with z | z
    · rw [z]; exact f1
    · exact fun e => f4 y a z e.symm
  refine ⟨m, hn.sameBut sb haC, fun h3 sb3 => ?_⟩
  exact ⟨_, H', I2.turned (t' := s2.toks) (fun b o hb e => (sb3.2 b hb).trans e) f0 f1 f3 f4 f5, q⟩
theorem swd_true {kx vx : Expr} {gs : List Comprehension} {scope : Scope} {pos py : PySem.Pos} {y : Str} {l : Nat} {env : Env} (hk : env.scope.kind = .function) (hy : env.scope.names.lookup y = some .local) (hl : (py.line == pos.line) = true)
    (ha : (scope.names.any fun (n, k) => n == y && (k == .local || k == .cell)) = false) : swapsWith (.DictComp kx vx gs scope pos) (some (.Name y py)) l env = pure true := by
  have ky : env.kindOf y = some .local := hy
  have hb : env.blockKind = .function := by unfold Env.blockKind; rw [hk]; rfl
  unfold swapsWith
  simp only [hb, ky, ha, Expr.pos, hl]
  rfl
/-- the parts of its block -/
structure DDc (X : Cx) (G0 : Hp) (scope : Scope) (tg : Expr) (ifs : List Expr) (kx vx : Expr) (g : TG) (tt : TT) (tk tv : TE) (ag : AG) (at' : AT) (ak av : AE) : Prop where
  pg : ∀ (s : Shared) (H : Hp) (C : Addr) (cl : List (Str × Addr)) (fp : List Addr), PG (X.blk s H scope (compEnvC scope cl C X.env) fp) tg g
  pt : ∀ (s : Shared) (H : Hp) (C : Addr) (cl : List (Str × Addr)) (fp : List Addr), PTs (X.blk s H scope (compEnvC scope cl C X.env) fp) ifs tt
  pk : ∀ (s : Shared) (H : Hp) (C : Addr) (cl : List (Str × Addr)) (fp : List Addr), PE (X.blk s H scope (compEnvC scope cl C X.env) fp) kx tk
  pv : ∀ (s : Shared) (H : Hp) (C : Addr) (cl : List (Str × Addr)) (fp : List Addr), PE (X.blk s H scope (compEnvC scope cl C X.env) fp) vx tv
  sg : SimG X.K G0 g ag
  st : SimT X.K G0 tt at'
  sk : SimE X.K G0 tk ak
  sv : SimE X.K G0 tv av
variable {kx vx iter tg : Expr} {ifs : List Expr} {scope : Scope} {own : List (Str × Nat)} {wi : TI} {ai : AI} {g : TG} {tt : TT} {ag : AG} {at' : AT} {tk tv : TE} {ak av : AE} {i : Nat} {x y : Str}
theorem ddc_of (hg : ∀ (s : Shared) (H : Hp) (C : Addr) (cl : List (Str × Addr)) (fp : List Addr), DG (X.blk s H scope (compEnvC scope cl C X.env) fp) G0 tg g ag)
    (ht : ∀ (s : Shared) (H : Hp) (C : Addr) (cl : List (Str × Addr)) (fp : List Addr), DTs (X.blk s H scope (compEnvC scope cl C X.env) fp) G0 ifs tt at')
    (hk : ∀ (s : Shared) (H : Hp) (C : Addr) (cl : List (Str × Addr)) (fp : List Addr), DE (X.blk s H scope (compEnvC scope cl C X.env) fp) G0 kx tk ak)
    (hv : ∀ (s : Shared) (H : Hp) (C : Addr) (cl : List (Str × Addr)) (fp : List Addr), DE (X.blk s H scope (compEnvC scope cl C X.env) fp) G0 vx tv av) : DDc X G0 scope tg ifs kx vx g tt tk tv ag at' ak av :=
  ⟨fun s H C cl fp => (hg s H C cl fp).pg, fun s H C cl fp => (ht s H C cl fp).pt, fun s H C cl fp => (hk s H C cl fp).pe, fun s H C cl fp => (hv s H C cl fp).pe, (hg X.s_0 X.H_0 0 [] []).sim, (ht X.s_0 X.H_0 0 [] []).sim, (hk X.s_0 X.H_0 0 [] []).sim, (hv X.s_0 X.H_0 0 [] []).sim⟩
theorem de_dc (own' : Bool) (hc : X.calm = true) (hN : X.N.Nodup) (hi : DI X G0 tg iter wi ai) (ok : BlkOk X.N X.env.scope scope own) (hd : DDc X G0 scope tg ifs kx vx g tt tk tv ag at' ak av)
    (hw : ∀ x σ H N, g x (wipe σ (own.map (·.2))) H N → g x (wipe σ (own.map (·.2))) H fun σ' H' => wipe σ' (own.map (·.2)) = wipe σ (own.map (·.2)) ∧ N σ' H') (hs : ∀ x, foldedSetIterable iter X.env x = pure x := by intro _; rfl) :
    DE X G0 (.DictComp kx vx [⟨tg, iter, ifs, 0⟩] scope pos) (tDc wi g tt tk tv (own.map (·.2))) (aDc own' ai ag at' ak av (own.map (·.2))) := ⟨pe_dc hc hN hi.pi ok hd.pg hd.pt hd.pk hd.pv hs, sim_dc hi.sim hd.sg hd.st hd.sk hd.sv hw⟩
theorem ds_setDc (own' : Bool) (hc : X.calm = true) (hN : X.N.Nodup) (hy : X.N[i]? = some y) (hyl : X.env.scope.names.lookup y = some .local) (hsw : swapsWith (.DictComp kx vx [⟨tg, iter, ifs, 0⟩] scope pos) (some (.Name y py)) spos.line X.env = pure true)
    (hi : DI X G0 tg iter wi ai) (ok : BlkOk X.N X.env.scope scope own) (hd : DDc X G0 scope tg ifs kx vx g tt tk tv ag at' ak av)
    (hw : ∀ x σ H N, g x (wipe σ (own.map (·.2))) H N → g x (wipe σ (own.map (·.2))) H fun σ' H' => wipe σ' (own.map (·.2)) = wipe σ (own.map (·.2)) ∧ N σ' H') (hs : ∀ x, foldedSetIterable iter X.env x = pure x := by intro _; rfl) :
    DS X G0 (.Assign [.Name y py] (.DictComp kx vx [⟨tg, iter, ifs, 0⟩] scope pos) spos) (tAsg (tDc wi g tt tk tv (own.map (·.2))) (gName i)) (aAsg (aDc own' ai ag at' ak av (own.map (·.2))) (agName i)) :=
  ⟨ps_setDc hc hN hy hyl hsw hi.pi ok hd.pg hd.pt hd.pk hd.pv hs, sim_asg (sim_dc hi.sim hd.sg hd.st hd.sk hd.sv hw) fun x d σ H M G δ W N s0 R S hd h k => k _ _ G H W (Same.refl G) R (S.set i hd) h⟩
/-! ### over a dict's items -/
def aDcItems (own : Bool) (i : Nat) (g : AG) (t : AT) (ek ev : AE) (vs : List Nat) : AE := aLockE i fun kds δ W Q => dcE own g t ek ev (fun _ => True) (wipeD δ vs) (kds.map fun kv => .tup [keyD kv.1, kv.2]) W Q
theorem sim_dcItems {K : PySem.W.Frag} (own' : Bool) {vs : List Nat} (hg : SimG K G0 g ag) (ht : SimT K G0 tt at') (hek : SimE K G0 tk ak) (hev : SimE K G0 tv av) (hw : ∀ x σ H N, g x (wipe σ vs) H N → g x (wipe σ vs) H fun σ' H' => wipe σ' vs = wipe σ vs ∧ N σ' H') :
    SimE K G0 (fun σ H Q => tLockE (tDc (iItems (tVar i)) g tt tk tv vs) σ H Q ∨ tDc (iItems (tVar i)) g tt tk tv vs σ H Q) (aDcItems own' i ag at' ak av vs) := sim_lockE fun σ H Q G δ W QD a od kds kvs s0 R S e hG k q kq => by
  refine ⟨.ref a, e, a, od, kvs, rfl, (R.st _ _ hG).eq rfl, ?_⟩
  exact sim_dc (G0 := G) (own := own') (wi := fun _ H M => M (Iti a od kvs) H) (ai := fun δ W N => N (kds.map fun kv : Key × D => D.tup [keyD kv.1, kv.2]) (fun _ => True) W) (fun σ H M G' δ W N s R S h k' => k' (Iti a od kvs) _ _ G' H W (Same.refl _) R ((walks_items hG k).up s) h)
    (fun x d σ H M G' δ W N s => hg x d σ H M G' δ W N (s0.trans s)) (fun σ H Q G' δ W QD s => ht σ H Q G' δ W QD (s0.trans s)) (fun σ H Q G' δ W QD s => hek σ H Q G' δ W QD (s0.trans s)) (fun σ H Q G' δ W QD s => hev σ H Q G' δ W QD (s0.trans s)) hw σ H Q G δ W QD (Same.refl _) R S q kq
variable {elts : List Expr} {kk : Nat} {tpos : PySem.Pos}
theorem de_dcItems (own' : Bool) (hc : X.calm = true) (hN : X.N.Nodup) (hx : DE X G0 (.Name x p) (tVar i) (aVar i)) (ok : BlkOk X.N X.env.scope scope own) (hd : DDc X G0 scope (.Tuple elts kk tpos) ifs kx vx g tt tk tv ag at' ak av)
    (hw : ∀ x σ H N, g x (wipe σ (own.map (·.2))) H N → g x (wipe σ (own.map (·.2))) H fun σ' H' => wipe σ' (own.map (·.2)) = wipe σ (own.map (·.2)) ∧ N σ' H')
    (hs : ∀ y, foldedSetIterable (.Call (.Attribute (.Name x p) "items" apos) [] [] cpos) X.env y = pure y := by intro _; rfl) (hbase : attributeBase (.Name x p) "items" X.env (eval (.Name x p) X.env) = eval (.Name x p) X.env := by rfl) (hline : (apos.endLine == cpos.line) = true := by rfl) :
    DE X G0 (.DictComp kx vx [⟨.Tuple elts kk tpos, .Call (.Attribute (.Name x p) "items" apos) [] [] cpos, ifs, 0⟩] scope pos) (fun σ H Q => tLockE (tDc (iItems (tVar i)) g tt tk tv (own.map (·.2))) σ H Q ∨ tDc (iItems (tVar i)) g tt tk tv (own.map (·.2)) σ H Q) (aDcItems own' i ag at' ak av (own.map (·.2))) := by
  have h := pe_dc (pos := pos) hc hN (pi_items hx.pe hbase hline) ok hd.pg hd.pt hd.pk hd.pv hs
  exact ⟨pe_or (pe_lock h) h, sim_dcItems own' hd.sg hd.st hd.sk hd.sv hw⟩
end
/-! ### steps -/
theorem go_dcItems {i : Nat} {own : Bool} {g : AG} {t : AT} {ek ev : AE} {vs : List Nat} {δ : Sl} {W : Wd} {Q : DQ} {kds : List (Key × D)} (h0 : δ[i]? = some (some (.dk kds))) (h : dcE own g t ek ev (fun _ => True) (wipeD δ vs) (kds.map fun kv => .tup [keyD kv.1, kv.2]) W Q) : aDcItems own i g t ek ev vs δ W Q := ⟨kds, h0, h⟩
theorem go_dc {own : Bool} {ai : AI} {g : AG} {t : AT} {ek ev : AE} {vs : List Nat} {δ : Sl} {W : Wd} {Q : DQ} (h : ai δ W fun items ok W1 => dcE own g t ek ev ok (wipeD δ vs) items W1 Q) : aDc own ai g t ek ev vs δ W Q := h
/-- the loop's invariant -/
theorem dcE_inv {own : Bool} {g : AG} {t : AT} {ek ev : AE} {ok : Wd → Prop} {δ : Sl} {items : List D} {W : Wd} {Q : DQ} (I : List D → List (Key × D) → Wd → Prop) (h0 : I items [] W) (hok : ∀ ds acc W' L, I ds acc W' → W' L = none → ok (W'.set L (.dk acc)))
    (hs : ∀ d ds acc W' (L : Addr) (P : D → D → Wd → Prop) (P0 : Wd → Prop), I (d :: ds) acc W' → W' L = none → (∀ y z key W'', keyOf y = some key → acc.length < sizeLine → W'' L = none → I ds (dput acc key z) W'' → P y z (W''.set L (.dk acc))) → (∀ W'', W'' L = none → I ds acc W'' → P0 (W''.set L (.dk acc))) →
      g d δ (W'.set L (.dk acc)) fun δ' W1 => t δ' W1 fun k W2 => if k = true then ek δ' W2 fun y W3 => ev δ' W3 fun z W4 => P y z W4 else P0 W2)
    (hd : ∀ acc W', I [] acc W' → if own = true then ∀ p, W' p = none → Q (.ptr p) (W'.set p (.dk acc)) else Q (.dk acc) W') : dcE own g t ek ev ok δ items W Q := by
  intro L hL
  have go : ∀ (ds : List D) (acc : List (Key × D)) (W' : Wd), W' L = none → I ds acc W' → dcL g t ek ev ok δ L (fun W2 => ∃ kds, W2 L = some (.dk kds) ∧ (if own = true then Q (.ptr L) W2 else Q (.dk kds) (W2.del L))) ds (W'.set L (.dk acc)) := by
    intro ds
    induction ds with
    | nil =>
      intro acc W' hL h
      refine ⟨hok _ _ _ _ h hL, acc, Wd.set_same .., ?_⟩
      have := hd acc W' h
      cases own with
      | true => exact this L hL
      | false => rw [Wd.del_set hL]; exact this
    | cons d ds ih =>
      intro acc W' hL h
      refine ⟨hok _ _ _ _ h hL, hs d ds acc W' L (fun y z W4 => ∃ kds key, keyOf y = some key ∧ W4 L = some (.dk kds) ∧ kds.length < sizeLine ∧ dcL g t ek ev ok δ L (fun W2 => ∃ kds, W2 L = some (.dk kds) ∧ (if own = true then Q (.ptr L) W2 else Q (.dk kds) (W2.del L))) ds (W4.set L (.dk (dput kds key z)))) _ h hL (fun y z key W'' e1 hl hn hI => ?_) (fun W'' hn hI => ih acc W'' hn hI)⟩
      refine ⟨acc, key, e1, Wd.set_same .., hl, ?_⟩
      rw [Wd.set_set]
      exact ih _ W'' hn hI
  exact go items [] W hL h0
/-- each turn told by itself, the keys all different -/
theorem dcE_pure {own : Bool} {α : Type} {g : AG} {t : AT} {ek ev : AE} {ok : Wd → Prop} {δ : Sl} {W : Wd} {Q : DQ} (a : α → D) (ky : α → Key) (f : α → D) (xs : List α) (hz : xs.length < sizeLine) (hnd : (xs.map ky).Nodup) (hok : ∀ L m, W L = none → ok (W.set L m))
    (he : ∀ x ∈ xs, ∀ (W' : Wd) (P : D → D → Wd → Prop) (P0 : Wd → Prop), P (keyD (ky x)) (f x) W' → g (a x) δ W' fun δ' W1 => t δ' W1 fun k W2 => if k = true then ek δ' W2 fun y W3 => ev δ' W3 fun z W4 => P y z W4 else P0 W2)
    (hQ : if own = true then ∀ p, W p = none → Q (.ptr p) (W.set p (.dk (xs.map fun x => (ky x, f x)))) else Q (.dk (xs.map fun x => (ky x, f x))) W) : dcE own g t ek ev ok δ (xs.map a) W Q := by
  refine dcE_inv (fun ds acc W' => ∃ us vs : List α, W' = W ∧ ds = us.map a ∧ acc = vs.map (fun x => (ky x, f x)) ∧ vs ++ us = xs) ⟨xs, [], rfl, rfl, rfl, rfl⟩ ?_ ?_ ?_
  · rintro ds acc W' L ⟨us, vs, rfl, _⟩ hL
    exact hok L _ hL
  · rintro d ds acc W' L P P0 ⟨us, vs, rfl, e1, rfl, e2⟩ hL k1 k2
    cases us with
    | nil => cases e1
    | cons u us =>
      rw [List.map_cons] at e1
      cases e1
      have hm : u ∈ xs := by rw [← e2]; simp
      have hlen := congrArg List.length e2
      simp only [List.length_append, List.length_cons] at hlen
      have fresh : ky u ∉ (vs.map fun x => (ky x, f x)).map (·.1) := by
        rw [← e2, List.map_append, List.map_cons, List.nodup_append] at hnd
        intro z
        rw [List.map_map] at z
        exact hnd.2.2 _ z _ List.mem_cons_self rfl
      refine he u hm _ P P0 (k1 _ _ (ky u) _ ?_ (by rw [List.length_map]; omega) hL ⟨us, vs ++ [u], rfl, rfl, ?_, by rw [← e2]; simp⟩)
      · cases ky u <;> rfl
      · rw [dput_fresh fresh]; simp
  · rintro acc W' ⟨us, vs, rfl, e1, rfl, e2⟩
    cases us with
    | cons _ _ => cases e1
    | nil =>
      rw [List.append_nil] at e2
      subst e2
      exact hQ
end DL

/-! DMg: several except clauses, each with a name or without. -/
namespace DL
open PySem PySem.Spec PyProof.Rows L2
def cutO : Option Nat → Ends → Ends
  | none, D => D
  | some i, D => { nx := fun σ' H' => D.nx (σ'.set i none) H', rt := D.rt, bk := fun σ' H' => D.bk (σ'.set i none) H', ct := fun σ' H' => D.ct (σ'.set i none) H' }
def setO : Option Nat → Addr → L2.St → L2.St
  | none, _, σ => σ
  | some i, a, σ => σ.set i (some (.ref a))
abbrev Cls1 := Value × Option Nat × (Addr → Value → Option Addr → TS)
/-- what the clauses wish of an exception of the body, one after the other -/
def wM (K : PySem.W.Frag) (Wout : WX) (D : Ends) : List Cls1 → WX
  | [] => Wout
  | (c, io, ts) :: r => fun cls d σ H => ∃ b, PySem.W.exmOne K cls c = some b ∧ (b = true → ∀ a, H a = none → ts a cls d (cutO io D) (setO io a σ) H) ∧ (b = false → wM K Wout D r cls d σ H)
def NmOk (X : Cx) (nm : Option Str) (io : Option Nat) : Prop := (nm = none ∧ io = none) ∨ ∃ n i, nm = some n ∧ io = some i ∧ X.N[i]? = some n ∧ X.env.kindOf n = some .local
inductive HdsM (X : Cx) : List ExceptHandler → List Cls1 → Prop
  | nil : HdsM X [] []
  | cons {x : Str} {c : Value} {io : Option Nat} {nm : Option Str} {ts : Addr → Value → Option Addr → TS} {b₀ : Stmt} {suite : List Stmt} {np pos' : PySem.Pos} {hds : List ExceptHandler} {l : List Cls1} (hc : Names X x c) (hn : NmOk X nm io)
      (hsu : ∀ (a : Addr) (oe : Obj) (cls : Value) (d : Option Addr) (pn : List (Addr × Obj)), Zc cls d oe → (∃ vs, oe.data = .fields vs) → PSs (X.suite a ((a, oe) :: pn)) (b₀ :: suite) (ts a cls d)) (r : HdsM X hds l) :
      HdsM X (.ExceptHandler (some (.Name x np)) nm (b₀ :: suite) pos' :: hds) ((c, io, ts) :: l)
section
variable {X : Cx} {body : List Stmt} {h₀ : ExceptHandler} {hds : List ExceptHandler} {l : List Cls1} {pos : PySem.Pos} {tb : WX → TS} {Wout : WX}
theorem ps_tryM (hs : X.stack = X.env :: X.outer) (hf : X.env.frame = some X.env.locals) (hN : X.N.Nodup) (tk : Takes X Wout)
    (hb : ∀ (W : WX) (pn : List (Addr × Obj)) (xe : Value → Shared → Prop), Takes (X.tr pn xe) W → PassesOwn (model X.prog X.w) X.A X.env xe → PSs (X.tr pn xe) body (tb W))
    (hh : HdsM X (h₀ :: hds) l) : PS X (.Try body (h₀ :: hds) [] [] pos) (fun D σ H => tb (wM X.K Wout D l) D σ H) := by
  refine ⟨fun pins s σ H D I h => ?_⟩
  have ok := I.ok
  have hfr : X.A.frames = some (X.env :: X.outer) := by rw [ok.frames, hs]
  refine wpAny_Try_except ?_
  refine wpAny_mono ((hb (wM X.K Wout D l) (X.pn ++ pins) (fun e s₁ => wpAny (model X.prog X.w) X.A (noteFrame e X.env) (fun _ s₂ => wpAny (model X.prog X.w) X.A (setFlight e none) (fun _ s₃ =>
    wpAny (model X.prog X.w) X.A (handleBy e X.env (h₀ :: hds)) (SP X pins D) X.xe s₃) X.xe s₂) X.xe s₁) (fun u s' xx => ?_) PassesOwn.looking).run [] s σ H D (I.toTry _) h) (fun f s1 hsp => ?_) (fun e s1 he => he)
  · obtain ⟨a, B, sI, pins', σ', H', cls, d, rfl, J', nb, up, sky, na, os, ag, w⟩ := xx
    have J : Inv X pins σ' H' sI := J'.ofTry ok
    have sky' : Sky B (X.env :: X.outer) a (Zc cls d) X.env.locals s'.heap := by rw [← hs]; exact sky
    show wpAny (model X.prog X.w) X.A (noteFrame (.ref a) X.env) _ _ _
    refine Sky.land Zc.steady hfr hf sky' fun h3 fl3 up3 => ?_
    have J3 : Inv X pins σ' H' { s' with heap := h3 } := J.landed nb fl3.1 (up.trans up3) os ag
    obtain ⟨oe3, vs3, he3, hz3, hd3⟩ := fl3.there
    have notFr : ∀ {h : Heap} {o : Obj} {vs : Array Value}, h.FunFrames B (X.env :: X.outer) → h.get? a = some o → o.data = .fields vs → a ∉ frs (X.env :: X.outer) := fun {h o vs} ff e dd hm => by
      obtain ⟨_, o', e', hnf⟩ := ff.mem hm
      rw [e] at e'; cases e'
      exact hnf _ dd
    have nfr := notFr fl3.2.2.1 he3 hd3
    have nL : a ≠ X.env.locals := fun z => nfr (List.mem_filterMap.mpr ⟨X.env, List.mem_cons_self, by rw [hf, z]⟩)
    have nF : a ∉ X.fs := fun hm => by
      obtain ⟨e, he, q⟩ := List.mem_filterMap.mp hm
      exact nfr (List.mem_filterMap.mpr ⟨e, List.mem_cons_of_mem _ he, q⟩)
    have S3 := J3.suite he3 hd3 na nL nF
    have go : ∀ {hds' : List ExceptHandler} {l' : List Cls1}, HdsM X hds' l' → wM X.K Wout D l' cls d σ' H' →
        wpAny (model X.prog X.w) X.A (handleBy (.ref a) X.env hds') (SP X pins D) X.xe { s' with heap := h3 } := by
      intro hds' l' hk
      induction hk with
      | nil =>
        intro w
        refine wpAny_handleBy_nil ?_
        obtain ⟨k1, k2, k3, oe, vs, T, oT, ts', he, hz, hd, h1, hr⟩ := id fl3
        unfold PySem.passOn
        refine wpAny_bind (wpAny_field he hd h1 ?_)
        rw [if_neg (show ¬ ((Value.ref T == Value.none) = true) from by simp)]
        have fin : wpAny (model X.prog X.w) X.A (setFlight (.ref a) X.env.frame) (fun _ s4 => wpAny (model X.prog X.w) X.A (throw (.ref a) : Sem Flow) (SP X pins D) X.xe s4) X.xe { s' with heap := h3 } := by
          rw [hf]
          refine HandSPX.setFlight_upZ fl3 fun h4 hh4 up4 => wpAny_throw (tk _ _ ?_)
          exact ⟨a, B, sI, pins, σ', H', cls, d, rfl, J, nb, (up.trans up3).trans up4, .inr (.inr (by rw [hs]; exact hh4)), na, os, ag, w⟩
        first
          | exact wpAny_bind (wpAny_pure (wpAny_bind fin))
          | exact wpAny_bind fin
      | @cons x c io nm ts b₀ suite np pos' hds2 l2 hc hnm hsu r ih =>
        intro w
        obtain ⟨b, hb1, hyes, hno⟩ := w
        refine wpAny_handleBy_cons (codeAny_handlers_test ?_) (by intro q; cases q)
        have LT : PySem.W.Looks (model X.prog X.w) h3 (typeOf (.ref a)) cls := fun A Q E s k q => wpAny_typeOf_ref (k _ _ he3) (by rw [hz3.1]; exact q)
        have LM := PySem.W.exm_one (M := model X.prog X.w) (J3.kIn) LT hb1
        have test : ∀ {Q : Value → Shared → Prop} {E : Value → Shared → Prop}, Q c { s' with heap := h3 } → wpAny (model X.prog X.w) (X.A.mark (some (.ref a))) (eval (.Name x np) X.env) Q E { s' with heap := h3 } := fun {Q E} q => by
          obtain ⟨hg, hdbg, hm | ⟨hm, hv, hnn⟩⟩ := hc
          · exact ld_glob (X := X.suite a ((a, oe3) :: (X.pn ++ pins))) S3 hg hm q hdbg
          · exact ld_blt (X := X.suite a ((a, oe3) :: (X.pn ++ pins))) S3 hg hm hv q hnn hdbg
        refine test (LM.here ?_)
        cases b with
        | true =>
          rcases hnm with ⟨rfl, rfl⟩ | ⟨n, i, rfl, rfl, hi, hln⟩
          · refine codeAny_handlers_suite ?_
            refine HandSPX.lands_againZ fl3 fun h4 fl4 up4 => ?_
            have J4 : Inv X pins σ' H' { s' with heap := h4 } := J.landed nb fl4.1 ((up.trans up3).trans up4) os ag
            obtain ⟨oe4, vs4, he4, hz4, hd4⟩ := fl4.there
            have S4 := J4.suite he4 hd4 na nL nF
            refine wpAny_mono ((hsu a oe4 cls d (X.pn ++ pins) hz4 ⟨_, hd4⟩).run [] _ _ H' _ S4 (hyes rfl a na)) (fun f s6 hsp => ?_) (fun _ _ z => False.elim z)
            cases f with
            | next =>
              obtain ⟨σ6, H6, S6, q6⟩ := hsp
              exact ⟨_, _, S6.unsuite ok, q6⟩
            | brk =>
              obtain ⟨σ6, H6, S6, q6⟩ := hsp
              exact ⟨_, _, S6.unsuite ok, q6⟩
            | cont =>
              obtain ⟨σ6, H6, S6, q6⟩ := hsp
              exact ⟨_, _, S6.unsuite ok, q6⟩
            | ret u =>
              obtain ⟨v6, σ6, H6, S6, r6, q6⟩ := hsp
              exact ⟨_, _, _, S6.unsuite ok, r6, q6⟩
          · refine codeAny_handlers_suite_as ?_
            refine HandSPX.lands_againZ fl3 fun h4 fl4 up4 => ?_
            have J4 : Inv X pins σ' H' { s' with heap := h4 } := J.landed nb fl4.1 ((up.trans up3).trans up4) os ag
            obtain ⟨oe4, vs4, he4, hz4, hd4⟩ := fl4.there
            have S4 := J4.suite he4 hd4 na nL nF
            refine store_ok (X := X.suite a ((a, oe4) :: (X.pn ++ pins))) (v := .ref a) S4 hN hi (.inl hln) rfl (fun s5 S5 => ?_) (.inr hln)
            refine wpAny_mono ((hsu a oe4 cls d (X.pn ++ pins) hz4 ⟨_, hd4⟩).run [] s5 _ H' _ S5 (hyes rfl a na)) (fun f s6 hsp => ?_) (fun _ _ z => False.elim z)
            have end_ : ∀ {σ6 : L2.St} {H6 : Hp} {Q : Shared → Prop}, Inv (X.suite a ((a, oe4) :: (X.pn ++ pins))) [] σ6 H6 s6 → (∀ s7, Inv X pins (σ6.set i none) H6 s7 → Q s7) →
                wpAny (model X.prog X.w) X.A (do bindName X.env n .none; unbindBehindTheSuite X.env n pos') (fun _ s7 => Q s7) X.xe s6 := fun {σ6 H6 Q} S6 hq => gone_ok (S6.unsuite ok) hN hi hln hq
            cases f with
            | next =>
              obtain ⟨σ6, H6, S6, q6⟩ := hsp
              exact end_ S6 fun s7 J7 => ⟨_, _, J7, q6⟩
            | brk =>
              obtain ⟨σ6, H6, S6, q6⟩ := hsp
              exact end_ S6 fun s7 J7 => ⟨_, _, J7, q6⟩
            | cont =>
              obtain ⟨σ6, H6, S6, q6⟩ := hsp
              exact end_ S6 fun s7 J7 => ⟨_, _, J7, q6⟩
            | ret u =>
              obtain ⟨v6, σ6, H6, S6, r6, q6⟩ := hsp
              exact end_ S6 fun s7 J7 => ⟨_, _, _, J7, r6, q6⟩
        | false =>
          show wpAny _ X.A (handleBy (.ref a) X.env hds2) _ _ _
          exact ih (hno rfl)
    exact go hh w
  · cases f with
    | next =>
      obtain ⟨σ', H', J', q⟩ := hsp
      exact wpAny_execs_nil ⟨σ', H', J'.ofTry ok, q⟩
    | brk =>
      obtain ⟨σ', H', J', q⟩ := hsp
      exact ⟨σ', H', J'.ofTry ok, q⟩
    | cont =>
      obtain ⟨σ', H', J', q⟩ := hsp
      exact ⟨σ', H', J'.ofTry ok, q⟩
    | ret u =>
      obtain ⟨v, σ', H', J', r, q⟩ := hsp
      exact ⟨v, σ', H', J'.ofTry ok, r, q⟩
end
/-! ### over data -/
/-- a clause as read: of which exception it tells (its name, its field), the name's slot -/
structure ACl where
  n : Str
  f : Option Str
  i : Option Nat
  asu : Addr → D → AS
def AcutO : Option Nat → AEnds → AEnds
  | none, A => A
  | some i, A => Acut i A
/-- the suite of this clause, told of this exception -/
def ACl.go (h : ACl) (n : Str) (fs : List (Str × D)) (A : AEnds) (δ : Sl) (W : Wd) : Prop := n = h.n ∧ (match h.i with
  | none => h.asu 0 .non A δ W
  | some i => match h.f with
    | none => fs = [] ∧ ∀ a, W a = none → h.asu a .non (Acut i A) (δ.set i (some (.ptr a))) W
    | some f => ∃ v, fs = [(f, v)] ∧ ∀ a, W a = none → h.asu a v (Acut i A) (δ.set i (some (.ptr a))) W)
def aTryM (ab : AW → AS) (hs : List ACl) : AS := fun A δ W => ab (fun δ' n fs W' => ∃ h ∈ hs, h.go n fs A δ' W') A δ W
open Classical in
noncomputable def tsM (D : Value) (f : Option Str) (io : Option Nat) (ts : Addr → Addr → TS) : Addr → Value → Option Addr → TS := fun a cls d => match io with
  | none => ts a 0
  | some _ => match f with
    | none => if cls = D ∧ d = none then ts a 0 else tNever
    | some _ => if h : cls = D ∧ ∃ q, d = some q then ts a (Classical.choose h.2) else tNever
section
variable {X : Cx} {G0 : Hp} {pos np pos' : PySem.Pos} {hds : List ExceptHandler} {ls : List Cls1} {hs : List ACl}
/-- one clause, told -/
inductive DCl (X : Cx) (G0 : Hp) (b₀ : Stmt) (suite : List Stmt) : (Addr → Addr → TS) → ACl → Prop
  | nn {t : Addr → TS} {n : Str} {f : Option Str} {asu : Addr → D → AS} (h : ∀ (a : Addr) (oe : Obj) (pn : List (Addr × Obj)), (∃ vs, oe.data = .fields vs) → DSs (X.suite a ((a, oe) :: pn)) G0 (b₀ :: suite) (t a) (asu 0 .non)) : DCl X G0 b₀ suite (fun a _ => t a) ⟨n, f, none, asu⟩
  | no {t : Addr → TS} {n : Str} {i : Nat} {asu : Addr → D → AS} (h : ∀ (a : Addr) (oe : Obj) (pn : List (Addr × Obj)), Zc (.ref (He.ga X.K n)) none oe → (∃ vs, oe.data = .fields vs) → DSs (X.suite a ((a, oe) :: pn)) G0 (b₀ :: suite) (t a) (asu a .non)) : DCl X G0 b₀ suite (fun a _ => t a) ⟨n, none, some i, asu⟩
  | yes {ts : Addr → Addr → TS} {n : Str} {i : Nat} {f : Str} {asu : Addr → D → AS} (h : ∀ (a q : Addr) (oe : Obj) (pn : List (Addr × Obj)) (G1 : Hp) (v : V) (d : D), Zc (.ref (He.ga X.K n)) (some q) oe → (∃ vs, oe.data = .fields vs) → G1 q = some (.xd [(f, v)]) → IsD X.K G1 d v → DSs (X.suite a ((a, oe) :: pn)) G1 (b₀ :: suite) (ts a q) (asu a d)) : DCl X G0 b₀ suite ts ⟨n, some f, some i, asu⟩
/-- the clauses: each exception that the readings tell of goes to its own clause -/
inductive DHs (X : Cx) (G0 : Hp) : List ExceptHandler → List Cls1 → List ACl → Prop
  | nil : DHs X G0 [] [] []
  | cons {x : Str} {nm : Option Str} {h : ACl} {ts : Addr → Addr → TS} {b₀ : Stmt} {suite : List Stmt} {np pos' : PySem.Pos} {hds : List ExceptHandler} {l : List Cls1} {hs : List ACl} (hc : Names X x (.ref (He.ga X.K x))) (hn : NmOk X nm h.i) (dc : DCl X G0 b₀ suite ts h)
      (own : PySem.W.exmOne X.K (.ref (He.ga X.K h.n)) (.ref (He.ga X.K x)) = some true) (oth : ∀ g ∈ hs, PySem.W.exmOne X.K (.ref (He.ga X.K g.n)) (.ref (He.ga X.K x)) = some false) (r : DHs X G0 hds l hs) :
      DHs X G0 (.ExceptHandler (some (.Name x np)) nm (b₀ :: suite) pos' :: hds) ((.ref (He.ga X.K x), h.i, tsM (.ref (He.ga X.K h.n)) h.f h.i ts) :: l) (h :: hs)
theorem DHs.toM (h : DHs X G0 hds ls hs) : HdsM X hds ls := by
  induction h with
  | nil => exact .nil
  | @cons x nm h ts b₀ suite np pos' hds l hs hc hn dc own oth r ih =>
    refine .cons hc hn (fun a oe cls d pn hz hf => ?_) ih
    unfold tsM
    cases dc with
    | nn dc => exact (dc a oe pn hf).ps
    | @no t n i asu dc =>
      by_cases e : cls = .ref (He.ga X.K n) ∧ d = none
      · simp only [if_pos e]
        obtain ⟨rfl, rfl⟩ := e
        exact (dc a oe pn hz hf).ps
      · simp only [if_neg e]; exact pss_never
    | @yes ts n i f asu dc =>
      by_cases e : cls = .ref (He.ga X.K n) ∧ ∃ q, d = some q
      · simp only [dif_pos e]
        have hq := Classical.choose_spec e.2
        generalize Classical.choose e.2 = q at hq
        obtain ⟨rfl, _⟩ := e
        subst hq
        exact (dc a q oe pn (upd (fun _ => none) q (.xd [(f, .non)])) .non .non hz hf upd_same rfl).ps
      · simp only [dif_neg e]; exact pss_never
/-- the wish of the clauses at an exception of which the readings tell -/
theorem DHs.sim {Wout : WX} {E : Ends} {A : AEnds} {G2 : Hp} {σ1 : L2.St} {δ1 : Sl} {n1 : Str} {fs : List (Str × D)} {od : Option Addr} {H2 : Hp} {W2 : Wd} (h : DHs X G0 hds ls hs) (s02 : Same G0 G2) (R2 : Rel X.K G2 H2 W2) (S1 : IsSl X.K G2 δ1 σ1) (eo : EndsOk X.K G2 E A) (hx : XD X.K G2 od fs)
    {g : ACl} (hg : g ∈ hs) (hw : g.go n1 fs A δ1 W2) : wM X.K Wout E ls (.ref (He.ga X.K n1)) od σ1 H2 := by
  induction h with
  | nil => cases hg
  | @cons x nm h ts b₀ suite np pos' hds l hs hc hn dc own oth r ih =>
    have hw' := hw
    obtain ⟨rfl, hw⟩ := hw
    rcases List.mem_cons.mp hg with rfl | hg
    · refine ⟨true, own, fun _ a ha => ?_, fun z => nomatch z⟩
      have dm : ∀ (n : Str) (d : Option Addr), Zc (.ref (He.ga X.K n)) d { cls := .ref (He.ga X.K n), dict := d, data := .fields #[] } := fun n d => ⟨rfl, rfl⟩
      unfold tsM
      cases dc with
      | @nn t n f asu dc => exact (dc a { cls := .ref (He.ga X.K n), data := .fields #[] } [] ⟨_, rfl⟩).sim _ A _ _ _ _ _ s02 R2 S1 eo hw
      | @no t n i asu dc =>
        obtain ⟨rfl, hw⟩ := hw
        have hod : od = none := by
          rcases hx with ⟨_, e⟩ | ⟨b, vs, e, _⟩
          · exact e
          · exact absurd rfl e
        subst hod
        simp only [and_self, if_true]
        exact (dc a { cls := .ref (He.ga X.K n), data := .fields #[] } [] (dm n none) ⟨_, rfl⟩).sim _ (Acut i A) _ _ _ _ _ s02 R2 (S1.set i (d := .ptr a) (v := .ref a) rfl) (eo.cut i) (hw a (R2.freeW ha))
      | @yes ts n i f asu dc =>
        obtain ⟨v, rfl, hw⟩ := hw
        rcases hx with ⟨e, _⟩ | ⟨q, vs, _, rfl, gq, hvs⟩
        · cases e
        obtain ⟨u, r', rfl, hu, hr⟩ := hvs
        cases hr
        have hh : (Value.ref (He.ga X.K n) = .ref (He.ga X.K n)) ∧ ∃ q', some q = some q' := ⟨rfl, q, rfl⟩
        simp only [dif_pos hh]
        have hq := Classical.choose_spec hh.2
        generalize Classical.choose hh.2 = q' at hq
        cases hq
        exact (dc a q { cls := .ref (He.ga X.K n), dict := some q, data := .fields #[] } [] G2 u v (dm n _) ⟨_, rfl⟩ gq hu).sim _ (Acut i A) _ _ _ _ _ (Same.refl _) R2 (S1.set i (d := .ptr a) (v := .ref a) rfl) (eo.cut i) (hw a (R2.freeW ha))
    · exact ⟨false, oth g hg, (fun z => nomatch z), fun _ => ih hg⟩
variable {body : List Stmt} {h₀ : ExceptHandler} {tb : WX → TS} {ab : AW → AS} {Wout : WX}
theorem ds_tryM (hst : X.stack = X.env :: X.outer) (hf : X.env.frame = some X.env.locals) (hN : X.N.Nodup) (tk : Takes X Wout)
    (hb : ∀ (W : WX) (WD : AW) (pn : List (Addr × Obj)) (xe : Value → Shared → Prop) (G1 : Hp), Same G0 G1 → Takes (X.tr pn xe) W → PassesOwn (model X.prog X.w) X.A X.env xe → LiftS X.K G1 (WE W) WD → DSs (X.tr pn xe) G1 body (tb W) (ab WD))
    (hh : DHs X G0 (h₀ :: hds) ls hs) : DS X G0 (.Try body (h₀ :: hds) [] [] pos) (fun D σ H => tb (wM X.K Wout D ls) D σ H) (aTryM ab hs) := by
  refine ⟨ps_tryM hst hf hN tk (fun W pn xe tk' hp => (hb W AW.none pn xe G0 (Same.refl G0) tk' hp liftS_none).ps) hh.toM, ?_⟩
  intro E A σ H G δ W s0 R S eo h
  refine (hb (wM X.K Wout E ls) _ X.pn (xeLook X) G s0 (takes_look hst hf) passes_look ?_).sim E A σ H G δ W (Same.refl G) R S eo h
  intro σ1 δ1 G1 s1 S1 n1 fs od G2 H2 W2 s2 R2 hx hw
  obtain ⟨g, hg, hw⟩ := hw
  exact hh.sim (s0.trans (s1.trans s2)) R2 (S1.up s2) (eo.up (s1.trans s2)) hx hg hw
end
theorem go_tryM {ab : AW → AS} {hs : List ACl} {A : AEnds} {δ : Sl} {W : Wd} (h : ab (fun δ' n fs W' => ∃ h ∈ hs, h.go n fs A δ' W') A δ W) : aTryM ab hs A δ W := h
section
variable {hs : List ACl} {n f : Str} {fo : Option Str} {i : Nat} {asu : Addr → D → AS} {A : AEnds} {δ : Sl} {W : Wd} {fs : List (Str × D)} {v : D}
theorem goM_nn (j : Nat) (e : hs[j]? = some ⟨n, fo, none, asu⟩) (q : asu 0 .non A δ W) : ∃ h ∈ hs, h.go n fs A δ W := ⟨_, List.mem_of_getElem? e, rfl, q⟩
theorem goM_no (j : Nat) (e : hs[j]? = some ⟨n, none, some i, asu⟩) (q : ∀ a, W a = none → asu a .non (Acut i A) (δ.set i (some (.ptr a))) W) : ∃ h ∈ hs, h.go n [] A δ W := ⟨_, List.mem_of_getElem? e, rfl, rfl, q⟩
theorem goM_yes (j : Nat) (e : hs[j]? = some ⟨n, some f, some i, asu⟩) (q : ∀ a, W a = none → asu a v (Acut i A) (δ.set i (some (.ptr a))) W) : ∃ h ∈ hs, h.go n [(f, v)] A δ W := ⟨_, List.mem_of_getElem? e, rfl, v, rfl, q⟩
end
end DL

/-! DMh: terms that fit no signature: replacing told exactly, the first bad node. -/
namespace DL
open PySem PySem.Spec PyProof.Rows L2
theorem put_sizeE {t u : Trm} {p : List Int} (h : Pos t p) : (t.put p u).size + (t.at p).size = t.size + u.size := by
  induction h with
  | nil => rw [Trm.put, Trm.at]; omega
  | @cons f ts i t p h0 h1 _ ih =>
    rw [put_cons h1, at_cons h1, Trm.size, Trm.size]
    have := sizes_set (x := t.put p u) h1
    omega
theorem put_depthM {t u : Trm} {p : List Int} (h : Pos t p) : (t.put p u).depth ≤ max t.depth (p.length + u.depth) := by
  induction h with
  | nil => rw [Trm.put]; simp; omega
  | @cons f ts i t p h0 h1 _ ih =>
    rw [put_cons h1, Trm.depth, Trm.depth, List.length_cons]
    have m := Trm.depths_le (List.mem_of_getElem? h1)
    have : Trm.depths (ts.set (i - 1).toNat (t.put p u)) ≤ max (Trm.depths ts) (p.length + u.depth) := (depths_le_iff _).mpr fun x hx => by
      rcases mem_set hx with hx | e
      · have := Trm.depths_le hx; omega
      · rw [e]; omega
    omega
theorem sm_size (t : Trm) : t.size ≤ 1000 → Sm t := by
  induction t using Trm.ind with
  | hv n => exact fun _ => .var
  | ha f ts ih =>
    intro h
    rw [Trm.size] at h
    have := length_sizes ts
    exact .app (by omega) fun t ht => ih t ht (by have := size_mem ht; omega)
/-- what is wrong at this node: is its name unknown; its name -/
def badAt (ops : Sig) : Trm → Option (Bool × Str)
  | .var _ => none
  | .app f ts => if f ∈ ops.map Prod.fst then (if (f, ts.length) ∈ ops then none else some (false, f)) else some (true, f)
mutual
def Trm.bad (ops : Sig) : Trm → Option (Bool × Str)
  | .var _ => none
  | .app f ts => match badAt ops (.app f ts) with
    | some x => some x
    | none => Trm.bads ops ts
def Trm.bads (ops : Sig) : List Trm → Option (Bool × Str)
  | [] => none
  | t :: ts => match t.bad ops with
    | some x => some x
    | none => Trm.bads ops ts
end
theorem poss_find {ops : Sig} {f : Str} (ts : List Trm) : ∀ (us : List Trm) (i : Nat), us = ts.drop i → (∀ t ∈ us, t.pos.findSome? (fun p => badAt ops (t.at p)) = t.bad ops) → (Trm.poss (1 + i) us).findSome? (fun p => badAt ops ((Trm.app f ts).at p)) = Trm.bads ops us := by
  intro us
  induction us with
  | nil => intro i _ _; rfl
  | cons u us ih =>
    intro i e h
    have hu : ts[i]? = some u := by
      have := congrArg (fun l => l[0]?) e
      simp at this
      exact this.symm
    rw [Trm.poss, List.findSome?_append, List.findSome?_map, Trm.bads]
    have e1 : ((fun p => badAt ops ((Trm.app f ts).at p)) ∘ fun x => (1 + (i : Int)) :: x) = fun p => badAt ops (u.at p) := by
      funext p
      show badAt ops ((Trm.app f ts).at ((1 + (i : Int)) :: p)) = _
      rw [at_cons (x := u) (by rw [show ((1 + (i : Int)) - 1).toNat = i by omega]; exact hu)]
    rw [e1, h u List.mem_cons_self, show (1 + (i : Int) + 1) = 1 + ((i + 1 : Nat) : Int) by omega,
      ih (i + 1) (by rw [← List.drop_drop, ← e]; rfl) fun t ht => h t (List.mem_cons_of_mem _ ht)]
    cases u.bad ops <;> rfl
theorem pos_bad {ops : Sig} (t : Trm) : t.pos.findSome? (fun p => badAt ops (t.at p)) = t.bad ops := by
  induction t using Trm.ind with
  | hv n => rfl
  | ha f ts ih =>
    rw [Trm.pos, List.findSome?_cons, Trm.bad, show (Trm.app f ts).at [] = .app f ts from rfl]
    cases badAt ops (.app f ts) with
    | some x => rfl
    | none => exact poss_find ts ts 0 rfl ih
theorem bad_app {ops : Sig} {f : Str} {ts : List Trm} : (Trm.app f ts).bad ops = (badAt ops (.app f ts)).or (Trm.bads ops ts) := by
  rw [Trm.bad]
  cases badAt ops (.app f ts) <;> rfl
theorem bads_cons {ops : Sig} {t : Trm} {ts : List Trm} : Trm.bads ops (t :: ts) = (t.bad ops).or (Trm.bads ops ts) := by
  rw [Trm.bads]
  cases t.bad ops <;> rfl
theorem badAt_yes {ops : Sig} {f : Str} {ts : List Trm} (h : f ∈ ops.map Prod.fst) (hm : (f, ts.length) ∈ ops) : badAt ops (.app f ts) = none := by
  show (if f ∈ ops.map Prod.fst then (if (f, ts.length) ∈ ops then none else some (false, f)) else some (true, f)) = none
  rw [if_pos h, if_pos hm]
theorem badAt_ar {ops : Sig} {f : Str} {ts : List Trm} (h : f ∈ ops.map Prod.fst) (hm : (f, ts.length) ∉ ops) : badAt ops (.app f ts) = some (false, f) := by
  show (if f ∈ ops.map Prod.fst then (if (f, ts.length) ∈ ops then none else some (false, f)) else some (true, f)) = _
  rw [if_pos h, if_neg hm]
theorem badAt_no {ops : Sig} {f : Str} {ts : List Trm} (h : f ∉ ops.map Prod.fst) : badAt ops (.app f ts) = some (true, f) := by
  show (if f ∈ ops.map Prod.fst then (if (f, ts.length) ∈ ops then none else some (false, f)) else some (true, f)) = _
  rw [if_neg h]
theorem sizes_app (ts us : List Trm) : Trm.sizes (ts ++ us) = Trm.sizes ts + Trm.sizes us := by
  induction ts with
  | nil => simp [Trm.sizes]
  | cons t ts ih => rw [List.cons_append, Trm.sizes, Trm.sizes, ih]; omega
theorem depths_app (ts us : List Trm) : Trm.depths (ts ++ us) = max (Trm.depths ts) (Trm.depths us) := by
  induction ts with
  | nil => simp [Trm.depths]
  | cons t ts ih => rw [List.cons_append, Trm.depths, Trm.depths, ih]; omega
theorem sizes_dropLast (ts : List Trm) : Trm.sizes ts.dropLast ≤ Trm.sizes ts := by
  cases ts with
  | nil => exact Nat.le_refl _
  | cons t ts =>
    have := List.dropLast_concat_getLast (l := t :: ts) (by simp)
    have e := congrArg Trm.sizes this
    rw [sizes_app] at e
    omega
theorem depths_dropLast (ts : List Trm) : Trm.depths ts.dropLast ≤ Trm.depths ts := by
  cases ts with
  | nil => exact Nat.le_refl _
  | cons t ts =>
    have := List.dropLast_concat_getLast (l := t :: ts) (by simp)
    have e := congrArg Trm.depths this
    rw [depths_app] at e
    omega
theorem go_neSS {a b : Str} {W : Wd} {Q : DQ} (h : Q (.bl false) W) : dNe (.tup [.str a, .str b]) (.tup [.str a, .str b]) W Q := by
  have hd : (D.tup [.str a, .str b]).py.depth ≤ 5 := by simp [D.py, D.pys, PyData.depth, PyData.depthAll]
  refine ⟨⟨rfl, rfl, by omega⟩, ?_⟩
  rw [show (D.tup [.str a, .str b]).eqv (.tup [.str a, .str b]) = true from by
    show PyData.eqv _ _ = true
    rw [D.py, PyData.eqv]
    exact eqvAll_self fun d hd => by
      simp only [List.mem_cons, List.not_mem_nil, or_false] at hd
      rcases hd with rfl | rfl <;> simp [D.py, PyData.eqv]]
  exact h
end DL

/-! DMi: normal forms. -/
namespace DL
open PySem PySem.Spec PyProof.Rows L2
theorem go_while {c : AT} {b : AS} {A : AEnds} {δ : Sl} {W : Wd} (I : Nat → Sl → Wd → Prop) (m : Nat) (h0 : I m δ W)
    (hs : ∀ m δ W, I m δ W → c δ W fun k W1 => if k = true then b { A with nx := fun δ' W' => ∃ m', m' < m ∧ I m' δ' W', ct := fun δ' W' => ∃ m', m' < m ∧ I m' δ' W', bk := A.nx } δ W1 else A.nx δ W1) : aWhile c b A δ W := ⟨I, ⟨m, h0⟩, hs⟩
theorem at_put {t u : Trm} {p : List Int} (h : t.isPos p = true) : (t.put p u).at p = u := by
  induction p generalizing t with
  | nil => rw [Trm.put, Trm.at]
  | cons i p ih =>
    obtain ⟨f, ts, x, rfl, h1, h2, h3⟩ := isPos_step h
    have hl : (i - 1).toNat < ts.length := by
      by_cases g : (i - 1).toNat < ts.length
      · exact g
      · rw [List.getElem?_eq_none (by omega)] at h2; cases h2
    rw [put_cons h2, at_cons (List.getElem?_set_self hl), ih h3]
theorem put_ge {t u : Trm} {p : List Int} (h : t.isPos p = true) : u.size ≤ (t.put p u).size ∧ u.depth ≤ (t.put p u).depth := by
  have a := at_size (put_isPos (u := u) h)
  rw [at_put h] at a
  exact ⟨a.1, by omega⟩
mutual
theorem mt_nd : ∀ (p t : Trm) (s : Sb), (s.map (·.1)).Nodup → ((mt p t s).2.map (·.1)).Nodup
  | .var v, t, s, h => by
    rw [mt]
    split
    · exact h
    · rename_i e
      rw [List.map_append, List.map_singleton, List.nodup_append]
      refine ⟨h, by simp, fun a ha b hb => ?_⟩
      rw [List.mem_singleton] at hb
      subst hb
      intro z
      obtain ⟨x, hx, rfl⟩ := List.mem_map.mp ha
      unfold Sb.get at e
      rw [Option.map_eq_none_iff, List.find?_eq_none] at e
      exact e x hx (by simpa using z)
  | .app f ps, .app g ts, s, h => by
    rw [mt]
    split
    · exact mts_nd ps ts s h
    · exact h
  | .app _ _, .var _, s, h => by rw [mt]; exact h
theorem mts_nd : ∀ (ps ts : List Trm) (s : Sb), (s.map (·.1)).Nodup → ((mts ps ts s).2.map (·.1)).Nodup
  | [], ts, s, h => by rw [mts] <;> first | exact h | simp
  | p :: ps, [], s, h => by rw [mts] <;> first | exact h | simp
  | p :: ps, t :: ts, s, h => by
    rw [mts]
    have := mt_nd p t s h
    split
    · exact mts_nd ps ts (mt p t s).2 this
    · exact this
end
theorem redAt_nd {rs : List Ru} {t : Trm} {p : List Int} {x : Stp} (h : x ∈ redAt rs t p) : (x.2.2.map (·.1)).Nodup := by
  obtain ⟨_, _, _, _, e⟩ := redAt_mem h
  rw [e]
  exact mt_nd _ _ _ (by simp)
/-- too large -/
def Trm.big (t : Trm) : Bool := decide (30 < t.depth) || decide (400 < t.size)
theorem big_iff {t : Trm} : t.big = true ↔ t.depth > 30 ∨ t.size > 400 := by unfold Trm.big; simp
theorem big_no {t : Trm} : t.big = false ↔ t.depth ≤ 30 ∧ t.size ≤ 400 := by unfold Trm.big; simp
def rhs (rs : List Ru) (x : Stp) : Trm := ((rs[x.1]?).getD (.var 0, .var 0)).2
def stp (rs : List Ru) (t : Trm) (x : Stp) : Trm := t.put x.2.1 ((rhs rs x).sub x.2.2.fn)
inductive Out where
  | done (t : Trm) (xs : List Stp) | limit | large
def chosenR (rs : List Ru) (b : Bool) (t : Trm) : Option Stp := ((if b = true then t.ipos else t.pos).flatMap (redAt rs t)).head?
def nfGo (rs : List Ru) (b : Bool) : Nat → Trm → List Stp → Out
  | 0, t, xs => match chosenR rs b t with
    | none => .done t xs
    | some _ => .limit
  | n + 1, t, xs => match chosenR rs b t with
    | none => .done t xs
    | some x => if (stp rs t x).big = true then .large else nfGo rs b n (stp rs t x) (xs ++ [x])
theorem nfGo_none {rs : List Ru} {b : Bool} {n : Nat} {t : Trm} {xs : List Stp} (h : chosenR rs b t = none) : nfGo rs b n t xs = .done t xs := by
  cases n with
  | zero => rw [nfGo, h]
  | succ n => rw [nfGo, h]
theorem nfGo_zero {rs : List Ru} {b : Bool} {t : Trm} {xs : List Stp} {x : Stp} (h : chosenR rs b t = some x) : nfGo rs b 0 t xs = .limit := by
  rw [nfGo, h]
theorem nfGo_succ {rs : List Ru} {b : Bool} {n : Nat} {t : Trm} {xs : List Stp} {x : Stp} (h : chosenR rs b t = some x) : nfGo rs b (n + 1) t xs = if (stp rs t x).big = true then .large else nfGo rs b n (stp rs t x) (xs ++ [x]) := by
  rw [nfGo, h]
theorem chosenR_mem {rs : List Ru} {b : Bool} {t : Trm} {x : Stp} (h : chosenR rs b t = some x) : ∃ p, t.isPos p = true ∧ x ∈ redAt rs t p := by
  unfold chosenR at h
  obtain ⟨p, hp, hx⟩ := List.mem_flatMap.mp (List.mem_of_mem_head? h)
  refine ⟨p, ?_, hx⟩
  split at hp
  · exact ipos_ok t p hp
  · exact (pos_ok t p hp).isPos
def msD (s : Sb) : List (Key × D) := s.map fun vt => ((.inl vt.1 : Key), .tup [.int vt.2.size, .int vt.2.depth])
theorem look_msD (s : Sb) (v : Int) : (look (msD s) (.inl v)).getD (.tup [.int 1, .int 1]) = .tup [.int (s.fn v).size, .int (s.fn v).depth] := by
  have e : look (msD s) (.inl v) = (s.get v).map fun t => .tup [.int t.size, .int t.depth] := by
    induction s with
    | nil => rfl
    | cons x s ih =>
      obtain ⟨u, t⟩ := x
      unfold msD at ih ⊢
      unfold Sb.get at ih ⊢
      rw [List.map_cons, List.find?_cons]
      by_cases h : u = v
      · subst h; simp [look]
      · rw [decide_eq_false h, ← ih]; simp [look, h]
  rw [e]
  unfold Sb.fn
  cases s.get v <;> simp [Trm.size, Trm.depth]
theorem sub_depth0 {s : Int → Trm} {d : Nat} (hs : ∀ v, (s v).depth ≤ d) (t : Trm) : (t.sub s).depth ≤ t.depth + d := by
  induction t using Trm.ind with
  | hv v => show (s v).depth ≤ _; have := hs v; omega
  | ha f ts ih =>
    rw [sub_app, Trm.depth, Trm.depth]
    have : Trm.depths (ts.map (Trm.sub s)) ≤ Trm.depths ts + d := (depths_le_iff _).mpr fun x hx => by
      obtain ⟨u, hu, rfl⟩ := List.mem_map.mp hx
      have := ih u hu
      have := Trm.depths_le hu
      omega
    omega
theorem sub_size0 {s : Int → Trm} {d : Nat} (hd : 1 ≤ d) (hs : ∀ v, (s v).size ≤ d) (t : Trm) : (t.sub s).size ≤ t.size * d := by
  induction t using Trm.ind with
  | hv v => show (s v).size ≤ _; have := hs v; rw [Trm.size]; omega
  | ha f ts ih =>
    rw [sub_app, Trm.size, Trm.size, Nat.add_mul, Nat.one_mul]
    have : Trm.sizes (ts.map (Trm.sub s)) ≤ Trm.sizes ts * d := by
      clear hs
      induction ts with
      | nil => simp [Trm.sizes]
      | cons t ts ih2 =>
        rw [List.map_cons, Trm.sizes, Trm.sizes, Nat.add_mul]
        have := ih t List.mem_cons_self
        have := ih2 fun u hu => ih u (List.mem_cons_of_mem _ hu)
        omega
    omega
theorem fn_le {s : Sb} {d : Nat} (hd : 1 ≤ d) (h : ∀ vt ∈ s, vt.2.depth ≤ d) (v : Int) : (s.fn v).depth ≤ d := by
  unfold Sb.fn
  cases e : s.get v with
  | none => exact hd
  | some t => exact h _ (get_mem e)
theorem fn_le2 {s : Sb} {d : Nat} (hd : 1 ≤ d) (h : ∀ vt ∈ s, vt.2.size ≤ d) (v : Int) : (s.fn v).size ≤ d := by
  unfold Sb.fn
  cases e : s.get v with
  | none => exact hd
  | some t => exact h _ (get_mem e)
theorem stp_le {rs : List Ru} {t : Trm} {x : Stp} {p : List Int} {a b : Nat} (hr : ∀ r ∈ rs, r.2.depth ≤ a ∧ r.2.size ≤ b) (hp : t.isPos p = true) (hx : x ∈ redAt rs t p) : (stp rs t x).depth ≤ t.depth + a ∧ (stp rs t x).size ≤ t.size + b * t.size := by
  obtain ⟨r, hr1, e1, hm, e2⟩ := redAt_mem hx
  have hk : rhs rs x = r.2 := by unfold rhs; rw [hr1]; rfl
  obtain ⟨h1, h2⟩ := hr r (List.mem_of_getElem? hr1)
  have az := at_size hp
  have sm : ∀ vt ∈ x.2.2, vt.2.depth ≤ (t.at p).depth ∧ vt.2.size ≤ (t.at p).size := fun vt hv => by
    rw [e2] at hv
    rcases mt_sub _ _ _ vt hv with h | h
    · cases h
    · exact h
  have hdp := (t.at p).depth_pos
  have hsp := (t.at p).size_pos
  have d1 := sub_depth0 (s := x.2.2.fn) (d := (t.at p).depth) (fn_le hdp fun vt h => (sm vt h).1) r.2
  have d2 := sub_size0 (s := x.2.2.fn) (d := (t.at p).size) hsp (fn_le2 hsp fun vt h => (sm vt h).2) r.2
  unfold stp
  rw [hk, e1]
  have e3 := put_depthM (u := r.2.sub x.2.2.fn) (pos_of hp)
  have e4 := put_size (u := r.2.sub x.2.2.fn) (pos_of hp)
  refine ⟨by omega, Nat.le_trans e4 ?_⟩
  have : r.2.size * (t.at p).size ≤ b * t.size := Nat.mul_le_mul h2 az.1
  omega
theorem ops_1 {ops : Sig} (hO : Ops ops) : ∃ f, (f, 1) ∈ ops ∧ atI (ops.map opD) 2 = some (opD (f, 1)) := by
  have hl : 2 < ops.length := by have := hO.len; omega
  refine ⟨(ops[2]).1, ?_, ?_⟩
  · have e : ops[2].2 = 1 := (hO.low 2 (by decide)).2
    rw [← e]; exact List.getElem_mem hl
  · have e : ops[2].2 = 1 := (hO.low 2 (by decide)).2
    rw [← e, show (2 : Int) = ((2 : Nat) : Int) from rfl, atI_of (by omega), List.getElem?_map, List.getElem?_eq_getElem (by omega)]; rfl
theorem nfGo_done {rs : List Ru} {b : Bool} {u : Trm} {ys : List Stp} : ∀ (n : Nat) (t : Trm) (xs : List Stp), nfGo rs b n t xs = .done u ys → u = t ∨ u.big = false := by
  intro n
  induction n with
  | zero =>
    intro t xs h
    cases hc : chosenR rs b t with
    | none => rw [nfGo_none hc] at h; cases h; exact .inl rfl
    | some x => rw [nfGo_zero hc] at h; cases h
  | succ n ih =>
    intro t xs h
    cases hc : chosenR rs b t with
    | none => rw [nfGo_none hc] at h; cases h; exact .inl rfl
    | some x =>
      rw [nfGo_succ hc] at h
      by_cases hb : (stp rs t x).big = true
      · rw [if_pos hb] at h; cases h
      · rw [if_neg hb] at h
        rcases ih _ _ h with e | e
        · right; rw [e]; simpa using hb
        · exact .inr e
end DL

/-! DMj: l.count(x), l.insert(i, x). -/
namespace DL
open PySem PySem.Spec PyProof.Rows L2
def rCountD (K : PySem.W.Frag) : V → List V → Hp → VK → Prop := fun x xs H Q => ∃ (a : Addr) (y : V) (d : PyData) (ds : List PyData), x = V.ref a ∧ xs = [y] ∧ Dp K H (V.ref a) (.list ds) ∧ Dp K H y d ∧
  PyData.plainAll ds = true ∧ d.plain = true ∧ min (PyData.depthAll ds) d.depth ≤ 140 ∧ Q (.int ((ds.countP fun z => PyData.eqv z d : Nat) : Int)) H
theorem mt_countD {X : Cx} (hu : X.A.units + 151 < cLine) : MtR X "list.count" (rCountD X.K) := by
  intro pins s σ H x xs v us Q I rx rxs h
  obtain ⟨a, y, d, ds, rfl, rfl, hl, hy, pl, pd, hm, q⟩ := h
  cases rx
  cases rxs with
  | cons ry rt =>
    rename_i uy ut
    cases rt
    obtain ⟨bs, r1⟩ := Dp.reads I d y uy hy ry
    cases hl with
    | lst hs ha =>
      obtain ⟨its, rv, p1, _⟩ := I.list hs
      obtain ⟨as, h4⟩ := Dp.readsAll I ds _ its ha rv
      refine SeqAt.count_list_data p1.isList (xs := ds) (as := as) (by simpa using h4) r1 pl pd (by omega) ?_
      exact ⟨.int ((ds.countP fun z => PyData.eqv z d : Nat) : Int), H, I.tok _, ⟨_, rfl⟩, q⟩
def dCount : RDM := fun x vs W Q => ∃ ds e, x = .lst ds ∧ vs = [e] ∧ D.plains ds = true ∧ e.plain = true ∧ min (PyData.depthAll (D.pys ds)) e.py.depth ≤ 140 ∧ Q (.int ((ds.countP fun z => z.eqv e : Nat) : Int)) W
theorem pys_countP (e : D) : ∀ ds : List D, (D.pys ds).countP (fun z => PyData.eqv z e.py) = ds.countP fun z => z.eqv e
  | [] => rfl
  | d :: ds => by
    rw [D.pys, List.countP_cons, List.countP_cons, pys_countP e ds]; rfl
theorem sm_count {K : PySem.W.Frag} : SimM K (rCountD K) dCount := fun G H W x dx xs ds Q QD R hx hds h k => by
  obtain ⟨es, e, rfl, rfl, p1, p2, z, q⟩ := h
  obtain ⟨v, rfl, hv⟩ := one_of hds
  have pl : (D.lst es).plain = true := by rw [D.plain]; exact p1
  have pp := D.plain_py _ pl
  rw [D.py, PyData.plain] at pp
  obtain ⟨a, vs, rfl, ha, qa⟩ := lstRd_at (W := W) R hx rfl
  have hd := IsD.dp R _ _ pl hx
  rw [D.py] at hd
  exact ⟨a, v, e.py, D.pys es, rfl, rfl, hd, IsD.dp R _ _ p2 hv, pp, D.plain_py _ p2, z, by rw [pys_countP]; exact k.here (d := .int _) R rfl q⟩
section
variable {X : Cx} {G0 : Hp} {o e : Expr} {to : TE} {ao : AE} {t : L2.TA} {at' : AA} {apos cpos : PySem.Pos}
theorem de_count (hu : X.A.units + 151 < cLine) (ho : DE X G0 o to ao) (ha : DA X G0 [e] t at') (hbase : attributeBase o "count" X.env (eval o X.env) = eval o X.env := by rfl)
    (hfew : ((backTo cpos (starEach [e] X.env)).all (fun x => !x.1) && (backToKw cpos (keywordEach [] X.env)).all (fun x => x.1.isSome) && decide ([e].length + ([] : List Keyword).length + (if ([] : List Keyword).isEmpty then 0 else 1) < 30)) = true := by rfl)
    (hline : (apos.endLine == cpos.line) = true := by rfl) (hs : starEach [e] X.env = (false, eval e X.env) :: starEach [] X.env := by rfl) :
    DE X G0 (.Call (.Attribute o "count" apos) [e] [] cpos) (tBM X.K "list" (rCountD X.K) to t) (aBM tyL dCount ao at') := de_lm PySem.F.slot_list_count PySem.F.type_list_count (mt_countD hu) sm_count ho ha hbase hfew hline hs rfl
end
theorem syms_count (v : Int) (ss : List Sy) {W : Wd} {Q : DQ} (h : Q (.int ((ss.countP fun s => decide (s = Sy.v v) : Nat) : Int)) W) : dCount (.lst (ss.map Sy.d)) [.int v] W Q := by
  refine ⟨ss.map Sy.d, .int v, rfl, rfl, ?_, rfl, ?_, ?_⟩
  · exact plains_of fun d hd => by obtain ⟨s, _, rfl⟩ := List.mem_map.mp hd; cases s <;> rfl
  · have : (D.int v).py.depth ≤ 1 := by simp [D.py, PyData.depth]
    omega
  · rw [List.countP_map]
    rw [show ((fun z : D => z.eqv (.int v)) ∘ Sy.d) = fun s => decide (s = Sy.v v) from by
      funext s
      cases s with
      | v n =>
        show PyData.eqv _ _ = _
        simp [Sy.d, D.py, PyData.eqv]
        by_cases h : n = v
        · subst h; simp
        · simp [h]
      | f x =>
        show PyData.eqv _ _ = _
        simp [Sy.d, D.py, PyData.eqv]]
    exact h
end DL

/-! DMk: normal forms: bounds, limits. -/
namespace DL
open PySem PySem.Spec PyProof.Rows L2
/-- enough room: the same end -/
theorem nfGo_len {rs : List Ru} {b : Bool} {u : Trm} {ys : List Stp} : ∀ (n : Nat) (t : Trm) (xs : List Stp), nfGo rs b n t xs = .done u ys → xs.length ≤ ys.length ∧ ys.length ≤ xs.length + n ∧ ∀ m, ys.length ≤ m + xs.length → nfGo rs b m t xs = .done u ys := by
  intro n
  induction n with
  | zero =>
    intro t xs h
    cases hc : chosenR rs b t with
    | none =>
      rw [nfGo_none hc] at h; cases h
      exact ⟨Nat.le_refl _, Nat.le_refl _, fun m _ => nfGo_none hc⟩
    | some x => rw [nfGo_zero hc] at h; cases h
  | succ n ih =>
    intro t xs h
    cases hc : chosenR rs b t with
    | none =>
      rw [nfGo_none hc] at h; cases h
      exact ⟨Nat.le_refl _, by omega, fun m _ => nfGo_none hc⟩
    | some x =>
      rw [nfGo_succ hc] at h
      by_cases hb : (stp rs t x).big = true
      · rw [if_pos hb] at h; cases h
      · rw [if_neg hb] at h
        obtain ⟨h1, h2, h3⟩ := ih _ _ h
        rw [List.length_append, List.length_singleton] at h1 h2
        refine ⟨by omega, by omega, fun m hm => ?_⟩
        cases m with
        | zero => omega
        | succ m =>
          rw [nfGo_succ hc, if_neg hb]
          exact h3 m (by rw [List.length_append, List.length_singleton]; omega)
/-- every step is small -/
theorem nfGo_steps {rs : List Ru} {b : Bool} {u : Trm} {ys : List Stp} : ∀ (n : Nat) (t : Trm) (xs : List Stp), nfGo rs b n t xs = .done u ys → t.depth ≤ 100 → t.size ≤ 1000 → ∀ x ∈ ys, x ∈ xs ∨ (x.2.1.length ≤ 100 ∧ ∀ vt ∈ x.2.2, vt.2.depth ≤ 100 ∧ vt.2.size ≤ 1000) := by
  intro n
  induction n with
  | zero =>
    intro t xs h hd hz x hx
    cases hc : chosenR rs b t with
    | none => rw [nfGo_none hc] at h; cases h; exact .inl hx
    | some x => rw [nfGo_zero hc] at h; cases h
  | succ n ih =>
    intro t xs h hd hz y hy
    cases hc : chosenR rs b t with
    | none => rw [nfGo_none hc] at h; cases h; exact .inl hy
    | some x =>
      rw [nfGo_succ hc] at h
      by_cases hb : (stp rs t x).big = true
      · rw [if_pos hb] at h; cases h
      · rw [if_neg hb] at h
        have hb := big_no.mp (by simpa using hb)
        rcases ih _ _ h (by omega) (by omega) y hy with hm | hm
        · rcases List.mem_append.mp hm with hm | hm
          · exact .inl hm
          · rw [List.mem_singleton] at hm
            subst hm
            obtain ⟨p, hp, hx⟩ := chosenR_mem hc
            obtain ⟨_, _, e, _⟩ := redAt_mem hx
            have az := at_size hp
            exact .inr ⟨by rw [e]; omega, fun vt h => by have := redAt_small hp hx vt h; omega⟩
        · exact .inr hm
/-- the end has no redex -/
theorem nfGo_end {rs : List Ru} {b : Bool} {u : Trm} {ys : List Stp} : ∀ (n : Nat) (t : Trm) (xs : List Stp), nfGo rs b n t xs = .done u ys → chosenR rs b u = none := by
  intro n
  induction n with
  | zero =>
    intro t xs h
    cases hc : chosenR rs b t with
    | none => rw [nfGo_none hc] at h; cases h; exact hc
    | some x => rw [nfGo_zero hc] at h; cases h
  | succ n ih =>
    intro t xs h
    cases hc : chosenR rs b t with
    | none => rw [nfGo_none hc] at h; cases h; exact hc
    | some x =>
      rw [nfGo_succ hc] at h
      by_cases hb : (stp rs t x).big = true
      · rw [if_pos hb] at h; cases h
      · rw [if_neg hb] at h
        exact ih _ _ h
theorem poss_deep {n : Nat} : ∀ (ts : List Trm) (i : Int), (∀ t ∈ ts, ∃ p ∈ t.pos, p.length + 1 = t.depth) → Trm.depths ts = n + 1 → ∃ p ∈ Trm.poss i ts, p.length = n + 1
  | [], i, _, h => by simp [Trm.depths] at h
  | t :: ts, i, h, hd => by
    rw [Trm.depths] at hd
    by_cases ht : t.depth = n + 1
    · obtain ⟨p, hp, e⟩ := h t List.mem_cons_self
      exact ⟨i :: p, by rw [Trm.poss]; exact List.mem_append_left _ (List.mem_map_of_mem hp), by rw [List.length_cons]; omega⟩
    · obtain ⟨p, hp, e⟩ := poss_deep (n := n) ts (i + 1) (fun u hu => h u (List.mem_cons_of_mem _ hu)) (by omega)
      exact ⟨p, by rw [Trm.poss]; exact List.mem_append_right _ hp, e⟩
theorem pos_deep (t : Trm) : ∃ p ∈ t.pos, p.length + 1 = t.depth := by
  induction t using Trm.ind with
  | hv n => exact ⟨[], by simp [Trm.pos], by simp [Trm.depth]⟩
  | ha f ts ih =>
    cases h : Trm.depths ts with
    | zero => exact ⟨[], by simp [Trm.pos], by rw [Trm.depth, h]; rfl⟩
    | succ n =>
      obtain ⟨p, hp, e⟩ := poss_deep ts 1 ih h
      exact ⟨p, by rw [Trm.pos]; exact List.mem_cons_of_mem _ hp, by rw [Trm.depth, h, e]; omega⟩
theorem iposs_in {x : Trm} {q : List Int} : ∀ {ts : List Trm} {i : Int} {j : Nat}, ts[j]? = some x → q ∈ x.ipos → (i + j) :: q ∈ Trm.iposs i ts
  | t :: ts, i, 0, h, hq => by
    simp at h
    subst h
    rw [Trm.iposs]
    exact List.mem_append_left _ (by simpa using hq)
  | t :: ts, i, j + 1, h, hq => by
    rw [Trm.iposs]
    refine List.mem_append_right _ ?_
    have := iposs_in (i := i + 1) (j := j) (by simpa using h) hq
    rw [show i + ((j + 1 : Nat) : Int) = i + 1 + (j : Int) by omega]
    exact this
theorem mem_ipos (t : Trm) : ∀ p, t.isPos p = true → p ∈ t.ipos := by
  induction t using Trm.ind with
  | hv n =>
    intro p hp
    cases p with
    | nil => simp [Trm.ipos]
    | cons i p => simp [Trm.isPos] at hp
  | ha f ts ih =>
    intro p hp
    rw [Trm.ipos]
    cases p with
    | nil => exact List.mem_append_right _ (by simp)
    | cons i p =>
      obtain ⟨g, us, x, e, h1, h2, h3⟩ := isPos_step hp
      cases e
      have := iposs_in (i := 1) h2 (ih x (List.mem_of_getElem? h2) p h3)
      rw [show (1 : Int) + (((i - 1).toNat : Nat) : Int) = i by omega] at this
      exact List.mem_append_left _ this
theorem no_reds {rs : List Ru} {b : Bool} {u : Trm} (h : chosenR rs b u = none) : reds rs u = [] := by
  unfold chosenR at h
  rw [List.head?_eq_none_iff, List.flatMap_eq_nil_iff] at h
  unfold reds
  rw [List.flatMap_eq_nil_iff]
  intro p hp
  refine h p ?_
  cases b with
  | true => exact mem_ipos u p (pos_ok u p hp).isPos
  | false => exact hp
end DL

/-! DMl: a match fits; chains of steps. -/
namespace DL
open PySem PySem.Spec PyProof.Rows L2
theorem nub_app2 : ∀ (ns ms acc : List Int), nub acc (ns ++ ms) = nub (nub acc ns) ms
  | [], ms, acc => rfl
  | n :: ns, ms, acc => by rw [List.cons_append, nub, nub, nub_app2 ns ms]
theorem nub_all : ∀ {ns acc : List Int}, (∀ x ∈ ns, x ∈ acc) → nub acc ns = acc
  | [], acc, _ => rfl
  | n :: ns, acc, h => by
    rw [nub, if_pos (h n List.mem_cons_self)]
    exact nub_all fun x hx => h x (List.mem_cons_of_mem _ hx)
theorem get_key {s : Sb} {v : Int} {t : Trm} (h : s.get v = some t) : v ∈ s.map (·.1) := List.mem_map_of_mem (f := (·.1)) (get_mem h)
theorem get_nokey {s : Sb} {v : Int} (h : s.get v = none) : v ∉ s.map (·.1) := fun z => by
  obtain ⟨x, hx, rfl⟩ := List.mem_map.mp z
  unfold Sb.get at h
  rw [Option.map_eq_none_iff, List.find?_eq_none] at h
  exact h x hx (by simp)
mutual
theorem mt_snd : ∀ (p t : Trm) (s : Sb), (mt p t s).1 = true → (∀ v u, s.get v = some u → (mt p t s).2.get v = some u) ∧ (∀ s' : Sb, (∀ v u, (mt p t s).2.get v = some u → s'.get v = some u) → p.sub s'.fn = t) ∧ (mt p t s).2.map (·.1) = nub (s.map (·.1)) (occ p)
  | .var v, t, s, h => by
    have eo : occ (.var v) = [v] := by simp [occ, Trm.syms, Sy.int?]
    rw [eo]
    cases e : s.get v with
    | some u =>
      have em : mt (.var v) t s = (decide (u = t), s) := by rw [mt]; simp [e]
      rw [em] at h ⊢
      have hu : u = t := of_decide_eq_true h
      subst hu
      refine ⟨fun _ _ z => z, fun s' hs => ?_, ?_⟩
      · show s'.fn v = u
        unfold Sb.fn
        rw [hs v u e]; rfl
      · show s.map (·.1) = nub (s.map (·.1)) [v]
        rw [nub, if_pos (get_key e)]; rfl
    | none =>
      have em : mt (.var v) t s = (true, s ++ [(v, t)]) := by rw [mt]; simp [e]
      rw [em] at h ⊢
      refine ⟨fun w u z => ?_, fun s' hs => ?_, ?_⟩
      · show Sb.get (s ++ [(v, t)]) w = some u
        rw [get_snoc, z]; rfl
      · show s'.fn v = t
        unfold Sb.fn
        rw [hs v t (by show Sb.get (s ++ [(v, t)]) v = some t; rw [get_snoc, e]; simp)]; rfl
      · show (s ++ [(v, t)]).map (·.1) = nub (s.map (·.1)) [v]
        rw [nub, if_neg (get_nokey e), List.map_append]; rfl
  | .app f ps, .app g ts, s, h => by
    by_cases hc : f = g ∧ ps.length = ts.length
    · have em : mt (.app f ps) (.app g ts) s = mts ps ts s := by rw [mt, if_pos hc]
      rw [em] at h ⊢
      obtain ⟨h1, h2, h3⟩ := mts_snd ps ts s hc.2 h
      refine ⟨h1, fun s' hs => ?_, by rw [occ_app]; exact h3⟩
      rw [sub_app, h2 s' hs, hc.1]
    · have em : mt (.app f ps) (.app g ts) s = (false, s) := by rw [mt, if_neg hc]
      rw [em] at h
      cases h
  | .app _ _, .var _, s, h => by rw [mt] at h; cases h
theorem mts_snd : ∀ (ps ts : List Trm) (s : Sb), ps.length = ts.length → (mts ps ts s).1 = true → (∀ v u, s.get v = some u → (mts ps ts s).2.get v = some u) ∧ (∀ s' : Sb, (∀ v u, (mts ps ts s).2.get v = some u → s'.get v = some u) → ps.map (Trm.sub s'.fn) = ts) ∧ (mts ps ts s).2.map (·.1) = nub (s.map (·.1)) ((Trm.symss ps).filterMap Sy.int?)
  | [], [], s, _, h => by
    have em : mts [] [] s = (true, s) := by simp [mts]
    rw [em]
    exact ⟨fun _ _ z => z, fun _ _ => rfl, rfl⟩
  | p :: ps, [], s, hl, h => by simp at hl
  | [], t :: ts, s, hl, h => by simp at hl
  | p :: ps, t :: ts, s, hl, h => by
    by_cases hm : (mt p t s).1 = true
    · have em : mts (p :: ps) (t :: ts) s = mts ps ts (mt p t s).2 := by rw [mts, if_pos hm]
      rw [em] at h ⊢
      obtain ⟨a1, a2, a3⟩ := mt_snd p t s hm
      obtain ⟨b1, b2, b3⟩ := mts_snd ps ts (mt p t s).2 (by simpa using hl) h
      refine ⟨fun v u z => b1 v u (a1 v u z), fun s' hs => ?_, ?_⟩
      · rw [List.map_cons, a2 s' fun v u z => hs v u (b1 v u z), b2 s' hs]
      · rw [b3, a3, Trm.symss, List.filterMap_append, nub_app2]; rfl
    · have em : (mts (p :: ps) (t :: ts) s).1 = false := by rw [mts, if_neg hm]
      rw [em] at h
      cases h
end
/-- what a redex of a rule tells -/
theorem redAt_fits {rs : List Ru} {t : Trm} {p : List Int} {x : Stp} (h : x ∈ redAt rs t p) : ∃ r, rs[x.1]? = some r ∧ x.2.1 = p ∧ r.1.sub x.2.2.fn = t.at p ∧ x.2.2.map (·.1) = r.1.vars := by
  obtain ⟨r, h1, h2, h3, h4⟩ := redAt_mem h
  obtain ⟨_, b, c⟩ := mt_snd _ _ _ h3
  rw [← h4] at b c
  exact ⟨r, h1, h2, b _ fun _ _ z => z, c⟩
theorem pair_vars {l r : Trm} (h : ∀ v ∈ occ r, v ∈ occ l) (f : Str) : (Trm.app f [l, r]).vars = l.vars := by
  have e : (Trm.app f [l, r]).vars = nub [] (occ l ++ occ r) := by
    unfold Trm.vars
    rw [Trm.syms, List.filterMap_cons]
    simp [Trm.symss, Sy.int?, List.filterMap_append, occ]
  rw [e, nub_app2]
  exact nub_all fun x hx => nub_memR _ _ (h x hx)
/-- steps that lead from a term to another -/
inductive Chn (rs : List Ru) : Trm → List Stp → Trm → Prop
  | nil {t : Trm} : Chn rs t [] t
  | cons {t u : Trm} {x : Stp} {xs : List Stp} {p : List Int} (hp : t.isPos p = true) (hx : x ∈ redAt rs t p) (hd : t.depth ≤ 100) (hz : t.size ≤ 21000) (r : Chn rs (stp rs t x) xs u) : Chn rs t (x :: xs) u
theorem nfGo_chn {rs : List Ru} {b : Bool} {u : Trm} {ys : List Stp} : ∀ (n : Nat) (t : Trm) (xs : List Stp), nfGo rs b n t xs = .done u ys → t.depth ≤ 100 → t.size ≤ 21000 → ∃ zs, ys = xs ++ zs ∧ Chn rs t zs u := by
  intro n
  induction n with
  | zero =>
    intro t xs h hd hz
    cases hc : chosenR rs b t with
    | none => rw [nfGo_none hc] at h; cases h; exact ⟨[], by simp, .nil⟩
    | some x => rw [nfGo_zero hc] at h; cases h
  | succ n ih =>
    intro t xs h hd hz
    cases hc : chosenR rs b t with
    | none => rw [nfGo_none hc] at h; cases h; exact ⟨[], by simp, .nil⟩
    | some x =>
      rw [nfGo_succ hc] at h
      by_cases hb : (stp rs t x).big = true
      · rw [if_pos hb] at h; cases h
      · rw [if_neg hb] at h
        have hb := big_no.mp (by simpa using hb)
        obtain ⟨zs, e, c⟩ := ih _ _ h (by omega) (by omega)
        obtain ⟨p, hp, hx⟩ := chosenR_mem hc
        exact ⟨x :: zs, by rw [e]; simp, .cons hp hx hd hz c⟩
end DL

/-! DMm: a dict display of one pair; loops over reversed(a list). -/
namespace DL
open PySem PySem.Spec PyProof.Rows L2 RT
section
variable {X : Cx} {G0 : Hp} {pos p : PySem.Pos} {k v e tg : Expr} {tk tv te : TE} {ak av ae : AE}
def aDisp1 (own : Bool) (ak av : AE) : AE := fun δ W Q => ∀ p, W p = none → ak δ (W.set p (.dk [])) fun y W1 => av δ W1 fun z W2 => ∃ key, keyOf y = some key ∧ W2 p = some (.dk []) ∧ if own = true then Q (.ptr p) (W2.set p (.dk [(key, z)])) else Q (.dk [(key, z)]) (W2.del p)
theorem de_disp1 (own : Bool) (hk : DE X G0 k tk ak) (hv : DE X G0 v tv av) : DE X G0 (.Dict [some k] [v] pos) (tDisp [(tk, tv)]) (aDisp1 own ak av) := ⟨pe_disp (pps_cons hk.pe hv.pe pps_nil) rfl rfl (by simp) (by simp), fun σ H Q G δ W QD s0 R S h kq p hp => by
  have h := h p (R.freeW hp)
  refine hk.sim σ _ _ G δ _ _ s0 (R.newOwn (m := .dk []) hp ⟨[], rfl, rfl⟩) S h fun x dx G1 H1 W1 s1 R1 d1 h1 => ?_
  refine hv.sim σ H1 _ G1 δ W1 _ (s0.trans s1) R1 (S.up s1) h1 fun y dy G2 H2 W2 s2 R2 d2 h2 => ?_
  obtain ⟨key, ek, hw, q⟩ := h2
  obtain ⟨_, o, e7, us, e8, e9⟩ := R2.own _ _ hw
  cases us with
  | cons _ _ => exact absurd e9.length (by simp)
  | nil =>
    subst e8
    refine ⟨e7, [(key, y)], ?_, by simp, ?_⟩
    · show [(x, y)] = [(kV key, y)]
      rw [keyOf_at (IsD.up s2 _ _ d1) ek]
    · have R3 := R2.put (m := .dk [(key, dy)]) (o := .dK [(key, y)]) hw ⟨_, rfl, y, [], rfl, d2, rfl⟩
      have em : mergeK [] [(key, y)] = [(key, y)] := rfl
      rw [em]
      cases own with
      | true => exact kq (.ref p) (.ptr p) G2 _ _ (s1.trans s2) R3 rfl (by simpa using q)
      | false =>
        obtain ⟨G3, s3, R4, d3⟩ := frz_at (d := .dk [(key, dy)]) R3 (Wd.set_same ..) rfl
        have ed : (W2.set p (.dk [(key, dy)])).del p = W2.del p := by
          funext b; simp only [Wd.set, Wd.del]; split <;> rfl
        rw [ed] at R4
        exact kq (.ref p) (.dk [(key, dy)]) G3 _ _ (s1.trans (s2.trans s3)) R4 d3 (by simpa using q)⟩
/-! ### reversed -/
def aiRev (a : AE) : AI := fun δ W N => a δ W fun d W1 => ∃ ds, lstRd W1 d = some ds ∧ N ds.reverse (okOf d ds) W1
theorem walks_rev {K : PySem.W.Frag} {G H : Hp} {W : Wd} {d : D} {a : Addr} {ds : List D} (R : Rel K G H W) (hd : IsD K G d (.ref a)) (e : lstRd W d = some ds) : Walks K G (Itv K a ds.length) ds.reverse (okOf d ds) := by
  refine ⟨fun i G' H' W' s R' ok hi => ?_, fun i G' H' W' s R' ok hi => ?_, fun i G' H' W' x H2 s R' ok hi hy => ?_⟩
  · obtain ⟨vs, h1, h2⟩ := lstRd_later R s R' hd e ok
    rw [List.length_reverse] at hi
    have hl : ds.length - 1 - i < vs.length := by rw [← h2.length]; omega
    exact ⟨hi, vs, vs[ds.length - 1 - i], h1, List.getElem?_eq_getElem hl⟩
  · rw [List.length_reverse] at hi; exact hi
  · obtain ⟨vs, h1, h2⟩ := lstRd_later R s R' hd e ok
    rw [List.length_reverse] at hi
    obtain ⟨rfl, hy⟩ := hy
    have e1 := hy vs h1
    obtain ⟨v, e2, q⟩ := h2.get (List.getElem?_eq_getElem (show ds.length - 1 - i < ds.length by omega))
    rw [e1] at e2
    cases e2
    exact ⟨ds[ds.length - 1 - i], G', by rw [List.getElem?_reverse hi, List.getElem?_eq_getElem (by omega)], Same.refl _, R', q⟩
theorem di_rev (hg : Gl X "reversed") (hm : X.mg "reversed" = none) (he : DE X G0 e te ae) (hs : starEach [e] X.env = (false, eval e X.env) :: starEach [] X.env := by rfl) : DI X G0 tg (.Call (.Name "reversed" p) [e] [] pos) (iRevA X.K te) (aiRev ae) := ⟨pi_revA hg hm he.pe hs, fun σ H M G δ W N s0 R S h k => by
  refine he.sim σ H _ G δ W _ s0 R S h fun x d G1 H1 W1 s1 R1 d1 h1 => ?_
  obtain ⟨ds, e1, q⟩ := h1
  obtain ⟨a, vs, rfl, ha, qa⟩ := lstRd_at R1 d1 e1
  refine ⟨a, vs, rfl, .inl ⟨ha, ?_⟩⟩
  rw [← qa.length]
  exact k _ _ _ G1 H1 W1 s1 R1 (walks_rev R1 d1 e1) q⟩
end
section
variable {own : Bool} {ak av a : AE} {δ : Sl} {W : Wd} {Q : DQ}
theorem go_disp1 (h : ∀ p, W p = none → ak δ (W.set p (.dk [])) fun y W1 => av δ W1 fun z W2 => ∃ key, keyOf y = some key ∧ W2 p = some (.dk []) ∧ if own = true then Q (.ptr p) (W2.set p (.dk [(key, z)])) else Q (.dk [(key, z)]) (W2.del p)) : aDisp1 own ak av δ W Q := h
theorem go_irev {N : List D → (Wd → Prop) → Wd → Prop} (h : a δ W fun d W1 => ∃ ds, lstRd W1 d = some ds ∧ N ds.reverse (okOf d ds) W1) : aiRev a δ W N := h
end
end DL

/-! DMn: patterns: a term with a fresh variable at a place. -/
namespace DL
open PySem PySem.Spec PyProof.Rows L2
theorem occ_put_in {t u : Trm} {p : List Int} (h : Pos t p) {v : Int} (hv : v ∈ occ u) : v ∈ occ (t.put p u) := by
  induction h with
  | nil => rw [Trm.put]; exact hv
  | @cons f ts i t p h0 h1 _ ih =>
    rw [put_cons h1, occ_app]
    have hl : (i - 1).toNat < ts.length := by
      by_cases g : (i - 1).toNat < ts.length
      · exact g
      · rw [List.getElem?_eq_none (by omega)] at h1; cases h1
    exact occ_mem (List.mem_set hl _) ih
theorem occ_put_of {t u : Trm} {p : List Int} (h : Pos t p) {v : Int} : v ∈ occ (t.put p u) → v ∈ occ u ∨ v ∈ occ t := by
  induction h with
  | nil => rw [Trm.put]; exact .inl
  | @cons f ts i t p h0 h1 _ ih =>
    rw [put_cons h1, occ_app, occ_app]
    intro hv
    obtain ⟨x, hx, hv⟩ := symss_occ_of hv
    rcases mem_set hx with hx | rfl
    · exact .inr (occ_mem hx hv)
    · rcases ih hv with h | h
      · exact .inl h
      · exact .inr (occ_mem (List.mem_of_getElem? h1) h)
/-- the variables stand for themselves, the new one for what was there -/
theorem put_sub {t u : Trm} {p : List Int} {f : Int → Trm} (h : Pos t p) (hu : u.sub f = t.at p) (hf : ∀ v ∈ occ t, f v = .var v) : (t.put p u).sub f = t := by
  have self : ∀ x : Trm, (∀ v ∈ occ x, f v = .var v) → x.sub f = x := fun x hx => by
    rw [sub_congr x (s' := Trm.var) hx, sub_id]
  induction h with
  | nil => rw [Trm.put]; rw [Trm.at] at hu; exact hu
  | @cons g ts i t p h0 h1 _ ih =>
    rw [at_cons h1] at hu
    rw [put_cons h1, sub_app]
    have hm := List.mem_of_getElem? h1
    have hfs : ∀ x ∈ ts, ∀ v ∈ occ x, f v = .var v := fun x hx v hv => hf v (by rw [occ_app]; exact occ_mem hx hv)
    rw [List.map_set, ih hu (hfs t hm)]
    have e : ts.map (Trm.sub f) = ts := by
      conv => rhs; rw [← List.map_id ts]
      exact List.map_congr_left fun x hx => self x (hfs x hx)
    rw [e]
    congr 1
    have hl : (i - 1).toNat < ts.length := by
      by_cases g : (i - 1).toNat < ts.length
      · exact g
      · rw [List.getElem?_eq_none (by omega)] at h1; cases h1
    rw [List.getElem?_eq_getElem hl] at h1
    cases h1
    exact List.set_getElem_self hl
/-- a step by its parts: is it given (or a stage), its number, forward, place, values -/
structure Stq where
  giv : Bool
  i : Int
  fwd : Bool
  p : List Int
  s : Sb
def kindS (b : Bool) : Str := if b = true then "given" else "stage"
def Stq.src (x : Stq) : D := .tup [.str (kindS x.giv), .int x.i]
def Stq.d (x : Stq) : D := .tup [x.src, .bl x.fwd, posD x.p, .dk (dkS x.s)]
end DL

/-! DMo: a substituted term with something put at a place; the sizes of a step. -/
namespace DL
open PySem PySem.Spec PyProof.Rows L2
theorem Pos.sub {t : Trm} {p : List Int} {f : Int → Trm} (h : Pos t p) : Pos (t.sub f) p := by
  induction h with
  | nil => exact .nil
  | @cons g ts i t p h0 h1 _ ih =>
    rw [sub_app]
    exact .cons h0 (by rw [List.getElem?_map, h1]; rfl) ih
theorem sub_put {t u : Trm} {p : List Int} {f : Int → Trm} (h : Pos t p) : (t.put p u).sub f = (t.sub f).put p (u.sub f) := by
  induction h with
  | nil => rw [Trm.put, Trm.put]
  | @cons g ts i t p h0 h1 _ ih =>
    rw [put_cons h1, sub_app, sub_app, put_cons (t := t.sub f) (by rw [List.getElem?_map, h1]; rfl), List.map_set, ih]
/-- what a step makes: depth and size -/
theorem put_bounds {t u : Trm} {p : List Int} {d z : Nat} (h : t.isPos p = true) (hd : u.depth ≤ (t.at p).depth + d) (hz : u.size ≤ (t.at p).size + z) : (t.put p u).depth ≤ t.depth + d ∧ (t.put p u).size ≤ t.size + z := by
  have h1 := put_sizeE (u := u) (pos_of h)
  have h2 := put_depthM (u := u) (pos_of h)
  have h3 := at_size h
  exact ⟨by omega, by omega⟩
/-- put_sub, asking only of the variables that are left -/
theorem put_sub2 {t u : Trm} {p : List Int} {f : Int → Trm} (h : Pos t p) (hu : u.sub f = t.at p) (hx : ∀ v ∈ occ t, v ∉ occ u) (hf : ∀ v ∈ occ (t.put p u), v ∉ occ u → f v = .var v) : (t.put p u).sub f = t := by
  have self : ∀ x : Trm, (∀ v ∈ occ x, f v = .var v) → x.sub f = x := fun x hx => by
    rw [sub_congr x (s' := Trm.var) hx, sub_id]
  induction h with
  | nil => rw [Trm.put]; rw [Trm.at] at hu; exact hu
  | @cons g ts i t p h0 h1 _ ih =>
    have hl : (i - 1).toNat < ts.length := by
      by_cases g : (i - 1).toNat < ts.length
      · exact g
      · rw [List.getElem?_eq_none (by omega)] at h1; cases h1
    rw [at_cons h1] at hu
    rw [put_cons h1] at hf ⊢
    rw [sub_app]
    have hm := List.mem_of_getElem? h1
    have ih := ih hu (fun v hv => hx v (by rw [occ_app]; exact occ_mem hm hv)) (fun v hv => hf v (by rw [occ_app]; exact occ_mem (List.mem_set hl _) hv))
    congr 1
    apply List.ext_getElem (by simp)
    intro j g1 g2
    rw [List.getElem_map, List.getElem_set]
    split
    · rename_i e
      subst e
      rw [ih]
      rw [List.getElem?_eq_getElem hl] at h1
      exact (Option.some.inj h1).symm
    · rename_i e
      refine self _ fun v hv => hf v ?_ (hx v (by rw [occ_app]; exact occ_mem (List.getElem_mem g2) hv))
      rw [occ_app]
      have hs : (ts.set (i - 1).toNat (t.put p u))[j]'(by rw [List.length_set]; exact g2) = ts[j] := by rw [List.getElem_set, if_neg e]
      exact occ_mem (hs ▸ List.getElem_mem _) hv
/-- the new side of a step: drawn, or drawn with the fresh variable somewhere; its instance is small -/
theorem new_bounds {m w x : Trm} {f : Int → Trm} (hw : w = m ∨ ∃ r, m.isPos r = true ∧ w = m.put r (.var 9)) (md : m.depth ≤ 2) (mz : m.size ≤ 4) (hf : ∀ v ∈ occ m, (f v).depth ≤ 2 ∧ (f v).size ≤ 4) (hx : f 9 = x) : (w.sub f).depth ≤ x.depth + 3 ∧ (w.sub f).size ≤ x.size + 15 := by
  have e : m.sub f = m.sub fun v => if v ∈ occ m then f v else .var 0 := sub_congr m fun v hv => by rw [if_pos hv]
  have a : ∀ v, ((fun v => if v ∈ occ m then f v else Trm.var 0) v).depth ≤ 2 := fun v => by
    show (if v ∈ occ m then f v else Trm.var 0).depth ≤ 2
    split
    · rename_i h; exact (hf v h).1
    · rw [Trm.depth]; decide
  have b : ∀ v, ((fun v => if v ∈ occ m then f v else Trm.var 0) v).size ≤ 4 := fun v => by
    show (if v ∈ occ m then f v else Trm.var 0).size ≤ 4
    split
    · rename_i h; exact (hf v h).2
    · rw [Trm.size]; decide
  have c := sub_depth0 a m
  have d := sub_size0 (by decide) b m
  rw [← e] at c d
  have x1 := x.depth_pos
  have x2 := x.size_pos
  rcases hw with rfl | ⟨r, hr, rfl⟩
  · exact ⟨by omega, by omega⟩
  · rw [sub_put (pos_of hr)]
    have ev : (Trm.var 9).sub f = x := by rw [Trm.sub]; exact hx
    rw [ev]
    have h1 := put_sizeE (u := x) (Pos.sub (f := f) (pos_of hr))
    have h2 := put_depthM (u := x) (Pos.sub (f := f) (pos_of hr))
    have h3 := at_size hr
    have h4 := (m.at r).depth_pos
    have h5 := ((m.sub f).at r).size_pos
    exact ⟨by omega, by omega⟩
end DL

/-! DMp: what a step makes, steps one after another. -/
namespace DL
open PySem PySem.Spec PyProof.Rows L2
/-- the step written with another dict -/
def Stq.dAt (x : Stq) (e : D) : D := .tup [x.src, .bl x.fwd, posD x.p, e]
theorem Stq.d_at (x : Stq) : x.d = x.dAt (.dk (dkS x.s)) := rfl
theorem Stq.dAt_mk (g : Bool) (i : Int) (b : Bool) (p : List Int) (s : Sb) (e : D) : D.tup [.tup [.str (kindS g), .int i], .bl b, posD p, e] = (Stq.mk g i b p s).dAt e := rfl
theorem Stq.d_mk (g : Bool) (i : Int) (b : Bool) (p : List Int) (s : Sb) : D.tup [.tup [.str (kindS g), .int i], .bl b, posD p, .dk (dkS s)] = (Stq.mk g i b p s).d := rfl
/-- the equation that the step names -/
def eqAt (gs ss : List Ru) (x : Stq) : Option Ru := if x.i < 0 then none else (if x.giv = true then gs else ss)[x.i.toNat]?
/-- its keys are the variables of both sides -/
def bnd (s : Sb) (l r : Trm) : Bool := decide (s.length = (nub l.vars r.vars).length) && (nub l.vars r.vars).all fun v => decide (v ∈ s.map (·.1))
def Stq.old (x : Stq) (e : Ru) : Trm := if x.fwd = true then e.1 else e.2
def Stq.new (x : Stq) (e : Ru) : Trm := if x.fwd = true then e.2 else e.1
def nxtE (t : Trm) (x : Stq) (e : Ru) : Option Trm := if t.isPos x.p = true ∧ bnd x.s e.1 e.2 = true ∧ t.at x.p = (x.old e).sub x.s.fn then some (t.put x.p ((x.new e).sub x.s.fn)) else none
def nxt (gs ss : List Ru) (t : Trm) (x : Stq) : Option Trm := (eqAt gs ss x).bind (nxtE t x)
def follow (gs ss : List Ru) : Trm → List Stq → Option Trm
  | t, [] => some t
  | t, x :: xs => (nxt gs ss t x).bind fun u => follow gs ss u xs
def optT : Option Trm → D
  | none => .non
  | some t => t.d
theorem follow_app (gs ss : List Ru) : ∀ (xs ys : List Stq) (t : Trm), follow gs ss t (xs ++ ys) = (follow gs ss t xs).bind fun u => follow gs ss u ys
  | [], ys, t => rfl
  | x :: xs, ys, t => by
    rw [List.cons_append, follow, follow]
    cases h : nxt gs ss t x with
    | none => rfl
    | some u => exact follow_app gs ss xs ys u
theorem nodup_sub_len {α : Type} [DecidableEq α] : ∀ {a b : List α}, a.Nodup → (∀ x ∈ a, x ∈ b) → a.length ≤ b.length
  | [], _, _, _ => Nat.zero_le _
  | y :: a, b, h, hs => by
    obtain ⟨h1, h2⟩ := List.nodup_cons.mp h
    have hy := hs y List.mem_cons_self
    have ih := nodup_sub_len (a := a) (b := b.erase y) h2 fun x hx => (List.mem_erase_of_ne fun e => h1 (by rw [← e]; exact hx)).mpr (hs x (List.mem_cons_of_mem _ hx))
    have e := List.length_erase_of_mem hy
    have hp : 0 < b.length := List.length_pos_of_mem hy
    rw [List.length_cons]; omega
theorem nodup_sub_eq {α : Type} [DecidableEq α] {a b : List α} (ha : a.Nodup) (hs : ∀ x ∈ a, x ∈ b) (hl : b.length ≤ a.length) : ∀ x ∈ b, x ∈ a := fun x hx => by
  by_cases h : x ∈ a
  · exact h
  · have := nodup_sub_len (a := x :: a) (b := b) (List.nodup_cons.mpr ⟨h, ha⟩) fun y hy => by
      rcases List.mem_cons.mp hy with rfl | hy
      · exact hx
      · exact hs y hy
    rw [List.length_cons] at this; omega
theorem mem_nub2 {l r : Trm} {v : Int} : v ∈ nub l.vars r.vars ↔ v ∈ occ l ∨ v ∈ occ r := by
  constructor
  · intro h
    rcases nub_sub _ _ h with h | h
    · exact .inl (mem_vars.mp h)
    · exact .inr (mem_vars.mp h)
  · rintro (h | h)
    · exact nub_memL _ _ (mem_vars.mpr h)
    · exact nub_memR _ _ (mem_vars.mpr h)
theorem bnd_iff {s : Sb} {l r : Trm} (nd : (s.map (·.1)).Nodup) : bnd s l r = true ↔ ∀ v, v ∈ s.map (·.1) ↔ v ∈ occ l ∨ v ∈ occ r := by
  have hn : (nub l.vars r.vars).Nodup := nub_nodup _ _ (vars_nodup l)
  unfold bnd
  rw [Bool.and_eq_true, decide_eq_true_eq, List.all_eq_true]
  constructor
  · rintro ⟨h1, h2⟩ v
    have h2 : ∀ v ∈ nub l.vars r.vars, v ∈ s.map (·.1) := fun v hv => of_decide_eq_true (h2 v hv)
    rw [← mem_nub2]
    exact ⟨fun h => nodup_sub_eq hn h2 (by rw [List.length_map]; omega) v h, h2 v⟩
  · intro h
    have a : ∀ v ∈ nub l.vars r.vars, v ∈ s.map (·.1) := fun v hv => (h v).mpr (mem_nub2.mp hv)
    have b : ∀ v ∈ s.map (·.1), v ∈ nub l.vars r.vars := fun v hv => mem_nub2.mpr ((h v).mp hv)
    have c := nodup_sub_len hn a
    have d := nodup_sub_len nd b
    rw [List.length_map] at c d
    exact ⟨by omega, fun v hv => decide_eq_true (a v hv)⟩
theorem bnd_swap {s : Sb} {l r : Trm} (nd : (s.map (·.1)).Nodup) : bnd s l r = bnd s r l := by
  rw [Bool.eq_iff_iff, bnd_iff nd, bnd_iff nd]
  exact ⟨fun h v => (h v).trans Or.comm, fun h v => (h v).trans Or.comm⟩
/-! ### a step and its opposite -/
def Stq.flip (x : Stq) : Stq := { x with fwd := !x.fwd }
theorem nxtE_flip {t u : Trm} {x : Stq} {e : Ru} (h : nxtE t x e = some u) : nxtE u x.flip e = some t := by
  unfold nxtE at h ⊢
  split at h
  · rename_i hc
    obtain ⟨h1, h2, h3⟩ := hc
    cases h
    have eo : x.flip.old e = x.new e := by unfold Stq.flip Stq.old Stq.new; cases x.fwd <;> rfl
    have en : x.flip.new e = x.old e := by unfold Stq.flip Stq.old Stq.new; cases x.fwd <;> rfl
    rw [eo, en]
    rw [if_pos ⟨put_isPos h1, h2, at_put h1⟩]
    show some ((t.put x.p _).put x.p ((x.old e).sub x.s.fn)) = some t
    rw [← h3, put_back h1]
  · cases h
theorem nxt_flip {gs ss : List Ru} {t u : Trm} {x : Stq} (h : nxt gs ss t x = some u) : nxt gs ss u x.flip = some t := by
  unfold nxt at h ⊢
  have e : eqAt gs ss x.flip = eqAt gs ss x := rfl
  rw [e]
  cases he : eqAt gs ss x with
  | none => rw [he] at h; cases h
  | some r => rw [he] at h; exact nxtE_flip h
theorem follow_back {gs ss : List Ru} : ∀ {xs : List Stq} {t u : Trm}, follow gs ss t xs = some u → follow gs ss u (xs.reverse.map Stq.flip) = some t
  | [], t, u, h => by cases h; rfl
  | x :: xs, t, u, h => by
    rw [follow] at h
    cases hn : nxt gs ss t x with
    | none => rw [hn] at h; cases h
    | some w =>
      rw [hn] at h
      rw [List.reverse_cons, List.map_append, follow_app, follow_back (t := w) h]
      show (nxt gs ss w x.flip).bind _ = _
      rw [nxt_flip hn]; rfl
/-! ### what is written with own dicts reads the same -/
inductive All2 {α β : Type} (R : α → β → Prop) : List α → List β → Prop
  | nil : All2 R [] []
  | cons {x : α} {y : β} {xs : List α} {ys : List β} (h : R x y) (r : All2 R xs ys) : All2 R (x :: xs) (y :: ys)
theorem mapO_congr {α β γ : Type} {f : α → Option γ} {g : β → Option γ} : ∀ {xs : List α} {ys : List β}, All2 (fun x y => f x = g y) xs ys → mapO f xs = mapO g ys
  | [], [], _ => rfl
  | x :: xs, y :: ys, h => by
    cases h with
    | cons h1 h2 => rw [mapO, mapO, h1, mapO_congr h2]
theorem rpF_own {W : Wd} {e : D} {kds : List (Key × D)} (h : dkOf W e = some kds) (n : Nat) : rpF W n e = rpF W n (.dk kds) := by
  cases n with
  | zero => rfl
  | succ n =>
    have hk : ∀ W, dkOf W (.dk kds) = some kds := fun _ => rfl
    cases e with
    | dk k2 =>
      have : dkOf W (.dk k2) = some k2 := rfl
      rw [this] at h; cases h; rfl
    | ptr a =>
      show (match dkOf W (.ptr a) with | some kds => _ | none => _) = _
      rw [h]; rfl
    | _ => simp [dkOf] at h
theorem rpF_dAt {W : Wd} {x : Stq} {e : D} (h : dkOf W e = some (dkS x.s)) (n : Nat) : rpF W n (x.dAt e) = rpF W n x.d := by
  rw [Stq.d_at]
  cases n with
  | zero => rfl
  | succ n =>
    unfold Stq.dAt
    rw [rpF, rpF]
    congr 1
    exact mapO_congr (.cons rfl (.cons rfl (.cons rfl (.cons (rpF_own h n) .nil))))
theorem rpF_lst {W : Wd} {xs ys : List D} (h : ∀ n, All2 (fun x y => rpF W n x = rpF W n y) xs ys) (n : Nat) : rpF W n (.lst xs) = rpF W n (.lst ys) := by
  cases n with
  | zero => rfl
  | succ n =>
    have e1 : ∀ zs : List D, rpF W (n + 1) (.lst zs) = (mapO (rpF W n) zs).map .list := fun zs => rfl
    rw [e1, e1, mapO_congr (h n)]
theorem go_reprEX {W : Wd} {Q : DQ} {d d' : D} {n w : Nat} (h : Rp d n w) (he : ∀ n, rpF W n d' = rpF W n d) (hn : n ≤ 150) (hw : w ≤ 2 ^ 20) (k : Q (.str d.sh) W) : dReprX [d'] W Q := by
  obtain ⟨p, e, s, a, b⟩ := h
  refine go_reprX 151 (by rw [he]; exact D.rp_rpF W d p e 151 (by omega)) s (by omega) (by omega) ?_
  unfold D.sh at k
  rw [e] at k
  exact k
/-- what repr says of a step -/
theorem rp_kind (b : Bool) : Rp (.str (kindS b)) 0 10 := by
  have h := rp_str (x := kindS b) (by cases b <;> decide +kernel)
  exact h.mono (Nat.le_refl _) (by cases b <;> decide +kernel)
structure StqSm (x : Stq) (n w : Nat) : Prop where
  i0 : -1000 ≤ x.i
  i1 : x.i ≤ 1000
  p : ∀ j ∈ x.p, -1000 ≤ j ∧ j ≤ 1000
  pl : x.p.length ≤ 200
  sl : x.s.length ≤ 40
  s : ∀ vt ∈ x.s, (-1000 ≤ vt.1 ∧ vt.1 ≤ 1000) ∧ Tn vt.2 ∧ vt.2.depth ≤ n ∧ vt.2.size ≤ w
theorem rp_stq {x : Stq} {n w : Nat} (h : StqSm x n w) : Rp x.d (n + 2) (x.s.length * (12 * w + 13) + 2500) := by
  have a1 : Rp x.src 1 24 := by
    have := rp_tup (rps_cons (rp_kind x.giv) (rps_cons (rp_int h.i0 h.i1) rps_nil))
    exact this.mono (by omega) (by omega)
  have a2 := rp_ints h.p
  have a3 : Rp (.dk (dkS x.s)) (n + 1) ((dkS x.s).length * (12 * w + 13)) := rp_dkI fun kd hk => by
    unfold dkS at hk
    obtain ⟨vt, hv, rfl⟩ := List.mem_map.mp hk
    obtain ⟨b1, b2, b3, b4⟩ := h.s vt hv
    exact ⟨⟨vt.1, rfl, b1.1, b1.2⟩, (rp_trm b2).mono b3 (Nat.mul_le_mul_left 12 b4)⟩
  rw [dkS_length] at a3
  have a4 := rp_tup (rps_cons a1 (rps_cons (rp_bl x.fwd) (rps_cons a2 (rps_cons a3 rps_nil))))
  have := h.pl
  exact a4.mono (by omega) (by omega)
/-! ### any dict, frozen or own -/
theorem lenOf_dk {W : Wd} {d : D} {kds : List (Key × D)} (h : dkOf W d = some kds) : lenOf W d = some kds.length := by
  cases d with
  | dk k2 => have e : dkOf W (.dk k2) = some k2 := rfl; rw [e] at h; cases h; rfl
  | ptr l =>
    unfold dkOf at h
    unfold lenOf
    cases e : W l with
    | none => simp [e] at h
    | some o => cases o <;> simp [e] at h ⊢; rw [h]
  | _ => simp [dkOf] at h
theorem go_ninDv {W : Wd} {d e : D} {kds : List (Key × D)} {k : Key} {Q : DQ} (h : dkOf W d = some kds) (h1 : keyOf e = some k) (q : Q (.bl (!(look kds k).isSome)) W) : dIn true e d W Q := by
  cases d with
  | dk k2 => have e' : dkOf W (.dk k2) = some k2 := rfl; rw [e'] at h; cases h; exact go_ninDk h1 q
  | ptr l => exact .inr ⟨_, .inl ⟨kds, k, h, h1, rfl⟩, q⟩
  | _ => simp [dkOf] at h
theorem get_isSome {s : Sb} {v : Int} : (s.get v).isSome = decide (v ∈ s.map (·.1)) := by
  cases h : s.get v with
  | some y => rw [decide_eq_true (get_key h)]; rfl
  | none => rw [decide_eq_false (get_nokey h)]; rfl
theorem dkOf_grow {W W' : Wd} {d : D} {kds : List (Key × D)} (g : Grow W W') (h : dkOf W d = some kds) : dkOf W' d = some kds := by
  cases d with
  | dk k2 => exact h
  | ptr l =>
    unfold dkOf at h ⊢
    cases e : W l with
    | none => simp [e] at h
    | some o => dsimp only at h ⊢; rw [e] at h; rw [g l o e]; exact h
  | _ => simp [dkOf] at h
/-- stages: two terms and something else -/
def stgD (x : Ru × D) : D := .tup [x.1.1.d, x.1.2.d, x.2]
/-- sides of equations, not too large -/
def EqsOk (gs : List Ru) : Prop := gs.length ≤ 100000 ∧ ∀ e ∈ gs, e.1.depth ≤ 140 ∧ e.1.size ≤ 100000 ∧ e.2.depth ≤ 140 ∧ e.2.size ≤ 100000
theorem eqAt_mem {gs ss : List Ru} {x : Stq} {e : Ru} (h : eqAt gs ss x = some e) : e ∈ gs ∨ e ∈ ss := by
  unfold eqAt at h
  split at h
  · cases h
  · split at h
    · exact .inl (List.mem_of_getElem? h)
    · exact .inr (List.mem_of_getElem? h)
end DL

/-! DMq: drawn steps, chains of them. -/
namespace DL
open PySem PySem.Spec PyProof.Rows L2
structure StpK (ops : Sig) (t old new : Trm) (p : List Int) (s : Sb) (t' : Trm) : Prop where
  pos : t.isPos p = true
  fit : old.sub s.fn = t.at p
  to : t' = t.put p (new.sub s.fn)
  nd : (s.map (·.1)).Nodup
  keys : ∀ v, v ∈ s.map (·.1) ↔ v ∈ occ old ∨ v ∈ occ new
  nine : (9 : Int) ∈ s.map (·.1)
  wo : Wf ops 10 old
  wn : Wf ops 10 new
  vals : ∀ vt ∈ s, (0 ≤ vt.1 ∧ vt.1 < 10) ∧ Wf ops 9 vt.2 ∧ vt.2.depth ≤ t.depth + 1 ∧ vt.2.size ≤ t.size + 4
  od : old.depth ≤ t.depth + 1
  oz : old.size ≤ t.size + 1
  nw : new.depth ≤ 3
  nz : new.size ≤ 5
  w : Wf ops 9 t'
  d : t'.depth ≤ t.depth + 4
  z : t'.size ≤ t.size + 16
def eqD (a b : Trm) : D := .tup [a.d, b.d]
/-- steps by equations of their own, drawn one after another -/
inductive ChK (ops : Sig) (first : Nat) (t : Trm) : List Ru → List Stq → List Trm → Trm → Prop
  | nil : ChK ops first t [] [] [] t
  | snoc {gs : List Ru} {xs : List Stq} {ts : List Trm} {u u' old new : Trm} {p : List Int} {s : Sb} (b : Bool) (h : ChK ops first t gs xs ts u) (k : StpK ops u old new p s u') :
      ChK ops first t (gs ++ [if b = true then (old, new) else (new, old)]) (xs ++ [⟨true, ((first + xs.length : Nat) : Int), b, p, s⟩]) (ts ++ [u']) u'
theorem ChK.len {ops : Sig} {first : Nat} {t u : Trm} {gs : List Ru} {xs : List Stq} {ts : List Trm} (h : ChK ops first t gs xs ts u) : gs.length = xs.length ∧ ts.length = xs.length := by
  induction h with
  | nil => exact ⟨rfl, rfl⟩
  | snoc b h k ih => simp [ih.1, ih.2]
theorem ChK.ok {ops : Sig} {first : Nat} {t u : Trm} {gs : List Ru} {xs : List Stq} {ts : List Trm} (h : ChK ops first t gs xs ts u) (ht : Wf ops 9 t) : Wf ops 9 u ∧ u.depth ≤ t.depth + 4 * xs.length ∧ u.size ≤ t.size + 16 * xs.length ∧ (t :: ts).getLast? = some u := by
  induction h with
  | nil => exact ⟨ht, by simp, by simp, rfl⟩
  | snoc b h k ih =>
    obtain ⟨a, b, c, d⟩ := ih
    refine ⟨k.w, ?_, ?_, ?_⟩
    · have := k.d; rw [List.length_append, List.length_singleton]; omega
    · have := k.z; rw [List.length_append, List.length_singleton]; omega
    · rw [← List.cons_append, List.getLast?_concat]
theorem pos_small {ops : Sig} {n : Int} (hO : Ops ops) : ∀ {p : List Int} {t : Trm}, Wf ops n t → t.isPos p = true → ∀ i ∈ p, 1 ≤ i ∧ i ≤ 3
  | [], _, _, _, i, h => by cases h
  | j :: p, t, ht, hp, i, h => by
    obtain ⟨f, ts, x, rfl, h1, h2, h3⟩ := isPos_step hp
    obtain ⟨hm, hw⟩ := ht.args
    have h4 := hO.le3 hm
    have hl : (j - 1).toNat < ts.length := by
      by_cases g : (j - 1).toNat < ts.length
      · exact g
      · rw [List.getElem?_eq_none (by omega)] at h2; cases h2
    rcases List.mem_cons.mp h with rfl | h
    · dsimp only at h4; omega
    · exact pos_small hO (hw x (List.mem_of_getElem? h2)) h3 i h
theorem StpK.sl {ops : Sig} {t old new t' : Trm} {p : List Int} {s : Sb} (h : StpK ops t old new p s t') : s.length ≤ 10 := by
  have := nodup_le 10 h.nd fun x hx => by
    obtain ⟨vt, hv, rfl⟩ := List.mem_map.mp hx
    exact (h.vals vt hv).1
  rw [List.length_map] at this
  exact this
theorem StpK.sm {ops : Sig} {t old new t' : Trm} {p : List Int} {s : Sb} {b : Bool} {i : Int} {g : Bool} (hO : Ops ops) (ht : Wf ops 9 t) (h : StpK ops t old new p s t') (hi : 0 ≤ i ∧ i ≤ 1000) (hd : t.depth ≤ 190) : StqSm ⟨g, i, b, p, s⟩ (t.depth + 1) (t.size + 4) where
  i0 := by dsimp only; omega
  i1 := hi.2
  p := fun j hj => by have := pos_small hO ht h.pos j hj; omega
  pl := by have := (at_size h.pos).2; dsimp only; omega
  sl := by have := h.sl; dsimp only; omega
  s := fun vt hv => by
    obtain ⟨a, b, c, d⟩ := h.vals vt hv
    exact ⟨⟨by omega, by omega⟩, b.tn hO (by decide), c, d⟩
theorem StqSm.mono {x : Stq} {n w n' w' : Nat} (h : StqSm x n w) (hn : n ≤ n') (hw : w ≤ w') : StqSm x n' w' where
  i0 := h.i0
  i1 := h.i1
  p := h.p
  pl := h.pl
  sl := h.sl
  s := fun vt hv => by obtain ⟨a, b, c, d⟩ := h.s vt hv; exact ⟨a, b, by omega, by omega⟩
theorem ChK.sm {ops : Sig} {first : Nat} {t u : Trm} {gs : List Ru} {xs : List Stq} {ts : List Trm} (hO : Ops ops) (h : ChK ops first t gs xs ts u) (ht : Wf ops 9 t) (hf : first + xs.length ≤ 1000) (hd : t.depth + 4 * xs.length ≤ 190) : ∀ x ∈ xs, x.s.length ≤ 10 ∧ StqSm x (t.depth + 4 * xs.length) (t.size + 16 * xs.length) := by
  induction h with
  | nil => intro x hx; cases hx
  | @snoc gs xs ts u u' old new p s b h k ih =>
    rw [List.length_append, List.length_singleton] at hf hd
    obtain ⟨w, d, z, _⟩ := h.ok ht
    intro x hx
    rw [List.length_append, List.length_singleton]
    rcases List.mem_append.mp hx with hx | hx
    · obtain ⟨a1, a2⟩ := ih (by omega) (by omega) x hx
      exact ⟨a1, a2.mono (by omega) (by omega)⟩
    · rw [List.mem_singleton.mp hx]
      exact ⟨k.sl, (k.sm hO w (by omega) (by omega)).mono (by omega) (by omega)⟩
theorem StpK.nxt {ops : Sig} {t old new t' : Trm} {p : List Int} {s : Sb} {b : Bool} {i : Int} {g : Bool} {gs ss : List Ru} (h : StpK ops t old new p s t') (he : eqAt gs ss ⟨g, i, b, p, s⟩ = some (if b = true then (old, new) else (new, old))) : nxt gs ss t ⟨g, i, b, p, s⟩ = some t' := by
  unfold DL.nxt
  rw [he, Option.bind_some]
  unfold nxtE Stq.old Stq.new
  have hb : bnd s old new = true := (bnd_iff h.nd).mpr h.keys
  have hb' : bnd s new old = true := by rw [bnd_swap h.nd]; exact hb
  cases b with
  | true => dsimp only; rw [if_pos rfl, if_pos rfl, if_pos rfl]; rw [if_pos ⟨h.pos, hb, h.fit.symm⟩, h.to]
  | false =>
    dsimp only
    simp only [↓reduceIte, Bool.false_eq_true]
    rw [if_pos ⟨h.pos, hb', h.fit.symm⟩, h.to]
theorem ChK.fol {ops : Sig} {first : Nat} {t u : Trm} {gs : List Ru} {xs : List Stq} {ts : List Trm} (h : ChK ops first t gs xs ts u) : ∀ (pre more ss : List Ru), pre.length = first → follow (pre ++ gs ++ more) ss t xs = some u := by
  induction h with
  | nil => intro _ _ _ _; rfl
  | @snoc gs xs ts u u' old new p s b h k ih =>
    intro pre more ss hp
    have l := h.len.1
    rw [follow_app, show pre ++ (gs ++ [if b = true then (old, new) else (new, old)]) ++ more = pre ++ gs ++ ([if b = true then (old, new) else (new, old)] ++ more) by simp, ih pre _ ss hp, Option.bind_some, follow, k.nxt]
    · rfl
    · unfold eqAt
      dsimp only
      rw [if_neg (by omega), if_pos rfl, List.getElem?_append_right (by simp; omega)]
      rw [show ((first + xs.length : Nat) : Int).toNat - (pre ++ gs).length = 0 by simp; omega]
      rfl
theorem ChK.eqs {ops : Sig} {first : Nat} {t u : Trm} {gs : List Ru} {xs : List Stq} {ts : List Trm} (h : ChK ops first t gs xs ts u) (ht : Wf ops 9 t) (n z : Nat) (hn : t.depth + 4 * xs.length + 3 ≤ n) (hz : t.size + 16 * xs.length + 5 ≤ z) : ∀ e ∈ gs, (Wf ops 10 e.1 ∧ e.1.depth ≤ n ∧ e.1.size ≤ z) ∧ Wf ops 10 e.2 ∧ e.2.depth ≤ n ∧ e.2.size ≤ z := by
  induction h with
  | nil => intro e he; cases he
  | @snoc gs xs ts u u' old new p s b h k ih =>
    rw [List.length_append, List.length_singleton] at hn hz
    obtain ⟨w, d, zz, _⟩ := h.ok ht
    intro e he
    rcases List.mem_append.mp he with he | he
    · exact ih (by omega) (by omega) e he
    · rw [List.mem_singleton.mp he]
      have a1 := k.od; have a2 := k.oz; have a3 := k.nw; have a4 := k.nz
      have a5 : Wf ops 10 old ∧ old.depth ≤ n ∧ old.size ≤ z := ⟨k.wo, by omega, by omega⟩
      have a6 : Wf ops 10 new ∧ new.depth ≤ n ∧ new.size ≤ z := ⟨k.wn, by omega, by omega⟩
      cases b with
      | true => exact ⟨a5, a6⟩
      | false => exact ⟨a6, a5⟩
/-- along the steps all terms are small -/
def FolOk (gs ss : List Ru) : Trm → List Stq → Prop
  | t, [] => t.depth ≤ 140 ∧ t.size ≤ 1000000
  | t, x :: xs => (t.depth ≤ 140 ∧ t.size ≤ 1000000) ∧ ∀ u, nxt gs ss t x = some u → FolOk gs ss u xs
theorem FolOk.here {gs ss : List Ru} {t : Trm} {xs : List Stq} (h : FolOk gs ss t xs) : t.depth ≤ 140 ∧ t.size ≤ 1000000 := by
  cases xs with
  | nil => exact h
  | cons x xs => exact h.1
theorem FolOk.app {gs ss : List Ru} : ∀ {xs ys : List Stq} {t : Trm}, FolOk gs ss t xs → (∀ u, follow gs ss t xs = some u → FolOk gs ss u ys) → FolOk gs ss t (xs ++ ys)
  | [], ys, t, h, k => k t rfl
  | x :: xs, ys, t, h, k => ⟨h.1, fun u hu => FolOk.app (h.2 u hu) fun v hv => k v (by rw [follow, hu]; exact hv)⟩
/-- what is visited is small: so it is along the steps -/
theorem FolOk.one {gs ss : List Ru} {t : Trm} {x : Stq} (h : t.depth ≤ 140 ∧ t.size ≤ 1000000) (k : ∀ u, nxt gs ss t x = some u → u.depth ≤ 140 ∧ u.size ≤ 1000000) : FolOk gs ss t [x] := ⟨h, k⟩
theorem ChK.folok {ops : Sig} {first : Nat} {t u : Trm} {gs : List Ru} {xs : List Stq} {ts : List Trm} (h : ChK ops first t gs xs ts u) (ht : Wf ops 9 t) (pre more ss : List Ru) (hp : pre.length = first) (hd : t.depth + 4 * xs.length ≤ 140) (hz : t.size + 16 * xs.length ≤ 1000000) : FolOk (pre ++ gs ++ more) ss t xs := by
  induction h generalizing more with
  | nil => simp at hd hz; exact ⟨hd, hz⟩
  | @snoc gs xs ts u u' old new p s b h k ih =>
    rw [List.length_append, List.length_singleton] at hd hz
    have hall := (h.snoc b k).fol pre more ss hp
    have e1 : pre ++ (gs ++ [if b = true then (old, new) else (new, old)]) ++ more = pre ++ gs ++ ([if b = true then (old, new) else (new, old)] ++ more) := by simp
    rw [e1] at hall ⊢
    refine (ih _ (by omega) (by omega)).app fun v hv => ?_
    rw [h.fol pre _ ss hp] at hv
    cases hv
    obtain ⟨w, d, z, _⟩ := h.ok ht
    obtain ⟨w', d', z', _⟩ := (h.snoc b k).ok ht
    rw [List.length_append, List.length_singleton] at d' z'
    refine FolOk.one ⟨by omega, by omega⟩ fun v hv => ?_
    rw [follow_app, h.fol pre _ ss hp, Option.bind_some, follow, hv, Option.bind_some] at hall
    have hall : v = u' := by simpa [follow] using hall
    rw [hall]
    exact ⟨by omega, by omega⟩
theorem ChK.folback {ops : Sig} {first : Nat} {t u : Trm} {gs : List Ru} {xs : List Stq} {ts : List Trm} (h : ChK ops first t gs xs ts u) (ht : Wf ops 9 t) (pre more ss : List Ru) (hp : pre.length = first) (hd : t.depth + 4 * xs.length ≤ 140) (hz : t.size + 16 * xs.length ≤ 1000000) : FolOk (pre ++ gs ++ more) ss u (xs.reverse.map Stq.flip) := by
  induction h generalizing more with
  | nil => simp at hd hz; exact ⟨hd, hz⟩
  | @snoc gs xs ts u u' old new p s b h k ih =>
    rw [List.length_append, List.length_singleton] at hd hz
    have hall := (h.snoc b k).fol pre more ss hp
    have e1 : pre ++ (gs ++ [if b = true then (old, new) else (new, old)]) ++ more = pre ++ gs ++ ([if b = true then (old, new) else (new, old)] ++ more) := by simp
    rw [e1] at hall ⊢
    rw [follow_app, h.fol pre _ ss hp, Option.bind_some, follow] at hall
    rw [List.reverse_append, List.map_append]
    obtain ⟨w', d', z', _⟩ := (h.snoc b k).ok ht
    rw [List.length_append, List.length_singleton] at d' z'
    refine ⟨⟨by omega, by omega⟩, fun v hv => ?_⟩
    cases hn : nxt (pre ++ gs ++ ([if b = true then (old, new) else (new, old)] ++ more)) ss u ⟨true, ((first + xs.length : Nat) : Int), b, p, s⟩ with
    | none => rw [hn] at hall; cases hall
    | some w =>
      rw [hn] at hall
      have hw : w = u' := by simpa [follow] using hall
      rw [hw] at hn
      have := nxt_flip hn
      rw [this] at hv
      cases hv
      exact ih _ (by omega) (by omega)
theorem src_eqv (x : Stq) : x.src.eqv x.src = true := by
  show PyData.eqv _ _ = true
  unfold Stq.src
  rw [D.py, PyData.eqv]
  exact eqvAll_self fun d hd => by
    simp only [List.mem_cons, List.not_mem_nil, or_false] at hd
    rcases hd with rfl | rfl <;> simp [D.py, PyData.eqv]
theorem go_neSrc {x : Stq} {W : Wd} {Q : DQ} (h : Q (.bl false) W) : dNe x.src x.src W Q := by
  have hd : x.src.py.depth ≤ 5 := by unfold Stq.src; simp [D.py, D.pys, PyData.depth, PyData.depthAll]
  refine ⟨⟨by unfold Stq.src; simp [D.plain, D.plains], by unfold Stq.src; simp [D.plain, D.plains], by omega⟩, ?_⟩
  rw [src_eqv]
  exact h
theorem rev_at {xs : List Stq} {ys : List (Stq × Addr)} (h : ys.map (·.1) = xs.reverse.map Stq.flip) {k : Nat} (hk : k < xs.length) : ∃ y x, ys[k]? = some y ∧ xs[xs.length - 1 - k]? = some x ∧ y.1 = x.flip := by
  have hl : ys.length = xs.length := by have := congrArg List.length h; simpa using this
  refine ⟨ys[k]'(by omega), xs[xs.length - 1 - k]'(by omega), List.getElem?_eq_getElem _, List.getElem?_eq_getElem _, ?_⟩
  have e : (ys.map (·.1))[k]? = (xs.reverse.map Stq.flip)[k]? := by rw [h]
  rw [List.getElem?_map, List.getElem?_map, List.getElem?_reverse (by omega), List.getElem?_eq_getElem (by omega), List.getElem?_eq_getElem (by omega)] at e
  exact Option.some.inj e
theorem rp_stqs {xs : List Stq} {n w : Nat} (h : ∀ x ∈ xs, x.s.length ≤ 10 ∧ StqSm x n w) : Rp (.lst (xs.map Stq.d)) (n + 3) (xs.length * (10 * (12 * w + 13) + 2501)) := by
  have a := rps_all (ds := xs.map Stq.d) (n := n + 2) (w := 10 * (12 * w + 13) + 2500) fun d hd => by
    obtain ⟨x, hx, rfl⟩ := List.mem_map.mp hd
    obtain ⟨h1, h2⟩ := h x hx
    exact (rp_stq h2).mono (Nat.le_refl _) (Nat.add_le_add_right (Nat.mul_le_mul_right _ h1) _)
  rw [List.length_map] at a
  exact (rp_lstS a).mono (by omega) (Nat.le_refl _)
end DL

/-! DMr: steps in context, instances of steps. -/
namespace DL
open PySem PySem.Spec PyProof.Rows L2
theorem at_app {t : Trm} {p r : List Int} (h : t.isPos p = true) : t.at (p ++ r) = (t.at p).at r := by
  induction p generalizing t with
  | nil => rw [List.nil_append, Trm.at]
  | cons i p ih =>
    obtain ⟨f, ts, x, rfl, h1, h2, h3⟩ := isPos_step h
    rw [List.cons_append, at_cons h2, at_cons h2, ih h3]
theorem put_app {t u : Trm} {p r : List Int} (h : t.isPos p = true) : t.put (p ++ r) u = t.put p ((t.at p).put r u) := by
  induction p generalizing t with
  | nil => rw [List.nil_append, Trm.at, Trm.put]
  | cons i p ih =>
    obtain ⟨f, ts, x, rfl, h1, h2, h3⟩ := isPos_step h
    rw [List.cons_append, put_cons h2, put_cons h2, at_cons h2, ih h3]
theorem put_put {t u v : Trm} {p : List Int} (h : t.isPos p = true) : (t.put p u).put p v = t.put p v := by
  induction p generalizing t with
  | nil => simp [Trm.put]
  | cons i p ih =>
    obtain ⟨f, ts, x, rfl, h1, h2, h3⟩ := isPos_step h
    have hl : (i - 1).toNat < ts.length := by
      by_cases g : (i - 1).toNat < ts.length
      · exact g
      · rw [List.getElem?_eq_none (by omega)] at h2; cases h2
    rw [put_cons h2, put_cons h2, put_cons (List.getElem?_set_self hl), ih h3, List.set_set]
theorem at_sub {t : Trm} {p : List Int} {f : Int → Trm} (h : t.isPos p = true) : (t.sub f).at p = (t.at p).sub f := by
  induction p generalizing t with
  | nil => rw [Trm.at, Trm.at]
  | cons i p ih =>
    obtain ⟨g, ts, x, rfl, h1, h2, h3⟩ := isPos_step h
    rw [sub_app, at_cons h2, at_cons (x := x.sub f) (by rw [List.getElem?_map, h2]; rfl), ih h3]
def Stq.mv (q : List Int) (x : Stq) : Stq := { x with p := q ++ x.p }
def instS (g : Int → Trm) (s : Sb) : Sb := s.map fun vt => (vt.1, vt.2.sub g)
def Stq.inst (g : Int → Trm) (x : Stq) : Stq := { x with s := instS g x.s }
theorem instS_keys (g : Int → Trm) (s : Sb) : (instS g s).map (·.1) = s.map (·.1) := by unfold instS; rw [List.map_map]; rfl
theorem instS_get (g : Int → Trm) (v : Int) : ∀ s : Sb, (instS g s).get v = (s.get v).map fun t => t.sub g
  | [] => rfl
  | x :: s => by
    have ih := instS_get g v s
    unfold instS Sb.get at ih ⊢
    rw [List.map_cons, List.find?_cons, List.find?_cons]
    by_cases e : x.1 = v
    · simp [e]
    · simp only [e, decide_false]
      exact ih
theorem sub_inst {t : Trm} {s : Sb} {g : Int → Trm} (h : ∀ v ∈ occ t, v ∈ s.map (·.1)) : t.sub (instS g s).fn = (t.sub s.fn).sub g := by
  rw [sub_sub]
  refine sub_congr t fun v hv => ?_
  unfold Sb.fn
  rw [instS_get]
  cases e : s.get v with
  | some y => rfl
  | none => exact absurd (h v hv) (get_nokey e)
theorem nxtE_some {t u : Trm} {x : Stq} {e : Ru} (h : nxtE t x e = some u) : t.isPos x.p = true ∧ bnd x.s e.1 e.2 = true ∧ t.at x.p = (x.old e).sub x.s.fn ∧ u = t.put x.p ((x.new e).sub x.s.fn) := by
  unfold nxtE at h
  split at h
  · rename_i hc; cases h; exact ⟨hc.1, hc.2.1, hc.2.2, rfl⟩
  · cases h
theorem nxt_some {gs ss : List Ru} {t u : Trm} {x : Stq} (h : nxt gs ss t x = some u) : ∃ e, eqAt gs ss x = some e ∧ nxtE t x e = some u := by
  unfold nxt at h
  cases e : eqAt gs ss x with
  | none => rw [e] at h; cases h
  | some r => rw [e] at h; exact ⟨r, rfl, h⟩
theorem nxt_of {gs ss : List Ru} {t u : Trm} {x : Stq} {e : Ru} (h : eqAt gs ss x = some e) (k : nxtE t x e = some u) : nxt gs ss t x = some u := by unfold nxt; rw [h]; exact k
theorem nxt_mv {gs ss : List Ru} {c t u : Trm} {q : List Int} {x : Stq} (hq : c.isPos q = true) (h : nxt gs ss t x = some u) : nxt gs ss (c.put q t) (x.mv q) = some (c.put q u) := by
  obtain ⟨e, h1, h2⟩ := nxt_some h
  obtain ⟨a, b, d, rfl⟩ := nxtE_some h2
  refine nxt_of (e := e) h1 ?_
  have hp := put_isPos (u := t) hq
  unfold nxtE
  rw [if_pos]
  · show some ((c.put q t).put (q ++ x.p) _) = _
    rw [put_app hp, at_put hq, put_put hq]; rfl
  · refine ⟨?_, b, ?_⟩
    · show (c.put q t).isPos (q ++ x.p) = true
      rw [isPos_app hp, at_put hq]; exact a
    · show (c.put q t).at (q ++ x.p) = _
      rw [at_app hp, at_put hq]; exact d
theorem nxt_inst {gs ss : List Ru} {t u : Trm} {g : Int → Trm} {x : Stq} (nd : (x.s.map (·.1)).Nodup) (h : nxt gs ss t x = some u) : nxt gs ss (t.sub g) (x.inst g) = some (u.sub g) := by
  obtain ⟨e, h1, h2⟩ := nxt_some h
  obtain ⟨a, b, d, rfl⟩ := nxtE_some h2
  refine nxt_of (e := e) h1 ?_
  have hb := (bnd_iff nd).mp b
  have ho : ∀ v ∈ occ (x.old e), v ∈ x.s.map (·.1) := fun v hv => (hb v).mpr (by unfold Stq.old at hv; split at hv <;> simp [hv])
  have hn : ∀ v ∈ occ (x.new e), v ∈ x.s.map (·.1) := fun v hv => (hb v).mpr (by unfold Stq.new at hv; split at hv <;> simp [hv])
  unfold nxtE
  rw [if_pos]
  · show some ((t.sub g).put x.p ((x.new e).sub (instS g x.s).fn)) = _
    rw [sub_inst hn, sub_put (pos_of a)]
  · refine ⟨(pos_of a).sub.isPos, ?_, ?_⟩
    · show bnd (instS g x.s) e.1 e.2 = true
      rw [bnd_iff (by rw [instS_keys]; exact nd), instS_keys]; exact hb
    · show (t.sub g).at x.p = (x.old e).sub (instS g x.s).fn
      rw [sub_inst ho, ← d, at_sub a]
theorem follow_mv {gs ss : List Ru} {c : Trm} {q : List Int} (hq : c.isPos q = true) : ∀ {xs : List Stq} {t u : Trm}, follow gs ss t xs = some u → follow gs ss (c.put q t) (xs.map (Stq.mv q)) = some (c.put q u)
  | [], t, u, h => by cases h; rfl
  | x :: xs, t, u, h => by
    rw [follow] at h
    cases hn : nxt gs ss t x with
    | none => rw [hn] at h; cases h
    | some w =>
      rw [hn] at h
      rw [List.map_cons, follow, nxt_mv hq hn]
      exact follow_mv hq h
theorem follow_inst {gs ss : List Ru} {g : Int → Trm} : ∀ {xs : List Stq} {t u : Trm}, (∀ x ∈ xs, (x.s.map (·.1)).Nodup) → follow gs ss t xs = some u → follow gs ss (t.sub g) (xs.map (Stq.inst g)) = some (u.sub g)
  | [], t, u, _, h => by cases h; rfl
  | x :: xs, t, u, nd, h => by
    rw [follow] at h
    cases hn : nxt gs ss t x with
    | none => rw [hn] at h; cases h
    | some w =>
      rw [hn] at h
      rw [List.map_cons, follow, nxt_inst (nd x List.mem_cons_self) hn]
      exact follow_inst (fun y hy => nd y (List.mem_cons_of_mem _ hy)) h
/-- the terms that steps visit -/
inductive Vis (gs ss : List Ru) (P : Trm → Prop) : Trm → List Stq → Prop
  | nil {t : Trm} (h : P t) : Vis gs ss P t []
  | cons {t u : Trm} {x : Stq} {xs : List Stq} (h : P t) (k : nxt gs ss t x = some u) (r : Vis gs ss P u xs) : Vis gs ss P t (x :: xs)
theorem Vis.folok {gs ss : List Ru} {P : Trm → Prop} (hP : ∀ t, P t → t.depth ≤ 140 ∧ t.size ≤ 1000000) {t : Trm} {xs : List Stq} (h : Vis gs ss P t xs) : FolOk gs ss t xs := by
  induction h with
  | nil h => exact hP _ h
  | cons h k r ih => exact ⟨hP _ h, fun v hv => by rw [k] at hv; cases hv; exact ih⟩
theorem Vis.mv {gs ss : List Ru} {P P' : Trm → Prop} {c : Trm} {q : List Int} (hq : c.isPos q = true) (hP : ∀ t, P t → P' (c.put q t)) {t : Trm} {xs : List Stq} (h : Vis gs ss P t xs) : Vis gs ss P' (c.put q t) (xs.map (Stq.mv q)) := by
  induction h with
  | nil h => exact .nil (hP _ h)
  | cons h k r ih => exact .cons (hP _ h) (nxt_mv hq k) ih
theorem Vis.inst {gs ss : List Ru} {P P' : Trm → Prop} {g : Int → Trm} (hP : ∀ t, P t → P' (t.sub g)) {t : Trm} {xs : List Stq} (h : Vis gs ss P t xs) (nd : ∀ x ∈ xs, (x.s.map (·.1)).Nodup) : Vis gs ss P' (t.sub g) (xs.map (Stq.inst g)) := by
  induction h with
  | nil h => exact .nil (hP _ h)
  | cons h k r ih => exact .cons (hP _ h) (nxt_inst (nd _ List.mem_cons_self) k) (ih fun y hy => nd y (List.mem_cons_of_mem _ hy))
theorem Vis.snoc {gs ss : List Ru} {P : Trm → Prop} {t u v : Trm} {x : Stq} {xs : List Stq} (h : Vis gs ss P t xs) (hf : follow gs ss t xs = some u) (k : nxt gs ss u x = some v) (hv : P v) : Vis gs ss P t (xs ++ [x]) := by
  induction h with
  | nil h =>
    have e : _ = u := Option.some.inj hf
    subst e
    exact .cons h k (.nil hv)
  | cons h k' r ih => exact .cons h k' (ih (by rw [follow, k'] at hf; exact hf))
theorem ChK.vis {ops : Sig} {first : Nat} {t u : Trm} {gs : List Ru} {xs : List Stq} {ts : List Trm} (h : ChK ops first t gs xs ts u) (ht : Wf ops 9 t) (pre more ss : List Ru) (hp : pre.length = first) : Vis (pre ++ gs ++ more) ss (fun v => Wf ops 9 v ∧ v.depth ≤ t.depth + 4 * xs.length ∧ v.size ≤ t.size + 16 * xs.length) t xs := by
  have go : ∀ (n : Nat), xs.length ≤ n → Vis (pre ++ gs ++ more) ss (fun v => Wf ops 9 v ∧ v.depth ≤ t.depth + 4 * n ∧ v.size ≤ t.size + 16 * n) t xs := by
    induction h generalizing more with
    | nil => intro n _; exact .nil ⟨ht, by omega, by omega⟩
    | @snoc gs xs ts u u' old new p s b h k ih =>
      intro n hn
      rw [List.length_append, List.length_singleton] at hn
      have hall := (h.snoc b k).fol pre more ss hp
      have e1 : pre ++ (gs ++ [if b = true then (old, new) else (new, old)]) ++ more = pre ++ gs ++ ([if b = true then (old, new) else (new, old)] ++ more) := by simp
      rw [e1] at hall ⊢
      rw [follow_app, h.fol pre _ ss hp, Option.bind_some, follow] at hall
      obtain ⟨w', d', z', _⟩ := (h.snoc b k).ok ht
      rw [List.length_append, List.length_singleton] at d' z'
      cases hn2 : nxt (pre ++ gs ++ ([if b = true then (old, new) else (new, old)] ++ more)) ss u ⟨true, ((first + xs.length : Nat) : Int), b, p, s⟩ with
      | none => rw [hn2] at hall; cases hall
      | some w =>
        rw [hn2] at hall
        have hw : w = u' := by simpa [follow] using hall
        exact (ih _ n (by omega)).snoc (h.fol pre _ ss hp) hn2 (by rw [hw]; exact ⟨w', by omega, by omega⟩)
  exact go _ (Nat.le_refl _)
theorem ChK.nds {ops : Sig} {first : Nat} {t u : Trm} {gs : List Ru} {xs : List Stq} {ts : List Trm} (h : ChK ops first t gs xs ts u) : ∀ x ∈ xs, (x.s.map (·.1)).Nodup := by
  induction h with
  | nil => intro x hx; cases hx
  | snoc b h k ih =>
    intro x hx
    rcases List.mem_append.mp hx with hx | hx
    · exact ih x hx
    · rw [List.mem_singleton.mp hx]; exact k.nd
end DL

namespace DL
open PySem PySem.Spec PyProof.Rows L2
local macro_rules | `(tactic| walk_at "sd") => `(tactic| first | assumption | rfl | decide | (simp [sizeLine_val]; done) | omega)
local macro_rules | `(tactic| walk_at "rd1") => `(tactic| first
  | ((with_reducible refine' go_var ?h0 ?_); (case h0 => rfl))
  | with_reducible refine go_c ?_
  | with_reducible refine go_op ?_
  | with_reducible refine go_seq ?_
  | with_reducible refine go_asg ?_
  | ((with_reducible refine' go_name ?h0 ?_); (case h0 => rfl))
  | with_reducible refine go_ifs ?_
  | with_reducible refine go_test ?_
  | with_reducible refine go_bl ?_
  | with_reducible refine go_int ?_
  | with_reducible refine go_cb ?_
  | with_reducible refine go_cons ?_
  | with_reducible refine go_nil ?_
  | with_reducible refine go_ret ?_
  | with_reducible refine go_call ?_
  | with_reducible refine go_callN ?_
  | with_reducible refine go_drop ?_
  | with_reducible refine go_next ?_
  | with_reducible refine go_iteT ?_
  | with_reducible refine go_iteF ?_
  | ((with_reducible refine' go_iteC1 ?hc ?_); (case hc => first | rfl | (simp only [decide_true, decide_false, decide_eq_true_eq, Bool.not_true, Bool.not_false]; done)))
  | ((with_reducible refine' go_iteC0 ?hc ?_); (case hc => first | rfl | (simp only [decide_true, decide_false, decide_eq_true_eq, Bool.not_true, Bool.not_false]; done)))
  | with_reducible refine go_eqI ?_
  | with_reducible refine go_neI ?_
  | with_reducible refine go_eqS ?_
  | with_reducible refine go_neS ?_
  | with_reducible refine go_i0 ?_
  | with_reducible refine go_addI ?_
  | with_reducible refine go_ltI ?_
  | with_reducible refine go_ltS ?_
  | with_reducible refine go_isiTI ?_
  | with_reducible refine go_isiTT ?_
  | ((with_reducible refine' go_isi ?h0 ?h1 ?h2 ?_); (case h0 => first | rfl | (simp; done) | assumption); (case h1 => decide); (case h2 => first | (exact (show isiB _ _ = true by decide)) | (exact (show isiB _ _ = false by decide)) | rfl))
  | ((with_reducible refine' go_iC ?h0 ?_); (case h0 => first | (exact Or.inr ⟨by decide, by decide⟩) | (exact Or.inl ⟨by decide, by decide⟩) | (exact ⟨by decide, by decide⟩) | (exact ⟨by decide, by decide, by decide⟩) | assumption | (show (0 : Int) < _; first | decide | omega) | (exact ⟨by omega, by omega⟩)))
  | with_reducible refine go_and ?_
  | with_reducible refine go_or ?_
  | with_reducible refine go_not ?_
  | with_reducible refine go_ixT0 ?_
  | with_reducible refine go_ixL0 ?_
  | ((with_reducible refine' go_ixT ?h0 ?_); (case h0 => first | rfl | (simp; done)))
  | ((with_reducible refine' go_ixL ?h0 ?_); (case h0 => first | rfl | (simp; done)))
  | ((with_reducible refine' go_ixP ?hw ?h0 ?_); (case hw => first | assumption | exact Wd.set_same .. | (simp; done)); (case h0 => first | rfl | (simp; done)))
  | with_reducible refine go_intI ?_
  | ((with_reducible refine' go_lenV ?h0 ?_); (case h0 => first | rfl | exact lenOf_ptr (by assumption) | exact lenOf_ptr (Wd.set_same ..) | (simp [sizeLine_val]; done)))
  | with_reducible refine go_sl ?_
  | with_reducible refine go_part ?_
  | with_reducible refine go_noPart ?_
  | ((with_reducible refine go_slT ?_); try rw [cutD_1])
  | with_reducible refine go_slL ?_
  | ((with_reducible refine' go_slP ?hw ?_); (case hw => assumption))
  | with_reducible refine go_tup ?_
  | with_reducible refine go_lst ?_
  | ((with_reducible refine' go_len ?h0 ?_); (case h0 => (first | (simp [sizeLine_val]; done) | (rw [sizeLine_val]; omega) | (rw [sizeLine_val]; simp; omega))))
  | with_reducible refine go_newF ?_
  | ((with_reducible refine go_newT ?_))
  | ((with_reducible refine' go_addT ?h0 ?_); (case h0 => (first | (simp [sizeLine_val]; done) | (rw [sizeLine_val]; omega) | (rw [sizeLine_val]; simp; omega))))
  | with_reducible refine go_for ?_
  | with_reducible refine go_iseq ?_
  | with_reducible refine go_walkT ?_
  | with_reducible refine go_walkL ?_
  | with_reducible refine go_walkF ?_
  | with_reducible refine go_walkS ?_
  | ((with_reducible refine' go_walkP ?hw ?_); (case hw => assumption))
  | with_reducible refine go_rng1 ?_
  | ((with_reducible refine' go_rng1' ?h0 ?_); (case h0 => constructor <;> first | decide | omega))
  | with_reducible refine go_rng2 ?_
  | ((with_reducible refine' go_rng2' ?h0 ?_); (case h0 => refine ⟨?_, ?_, ?_, ?_⟩ <;> first | decide | omega))
  | with_reducible refine go_lc ?_
  | ((with_reducible refine' go_gtup ?h0 ?_); (case h0 => rfl))
  | with_reducible refine go_gcons ?_
  | with_reducible refine go_gnil ?_
  | with_reducible refine go_gsub ?_
  | ((with_reducible refine' go_setL2 ?h0 ?h1 ?_); (case h0 => first | rfl | (simp [ixN]; done)); (case h1 => rfl))
  | ((with_reducible refine' go_setL ?hw ?h0 ?h1 ?_); (case hw => first | assumption | exact Wd.set_same .. | (simp; done)); (case h0 => first | rfl | (simp [ixN]; done)); (case h1 => rfl))
  | ((with_reducible refine' go_aug ?h0 ?_); (case h0 => rfl))
  | with_reducible refine go_bm ?_
  | with_reducible refine go_tyLl ?_
  | ((with_reducible refine' go_tyLp ?hw ?_); (case hw => first | assumption | exact Wd.set_same .. | (simp; done)))
  | ((with_reducible refine' go_append2 ?h0 ?_); (case h0 => first | (simp [sizeLine_val]; done) | (rw [sizeLine_val]; omega) | (rw [sizeLine_val]; simp; omega)))
  | ((with_reducible refine' go_append ?hw ?h0 ?_); (case hw => first | assumption | exact Wd.set_same .. | (simp; done)); (case h0 => first | (simp [sizeLine_val]; done) | (rw [sizeLine_val]; omega) | (rw [sizeLine_val]; simp; omega)))
  | with_reducible refine go_m1 ?_
  | with_reducible refine go_mstr ?_
  | with_reducible refine go_andV ?_
  | with_reducible refine go_orV ?_
  | with_reducible refine go_notV ?_
  | with_reducible refine go_if ?_
  | with_reducible refine go_chain ?_
  | with_reducible refine go_un ?_
  | with_reducible refine go_u ?_
  | with_reducible refine go_isN ?_
  | with_reducible refine go_isnN ?_
  | with_reducible refine go_isB ?_
  | with_reducible refine go_isnB ?_
  | with_reducible refine go_retN ?_
  | with_reducible refine go_break ?_
  | with_reducible refine go_cont ?_
  | with_reducible refine go_max2 ?_
  | with_reducible refine go_min2 ?_
  | with_reducible refine go_listT ?_
  | with_reducible refine go_tupleT ?_
  | ((with_reducible refine' go_listL ?h0 ?_); (case h0 => first | rfl | (exact lstRd_ptr (by assumption))))
  | ((with_reducible refine' go_tupleL ?h0 ?_); (case h0 => first | rfl | (exact lstRd_ptr (by assumption))))
  | with_reducible refine go_yes ?_
  | ((with_reducible refine' go_varF ?h0 ?hw ?hf ?hd ?_); (case h0 => rfl); (case hw => first | assumption | exact Wd.set_same .. | (simp; done)); (case hf => rfl); (case hd => first | (exact Wd.del_set (by assumption)) | rfl))
  | ((with_reducible refine' go_frz ?h0 ?hw ?hf ?hd ?hs ?_); (case h0 => rfl); (case hw => first | assumption | exact Wd.set_same .. | (simp; done)); (case hf => rfl); (case hd => first | (exact Wd.del_set (by assumption)) | rfl); (case hs => rfl))
  | with_reducible refine go_dk0F ?_
  | with_reducible refine go_get1 ?_
  | with_reducible refine go_get2 ?_
  | ((with_reducible refine' go_dv ?h0 ?_); (case h0 => first | rfl | exact dkOf_ptr (by assumption) | exact dkOf_ptr (Wd.set_same ..)))
  | with_reducible refine go_par ?_
  | with_reducible refine go_par2 ?_
  | with_reducible refine go_zip ?_
  | with_reducible refine go_fmt ?_
  | with_reducible refine go_j ?_
  | with_reducible refine go_jc ?_
  | with_reducible refine go_jn ?_
  | ((with_reducible refine' go_inDk ?h1 ?_); (case h1 => rfl))
  | ((with_reducible refine' go_ninDk ?h1 ?_); (case h1 => rfl))
  | ((with_reducible refine' go_inDp ?hw ?h1 ?_); (case hw => first | assumption | exact Wd.set_same ..); (case h1 => rfl))
  | ((with_reducible refine' go_ninDp ?hw ?h1 ?_); (case hw => first | assumption | exact Wd.set_same ..); (case h1 => rfl))
  | ((with_reducible refine' go_keys ?h0 ?_); (case h0 => rfl))
  | ((with_reducible refine' go_vals ?h0 ?_); (case h0 => rfl))
  | ((with_reducible refine' go_items ?h0 ?_); (case h0 => rfl))
  | ((with_reducible refine' go_itemsT ?h0 ?_); (case h0 => rfl))
  | with_reducible refine go_intB ?_
  | with_reducible refine go_callX ?_
  | with_reducible refine go_callXN ?_
  | with_reducible refine go_raise ?_
  | with_reducible refine go_try ?_
  | with_reducible refine go_tryAs ?_
  | with_reducible refine go_raise1 ?_
  | with_reducible refine go_disp1 ?_
  | with_reducible refine go_irev ?_
  | with_reducible refine go_tryM ?_
  | with_reducible refine go_dc ?_
  | ((with_reducible refine' go_dcItems ?h0 ?_); (case h0 => rfl))
  | with_reducible refine go_tryAsF ?_
  | ((with_reducible refine' go_xf ?h0 ?_); (case h0 => rfl))
  | ((with_reducible refine' go_isE ?h0 ?_); (case h0 => rfl))
  | with_reducible refine go_fld ?_
  | ((with_reducible refine' go_fldV ?h0 ?h1 ?_); (case h0 => first | rfl | exact objOf_ptr (by assumption) | exact objOf_ptr (Wd.set_same ..)); (case h1 => rfl))
  | with_reducible refine go_fldS ?_
  | with_reducible refine go_meth ?_
  | ((with_reducible refine' go_methV ?h0 ?h1 ?_); (case h0 => first | rfl | exact objOf_ptr (by assumption) | exact objOf_ptr (Wd.set_same ..)); (case h1 => rfl))
  | with_reducible refine go_methA ?_
  | with_reducible refine go_callKw ?_
  | with_reducible refine go_methN ?_
  | with_reducible refine go_make ?_
  | with_reducible refine go_own ?_
  | ((with_reducible refine' go_lenO ?h0 ?_); (case h0 => first | rfl | exact objOf_ptr (by assumption) | exact objOf_ptr (Wd.set_same ..)))
  | ((with_reducible refine' go_inOb ?h0 ?_); (case h0 => first | rfl | exact objOf_ptr (by assumption) | exact objOf_ptr (Wd.set_same ..)))
  | ((with_reducible refine' go_ninOb ?h0 ?_); (case h0 => first | rfl | exact objOf_ptr (by assumption) | exact objOf_ptr (Wd.set_same ..)))
  | walk_at "rdx")
local macro_rules | `(tactic| walk_at "rd") => `(tactic| (repeat' (walk_at "rd1")))
local macro_rules | `(tactic| walk_at "rs") => `(tactic| (repeat' (first | walk_at "rd1" | refine go_iteD (fun _ => ?_) (fun _ => ?_) | refine go_iteN (fun _ => ?_) (fun _ => ?_) | refine go_iteDN (fun _ => ?_) (fun _ => ?_))))

abbrev PRG : Program := PySem.Challenge.pw_joinedends_k16_moved_and_instantiated
def topS (i : Nat) : Stmt := PRG.main.body.getD i (.Pass ⟨0, 0, 0, 0⟩)
abbrev s_is_variable : Stmt := topS 1
abbrev s_substitute : Stmt := topS 2
abbrev s_moved : Stmt := topS 4
abbrev s_compose : Stmt := topS 5
abbrev s_instantiated : Stmt := topS 6
abbrev s__law_mix : Stmt := topS 8
abbrev s__law_number : Stmt := topS 9
abbrev s__law_state : Stmt := topS 10
abbrev s__law_draw : Stmt := topS 11
abbrev s__law_word : Stmt := topS 12
abbrev s__law_names : Stmt := topS 13
abbrev s__law_operations : Stmt := topS 14
abbrev s__law_leaf : Stmt := topS 15
abbrev s__law_term : Stmt := topS 16
abbrev s__law_subterm : Stmt := topS 17
abbrev s__law_replace : Stmt := topS 18
abbrev s__law_positions : Stmt := topS 19
abbrev s__law_substitute : Stmt := topS 20
abbrev s__law_variables : Stmt := topS 21
abbrev s__law_same : Stmt := topS 22
abbrev s__law_pattern : Stmt := topS 23
abbrev s__law_step : Stmt := topS 24
abbrev s__law_chain : Stmt := topS 25
abbrev s__law_equation : Stmt := topS 26
abbrev s__law_has_position : Stmt := topS 27
abbrev s__law_is_step : Stmt := topS 28
abbrev s__law_next : Stmt := topS 29
abbrev s__law_follow : Stmt := topS 30
abbrev s_law : Stmt := topS 31
def d_is_variable : He.DefD := ⟨("is_variable", none), "is_variable", "is_variable", defArgs s_is_variable, defBody s_is_variable, defScope s_is_variable, [], []⟩
def d_substitute : He.DefD := ⟨("substitute", none), "substitute", "substitute", defArgs s_substitute, defBody s_substitute, defScope s_substitute, [], []⟩
def d_moved : He.DefD := ⟨("moved", none), "moved", "moved", defArgs s_moved, defBody s_moved, defScope s_moved, [], []⟩
def d_compose : He.DefD := ⟨("compose", none), "compose", "compose", defArgs s_compose, defBody s_compose, defScope s_compose, [], []⟩
def d_instantiated : He.DefD := ⟨("instantiated", none), "instantiated", "instantiated", defArgs s_instantiated, defBody s_instantiated, defScope s_instantiated, [], []⟩
def d__law_mix : He.DefD := ⟨("_law_mix", none), "_law_mix", "_law_mix", defArgs s__law_mix, defBody s__law_mix, defScope s__law_mix, [], []⟩
def d__law_number : He.DefD := ⟨("_law_number", none), "_law_number", "_law_number", defArgs s__law_number, defBody s__law_number, defScope s__law_number, [], []⟩
def d__law_state : He.DefD := ⟨("_law_state", none), "_law_state", "_law_state", defArgs s__law_state, defBody s__law_state, defScope s__law_state, [], []⟩
def d__law_draw : He.DefD := ⟨("_law_draw", none), "_law_draw", "_law_draw", defArgs s__law_draw, defBody s__law_draw, defScope s__law_draw, [], []⟩
def d__law_word : He.DefD := ⟨("_law_word", none), "_law_word", "_law_word", defArgs s__law_word, defBody s__law_word, defScope s__law_word, [], []⟩
def d__law_names : He.DefD := ⟨("_law_names", none), "_law_names", "_law_names", defArgs s__law_names, defBody s__law_names, defScope s__law_names, [], []⟩
def d__law_operations : He.DefD := ⟨("_law_operations", none), "_law_operations", "_law_operations", defArgs s__law_operations, defBody s__law_operations, defScope s__law_operations, [], []⟩
def d__law_leaf : He.DefD := ⟨("_law_leaf", none), "_law_leaf", "_law_leaf", defArgs s__law_leaf, defBody s__law_leaf, defScope s__law_leaf, [], []⟩
def d__law_term : He.DefD := ⟨("_law_term", none), "_law_term", "_law_term", defArgs s__law_term, defBody s__law_term, defScope s__law_term, [], []⟩
def d__law_subterm : He.DefD := ⟨("_law_subterm", none), "_law_subterm", "_law_subterm", defArgs s__law_subterm, defBody s__law_subterm, defScope s__law_subterm, [], []⟩
def d__law_replace : He.DefD := ⟨("_law_replace", none), "_law_replace", "_law_replace", defArgs s__law_replace, defBody s__law_replace, defScope s__law_replace, [], []⟩
def d__law_positions : He.DefD := ⟨("_law_positions", none), "_law_positions", "_law_positions", defArgs s__law_positions, defBody s__law_positions, defScope s__law_positions, [], []⟩
def d__law_substitute : He.DefD := ⟨("_law_substitute", none), "_law_substitute", "_law_substitute", defArgs s__law_substitute, defBody s__law_substitute, defScope s__law_substitute, [], []⟩
def d__law_variables : He.DefD := ⟨("_law_variables", none), "_law_variables", "_law_variables", defArgs s__law_variables, defBody s__law_variables, defScope s__law_variables, [], []⟩
def d__law_same : He.DefD := ⟨("_law_same", none), "_law_same", "_law_same", defArgs s__law_same, defBody s__law_same, defScope s__law_same, [], []⟩
def d__law_pattern : He.DefD := ⟨("_law_pattern", none), "_law_pattern", "_law_pattern", defArgs s__law_pattern, defBody s__law_pattern, defScope s__law_pattern, [], []⟩
def d__law_step : He.DefD := ⟨("_law_step", none), "_law_step", "_law_step", defArgs s__law_step, defBody s__law_step, defScope s__law_step, [], []⟩
def d__law_chain : He.DefD := ⟨("_law_chain", none), "_law_chain", "_law_chain", defArgs s__law_chain, defBody s__law_chain, defScope s__law_chain, [], []⟩
def d__law_equation : He.DefD := ⟨("_law_equation", none), "_law_equation", "_law_equation", defArgs s__law_equation, defBody s__law_equation, defScope s__law_equation, [], []⟩
def d__law_has_position : He.DefD := ⟨("_law_has_position", none), "_law_has_position", "_law_has_position", defArgs s__law_has_position, defBody s__law_has_position, defScope s__law_has_position, [], []⟩
def d__law_is_step : He.DefD := ⟨("_law_is_step", none), "_law_is_step", "_law_is_step", defArgs s__law_is_step, defBody s__law_is_step, defScope s__law_is_step, [], []⟩
def d__law_next : He.DefD := ⟨("_law_next", none), "_law_next", "_law_next", defArgs s__law_next, defBody s__law_next, defScope s__law_next, [], []⟩
def d__law_follow : He.DefD := ⟨("_law_follow", none), "_law_follow", "_law_follow", defArgs s__law_follow, defBody s__law_follow, defScope s__law_follow, [], []⟩
def d_law : He.DefD := ⟨("law", none), "law", "law", defArgs s_law, defBody s_law, defScope s_law, [], []⟩
def fnL0 : List He.DefD := [d_is_variable, d_substitute, d_moved, d_compose, d_instantiated, d__law_mix, d__law_number, d__law_state, d__law_draw, d__law_word, d__law_names, d__law_operations, d__law_leaf, d__law_term, d__law_subterm, d__law_replace, d__law_positions, d__law_substitute, d__law_variables, d__law_same, d__law_pattern, d__law_step, d__law_chain, d__law_equation, d__law_has_position, d__law_is_step, d__law_next, d__law_follow, d_law]
def fnL : List He.DefD := fnL0
def faL0 : List He.Fa := [.glo "is_variable", .glo "substitute", .glo "moved", .glo "compose", .glo "instantiated", .glo "_law_mix", .glo "_law_number", .glo "_law_state", .glo "_law_draw", .glo "_law_word", .glo "_law_names", .glo "_law_operations", .glo "_law_leaf", .glo "_law_term", .glo "_law_subterm", .glo "_law_replace", .glo "_law_positions", .glo "_law_substitute", .glo "_law_variables", .glo "_law_same", .glo "_law_pattern", .glo "_law_step", .glo "_law_chain", .glo "_law_equation", .glo "_law_has_position", .glo "_law_is_step", .glo "_law_next", .glo "_law_follow", .glo "law", .free "bool"]
def faL1 : List He.Fa := [.free "dict", .free "int", .free "isinstance", .free "len", .free "list", .free "range", .free "repr", .free "str", .free "tuple"]
def faL : List He.Fa := faL0 ++ faL1
def looseL0 : List PySem.Str := ["is_variable", "substitute", "moved", "compose", "instantiated", "_law_mix", "_law_number", "_law_state", "_law_draw", "_law_word", "_law_names", "_law_operations", "_law_leaf", "_law_term", "_law_subterm", "_law_replace", "_law_positions", "_law_substitute", "_law_variables", "_law_same", "_law_pattern", "_law_step", "_law_chain", "_law_equation", "_law_has_position", "_law_is_step", "_law_next", "_law_follow"]
def looseL : List PySem.Str := looseL0
def xsL : List Lk := [lkMod]
def ssL : List SupD := []
abbrev R : PySem.W.OpenRow := PySem.W.OpenLaw.row PySem.Challenge.rw_joinedends_k16_moved_and_instantiated
abbrev hk : PySem.W.Hook := hookY 4 faL fnL xsL ssL
def ob (s : PySem.W.SharedT) : AlY := obsYG 4 faL fnL xsL ssL (HandSHeadRun.getT s)
theorem ob_eq (s : PySem.W.SharedT) : ob s = hk.obs s.abs := obsYG_eq (HandSHeadRun.getT_eq s)
theorem run (w : World) : HandSHeadRun.RunEq R (PySem.W.view R.prog [31]) hk ob 8000 looseL w := by
  intro os
  kernel_rfl
def sp_is_variable : SpD := fun ds W Q _ => ∃ d a, ds = [d] ∧ tyOf W d = some a ∧ Q (.bl (isIntD d)) W
theorem len_is_variable : ∀ ds W Q E, sp_is_variable ds W Q E → ds.length = 1 := by
  rintro ds W Q E ⟨d, a, rfl, _⟩; rfl
theorem isIntD_ty {W : Wd} {d : D} {a : String} (h : tyOf W d = some a) : isIntD d = isiB a "int" := by
  unfold tyOf at h
  split at h
  all_goals first | (cases h; rfl) | skip
  · split at h <;> cases h <;> rfl
  · cases h

abbrev n_is_variable : List Str := ["term"]
def a_is_variable  : AS := aRet (aCB (dIsi) (aCons (aVar 0) (aCons (aC (.ty "int")) (aNil))))
theorem rd_is_variable {ds : List D} {W : Wd} {Q : DQ} {E : DX} (h : sp_is_variable ds W Q E) : a_is_variable (EN Q) (startD n_is_variable ds) W := by
  obtain ⟨d, a, rfl, e, q⟩ := h
  rw [isIntD_ty e] at q
  unfold a_is_variable
  walk_at "rd"
  exact q
theorem gc_isvT {t : Trm} {W : Wd} {Q : DQ} {E : DX} (h : Q (.bl t.isVar) W) : sp_is_variable [t.d] W Q E := ⟨_, _, rfl, tyOf_d W t, by rw [isIntD_d]; exact h⟩
theorem gc_isvI {v : Int} {W : Wd} {Q : DQ} {E : DX} (h : Q (.bl true) W) : sp_is_variable [.int v] W Q E := ⟨_, _, rfl, rfl, h⟩
theorem gc_isvA {ds : List D} {W : Wd} {Q : DQ} {E : DX} (h : Q (.bl false) W) : sp_is_variable [.tup ds] W Q E := ⟨_, _, rfl, rfl, h⟩
local macro_rules | `(tactic| walk_at "rdx") => `(tactic| first | with_reducible refine gc_isvI ?_ | with_reducible refine gc_isvA ?_ | with_reducible refine gc_isvT ?_)

theorem sc_is_variable : FnScope ["term"] ["term"] (defScope s_is_variable) := ⟨rfl, rfl, rfl, by decide +kernel, rfl, by decide +kernel, by decide +kernel⟩
theorem ok_is_variable {P : Program} {w : World} {K : PySem.W.Frag} {mg : Str → Option Value} {base : Heap} {k : Nat}  (F : Df K mg "is_variable" "is_variable" s_is_variable) (z_isinstance : mg "isinstance" = none) (z_int : mg "int" = none) : Fk P w K mg base CX0 (k + 1) "is_variable" ["term"] (sp_is_variable) := by
  have sc := sc_is_variable
  exact okF F sc (fun _ _ _ _ _ _ us hl => match us, hl with | [_], _ => rfl) len_is_variable fun cdv A outer s H E G f hr hgd => ⟨_, a_is_variable ,
    dss_one (ds_ret (de_callB call_isi sc_isi (by rfl) z_isinstance (by decide +kernel) (da_cons (dv 0) (da_cons (de_bty (by rfl) z_int (by decide +kernel)) (da_nil))))),
    fun ds W QD ED h => rd_is_variable h⟩
def sp_substitute (n : Nat) : SpD := fun ds W Q _ => ∃ (t : Trm) (dd : D) (kds : List (Key × D)) (s : Int → Trm), ds = [t.d, dd] ∧ (∀ W', (∀ l m, W l = some m → W' l = some m) → dkOf W' dd = some kds) ∧ (∀ v, (look kds (.inl v)).getD (.int v) = (s v).d) ∧ t.depth ≤ n ∧ t.size ≤ 1000000 ∧ Q (t.sub s).d W
theorem len_substitute {n : Nat} : ∀ ds W Q E, sp_substitute n ds W Q E → ds.length = 2 := by
  rintro ds W Q E ⟨t, _, _, _, rfl, _⟩; rfl
theorem none_substitute : ∀ ds W Q E, ¬ sp_substitute 0 ds W Q E := fun ds W Q E ⟨t, _, _, _, _, _, _, h, _⟩ => by have := t.depth_pos; omega
theorem gc_substitute {n : Nat} {t : Trm} {dd : D} {kds : List (Key × D)} {s : Int → Trm} {W : Wd} {Q : DQ} {E : DX} (h0 : ∀ W', (∀ l m, W l = some m → W' l = some m) → dkOf W' dd = some kds) (h1 : ∀ v, (look kds (.inl v)).getD (.int v) = (s v).d) (h2 : t.depth ≤ n) (h3 : t.size ≤ 1000000) (k : Q (t.sub s).d W) : sp_substitute n [t.d, dd] W Q E := ⟨t, dd, kds, s, rfl, h0, h1, h2, h3, k⟩

abbrev n_substitute : List Str := ["term", "substitution", "result", "argument"]
def b1_substitute (n : Nat) : AS := aDrop (aBM tyL dAppend (aVar 2) (aCons (aCall (sp_substitute n) [] ED0 (aCons (aVar 3) (aCons (aVar 1) (aNil)))) (aNil)))
def a_substitute (n : Nat) : AS := aSeq (aIfS (aTest (aCall (sp_is_variable) [] ED0 (aCons (aVar 0) (aNil)))) (aRet (aGet2 (aVar 1) (aVar 0) (aVar 0))) (aNext)) (aSeq (aAsg (aLst true (aCons (aOp dIx (aVar 0) (aC (.int 0))) (aNil))) (agName 2)) (aSeq (aFor (aiSeq (aSl (dSl false) (aVar 0) (aPart (aC (.int 1))) (aNoPart))) (agName 3) (b1_substitute n)) (aFrz 2 (aRet (aCB (dTuple) (aCons (aVar 2) (aNil)))))))
theorem rd_substitute {n : Nat} {ds : List D} {W : Wd} {Q : DQ} {E : DX} (h : sp_substitute (n + 1) ds W Q E) : a_substitute n (EN Q) (startD n_substitute ds) W := by
  obtain ⟨t, dd, kds, s, rfl, hk, hs, hd, hz, q⟩ := h
  have hk0 := hk W fun _ _ h => h
  unfold a_substitute
  cases t with
  | var v =>
    rw [Trm.d_var]
    walk_at "rd"
    refine go_dv hk0 ?_
    walk_at "rd"
    refine go_dg hk0 rfl rfl ?_
    rw [hs v]
    exact q
  | app f ts =>
    have hd := depth_app_le.mp hd
    have hls := length_sizes ts
    rw [Trm.size] at hz
    rw [sub_app] at q
    rw [Trm.d_app]
    walk_at "rd"
    intro p hp
    have hup : ∀ (X : MO) (l : Addr) (m : MO), W l = some m → (W.set p X) l = some m := fun X l m h => Wd.set_fresh hp h
    walk_at "rd"
    refine forL_inv (items := ts.map Trm.d) (fun ds δ W' => ∃ (us vs : List Trm) (x : Option D), W' = W.set p (.lst (.str f :: (vs.map (Trm.sub s)).map Trm.d)) ∧ ds = us.map Trm.d ∧ vs ++ us = ts ∧
      δ = [some (.tup (.str f :: ts.map Trm.d)), some dd, some (.ptr p), x]) ⟨ts, [], none, rfl, rfl, rfl, rfl⟩ (fun _ _ _ _ => trivial) ?_ ?_
    · rintro d ds δ W' N ⟨us, vs, x, rfl, e, hv, rfl⟩ kk
      cases us with
      | nil => cases e
      | cons u us =>
        rw [List.map_cons] at e
        cases e
        have hu : u ∈ ts := by rw [← hv]; simp
        have hl2 := congrArg List.length hv
        simp only [List.length_append, List.length_cons] at hl2
        unfold b1_substitute
        walk_at "rd"
        refine gc_substitute (fun W' h => hk W' fun l m e => h l m (hup _ l m e)) hs (hd u hu) (by have := size_mem hu; omega) ?_
        walk_at "rd"
        exact kk _ _ ⟨us, vs ++ [u], _, by simp, rfl, by rw [← hv]; simp, rfl⟩
    · rintro δ W' ⟨us, vs, x, rfl, e, hv, rfl⟩
      cases us with
      | cons _ _ => cases e
      | nil =>
        rw [List.append_nil] at hv
        subst hv
        walk_at "rd"
        rw [← Trm.d_app]
        exact q

theorem sc_substitute : FnScope ["term", "substitution", "result", "argument"] ["term", "substitution"] (defScope s_substitute) := ⟨rfl, rfl, rfl, by decide +kernel, rfl, by decide +kernel, by decide +kernel⟩
theorem ok_substitute {P : Program} {w : World} {K : PySem.W.Frag} {mg : Str → Option Value} {base : Heap} {k : Nat} (n : Nat) (F : Df K mg "substitute" "substitute" s_substitute) (g_is_variable : Fk P w K mg base CX0 k "is_variable" ["term"] (sp_is_variable)) (g_substitute : Fk P w K mg base CX0 k "substitute" ["term", "substitution"] (sp_substitute n)) (z_tuple : mg "tuple" = none) : Fk P w K mg base CX0 (k + 1) "substitute" ["term", "substitution"] (sp_substitute (n + 1)) := by
  have sc := sc_substitute
  exact okF F sc (fun _ _ _ _ _ _ us hl => match us, hl with | [_, _], _ => rfl) len_substitute fun cdv A outer s H E G f hr hgd => ⟨_, a_substitute n,
    dss_cons (ds_if (dt_val (de_fn g_is_variable hr hgd (da_cons (dv 0) (da_nil)))) (dss_one (ds_ret (de_get2 (hu_of hr) (dv 1) (dv 0) (dv 0)))) (dss_nil)) (dss_cons (ds_set (i := 2) sc.nd rfl (.inl rfl) (de_lst true (da_cons (de_ix (ix_all (hu_of hr)) sr_ix (dv 0) (de_int)) (da_nil)))) (dss_cons (ds_for PassesOwn.never rfl (di_seq (de_slice sl_all sl_sim (dv 0) (do_some (de_int)) (do_none))) (dg_name (i := 3) sc.nd rfl (.inl rfl)) (dss_one (ds_expr (de_append (dv 2) (da_cons (de_fn g_substitute hr hgd (da_cons (dv 3) (da_cons (dv 1) (da_nil)))) (da_nil)))))) (dss_frz 2 (dss_one (ds_ret (de_callTy call_tuple_of sc_tuple (by rfl) z_tuple (by decide +kernel) (da_cons (dv 2) (da_nil)))))))),
    fun ds W QD ED h => rd_substitute h⟩
theorem all_substitute {P : Program} {w : World} {K : PySem.W.Frag} {mg : Str → Option Value} {base : Heap} {k : Nat} (F : Df K mg "substitute" "substitute" s_substitute) (g_is_variable : Fk P w K mg base CX0 k "is_variable" ["term"] (sp_is_variable)) (z_tuple : mg "tuple" = none) : ∀ n : Nat, Fk P w K mg base CX0 (k + n) "substitute" ["term", "substitution"] (sp_substitute n)
  | 0 => (Fk.none F none_substitute (fun _ _ _ _ _ _ us hl => match us, hl with | [_, _], _ => rfl)).mono (Nat.zero_le _)
  | n + 1 => ok_substitute n F  (g_is_variable.mono (Nat.le_add_right _ _)) (all_substitute F  g_is_variable z_tuple n) z_tuple
def sp_moved : SpD := fun ds W Q _ => ∃ (xs : List (Stq × D)) (q : List Int), ds = [.lst (xs.map fun z => z.1.dAt z.2), posD q] ∧ xs.length ≤ 1000000 ∧ q.length ≤ 1000 ∧ (∀ z ∈ xs, z.1.p.length ≤ 1000 ∧ dkOf W z.2 = some (dkS z.1.s)) ∧ ∀ (ys : List (Stq × Addr)) W', ys.map (·.1) = (xs.map (·.1)).map (Stq.mv q) → Grow W W' → (ys.map (·.2)).Nodup → (∀ y ∈ ys, W y.2 = none ∧ W' y.2 = some (.dk (dkS y.1.s))) → Q (.lst (ys.map fun y => y.1.dAt (.ptr y.2))) W'
theorem len_moved : ∀ ds W Q E, sp_moved ds W Q E → ds.length = 2 := by
  rintro ds W Q E ⟨_, _, rfl, _⟩; rfl
theorem gc_moved {xs : List (Stq × D)} {q : List Int} {W : Wd} {Q : DQ} {E : DX} (h0 : xs.length ≤ 1000000) (h2 : q.length ≤ 1000) (h1 : ∀ z ∈ xs, z.1.p.length ≤ 1000 ∧ dkOf W z.2 = some (dkS z.1.s)) (k : ∀ (ys : List (Stq × Addr)) W', ys.map (·.1) = (xs.map (·.1)).map (Stq.mv q) → Grow W W' → (ys.map (·.2)).Nodup → (∀ y ∈ ys, W y.2 = none ∧ W' y.2 = some (.dk (dkS y.1.s))) → Q (.lst (ys.map fun y => y.1.dAt (.ptr y.2))) W') : sp_moved [.lst (xs.map fun z => z.1.dAt z.2), posD q] W Q E := ⟨xs, q, rfl, h0, h2, h1, k⟩

abbrev n_moved : List Str := ["steps", "position", "result", "source", "is_forward", "inner", "substitution"]
def b1_moved  : AS := aDrop (aBM tyL dAppend (aVar 2) (aCons (aTup (aCons (aVar 3) (aCons (aVar 4) (aCons (aOp (dAdd false) (aVar 1) (aVar 5)) (aCons (aCB (dDict true) (aCons (aVar 6) (aNil))) (aNil)))))) (aNil)))
def a_moved  : AS := aSeq (aAsg (aLst true (aNil)) (agName 2)) (aSeq (aFor (aiSeq (aVar 0)) (agTup 4 (agCons (agName 3) (agCons (agName 4) (agCons (agName 5) (agCons (agName 6) (agNil)))))) (b1_moved)) (aRet (aVarF 2)))
theorem rd_moved {ds : List D} {W : Wd} {Q : DQ} {E : DX} (h : sp_moved ds W Q E) : a_moved (EN Q) (startD n_moved ds) W := by
  obtain ⟨xs, pq, rfl, hl, hpq, hx, q⟩ := h
  unfold a_moved
  walk_at "rd"
  intro r hr
  walk_at "rd"
  refine forL_inv (fun ds δ W' => ∃ (us : List (Stq × D)) (ys : List (Stq × Addr)) (x1 x2 x3 x4 : Option D), ds = us.map (fun z => z.1.dAt z.2) ∧ (ys.map (·.1)) ++ (us.map (·.1)).map (Stq.mv pq) = (xs.map (·.1)).map (Stq.mv pq) ∧ (∀ z ∈ us, z.1.p.length ≤ 1000 ∧ dkOf W z.2 = some (dkS z.1.s)) ∧ Grow W W' ∧ W' r = some (.lst (ys.map fun y => y.1.dAt (.ptr y.2))) ∧ (ys.map (·.2)).Nodup ∧ (∀ y ∈ ys, y.2 ≠ r ∧ W y.2 = none ∧ W' y.2 = some (.dk (dkS y.1.s))) ∧ ys.length + us.length = xs.length ∧
    δ = [some (.lst (xs.map fun z => z.1.dAt z.2)), some (posD pq), some (.ptr r), x1, x2, x3, x4]) ⟨xs, [], none, none, none, none, rfl, rfl, hx, (Grow.refl W).set hr, Wd.set_same .., List.nodup_nil, by simp, by simp, rfl⟩ (fun _ _ _ _ => trivial) ?_ ?_
  · rintro d ds δ W' N ⟨us, ys, x1, x2, x3, x4, e, he, hu, hg, hwr, hnd, hy, hl2, rfl⟩ kk
    cases us with
    | nil => cases e
    | cons u us =>
      rw [List.map_cons] at e
      cases e
      rw [List.length_cons] at hl2
      have hu1 := hu u List.mem_cons_self
      unfold b1_moved Stq.dAt posD
      walk_at "rd"
      refine go_dictO (dkOf_grow hg hu1.2) fun c hc => ?_
      have ncr : c ≠ r := fun z => by rw [z, hwr] at hc; cases hc
      walk_at "rd"
      refine go_append (ds := ys.map fun y => y.1.dAt (.ptr y.2)) (by rw [Wd.set_ne (Ne.symm ncr)]; exact hwr) (by rw [sizeLine_val, List.length_map]; omega) ?_
      refine kk _ _ ⟨us, ys ++ [(u.1.mv pq, c)], _, _, _, _, rfl, by rw [← he]; simp, fun z hz => hu z (List.mem_cons_of_mem _ hz), (hg.set (hg.none hc)).set hr, ?_, ?_, fun y hyy => ?_, by rw [List.length_append, List.length_singleton]; omega, rfl⟩
      · rw [Wd.set_same, List.map_append]
        show some (MO.lst (_ ++ [D.tup _])) = some (MO.lst (_ ++ [D.tup _]))
        unfold Stq.mv posD
        dsimp only
        rw [List.map_append]; rfl
      · rw [List.map_append]
        refine List.nodup_append.mpr ⟨hnd, by simp, fun a ha b hb => ?_⟩
        have hb : b = c := by simpa using hb
        subst hb
        rintro rfl
        obtain ⟨y, hyy, rfl⟩ := List.mem_map.mp ha
        have := (hy y hyy).2.2
        rw [hc] at this; cases this
      · rcases List.mem_append.mp hyy with h | h
        · obtain ⟨a1, a2, a3⟩ := hy y h
          refine ⟨a1, a2, ?_⟩
          rw [Wd.set_ne a1, Wd.set_ne (fun z => by rw [z, hc] at a3; cases a3)]
          exact a3
        · rw [List.mem_singleton.mp h]
          exact ⟨ncr, hg.none hc, by rw [Wd.set_ne ncr, Wd.set_same]; rfl⟩
  · rintro δ W' ⟨us, ys, x1, x2, x3, x4, e, he, hu, hg, hwr, hnd, hy, hl2, rfl⟩
    cases us with
    | cons _ _ => cases e
    | nil =>
      rw [List.map_nil, List.map_nil, List.append_nil] at he
      walk_at "rd"
      refine q ys _ he (hg.del hr) hnd fun y hyy => ?_
      obtain ⟨a1, a2, a3⟩ := hy y hyy
      exact ⟨a2, by rw [show (W'.del r) y.2 = W' y.2 by simp [Wd.del, a1]]; exact a3⟩

theorem sc_moved : FnScope ["steps", "position", "result", "source", "is_forward", "inner", "substitution"] ["steps", "position"] (defScope s_moved) := ⟨rfl, rfl, rfl, by decide +kernel, rfl, by decide +kernel, by decide +kernel⟩
theorem ok_moved {P : Program} {w : World} {K : PySem.W.Frag} {mg : Str → Option Value} {base : Heap} {k : Nat}  (F : Df K mg "moved" "moved" s_moved) (z_dict : mg "dict" = none) : Fk P w K mg base CX0 (k + 1) "moved" ["steps", "position"] (sp_moved) := by
  have sc := sc_moved
  exact okF F sc (fun _ _ _ _ _ _ us hl => match us, hl with | [_, _], _ => rfl) len_moved fun cdv A outer s H E G f hr hgd => ⟨_, a_moved ,
    dss_cons (ds_set (i := 2) sc.nd rfl (.inl rfl) (de_lst true (da_nil))) (dss_cons (ds_for PassesOwn.never rfl (di_seq (dv 0)) (dg_tup rfl (dgs_cons (dg_name (i := 3) sc.nd rfl (.inl rfl)) (dgs_cons (dg_name (i := 4) sc.nd rfl (.inl rfl)) (dgs_cons (dg_name (i := 5) sc.nd rfl (.inl rfl)) (dgs_cons (dg_name (i := 6) sc.nd rfl (.inl rfl)) (dgs_nil)))))) (dss_one (ds_expr (de_append (dv 2) (da_cons (de_tup (da_cons (dv 3) (da_cons (dv 4) (da_cons (de_op (op_addA) sr_add (dv 1) (dv 5)) (da_cons (de_callTy call_dictA sc_dict (by rfl) z_dict (by decide +kernel) (da_cons (dv 6) (da_nil))) (da_nil)))))) (da_nil)))))) (dss_one (ds_ret (dvF 2)))),
    fun ds W QD ED h => rd_moved h⟩
def sp_compose : SpD := fun ds W Q _ => ∃ (s tb : Sb), ds = [.dk (dkS s), .dk (dkS tb)] ∧ s.length ≤ 1000 ∧ (s.map (·.1)).Nodup ∧ (∀ vt ∈ s, vt.2.depth ≤ 140 ∧ vt.2.size ≤ 1000000) ∧ ∀ c, W c = none → Q (.ptr c) (W.set c (.dk (dkS (instS tb.fn s))))
theorem len_compose : ∀ ds W Q E, sp_compose ds W Q E → ds.length = 2 := by
  rintro ds W Q E ⟨_, _, rfl, _⟩; rfl
theorem gc_compose {s tb : Sb} {W : Wd} {Q : DQ} {E : DX} (h1 : s.length ≤ 1000) (h2 : (s.map (·.1)).Nodup) (h3 : ∀ vt ∈ s, vt.2.depth ≤ 140 ∧ vt.2.size ≤ 1000000) (k : ∀ c, W c = none → Q (.ptr c) (W.set c (.dk (dkS (instS tb.fn s))))) : sp_compose [.dk (dkS s), .dk (dkS tb)] W Q E := ⟨s, tb, rfl, h1, h2, h3, k⟩

abbrev n_compose : List Str := ["values", "substitution", "variable", "value"]
def e1_compose  : AE := aVar 2
def e2_compose  : AE := aCall (sp_substitute 140) [] ED0 (aCons (aVar 3) (aCons (aVar 1) (aNil)))
def a_compose  : AS := aRet (aDcItems true 0 (agTup 2 (agCons (agName 2) (agCons (agName 3) (agNil)))) (aYes) (e1_compose) (e2_compose) [2, 3])
theorem rd_compose {ds : List D} {W : Wd} {Q : DQ} {E : DX} (h : sp_compose ds W Q E) : a_compose (EN Q) (startD n_compose ds) W := by
  obtain ⟨s, tb, rfl, hl, hnd, hs, q⟩ := h
  unfold a_compose
  walk_at "rd"
  rw [show (dkS s).map (fun kv => D.tup [keyD kv.1, kv.2]) = s.map (fun vt : Int × Trm => D.tup [.int vt.1, vt.2.d]) by unfold dkS; rw [List.map_map]; rfl]
  refine dcE_pure (fun vt : Int × Trm => D.tup [.int vt.1, vt.2.d]) (fun vt => .inl vt.1) (fun vt => (vt.2.sub tb.fn).d) s (by rw [sizeLine_val]; omega) ?_ (fun _ _ _ => trivial) (fun vt hvt W' P P0 hP => ?_) ?_
  · rw [show (s.map fun vt => (Sum.inl vt.1 : Key)) = (s.map (·.1)).map Sum.inl by rw [List.map_map]; rfl]
    exact List.Pairwise.map Sum.inl (fun a b h => by simpa using h) hnd
  · have hvd := hs vt hvt
    have hlk := look_fn tb
    unfold e1_compose e2_compose
    walk_at "rd"
    refine gc_substitute (fun _ _ => rfl) hlk hvd.1 hvd.2 ?_
    exact hP
  · rw [if_pos rfl]
    intro c hc
    have e : dkS (instS tb.fn s) = s.map fun vt : Int × Trm => ((Sum.inl vt.1 : Key), (vt.2.sub tb.fn).d) := by unfold dkS instS; rw [List.map_map]; rfl
    rw [← e]
    exact q c hc

theorem sc_compose : FnScope ["values", "substitution", "variable", "value"] ["values", "substitution"] (defScope s_compose) := ⟨rfl, rfl, rfl, by decide +kernel, rfl, by decide +kernel, by decide +kernel⟩
theorem ok_compose {P : Program} {w : World} {K : PySem.W.Frag} {mg : Str → Option Value} {base : Heap} {k : Nat}  (F : Df K mg "compose" "compose" s_compose) (g_substitute : Fk P w K mg base CX0 k "substitute" ["term", "substitution"] (sp_substitute 140)) : Fk P w K mg base CX0 (k + 1) "compose" ["values", "substitution"] (sp_compose) := by
  have sc := sc_compose
  exact okF F sc (fun _ _ _ _ _ _ us hl => match us, hl with | [_, _], _ => rfl) len_compose fun cdv A outer s H E G f hr hgd => ⟨_, a_compose ,
    dss_one (ds_ret (de_dcItems true rfl sc.nd (dv 0) (blkOk_by (own := [("variable", 2), ("value", 3)]) (by kernel_rfl)) (ddc_of (fun _ _ _ _ _ => dg_tup rfl (dgs_cons (dg_name (i := 2) sc.nd rfl (.inl rfl)) (dgs_cons (dg_name (i := 3) sc.nd rfl (.inl rfl)) (dgs_nil)))) (fun _ _ _ _ _ => dts_nil) (fun _ _ _ _ _ => dv 2) (fun _ _ _ _ _ => de_fnK g_substitute hr hgd (da_cons (dv 3) (da_cons (dv 1) (da_nil))))) wipe_two)),
    fun ds W QD ED h => rd_compose h⟩
def sp_instantiated : SpD := fun ds W Q _ => ∃ (xs : List Stq) (tb : Sb), ds = [.lst (xs.map Stq.d), .dk (dkS tb)] ∧ xs.length ≤ 1000000 ∧ (∀ x ∈ xs, x.s.length ≤ 1000 ∧ (x.s.map (·.1)).Nodup ∧ ∀ vt ∈ x.s, vt.2.depth ≤ 140 ∧ vt.2.size ≤ 1000000) ∧ ∀ (ys : List (Stq × Addr)) W', ys.map (·.1) = xs.map (Stq.inst tb.fn) → Grow W W' → (ys.map (·.2)).Nodup → (∀ y ∈ ys, W y.2 = none ∧ W' y.2 = some (.dk (dkS y.1.s))) → Q (.lst (ys.map fun y => y.1.dAt (.ptr y.2))) W'
theorem len_instantiated : ∀ ds W Q E, sp_instantiated ds W Q E → ds.length = 2 := by
  rintro ds W Q E ⟨_, _, rfl, _⟩; rfl
theorem gc_instantiated {xs : List Stq} {tb : Sb} {W : Wd} {Q : DQ} {E : DX} (h0 : xs.length ≤ 1000000) (h1 : ∀ x ∈ xs, x.s.length ≤ 1000 ∧ (x.s.map (·.1)).Nodup ∧ ∀ vt ∈ x.s, vt.2.depth ≤ 140 ∧ vt.2.size ≤ 1000000) (k : ∀ (ys : List (Stq × Addr)) W', ys.map (·.1) = xs.map (Stq.inst tb.fn) → Grow W W' → (ys.map (·.2)).Nodup → (∀ y ∈ ys, W y.2 = none ∧ W' y.2 = some (.dk (dkS y.1.s))) → Q (.lst (ys.map fun y => y.1.dAt (.ptr y.2))) W') : sp_instantiated [.lst (xs.map Stq.d), .dk (dkS tb)] W Q E := ⟨xs, tb, rfl, h0, h1, k⟩

abbrev n_instantiated : List Str := ["steps", "substitution", "result", "source", "is_forward", "position", "values"]
def b1_instantiated  : AS := aDrop (aBM tyL dAppend (aVar 2) (aCons (aTup (aCons (aVar 3) (aCons (aVar 4) (aCons (aVar 5) (aCons (aCall (sp_compose) [] ED0 (aCons (aVar 6) (aCons (aVar 1) (aNil)))) (aNil)))))) (aNil)))
def a_instantiated  : AS := aSeq (aAsg (aLst true (aNil)) (agName 2)) (aSeq (aFor (aiSeq (aVar 0)) (agTup 4 (agCons (agName 3) (agCons (agName 4) (agCons (agName 5) (agCons (agName 6) (agNil)))))) (b1_instantiated)) (aRet (aVarF 2)))
theorem rd_instantiated {ds : List D} {W : Wd} {Q : DQ} {E : DX} (h : sp_instantiated ds W Q E) : a_instantiated (EN Q) (startD n_instantiated ds) W := by
  obtain ⟨xs, tb, rfl, hl, hx, q⟩ := h
  unfold a_instantiated
  walk_at "rd"
  intro r hr
  walk_at "rd"
  refine forL_inv (fun ds δ W' => ∃ (us : List Stq) (ys : List (Stq × Addr)) (x1 x2 x3 x4 : Option D), ds = us.map Stq.d ∧ (ys.map (·.1)) ++ us.map (Stq.inst tb.fn) = xs.map (Stq.inst tb.fn) ∧ (∀ x ∈ us, x.s.length ≤ 1000 ∧ (x.s.map (·.1)).Nodup ∧ ∀ vt ∈ x.s, vt.2.depth ≤ 140 ∧ vt.2.size ≤ 1000000) ∧ Grow W W' ∧ W' r = some (.lst (ys.map fun y => y.1.dAt (.ptr y.2))) ∧ (ys.map (·.2)).Nodup ∧ (∀ y ∈ ys, y.2 ≠ r ∧ W y.2 = none ∧ W' y.2 = some (.dk (dkS y.1.s))) ∧ ys.length + us.length = xs.length ∧
    δ = [some (.lst (xs.map Stq.d)), some (.dk (dkS tb)), some (.ptr r), x1, x2, x3, x4]) ⟨xs, [], none, none, none, none, rfl, rfl, hx, (Grow.refl W).set hr, Wd.set_same .., List.nodup_nil, by simp, by simp, rfl⟩ (fun _ _ _ _ => trivial) ?_ ?_
  · rintro d ds δ W' N ⟨us, ys, x1, x2, x3, x4, e, he, hu, hg, hwr, hnd, hy, hl2, rfl⟩ kk
    cases us with
    | nil => cases e
    | cons u us =>
      rw [List.map_cons] at e
      cases e
      rw [List.length_cons] at hl2
      obtain ⟨hu1, hu2, hu3⟩ := hu u List.mem_cons_self
      rw [show u.d = D.tup [u.src, .bl u.fwd, posD u.p, .dk (dkS u.s)] from rfl]
      unfold b1_instantiated
      walk_at "rd"
      refine gc_compose hu1 hu2 hu3 fun c hc => ?_
      have ncr : c ≠ r := fun z => by rw [z, hwr] at hc; cases hc
      walk_at "rd"
      refine go_append (ds := ys.map fun y => y.1.dAt (.ptr y.2)) (by rw [Wd.set_ne (Ne.symm ncr)]; exact hwr) (by rw [sizeLine_val, List.length_map]; omega) ?_
      refine kk _ _ ⟨us, ys ++ [(u.inst tb.fn, c)], _, _, _, _, rfl, by rw [← he]; simp, fun z hz => hu z (List.mem_cons_of_mem _ hz), (hg.set (hg.none hc)).set hr, by rw [Wd.set_same, List.map_append]; rfl, ?_, fun y hyy => ?_, by rw [List.length_append, List.length_singleton]; omega, rfl⟩
      · rw [List.map_append]
        refine List.nodup_append.mpr ⟨hnd, by simp, fun a ha b hb => ?_⟩
        have hb : b = c := by simpa using hb
        subst hb
        rintro rfl
        obtain ⟨y, hyy, rfl⟩ := List.mem_map.mp ha
        have := (hy y hyy).2.2
        rw [hc] at this; cases this
      · rcases List.mem_append.mp hyy with h | h
        · obtain ⟨a1, a2, a3⟩ := hy y h
          refine ⟨a1, a2, ?_⟩
          rw [Wd.set_ne a1, Wd.set_ne (fun z => by rw [z, hc] at a3; cases a3)]
          exact a3
        · rw [List.mem_singleton.mp h]
          exact ⟨ncr, hg.none hc, by rw [Wd.set_ne ncr, Wd.set_same]; rfl⟩
  · rintro δ W' ⟨us, ys, x1, x2, x3, x4, e, he, hu, hg, hwr, hnd, hy, hl2, rfl⟩
    cases us with
    | cons _ _ => cases e
    | nil =>
      rw [List.map_nil, List.append_nil] at he
      walk_at "rd"
      refine q ys _ he (hg.del hr) hnd fun y hyy => ?_
      obtain ⟨a1, a2, a3⟩ := hy y hyy
      exact ⟨a2, by rw [show (W'.del r) y.2 = W' y.2 by simp [Wd.del, a1]]; exact a3⟩

theorem sc_instantiated : FnScope ["steps", "substitution", "result", "source", "is_forward", "position", "values"] ["steps", "substitution"] (defScope s_instantiated) := ⟨rfl, rfl, rfl, by decide +kernel, rfl, by decide +kernel, by decide +kernel⟩
theorem ok_instantiated {P : Program} {w : World} {K : PySem.W.Frag} {mg : Str → Option Value} {base : Heap} {k : Nat}  (F : Df K mg "instantiated" "instantiated" s_instantiated) (g_compose : Fk P w K mg base CX0 k "compose" ["values", "substitution"] (sp_compose)) : Fk P w K mg base CX0 (k + 1) "instantiated" ["steps", "substitution"] (sp_instantiated) := by
  have sc := sc_instantiated
  exact okF F sc (fun _ _ _ _ _ _ us hl => match us, hl with | [_, _], _ => rfl) len_instantiated fun cdv A outer s H E G f hr hgd => ⟨_, a_instantiated ,
    dss_cons (ds_set (i := 2) sc.nd rfl (.inl rfl) (de_lst true (da_nil))) (dss_cons (ds_for PassesOwn.never rfl (di_seq (dv 0)) (dg_tup rfl (dgs_cons (dg_name (i := 3) sc.nd rfl (.inl rfl)) (dgs_cons (dg_name (i := 4) sc.nd rfl (.inl rfl)) (dgs_cons (dg_name (i := 5) sc.nd rfl (.inl rfl)) (dgs_cons (dg_name (i := 6) sc.nd rfl (.inl rfl)) (dgs_nil)))))) (dss_one (ds_expr (de_append (dv 2) (da_cons (de_tup (da_cons (dv 3) (da_cons (dv 4) (da_cons (dv 5) (da_cons (de_fn g_compose hr hgd (da_cons (dv 6) (da_cons (dv 1) (da_nil)))) (da_nil)))))) (da_nil)))))) (dss_one (ds_ret (dvF 2)))),
    fun ds W QD ED h => rd_instantiated h⟩
def sp__law_mix : SpD := fun ds W Q _ => ∃ c, ds = [.int c] ∧ ∀ m, 0 ≤ m → m < 2147483629 → Q (.int m) W
theorem len__law_mix : ∀ ds W Q E, sp__law_mix ds W Q E → ds.length = 1 := by
  rintro ds W Q E ⟨d, rfl, _⟩; rfl

abbrev n__law_mix : List Str := ["_law_cell", "_law_number_here"]
def a__law_mix  : AS := aSeq (aAsg (aOp (dIC (fun _ j => 0 < j) fun i j => .int (i % j)) (aCB (dInt) (aCons (aVar 0) (aNil))) (aC (.int 2147483647))) (agName 1)) (aSeq (aAsg (aOp (dIC (fun _ j => 0 < j) fun i j => .int (i % j)) (aCB (dInt) (aCons (aOp (dAdd false) (aOp (dIC CMul fun i j => .int (i * j)) (aVar 1) (aC (.int 48271))) (aC (.int 11))) (aNil))) (aC (.int 2147483647))) (agName 1)) (aRet (aOp (dIC (fun _ j => 0 < j) fun i j => .int (i % j)) (aCB (dInt) (aCons (aOp (dAdd false) (aOp (dIC CMul fun i j => .int (i * j)) (aVar 1) (aC (.int 69621))) (aC (.int 5))) (aNil))) (aC (.int 2147483629)))))
theorem rd__law_mix {ds : List D} {W : Wd} {Q : DQ} {E : DX} (h : sp__law_mix ds W Q E) : a__law_mix (EN Q) (startD n__law_mix ds) W := by
  obtain ⟨c, rfl, q⟩ := h
  unfold a__law_mix
  walk_at "rd"
  exact q _ (Int.emod_nonneg _ (by decide)) (Int.emod_lt_of_pos _ (by decide))

theorem sc__law_mix : FnScope ["_law_cell", "_law_number_here"] ["_law_cell"] (defScope s__law_mix) := ⟨rfl, rfl, rfl, by decide +kernel, rfl, by decide +kernel, by decide +kernel⟩
theorem ok__law_mix {P : Program} {w : World} {K : PySem.W.Frag} {mg : Str → Option Value} {base : Heap} {k : Nat}  (F : Df K mg "_law_mix" "_law_mix" s__law_mix) (z_int : mg "int" = none) : Fk P w K mg base CX0 (k + 1) "_law_mix" ["_law_cell"] (sp__law_mix) := by
  have sc := sc__law_mix
  exact okF F sc (fun _ _ _ _ _ _ us hl => match us, hl with | [_], _ => rfl) len__law_mix fun cdv A outer s H E G f hr hgd => ⟨_, a__law_mix ,
    dss_cons (ds_set (i := 1) sc.nd rfl (.inl rfl) (de_op op_mod sr_iC (de_callTy call_intA sc_int (by rfl) z_int (by decide +kernel) (da_cons (dv 0) (da_nil))) (de_int))) (dss_cons (ds_set (i := 1) sc.nd rfl (.inl rfl) (de_op op_mod sr_iC (de_callTy call_intA sc_int (by rfl) z_int (by decide +kernel) (da_cons (de_op (op_addA) sr_add (de_op op_mul sr_iC (dv 1) (de_int)) (de_int)) (da_nil))) (de_int))) (dss_one (ds_ret (de_op op_mod sr_iC (de_callTy call_intA sc_int (by rfl) z_int (by decide +kernel) (da_cons (de_op (op_addA) sr_add (de_op op_mul sr_iC (dv 1) (de_int)) (de_int)) (da_nil))) (de_int))))),
    fun ds W QD ED h => rd__law_mix h⟩
def sp__law_number : SpD := fun ds W Q _ => ∃ c, ds = [.int c] ∧ ∀ m, Q (.int m) W
theorem len__law_number : ∀ ds W Q E, sp__law_number ds W Q E → ds.length = 1 := by
  rintro ds W Q E ⟨d, rfl, _⟩; rfl

abbrev n__law_number : List Str := ["_law_cell", "_law_first"]
def a__law_number  : AS := aSeq (aIfS (aTest (aOp (dI0 fun i j => .bl (decide (j ≤ i))) (aVar 0) (aOp (dIC CPow fun i j => .int (i ^ j.toNat)) (aC (.int 10)) (aC (.int 18))))) (aRet (aVar 0)) (aNext)) (aSeq (aAsg (aCall (sp__law_mix) [] ED0 (aCons (aVar 0) (aNil))) (agName 1)) (aRet (aOp (dAdd false) (aOp (dIC CMul fun i j => .int (i * j)) (aVar 1) (aC (.int 2147483629))) (aCall (sp__law_mix) [] ED0 (aCons (aOp (dAdd false) (aVar 1) (aVar 0)) (aNil))))))
theorem rd__law_number {ds : List D} {W : Wd} {Q : DQ} {E : DX} (h : sp__law_number ds W Q E) : a__law_number (EN Q) (startD n__law_number ds) W := by
  obtain ⟨c, rfl, q⟩ := h
  unfold a__law_number
  walk_at "rd"
  refine go_iteD (fun _ => ?_) (fun _ => ?_)
  · walk_at "rd"
    exact q _
  · walk_at "rd"
    refine ⟨_, rfl, fun m _ _ => ?_⟩
    walk_at "rd"
    refine ⟨_, rfl, fun n _ _ => ?_⟩
    walk_at "rd"
    exact q _

theorem sc__law_number : FnScope ["_law_cell", "_law_first"] ["_law_cell"] (defScope s__law_number) := ⟨rfl, rfl, rfl, by decide +kernel, rfl, by decide +kernel, by decide +kernel⟩
theorem ok__law_number {P : Program} {w : World} {K : PySem.W.Frag} {mg : Str → Option Value} {base : Heap} {k : Nat}  (F : Df K mg "_law_number" "_law_number" s__law_number) (g__law_mix : Fk P w K mg base CX0 k "_law_mix" ["_law_cell"] (sp__law_mix)) : Fk P w K mg base CX0 (k + 1) "_law_number" ["_law_cell"] (sp__law_number) := by
  have sc := sc__law_number
  exact okF F sc (fun _ _ _ _ _ _ us hl => match us, hl with | [_], _ => rfl) len__law_number fun cdv A outer s H E G f hr hgd => ⟨_, a__law_number ,
    dss_cons (ds_if (dt_cmp (op_ge) sr_b0 (dv 0) (de_op op_pow sr_iC (de_int) (de_int)) (nomark _)) (dss_one (ds_ret (dv 0))) (dss_nil)) (dss_cons (ds_set (i := 1) sc.nd rfl (.inl rfl) (de_fn g__law_mix hr hgd (da_cons (dv 0) (da_nil)))) (dss_one (ds_ret (de_op (op_addA) sr_add (de_op op_mul sr_iC (dv 1) (de_int)) (de_fn g__law_mix hr hgd (da_cons (de_op (op_addA) sr_add (dv 1) (dv 0)) (da_nil))))))),
    fun ds W QD ED h => rd__law_number h⟩
def sp__law_state : SpD := fun ds W Q _ => ∃ ns : List Int, ds = [.flst (ns.map .int)] ∧ ∀ p o, W p = none → StO o → Q (.ptr p) (W.set p o)
theorem len__law_state : ∀ ds W Q E, sp__law_state ds W Q E → ds.length = 1 := by
  rintro ds W Q E ⟨d, rfl, _⟩; rfl

abbrev n__law_state : List Str := ["_law_script"]
def a__law_state  : AS := aRet (aLst true (aCons (aC (.int 0)) (aCons (aCB (dList false) (aCons (aVar 0) (aNil))) (aCons (aC (.int 0)) (aCons (aOp (dAdd false) (aC (.int 1)) (aCB (dLen) (aCons (aVar 0) (aNil)))) (aNil))))))
theorem rd__law_state {ds : List D} {W : Wd} {Q : DQ} {E : DX} (h : sp__law_state ds W Q E) : a__law_state (EN Q) (startD n__law_state ds) W := by
  obtain ⟨ns, rfl, q⟩ := h
  unfold a__law_state
  walk_at "rd"
  exact fun p hp => q p _ hp ⟨0, ns, 0, _, rfl, by decide⟩
theorem gc_state {ns : List Int} {W : Wd} {Q : DQ} {E : DX} (h : ∀ p o, W p = none → StO o → Q (.ptr p) (W.set p o)) : sp__law_state [.flst (ns.map .int)] W Q E := ⟨ns, rfl, h⟩

theorem sc__law_state : FnScope ["_law_script"] ["_law_script"] (defScope s__law_state) := ⟨rfl, rfl, rfl, by decide +kernel, rfl, by decide +kernel, by decide +kernel⟩
theorem ok__law_state {P : Program} {w : World} {K : PySem.W.Frag} {mg : Str → Option Value} {base : Heap} {k : Nat}  (F : Df K mg "_law_state" "_law_state" s__law_state) (z_len : mg "len" = none) (z_list : mg "list" = none) : Fk P w K mg base CX0 (k + 1) "_law_state" ["_law_script"] (sp__law_state) := by
  have sc := sc__law_state
  exact okF F sc (fun _ _ _ _ _ _ us hl => match us, hl with | [_], _ => rfl) len__law_state fun cdv A outer s H E G f hr hgd => ⟨_, a__law_state ,
    dss_one (ds_ret (de_lst true (da_cons (de_int) (da_cons (de_callTy call_list_of sc_list (by rfl) z_list (by decide +kernel) (da_cons (dv 0) (da_nil))) (da_cons (de_int) (da_cons (de_op (op_addA) sr_add (de_int) (de_callB call_lenA sc_len (by rfl) z_len (by decide +kernel) (da_cons (dv 0) (da_nil)))) (da_nil))))))),
    fun ds W QD ED h => rd__law_state h⟩
def sp__law_draw : SpD := fun ds W Q _ => ∃ st m o, ds = [.ptr st, .int m] ∧ W st = some o ∧ StO o ∧ 0 < m ∧ m < 1073741824 ∧ ∀ n o', 0 ≤ n → n < m → StO o' → Q (.int n) (W.set st o')
theorem len__law_draw : ∀ ds W Q E, sp__law_draw ds W Q E → ds.length = 2 := by
  rintro ds W Q E ⟨st, m, o, rfl, _⟩; rfl

abbrev n__law_draw : List Str := ["_law_state_here", "_law_many", "_law_value"]
def a__law_draw  : AS := aSeq (aIfS (aAnd (aTest (aOp (dLt) (aOp dIx (aVar 0) (aC (.int 0))) (aVar 1))) (aTest (aOp (dLt) (aOp dIx (aVar 0) (aC (.int 2))) (aCB (dLen) (aCons (aOp dIx (aVar 0) (aC (.int 1))) (aNil)))))) (aSeq (aAsg (aCall (sp__law_number) [] ED0 (aCons (aOp dIx (aOp dIx (aVar 0) (aC (.int 1))) (aOp dIx (aVar 0) (aC (.int 2)))) (aNil))) (agSub (aVar 0) (aC (.int 0)) dSet)) (aAsg (aOp (dAdd false) (aOp dIx (aVar 0) (aC (.int 2))) (aC (.int 1))) (agSub (aVar 0) (aC (.int 2)) dSet))) (aNext)) (aSeq (aIfS (aTest (aOp (dEq) (aOp dIx (aVar 0) (aC (.int 0))) (aC (.int 0)))) (aSeq (aAsg (aOp (dIC (fun _ j => 0 < j) fun i j => .int (i % j)) (aCB (dInt) (aCons (aOp (dAdd false) (aOp (dIC CMul fun i j => .int (i * j)) (aOp dIx (aVar 0) (aC (.int 3))) (aC (.int 48271))) (aC (.int 7))) (aNil))) (aC (.int 2147483647))) (agSub (aVar 0) (aC (.int 3)) dSet)) (aRet (aOp (dIC (fun _ j => 0 < j) fun i j => .int (i % j)) (aCB (dInt) (aCons (aOp (dIC CDiv fun i j => .int (i / j)) (aOp dIx (aVar 0) (aC (.int 3))) (aC (.int 11))) (aNil))) (aVar 1)))) (aNext)) (aSeq (aAsg (aOp (dIC (fun _ j => 0 < j) fun i j => .int (i % j)) (aCB (dInt) (aCons (aOp dIx (aVar 0) (aC (.int 0))) (aNil))) (aVar 1)) (agName 2)) (aSeq (aAsg (aOp (dIC CDiv fun i j => .int (i / j)) (aOp dIx (aVar 0) (aC (.int 0))) (aVar 1)) (agSub (aVar 0) (aC (.int 0)) dSet)) (aRet (aVar 2)))))
theorem rd__law_draw {ds : List D} {W : Wd} {Q : DQ} {E : DX} (h : sp__law_draw ds W Q E) : a__law_draw (EN Q) (startD n__law_draw ds) W := by
  obtain ⟨st, m, o, rfl, hw, ⟨r, xs, i, c, rfl, hi⟩, h0, h1, q⟩ := h
  unfold a__law_draw
  have hm : ∀ k : Int, 0 ≤ k % m ∧ k % m < m := fun k => ⟨Int.emod_nonneg _ (by omega), Int.emod_lt_of_pos _ h0⟩
  walk_at "rs"
  · rename_i hl
    refine go_ixL (d := .int (xs[i.toNat]'(by simp at hl; omega))) (by rw [atI_of hi]; simp at hl; simp [hl]) ?_
    walk_at "rd"
    refine ⟨_, rfl, fun v => ?_⟩
    walk_at "rs"
    · exact q _ _ (hm _).1 (hm _).2 ⟨_, xs, _, _, rfl, by omega⟩
    · exact q _ _ (hm _).1 (hm _).2 ⟨_, xs, _, _, rfl, by omega⟩
  all_goals exact q _ _ (hm _).1 (hm _).2 ⟨_, xs, _, _, rfl, by omega⟩
theorem gc_draw {st : Addr} {m : Int} {o : MO} {W : Wd} {Q : DQ} {E : DX} (hw : W st = some o) (ho : StO o) (h0 : 0 < m) (h1 : m < 1073741824) (h : ∀ n o', 0 ≤ n → n < m → StO o' → Q (.int n) (W.set st o')) : sp__law_draw [.ptr st, .int m] W Q E := ⟨st, m, o, rfl, hw, ho, h0, h1, h⟩
theorem gc_draw2 {st : Addr} {m : Int} {o : MO} {W : Wd} {Q : DQ} {E : DX} (ho : StO o) (h0 : 0 < m) (h1 : m < 1073741824) (h : ∀ n o', 0 ≤ n → n < m → StO o' → Q (.int n) (W.set st o')) : sp__law_draw [.ptr st, .int m] (W.set st o) Q E := gc_draw (Wd.set_same ..) ho h0 h1 fun n o' a b c => by rw [Wd.set_set]; exact h n o' a b c
local macro_rules | `(tactic| walk_at "rdx") => `(tactic| first
  | ((with_reducible refine' gc_draw2 ?ho ?h0 ?h1 (fun n o' _ _ _ => ?_)); (case ho => assumption); (case h0 => first | decide | omega); (case h1 => first | decide | omega))
  | ((with_reducible refine' gc_draw ?hw ?ho ?h0 ?h1 (fun n o' _ _ _ => ?_)); (case hw => assumption); (case ho => assumption); (case h0 => first | decide | omega); (case h1 => first | decide | omega)))

theorem sc__law_draw : FnScope ["_law_state_here", "_law_many", "_law_value"] ["_law_state_here", "_law_many"] (defScope s__law_draw) := ⟨rfl, rfl, rfl, by decide +kernel, rfl, by decide +kernel, by decide +kernel⟩
theorem ok__law_draw {P : Program} {w : World} {K : PySem.W.Frag} {mg : Str → Option Value} {base : Heap} {k : Nat}  (F : Df K mg "_law_draw" "_law_draw" s__law_draw) (z_len : mg "len" = none) (g__law_number : Fk P w K mg base CX0 k "_law_number" ["_law_cell"] (sp__law_number)) (z_int : mg "int" = none) : Fk P w K mg base CX0 (k + 1) "_law_draw" ["_law_state_here", "_law_many"] (sp__law_draw) := by
  have sc := sc__law_draw
  exact okF F sc (fun _ _ _ _ _ _ us hl => match us, hl with | [_, _], _ => rfl) len__law_draw fun cdv A outer s H E G f hr hgd => ⟨_, a__law_draw ,
    dss_cons (ds_if (DW.dt (dw_and (dt_cmp (op_ltA (hu151 hr)) sr_lt (de_ix (ix_all (hu_of hr)) sr_ix (dv 0) (de_int)) (dv 1) (nomark _)) (dw_and1 (dt_cmp (op_ltA (hu151 hr)) sr_lt (de_ix (ix_all (hu_of hr)) sr_ix (dv 0) (de_int)) (de_callB call_lenA sc_len (by rfl) z_len (by decide +kernel) (da_cons (de_ix (ix_all (hu_of hr)) sr_ix (dv 0) (de_int)) (da_nil))) (nomark _))))) (dss_cons (ds_asg (de_fn g__law_number hr hgd (da_cons (de_ix (ix_all (hu_of hr)) sr_ix (de_ix (ix_all (hu_of hr)) sr_ix (dv 0) (de_int)) (de_ix (ix_all (hu_of hr)) sr_ix (dv 0) (de_int))) (da_nil))) (dg_sub (dv 0) (de_int) (set_all (hu_of hr)) set_sim)) (dss_one (ds_asg (de_op (op_addA) sr_add (de_ix (ix_all (hu_of hr)) sr_ix (dv 0) (de_int)) (de_int)) (dg_sub (dv 0) (de_int) (set_all (hu_of hr)) set_sim)))) (dss_nil)) (dss_cons (ds_if (dt_cmp (op_eqP (hu151 hr)) sr_eq (de_ix (ix_all (hu_of hr)) sr_ix (dv 0) (de_int)) (de_int) (nomark _)) (dss_cons (ds_asg (de_op op_mod sr_iC (de_callTy call_intA sc_int (by rfl) z_int (by decide +kernel) (da_cons (de_op (op_addA) sr_add (de_op op_mul sr_iC (de_ix (ix_all (hu_of hr)) sr_ix (dv 0) (de_int)) (de_int)) (de_int)) (da_nil))) (de_int)) (dg_sub (dv 0) (de_int) (set_all (hu_of hr)) set_sim)) (dss_one (ds_ret (de_op op_mod sr_iC (de_callTy call_intA sc_int (by rfl) z_int (by decide +kernel) (da_cons (de_op op_fdiv sr_iC (de_ix (ix_all (hu_of hr)) sr_ix (dv 0) (de_int)) (de_int)) (da_nil))) (dv 1))))) (dss_nil)) (dss_cons (ds_set (i := 2) sc.nd rfl (.inl rfl) (de_op op_mod sr_iC (de_callTy call_intA sc_int (by rfl) z_int (by decide +kernel) (da_cons (de_ix (ix_all (hu_of hr)) sr_ix (dv 0) (de_int)) (da_nil))) (dv 1))) (dss_cons (ds_asg (de_op op_fdiv sr_iC (de_ix (ix_all (hu_of hr)) sr_ix (dv 0) (de_int)) (dv 1)) (dg_sub (dv 0) (de_int) (set_all (hu_of hr)) set_sim)) (dss_one (ds_ret (dv 2)))))),
    fun ds W QD ED h => rd__law_draw h⟩
def sp__law_word : SpD := fun ds W Q _ => ∃ st m o, ds = [.ptr st, .int m] ∧ W st = some o ∧ StO o ∧ 0 ≤ m ∧ m ≤ 1000 ∧ ∀ x o', Low x → x.length = m.toNat → StO o' → Q (.str x) (W.set st o')
theorem len__law_word : ∀ ds W Q E, sp__law_word ds W Q E → ds.length = 2 := by
  rintro ds W Q E ⟨st, m, o, rfl, _⟩; rfl

abbrev n__law_word : List Str := ["_law_state_here", "_law_many", "_law_letters", "_law_k"]
def e1__law_word  : AE := aOp dIx (aVar 2) (aCall (sp__law_draw) [] ED0 (aCons (aVar 0) (aCons (aC (.int 26)) (aNil))))
def a__law_word  : AS := aSeq (aAsg (aC (.str "abcdefghijklmnopqrstuvwxyz")) (agName 2)) (aRet (aM1 dJoin (aC (.str "")) (aLc false (aiRng1 (aCons (aVar 1) (aNil))) (agName 3) (aYes) (e1__law_word) [3])))
theorem rd__law_word {ds : List D} {W : Wd} {Q : DQ} {E : DX} (h : sp__law_word ds W Q E) : a__law_word (EN Q) (startD n__law_word ds) W := by
  obtain ⟨st, m, o, rfl, hw, ho, h0, h1, q⟩ := h
  unfold a__law_word
  walk_at "rd"
  refine lcE_draw (st := st) (items := rangeD 0 m.toNat) (fun ds acc => acc.length + ds.length = m.toNat ∧ ∀ d ∈ acc, ∃ c, d = .str ⟨#[c]⟩ ∧ 97 ≤ c ∧ c ≤ 122) hw ho ⟨by rw [rangeD_length]; simp, by simp⟩ (by rw [rangeD_length, sizeLine_val]; omega) ?_ ?_
  · rintro d ds acc W' o Q' ⟨h2, h3⟩ hw' ho' k
    unfold e1__law_word
    walk_at "rd"
    rename_i n o' hn0 hn1 ho2
    refine go_abc hn0 hn1 (k _ _ ho2 ⟨?_, ?_⟩)
    · simp at h2 ⊢; omega
    · intro d hd
      rcases List.mem_append.mp hd with hd | hd
      · exact h3 d hd
      · rw [List.mem_singleton] at hd
        exact ⟨_, hd, by omega, by omega⟩
  · rintro acc o' ⟨h2, h3⟩ ho2
    obtain ⟨ys, rfl, e, g⟩ := map_str_of h3
    obtain ⟨w1, w2⟩ := word_of g
    simp at h2
    walk_at "rd"
    refine go_join (by rw [ones_sum ys fun y hy => by obtain ⟨c, rfl, _⟩ := g y hy; rfl]; have : (("" : Str)).length = 0 := by decide +kernel
                       rw [this]; omega) ?_
    exact q _ _ w1 (by rw [w2]; omega) ho2
theorem gc_word {st : Addr} {m : Int} {o : MO} {W : Wd} {Q : DQ} {E : DX} (hw : W st = some o) (ho : StO o) (h0 : 0 ≤ m) (h1 : m ≤ 1000) (h : ∀ x o', Low x → x.length = m.toNat → StO o' → Q (.str x) (W.set st o')) : sp__law_word [.ptr st, .int m] W Q E := ⟨st, m, o, rfl, hw, ho, h0, h1, h⟩
theorem gc_word2 {st : Addr} {m : Int} {o : MO} {W : Wd} {Q : DQ} {E : DX} (ho : StO o) (h0 : 0 ≤ m) (h1 : m ≤ 1000) (h : ∀ x o', Low x → x.length = m.toNat → StO o' → Q (.str x) (W.set st o')) : sp__law_word [.ptr st, .int m] (W.set st o) Q E := gc_word (Wd.set_same ..) ho h0 h1 fun n o' a b c => by rw [Wd.set_set]; exact h n o' a b c
local macro_rules | `(tactic| walk_at "rdx") => `(tactic| first
  | ((with_reducible refine' gc_word2 ?ho ?h0 ?h1 (fun n o' _ _ _ => ?_)); (case ho => assumption); (case h0 => first | decide | omega); (case h1 => first | decide | omega))
  | ((with_reducible refine' gc_word ?hw ?ho ?h0 ?h1 (fun n o' _ _ _ => ?_)); (case hw => assumption); (case ho => assumption); (case h0 => first | decide | omega); (case h1 => first | decide | omega)))

theorem sc__law_word : FnScope ["_law_state_here", "_law_many", "_law_letters", "_law_k"] ["_law_state_here", "_law_many"] (defScope s__law_word) := ⟨rfl, rfl, rfl, by decide +kernel, rfl, by decide +kernel, by decide +kernel⟩
theorem ok__law_word {P : Program} {w : World} {K : PySem.W.Frag} {mg : Str → Option Value} {base : Heap} {k : Nat}  (F : Df K mg "_law_word" "_law_word" s__law_word) (z_range : mg "range" = none) (g__law_draw : Fk P w K mg base CX0 k "_law_draw" ["_law_state_here", "_law_many"] (sp__law_draw)) : Fk P w K mg base CX0 (k + 1) "_law_word" ["_law_state_here", "_law_many"] (sp__law_word) := by
  have sc := sc__law_word
  exact okF F sc (fun _ _ _ _ _ _ us hl => match us, hl with | [_, _], _ => rfl) len__law_word fun cdv A outer s H E G f hr hgd => ⟨_, a__law_word ,
    dss_cons (ds_set (i := 2) sc.nd rfl (.inr rfl) (de_str)) (dss_one (ds_ret (de_join (de_str) (de_lc false rfl sc.nd (di_range1 (by rfl) z_range (da_cons (dv 1) (da_nil))) (blkOk_by (own := [("_law_k", 3)]) (by kernel_rfl)) (dc_of (fun _ _ _ _ _ => dg_name (i := 3) sc.nd rfl (.inl rfl)) (fun _ _ _ _ _ => dts_nil) (fun _ _ _ _ _ => de_ix (ixK K (ix_all (hu_of hr))) sr_ix (dv 2) (de_fnK g__law_draw hr hgd (da_cons (dv 0) (da_cons (de_int) (da_nil)))))) wipe_name)))),
    fun ds W QD ED h => rd__law_word h⟩
def nmAt (a b : Str) (f : Int) (k : Nat) : Str := a ++ ⟨#[97 + ((f + 3 * k) % 26).toNat]⟩ ++ b
def sp__law_names : SpD := fun ds W Q _ => ∃ st m o, ds = [.ptr st, .int m] ∧ W st = some o ∧ StO o ∧ 0 ≤ m ∧ m ≤ 26 ∧ ∀ (ns : List Str) o', ns.length = m.toNat → ns.Nodup → (∀ x ∈ ns, Nm x) → StO o' → Q (.lst (ns.map .str)) (W.set st o')
theorem len__law_names : ∀ ds W Q E, sp__law_names ds W Q E → ds.length = 2 := by
  rintro ds W Q E ⟨st, m, o, rfl, _⟩; rfl
theorem nmAt_ne {a b : Str} {f : Int} {i j : Nat} (hi : i < 26) (hj : j < 26) (h : nmAt a b f i = nmAt a b f j) : i = j := by
  have e := congrArg (fun x => x.cps.toList) h
  simp only [nmAt, app_list] at e
  have e := List.append_cancel_right e
  have e := List.append_cancel_left e
  simp at e
  omega

abbrev n__law_names : List Str := ["_law_state_here", "_law_count", "_law_letters", "_law_before", "_law_behind", "_law_first", "_law_k"]
def e1__law_names  : AE := aOp (dAdd false) (aOp (dAdd false) (aVar 3) (aOp dIx (aVar 2) (aOp (dIC (fun _ j => 0 < j) fun i j => .int (i % j)) (aCB (dInt) (aCons (aOp (dAdd false) (aVar 5) (aOp (dIC CMul fun i j => .int (i * j)) (aC (.int 3)) (aVar 6))) (aNil))) (aC (.int 26))))) (aVar 4)
def a__law_names  : AS := aSeq (aAsg (aC (.str "abcdefghijklmnopqrstuvwxyz")) (agName 2)) (aSeq (aAsg (aCall (sp__law_word) [] ED0 (aCons (aVar 0) (aCons (aCall (sp__law_draw) [] ED0 (aCons (aVar 0) (aCons (aC (.int 4)) (aNil)))) (aNil)))) (agName 3)) (aSeq (aAsg (aCall (sp__law_word) [] ED0 (aCons (aVar 0) (aCons (aCall (sp__law_draw) [] ED0 (aCons (aVar 0) (aCons (aC (.int 4)) (aNil)))) (aNil)))) (agName 4)) (aSeq (aAsg (aCall (sp__law_draw) [] ED0 (aCons (aVar 0) (aCons (aC (.int 26)) (aNil)))) (agName 5)) (aRet (aLc false (aiRng1 (aCons (aVar 1) (aNil))) (agName 6) (aYes) (e1__law_names) [6])))))
theorem rd__law_names {ds : List D} {W : Wd} {Q : DQ} {E : DX} (h : sp__law_names ds W Q E) : a__law_names (EN Q) (startD n__law_names ds) W := by
  obtain ⟨st, m, o, rfl, hw, ho, h0, h1, q⟩ := h
  unfold a__law_names
  walk_at "rd"
  rename_i n1 o1 _ _ _ a oa la na _ n2 o2 _ _ _ b ob lb nb _ f o3 hf0 hf1 ho3
  refine lcE_map (items := rangeD 0 m.toNat) (fun d => match d with | .int k => .str (nmAt a b f k.toNat) | _ => .non) (by rw [rangeD_length, sizeLine_val]; omega) ?_ ?_
  · intro d hd L acc Q' hL k
    unfold rangeD at hd
    obtain ⟨i, hi, rfl⟩ := List.mem_map.mp hd
    unfold e1__law_names
    walk_at "rd"
    refine go_abc (Int.emod_nonneg _ (by decide)) (Int.emod_lt_of_pos _ (by decide)) ?_
    have l1 : ∀ c, (Str.mk #[c]).length = 1 := fun c => rfl
    refine go_addS (by rw [l1, na, sizeLine_val]; omega) ?_
    walk_at "rd"
    refine go_addS (by rw [app_len, l1, na, nb, sizeLine_val]; omega) ?_
    have e : ((0 + (i : Nat) : Int)).toNat = i := by omega
    simp only [e] at k
    simp only [nmAt] at k
    have e2 : (0 + (i : Nat) : Int) = i := by omega
    rw [e2]
    exact k
  · have e : (rangeD 0 m.toNat).map (fun d => match d with | .int k => D.str (nmAt a b f k.toNat) | _ => .non) = ((List.range m.toNat).map (nmAt a b f)).map .str := by
      unfold rangeD
      rw [List.map_map, List.map_map]
      exact List.map_congr_left fun i _ => by simp
    rw [e]
    refine q _ _ (by simp) ?_ ?_ ho3
    · rw [List.Nodup, List.pairwise_map]
      refine List.nodup_range.imp_of_mem fun {i j} hi hj h e => h (nmAt_ne ?_ ?_ e)
      · have := List.mem_range.mp hi; omega
      · have := List.mem_range.mp hj; omega
    · intro x hx
      obtain ⟨i, hi, rfl⟩ := List.mem_map.mp hx
      have l1 : ∀ c, (Str.mk #[c]).length = 1 := fun c => rfl
      refine ⟨(la.app fun c hc => ?_).app lb, ?_, ?_⟩
      · simp at hc
        omega
      · rw [nmAt, app_len, app_len, l1]; omega
      · rw [nmAt, app_len, app_len, l1, na, nb]; omega
theorem gc_names {st : Addr} {m : Int} {o : MO} {W : Wd} {Q : DQ} {E : DX} (hw : W st = some o) (ho : StO o) (h0 : 0 ≤ m) (h1 : m ≤ 26) (h : ∀ (ns : List Str) o', ns.length = m.toNat → ns.Nodup → (∀ x ∈ ns, Nm x) → StO o' → Q (.lst (ns.map .str)) (W.set st o')) : sp__law_names [.ptr st, .int m] W Q E := ⟨st, m, o, rfl, hw, ho, h0, h1, h⟩

theorem sc__law_names : FnScope ["_law_state_here", "_law_count", "_law_letters", "_law_before", "_law_behind", "_law_first", "_law_k"] ["_law_state_here", "_law_count"] (defScope s__law_names) := ⟨rfl, rfl, rfl, by decide +kernel, rfl, by decide +kernel, by decide +kernel⟩
theorem ok__law_names {P : Program} {w : World} {K : PySem.W.Frag} {mg : Str → Option Value} {base : Heap} {k : Nat}  (F : Df K mg "_law_names" "_law_names" s__law_names) (g__law_word : Fk P w K mg base CX0 k "_law_word" ["_law_state_here", "_law_many"] (sp__law_word)) (g__law_draw : Fk P w K mg base CX0 k "_law_draw" ["_law_state_here", "_law_many"] (sp__law_draw)) (z_range : mg "range" = none) (z_int : mg "int" = none) : Fk P w K mg base CX0 (k + 1) "_law_names" ["_law_state_here", "_law_count"] (sp__law_names) := by
  have sc := sc__law_names
  exact okF F sc (fun _ _ _ _ _ _ us hl => match us, hl with | [_, _], _ => rfl) len__law_names fun cdv A outer s H E G f hr hgd => ⟨_, a__law_names ,
    dss_cons (ds_set (i := 2) sc.nd rfl (.inr rfl) (de_str)) (dss_cons (ds_set (i := 3) sc.nd rfl (.inr rfl) (de_fn g__law_word hr hgd (da_cons (dv 0) (da_cons (de_fn g__law_draw hr hgd (da_cons (dv 0) (da_cons (de_int) (da_nil)))) (da_nil))))) (dss_cons (ds_set (i := 4) sc.nd rfl (.inr rfl) (de_fn g__law_word hr hgd (da_cons (dv 0) (da_cons (de_fn g__law_draw hr hgd (da_cons (dv 0) (da_cons (de_int) (da_nil)))) (da_nil))))) (dss_cons (ds_set (i := 5) sc.nd rfl (.inr rfl) (de_fn g__law_draw hr hgd (da_cons (dv 0) (da_cons (de_int) (da_nil))))) (dss_one (ds_ret (de_lc false rfl sc.nd (di_range1 (by rfl) z_range (da_cons (dv 1) (da_nil))) (blkOk_by (own := [("_law_k", 6)]) (by kernel_rfl)) (dc_of (fun _ _ _ _ _ => dg_name (i := 6) sc.nd rfl (.inl rfl)) (fun _ _ _ _ _ => dts_nil) (fun _ _ _ _ _ => de_op (opK rAddA K op_addA) sr_add (de_op (opK rAddA K op_addA) sr_add (dv 3) (de_ix (ixK K (ix_all (hu_of hr))) sr_ix (dv 2) (de_op op_mod sr_iC (de_callTy call_intA sc_int (by rfl) z_int (by decide +kernel) (da_cons (de_op (opK rAddA K op_addA) sr_add (dv 5) (de_op op_mul sr_iC (de_int) (dv 6))) (da_nil))) (de_int)))) (dv 4))) wipe_name)))))),
    fun ds W QD ED h => rd__law_names h⟩
def sp__law_operations : SpD := fun ds W Q _ => ∃ st o, ds = [.ptr st] ∧ W st = some o ∧ StO o ∧ ∀ ops o', Ops ops → StO o' → Q (.lst (ops.map opD)) (W.set st o')
theorem len__law_operations : ∀ ds W Q E, sp__law_operations ds W Q E → ds.length = 1 := by
  rintro ds W Q E ⟨st, o, rfl, _⟩; rfl

abbrev n__law_operations : List Str := ["_law_state_here", "_law_names_here", "_law_arities", "_law_k"]
def e1__law_operations  : AE := aTup (aCons (aOp dIx (aVar 1) (aVar 3)) (aCons (aOp dIx (aVar 2) (aVar 3)) (aNil)))
def a__law_operations  : AS := aSeq (aAsg (aCall (sp__law_names) [] ED0 (aCons (aVar 0) (aCons (aC (.int 5)) (aNil)))) (agName 1)) (aSeq (aAsg (aLst false (aCons (aC (.int 0)) (aCons (aC (.int 0)) (aCons (aC (.int 1)) (aCons (aC (.int 2)) (aCons (aC (.int 3)) (aNil))))))) (agName 2)) (aRet (aLc false (aiRng1 (aCons (aOp (dAdd false) (aC (.int 4)) (aCall (sp__law_draw) [] ED0 (aCons (aVar 0) (aCons (aC (.int 2)) (aNil))))) (aNil))) (agName 3) (aYes) (e1__law_operations) [3])))
theorem rd__law_operations {ds : List D} {W : Wd} {Q : DQ} {E : DX} (h : sp__law_operations ds W Q E) : a__law_operations (EN Q) (startD n__law_operations ds) W := by
  obtain ⟨st, o, rfl, hw, ho, q⟩ := h
  unfold a__law_operations
  walk_at "rd"
  refine gc_names hw ho (by decide) (by decide) fun ns o1 hn hd hN ho1 => ?_
  walk_at "rd"
  rename_i r o2 hr0 hr1 ho2
  have hn : ns.length = 5 := hn
  refine lcE_map (items := rangeD 0 (4 + r).toNat) (fun d => match d with | .int k => opD (ns.getD k.toNat "", ([0, 0, 1, 2, 3] : List Nat).getD k.toNat 0) | _ => .non) (by rw [rangeD_length, sizeLine_val]; omega) ?_ ?_
  · intro d hd' L acc Q' hL k
    unfold rangeD at hd'
    obtain ⟨i, hi, rfl⟩ := List.mem_map.mp hd'
    have hi := List.mem_range.mp hi
    have e2 : (0 + (i : Nat) : Int) = i := by omega
    rw [e2] at k ⊢
    have h5 : i < ns.length := by omega
    have h6 : i < ([0, 0, 1, 2, 3] : List Nat).length := by simp; omega
    have e7 : ns.getD i "" = ns[i] := by simp [List.getD, h5]
    have e8 : ([0, 0, 1, 2, 3] : List Nat).getD i 0 = ([0, 0, 1, 2, 3] : List Nat)[i] := by simp only [List.getD, List.getElem?_eq_getElem h6, Option.getD_some]
    unfold e1__law_operations
    walk_at "rd"
    refine go_ixL (d := .str ns[i]) (by rw [atI_of (by omega)]; simp [h5]) ?_
    walk_at "rd"
    refine go_ixL (d := .int ([0, 0, 1, 2, 3] : List Nat)[i]) (by
      show atI (([0, 0, 1, 2, 3] : List Nat).map fun n : Nat => D.int n) _ = _
      rw [atI_of (by omega), Int.toNat_natCast, List.getElem?_map, List.getElem?_eq_getElem h6]; rfl) ?_
    walk_at "rd"
    simp only [Int.toNat_natCast, opD, e7, e8] at k
    exact k
  · obtain ⟨c, hc, hc'⟩ : ∃ c : Nat, (4 + r).toNat = c ∧ (c = 4 ∨ c = 5) := ⟨_, rfl, by omega⟩
    rw [hc]
    have e : (rangeD 0 c).map (fun d => match d with | .int k => opD (ns.getD k.toNat "", ([0, 0, 1, 2, 3] : List Nat).getD k.toNat 0) | _ => .non) = ((ns.take c).zip [0, 0, 1, 2, 3]).map opD := by
      match ns, hn with
      | [a, b, x, y, z], _ => rcases hc' with rfl | rfl <;> rfl
    rw [e]
    match ns, hn, hd, hN with
    | [a, b, x, y, z], _, hd, hN =>
      rcases hc' with rfl | rfl
      · refine q _ _ ⟨.inl rfl, rfl, ?_, ?_⟩ ho2
        · simp at hd ⊢; simp [hd]
        · intro x hx
          simp at hx
          rcases hx with rfl | rfl | rfl | rfl <;> exact hN _ (by simp)
      · refine q _ _ ⟨.inr (.inl rfl), rfl, ?_, ?_⟩ ho2
        · simp at hd ⊢; simp [hd]
        · intro x hx
          simp at hx
          rcases hx with rfl | rfl | rfl | rfl | rfl <;> exact hN _ (by simp)
theorem gc_operations {st : Addr} {o : MO} {W : Wd} {Q : DQ} {E : DX} (hw : W st = some o) (ho : StO o) (h : ∀ ops o', Ops ops → StO o' → Q (.lst (ops.map opD)) (W.set st o')) : sp__law_operations [.ptr st] W Q E := ⟨st, o, rfl, hw, ho, h⟩

theorem sc__law_operations : FnScope ["_law_state_here", "_law_names_here", "_law_arities", "_law_k"] ["_law_state_here"] (defScope s__law_operations) := ⟨rfl, rfl, rfl, by decide +kernel, rfl, by decide +kernel, by decide +kernel⟩
theorem ok__law_operations {P : Program} {w : World} {K : PySem.W.Frag} {mg : Str → Option Value} {base : Heap} {k : Nat}  (F : Df K mg "_law_operations" "_law_operations" s__law_operations) (g__law_names : Fk P w K mg base CX0 k "_law_names" ["_law_state_here", "_law_count"] (sp__law_names)) (g__law_draw : Fk P w K mg base CX0 k "_law_draw" ["_law_state_here", "_law_many"] (sp__law_draw)) (z_range : mg "range" = none) : Fk P w K mg base CX0 (k + 1) "_law_operations" ["_law_state_here"] (sp__law_operations) := by
  have sc := sc__law_operations
  exact okF F sc (fun _ _ _ _ _ _ us hl => match us, hl with | [_], _ => rfl) len__law_operations fun cdv A outer s H E G f hr hgd => ⟨_, a__law_operations ,
    dss_cons (ds_set (i := 1) sc.nd rfl (.inr rfl) (de_fn g__law_names hr hgd (da_cons (dv 0) (da_cons (de_int) (da_nil))))) (dss_cons (ds_set (i := 2) sc.nd rfl (.inr rfl) (de_lst false (da_cons (de_int) (da_cons (de_int) (da_cons (de_int) (da_cons (de_int) (da_cons (de_int) (da_nil)))))))) (dss_one (ds_ret (de_lc false rfl sc.nd (di_range1 (by rfl) z_range (da_cons (de_op (op_addA) sr_add (de_int) (de_fn g__law_draw hr hgd (da_cons (dv 0) (da_cons (de_int) (da_nil))))) (da_nil))) (blkOk_by (own := [("_law_k", 3)]) (by kernel_rfl)) (dc_of (fun _ _ _ _ _ => dg_name (i := 3) sc.nd rfl (.inl rfl)) (fun _ _ _ _ _ => dts_nil) (fun _ _ _ _ _ => de_tup (da_cons (de_ix (ixK K (ix_all (hu_of hr))) sr_ix (dv 1) (dv 3)) (da_cons (de_ix (ixK K (ix_all (hu_of hr))) sr_ix (dv 2) (dv 3)) (da_nil))))) wipe_name)))),
    fun ds W QD ED h => rd__law_operations h⟩
def sp__law_leaf : SpD := fun ds W Q _ => ∃ st ops n o, ds = [.ptr st, .lst (ops.map opD), .int n] ∧ W st = some o ∧ StO o ∧ Ops ops ∧ n ≤ 1000000 ∧ ∀ t o', Wf ops n t → t.depth = 1 → t.size = 1 → StO o' → Q t.d (W.set st o')
theorem len__law_leaf : ∀ ds W Q E, sp__law_leaf ds W Q E → ds.length = 3 := by
  rintro ds W Q E ⟨st, ops, n, o, rfl, _⟩; rfl
theorem ops_at {ops : Sig} {i : Int} (h0 : 0 ≤ i) (h1 : i < ops.length) : atI (ops.map opD) i = some (opD (ops[i.toNat]'(by omega))) := by
  rw [atI_of h0, List.getElem?_map, List.getElem?_eq_getElem (by omega)]; rfl
theorem leaf_in {ops : Sig} (ho : Ops ops) {i : Nat} (h : i < 2) : ∃ f, ∃ hi : i < ops.length, ops[i] = (f, 0) := by
  have hi : i < ops.length := by have := ho.len; omega
  refine ⟨ops[i].1, hi, ?_⟩
  obtain ⟨_, h2⟩ := ho.low i (by omega)
  have h2 : ops[i].2 = 0 := by
    rw [h2]
    match i, h with
    | 0, _ => rfl
    | 1, _ => rfl
  rw [← h2]
theorem term0_d (f : Str) : D.tup [.str f] = (Trm.app f []).d := by simp

abbrev n__law_leaf : List Str := ["_law_state_here", "_law_operations_here", "_law_count"]
def a__law_leaf  : AS := aSeq (aIfS (aAnd (aTest (aOp (dI0 fun i j => .bl (decide (j < i))) (aVar 2) (aC (.int 0)))) (aTest (aOp (dEq) (aCall (sp__law_draw) [] ED0 (aCons (aVar 0) (aCons (aC (.int 2)) (aNil)))) (aC (.int 0))))) (aRet (aCall (sp__law_draw) [] ED0 (aCons (aVar 0) (aCons (aVar 2) (aNil))))) (aNext)) (aRet (aTup (aCons (aOp dIx (aOp dIx (aVar 1) (aCall (sp__law_draw) [] ED0 (aCons (aVar 0) (aCons (aC (.int 2)) (aNil))))) (aC (.int 0))) (aNil))))
theorem rd__law_leaf {ds : List D} {W : Wd} {Q : DQ} {E : DX} (h : sp__law_leaf ds W Q E) : a__law_leaf (EN Q) (startD n__law_leaf ds) W := by
  obtain ⟨st, ops, n, o, rfl, hw, ho, hO, hn, q⟩ := h
  have fin : ∀ (W' : Wd) (i : Int) (o' : MO), 0 ≤ i → i < 2 → StO o' → W' = W.set st o' → (dIx (.lst (ops.map opD)) (.int i) W' fun x W1 => aC (.int 0) (startD n__law_leaf [.ptr st, .lst (ops.map opD), .int n]) W1 fun y W2 => dIx x y W2 fun x W1 => aNil (startD n__law_leaf [.ptr st, .lst (ops.map opD), .int n]) W1 fun xs W2 => (x :: xs).length ≤ sizeLine ∧ Q (.tup (x :: xs)) W2) := by
    intro W' i o' hi0 hi1 ho' e
    obtain ⟨f, hl, e2⟩ := leaf_in hO (i := i.toNat) (by omega)
    have hm : (f, 0) ∈ ops := by have := List.getElem_mem hl; rw [e2] at this; exact this
    refine go_ixL (d := opD (f, 0)) (by rw [ops_at hi0 (by omega), e2]) ?_
    unfold opD
    walk_at "rd"
    rw [term0_d, e]
    exact q _ _ (.app hm (by simp)) (by simp [Trm.depth, Trm.depths]) (by simp [Trm.size, Trm.sizes]) ho'
  unfold a__law_leaf
  walk_at "rs"
  · rename_i v o' hv0 hv1 ho'
    rw [← Trm.d_var]
    exact q _ _ (.var hv0 hv1) rfl rfl ho'
  all_goals
    rename_i i o' hi0 hi1 ho'
    exact fin _ i o' hi0 hi1 ho' rfl
theorem gc_leaf {st : Addr} {ops : Sig} {n : Int} {o : MO} {W : Wd} {Q : DQ} {E : DX} (hw : W st = some o) (ho : StO o) (hO : Ops ops) (hn : n ≤ 1000000) (h : ∀ t o', Wf ops n t → t.depth = 1 → t.size = 1 → StO o' → Q t.d (W.set st o')) : sp__law_leaf [.ptr st, .lst (ops.map opD), .int n] W Q E := ⟨st, ops, n, o, rfl, hw, ho, hO, hn, h⟩

theorem sc__law_leaf : FnScope ["_law_state_here", "_law_operations_here", "_law_count"] ["_law_state_here", "_law_operations_here", "_law_count"] (defScope s__law_leaf) := ⟨rfl, rfl, rfl, by decide +kernel, rfl, by decide +kernel, by decide +kernel⟩
theorem ok__law_leaf {P : Program} {w : World} {K : PySem.W.Frag} {mg : Str → Option Value} {base : Heap} {k : Nat}  (F : Df K mg "_law_leaf" "_law_leaf" s__law_leaf) (g__law_draw : Fk P w K mg base CX0 k "_law_draw" ["_law_state_here", "_law_many"] (sp__law_draw)) : Fk P w K mg base CX0 (k + 1) "_law_leaf" ["_law_state_here", "_law_operations_here", "_law_count"] (sp__law_leaf) := by
  have sc := sc__law_leaf
  exact okF F sc (fun _ _ _ _ _ _ us hl => match us, hl with | [_, _, _], _ => rfl) len__law_leaf fun cdv A outer s H E G f hr hgd => ⟨_, a__law_leaf ,
    dss_cons (ds_if (DW.dt (dw_and (dt_cmp (op_gt) sr_b0 (dv 2) (de_int) (nomark _)) (dw_and1 (dt_cmp (op_eqP (hu151 hr)) sr_eq (de_fn g__law_draw hr hgd (da_cons (dv 0) (da_cons (de_int) (da_nil)))) (de_int) (nomark _))))) (dss_one (ds_ret (de_fn g__law_draw hr hgd (da_cons (dv 0) (da_cons (dv 2) (da_nil)))))) (dss_nil)) (dss_one (ds_ret (de_tup (da_cons (de_ix (ix_all (hu_of hr)) sr_ix (de_ix (ix_all (hu_of hr)) sr_ix (dv 1) (de_fn g__law_draw hr hgd (da_cons (dv 0) (da_cons (de_int) (da_nil))))) (de_int)) (da_nil))))),
    fun ds W QD ED h => rd__law_leaf h⟩
def sp__law_term (k : Nat) : SpD := fun ds W Q _ => ∃ st ops n h o, ds = [.ptr st, .lst (ops.map opD), .int n, .int h] ∧ W st = some o ∧ StO o ∧ Ops ops ∧ n ≤ 1000000 ∧ 0 ≤ h ∧ h < k ∧ ∀ t o', Wf ops n t → t.depth ≤ h.toNat + 1 → t.size ≤ szB h.toNat → StO o' → Q t.d (W.set st o')
theorem len__law_term {n : Nat} : ∀ ds W Q E, sp__law_term n ds W Q E → ds.length = 4 := by
  rintro ds W Q E ⟨st, ops, n, h, o, rfl, _⟩; rfl
theorem app_snoc (f : Str) (ts : List Trm) (t : Trm) : D.tup ((.str f :: ts.map Trm.d) ++ [t.d]) = .tup (.str f :: (ts ++ [t]).map Trm.d) := by simp
theorem none__law_term : ∀ ds W Q E, ¬ sp__law_term 0 ds W Q E := fun ds W Q E ⟨_, _, _, h, _, _, _, _, _, _, h0, h1, _⟩ => by omega

abbrev n__law_term : List Str := ["_law_state_here", "_law_operations_here", "_law_count", "_law_height", "_law_name", "_law_arity", "_law_term_here", "_law_k"]
def b1__law_term (n : Nat) : AS := aAsg (aOp (dAdd false) (aVar 6) (aTup (aCons (aCall (sp__law_term n) [] ED0 (aCons (aVar 0) (aCons (aVar 1) (aCons (aVar 2) (aCons (aOp (dI0 fun i j => .int (i - j)) (aVar 3) (aC (.int 1))) (aNil)))))) (aNil)))) (agName 6)
def a__law_term (n : Nat) : AS := aSeq (aIfS (aOr (aTest (aOp (dEq) (aVar 3) (aC (.int 0)))) (aTest (aOp (dEq) (aCall (sp__law_draw) [] ED0 (aCons (aVar 0) (aCons (aC (.int 4)) (aNil)))) (aC (.int 0))))) (aRet (aCall (sp__law_leaf) [] ED0 (aCons (aVar 0) (aCons (aVar 1) (aCons (aVar 2) (aNil)))))) (aNext)) (aSeq (aAsg (aOp dIx (aVar 1) (aOp (dAdd false) (aC (.int 2)) (aCall (sp__law_draw) [] ED0 (aCons (aVar 0) (aCons (aOp (dI0 fun i j => .int (i - j)) (aCB (dLen) (aCons (aVar 1) (aNil))) (aC (.int 2))) (aNil)))))) (agTup 2 (agCons (agName 4) (agCons (agName 5) (agNil))))) (aSeq (aAsg (aTup (aCons (aVar 4) (aNil))) (agName 6)) (aSeq (aFor (aiRng1 (aCons (aVar 5) (aNil))) (agName 7) (b1__law_term n)) (aRet (aVar 6)))))
theorem rd__law_term {n : Nat} {ds : List D} {W : Wd} {Q : DQ} {E : DX} (h : sp__law_term (n + 1) ds W Q E) : a__law_term n (EN Q) (startD n__law_term ds) W := by
  obtain ⟨st, ops, c, h, o, rfl, hw, ho, hO, hc, h0, h1, q⟩ := h
  have h5 : 4 ≤ (ops.map opD).length ∧ (ops.map opD).length ≤ 6 := by rw [List.length_map]; exact hO.len
  have h6 : (ops.map opD).length = ops.length := List.length_map ..
  unfold a__law_term
  walk_at "rs"
  · exact gc_leaf hw ho hO hc fun t o' a b c d => q t o' a (by omega) (by have := szB_pos h.toNat; omega) d
  · rename_i o1 _ _ ho1 _
    exact gc_leaf (Wd.set_same ..) ho1 hO hc fun t o' a b c d => by rw [Wd.set_set]; exact q t o' a (by omega) (by have := szB_pos h.toNat; omega) d
  · rename_i hh i o1 _ _ ho1 hi j o2 hj0 hj1 ho2
    obtain ⟨⟨f, m⟩, e2⟩ : ∃ x, ops[(2 + j).toNat]'(by omega) = x := ⟨_, rfl⟩
    have hm : (f, m) ∈ ops := by rw [← e2]; exact List.getElem_mem _
    have hm3 := hO.le3 hm
    simp only at hm3
    refine go_ixL (d := opD (f, m)) (by rw [ops_at (by omega) (by omega), e2]) ?_
    unfold opD
    walk_at "rd"
    refine forL_inv (items := rangeD 0 (m : Int).toNat) (fun ds δ W' => ∃ (o : MO) (ts : List Trm) (x : Option D), StO o ∧ W' = W.set st o ∧ δ = [some (.ptr st), some (.lst (ops.map opD)), some (.int c), some (.int h), some (.str f), some (.int m), some (.tup (.str f :: ts.map Trm.d)), x] ∧ ts.length + ds.length = m ∧ (∀ t ∈ ts, Wf ops c t) ∧ (∀ t ∈ ts, t.depth ≤ h.toNat) ∧ ∀ t ∈ ts, t.size ≤ szB (h - 1).toNat) ?_ ?_ ?_ ?_
    · exact ⟨o2, [], none, ho2, rfl, rfl, by rw [rangeD_length]; simp, by simp, by simp, by simp⟩
    · exact fun _ _ _ _ => trivial
    · rintro d ds δ W' N ⟨o3, ts, x, ho3, rfl, rfl, hl, hw3, hd3, hz3⟩ k
      unfold b1__law_term
      walk_at "rd"
      refine ⟨st, ops, c, h - 1, o3, rfl, Wd.set_same .., ho3, hO, hc, by omega, by omega, fun t o4 ht hdt hzt ho4 => ?_⟩
      rw [Wd.set_set]
      walk_at "rd"
      rw [app_snoc]
      refine k _ _ ⟨o4, ts ++ [t], _, ho4, rfl, rfl, by simp at hl ⊢; omega, ?_, ?_, ?_⟩
      · intro u hu
        rcases List.mem_append.mp hu with hu | hu
        · exact hw3 u hu
        · rw [List.mem_singleton] at hu; rw [hu]; exact ht
      · intro u hu
        rcases List.mem_append.mp hu with hu | hu
        · exact hd3 u hu
        · rw [List.mem_singleton] at hu; rw [hu]; omega
      · intro u hu
        rcases List.mem_append.mp hu with hu | hu
        · exact hz3 u hu
        · rw [List.mem_singleton] at hu; rw [hu]; exact hzt
    · rintro δ W' ⟨o3, ts, x, ho3, rfl, rfl, hl, hw3, hd3, hz3⟩
      walk_at "rd"
      rw [← Trm.d_app]
      refine q _ _ (.app (by simp at hl; rw [hl]; exact hm) hw3) (depth_app_le.mpr hd3) ?_ ho3
      have e1 := sizes_le hz3
      have e2 : szB h.toNat = 1 + 3 * szB (h - 1).toNat := by rw [show h.toNat = (h - 1).toNat + 1 by omega]; rfl
      have e3 : ts.length * szB (h - 1).toNat ≤ 3 * szB (h - 1).toNat := Nat.mul_le_mul_right _ (by simp at hl; omega)
      rw [show (Trm.app f ts).size = 1 + Trm.sizes ts from rfl]
      omega
theorem gc_term {k : Nat} {st : Addr} {ops : Sig} {n h : Int} {o : MO} {W : Wd} {Q : DQ} {E : DX} (hw : W st = some o) (ho : StO o) (hO : Ops ops) (hn : n ≤ 1000000) (h0 : 0 ≤ h) (h1 : h < k) (q : ∀ t o', Wf ops n t → t.depth ≤ h.toNat + 1 → t.size ≤ szB h.toNat → StO o' → Q t.d (W.set st o')) : sp__law_term k [.ptr st, .lst (ops.map opD), .int n, .int h] W Q E := ⟨st, ops, n, h, o, rfl, hw, ho, hO, hn, h0, h1, q⟩

theorem sc__law_term : FnScope ["_law_state_here", "_law_operations_here", "_law_count", "_law_height", "_law_name", "_law_arity", "_law_term_here", "_law_k"] ["_law_state_here", "_law_operations_here", "_law_count", "_law_height"] (defScope s__law_term) := ⟨rfl, rfl, rfl, by decide +kernel, rfl, by decide +kernel, by decide +kernel⟩
theorem ok__law_term {P : Program} {w : World} {K : PySem.W.Frag} {mg : Str → Option Value} {base : Heap} {k : Nat} (n : Nat) (F : Df K mg "_law_term" "_law_term" s__law_term) (g__law_draw : Fk P w K mg base CX0 k "_law_draw" ["_law_state_here", "_law_many"] (sp__law_draw)) (g__law_leaf : Fk P w K mg base CX0 k "_law_leaf" ["_law_state_here", "_law_operations_here", "_law_count"] (sp__law_leaf)) (z_len : mg "len" = none) (z_range : mg "range" = none) (g__law_term : Fk P w K mg base CX0 k "_law_term" ["_law_state_here", "_law_operations_here", "_law_count", "_law_height"] (sp__law_term n)) : Fk P w K mg base CX0 (k + 1) "_law_term" ["_law_state_here", "_law_operations_here", "_law_count", "_law_height"] (sp__law_term (n + 1)) := by
  have sc := sc__law_term
  exact okF F sc (fun _ _ _ _ _ _ us hl => match us, hl with | [_, _, _, _], _ => rfl) len__law_term fun cdv A outer s H E G f hr hgd => ⟨_, a__law_term n,
    dss_cons (ds_if (DW.dt (dw_or (dt_cmp (op_eqP (hu151 hr)) sr_eq (dv 3) (de_int) (nomark _)) (dw_or1 (dt_cmp (op_eqP (hu151 hr)) sr_eq (de_fn g__law_draw hr hgd (da_cons (dv 0) (da_cons (de_int) (da_nil)))) (de_int) (nomark _))))) (dss_one (ds_ret (de_fn g__law_leaf hr hgd (da_cons (dv 0) (da_cons (dv 1) (da_cons (dv 2) (da_nil))))))) (dss_nil)) (dss_cons (ds_asg (de_ix (ix_all (hu_of hr)) sr_ix (dv 1) (de_op (op_addA) sr_add (de_int) (de_fn g__law_draw hr hgd (da_cons (dv 0) (da_cons (de_op op_sub sr_i0 (de_callB call_lenA sc_len (by rfl) z_len (by decide +kernel) (da_cons (dv 1) (da_nil))) (de_int)) (da_nil)))))) (dg_tup rfl (dgs_cons (dg_name (i := 4) sc.nd rfl (.inl rfl)) (dgs_cons (dg_name (i := 5) sc.nd rfl (.inl rfl)) (dgs_nil))))) (dss_cons (ds_set (i := 6) sc.nd rfl (.inl rfl) (de_tup (da_cons (dv 4) (da_nil)))) (dss_cons (ds_for PassesOwn.never rfl (di_range1 (by rfl) z_range (da_cons (dv 5) (da_nil))) (dg_name (i := 7) sc.nd rfl (.inl rfl)) (dss_one (ds_set (i := 6) sc.nd rfl (.inl rfl) (de_op (op_addA) sr_add (dv 6) (de_tup (da_cons (de_fn g__law_term hr hgd (da_cons (dv 0) (da_cons (dv 1) (da_cons (dv 2) (da_cons (de_op op_sub sr_i0 (dv 3) (de_int)) (da_nil)))))) (da_nil))))))) (dss_one (ds_ret (dv 6)))))),
    fun ds W QD ED h => rd__law_term h⟩
theorem all__law_term {P : Program} {w : World} {K : PySem.W.Frag} {mg : Str → Option Value} {base : Heap} {k : Nat} (F : Df K mg "_law_term" "_law_term" s__law_term) (g__law_draw : Fk P w K mg base CX0 k "_law_draw" ["_law_state_here", "_law_many"] (sp__law_draw)) (g__law_leaf : Fk P w K mg base CX0 k "_law_leaf" ["_law_state_here", "_law_operations_here", "_law_count"] (sp__law_leaf)) (z_len : mg "len" = none) (z_range : mg "range" = none) : ∀ n : Nat, Fk P w K mg base CX0 (k + n) "_law_term" ["_law_state_here", "_law_operations_here", "_law_count", "_law_height"] (sp__law_term n)
  | 0 => (Fk.none F none__law_term (fun _ _ _ _ _ _ us hl => match us, hl with | [_, _, _, _], _ => rfl)).mono (Nat.zero_le _)
  | n + 1 => ok__law_term n F  (g__law_draw.mono (Nat.le_add_right _ _)) (g__law_leaf.mono (Nat.le_add_right _ _)) z_len z_range (all__law_term F  g__law_draw g__law_leaf z_len z_range n)
def sp__law_subterm : SpD := fun ds W Q _ => ∃ (t : Trm) (p : List Int), ds = [t.d, posD p] ∧ t.isPos p = true ∧ Q (t.at p).d W
theorem len__law_subterm : ∀ ds W Q E, sp__law_subterm ds W Q E → ds.length = 2 := by
  rintro ds W Q E ⟨t, p, rfl, _⟩; rfl
theorem gc__law_subterm {t : Trm} {p : List Int} {W : Wd} {Q : DQ} {E : DX} (h : t.isPos p = true) (k : Q (t.at p).d W) : sp__law_subterm [t.d, posD p] W Q E := ⟨t, p, rfl, h, k⟩

abbrev n__law_subterm : List Str := ["_law_term_here", "_law_position", "_law_k"]
def b1__law_subterm  : AS := aAsg (aOp dIx (aVar 0) (aVar 2)) (agName 0)
def a__law_subterm  : AS := aSeq (aFor (aiSeq (aVar 1)) (agName 2) (b1__law_subterm)) (aRet (aVar 0))
theorem rd__law_subterm {ds : List D} {W : Wd} {Q : DQ} {E : DX} (h : sp__law_subterm ds W Q E) : a__law_subterm (EN Q) (startD n__law_subterm ds) W := by
  obtain ⟨t, p, rfl, hp, q⟩ := h
  unfold a__law_subterm posD
  walk_at "rd"
  refine forL_inv (fun ds δ W' => ∃ (u : Trm) (r : List Int) (x : Option D), W' = W ∧ ds = r.map .int ∧ u.isPos r = true ∧ u.at r = t.at p ∧ δ = [some u.d, some (.tup (p.map .int)), x]) ⟨t, p, none, rfl, rfl, hp, rfl, rfl⟩ (fun _ _ _ _ => trivial) ?_ ?_
  · rintro d ds δ W' N ⟨u, r, x, rfl, e, hr, ha, rfl⟩ kk
    cases r with
    | nil => cases e
    | cons i r =>
      rw [List.map_cons] at e
      cases e
      obtain ⟨f, ts, y, rfl, h1, h2, h3⟩ := isPos_step hr
      unfold b1__law_subterm
      rw [Trm.d_app]
      walk_at "rd"
      have hix : atI (D.str f :: ts.map Trm.d) i = some y.d := by
        rw [atI_of (by omega), show i.toNat = (i - 1).toNat + 1 by omega, List.getElem?_cons_succ, List.getElem?_map, h2]; rfl
      refine go_ixT hix ?_
      walk_at "rd"
      exact kk _ _ ⟨y, r, _, rfl, rfl, h3, by rw [← ha, at_cons h2], rfl⟩
  · rintro δ W' ⟨u, r, x, rfl, e, hr, ha, rfl⟩
    cases r with
    | cons _ _ => cases e
    | nil =>
      rw [show u.at [] = u by rw [Trm.at]] at ha
      rw [← ha] at q
      walk_at "rd"
      exact q

theorem sc__law_subterm : FnScope ["_law_term_here", "_law_position", "_law_k"] ["_law_term_here", "_law_position"] (defScope s__law_subterm) := ⟨rfl, rfl, rfl, by decide +kernel, rfl, by decide +kernel, by decide +kernel⟩
theorem ok__law_subterm {P : Program} {w : World} {K : PySem.W.Frag} {mg : Str → Option Value} {base : Heap} {k : Nat}  (F : Df K mg "_law_subterm" "_law_subterm" s__law_subterm)  : Fk P w K mg base CX0 (k + 1) "_law_subterm" ["_law_term_here", "_law_position"] (sp__law_subterm) := by
  have sc := sc__law_subterm
  exact okF F sc (fun _ _ _ _ _ _ us hl => match us, hl with | [_, _], _ => rfl) len__law_subterm fun cdv A outer s H E G f hr hgd => ⟨_, a__law_subterm ,
    dss_cons (ds_for PassesOwn.never rfl (di_seq (dv 1)) (dg_name (i := 2) sc.nd rfl (.inl rfl)) (dss_one (ds_set (i := 0) sc.nd rfl (.inl rfl) (de_ix (ix_all (hu_of hr)) sr_ix (dv 0) (dv 2))))) (dss_one (ds_ret (dv 0))),
    fun ds W QD ED h => rd__law_subterm h⟩
def sp__law_replace (n : Nat) : SpD := fun ds W Q _ => ∃ (t u : Trm) (p : List Int), ds = [t.d, posD p, u.d] ∧ Pos t p ∧ p.length < n ∧ t.size ≤ 1000000 ∧ Q (t.put p u).d W
theorem len__law_replace {n : Nat} : ∀ ds W Q E, sp__law_replace n ds W Q E → ds.length = 3 := by
  rintro ds W Q E ⟨t, u, p, rfl, _⟩; rfl
theorem none__law_replace : ∀ ds W Q E, ¬ sp__law_replace 0 ds W Q E := fun ds W Q E ⟨_, _, _, _, _, h, _⟩ => by omega
theorem gc__law_replace {n : Nat} {t u : Trm} {p : List Int} {W : Wd} {Q : DQ} {E : DX} (h1 : Pos t p) (h2 : p.length < n) (h3 : t.size ≤ 1000000) (k : Q (t.put p u).d W) : sp__law_replace n [t.d, posD p, u.d] W Q E := ⟨t, u, p, rfl, h1, h2, h3, k⟩

abbrev n__law_replace : List Str := ["_law_term_here", "_law_position", "_law_new", "_law_k"]
def a__law_replace (n : Nat) : AS := aSeq (aIfS (aTest (aOp (dEq) (aCB (dLen) (aCons (aVar 1) (aNil))) (aC (.int 0)))) (aRet (aVar 2)) (aNext)) (aSeq (aAsg (aOp dIx (aVar 1) (aC (.int 0))) (agName 3)) (aRet (aOp (dAdd false) (aOp (dAdd false) (aSl (dSl false) (aVar 0) (aNoPart) (aPart (aVar 3))) (aTup (aCons (aCall (sp__law_replace n) [] ED0 (aCons (aOp dIx (aVar 0) (aVar 3)) (aCons (aSl (dSl false) (aVar 1) (aPart (aC (.int 1))) (aNoPart)) (aCons (aVar 2) (aNil))))) (aNil)))) (aSl (dSl false) (aVar 0) (aPart (aOp (dAdd false) (aVar 3) (aC (.int 1)))) (aNoPart)))))
theorem rd__law_replace {n : Nat} {ds : List D} {W : Wd} {Q : DQ} {E : DX} (h : sp__law_replace (n + 1) ds W Q E) : a__law_replace n (EN Q) (startD n__law_replace ds) W := by
  obtain ⟨t, u, p, rfl, hp, hn, hz, q⟩ := h
  unfold a__law_replace posD
  cases hp with
  | nil =>
    rw [Trm.put] at q
    walk_at "rd"
    exact q
  | @cons f ts i t p h0 h1 hp =>
    have hlt : (i - 1).toNat < ts.length := by
      by_cases h : (i - 1).toNat < ts.length
      · exact h
      · rw [List.getElem?_eq_none (by omega)] at h1; cases h1
    have hls := length_sizes ts
    rw [Trm.size] at hz
    rw [put_cons h1] at q
    rw [Trm.d_app]
    simp only [List.map_cons]
    walk_at "rd"
    have hix : atI (D.str f :: ts.map Trm.d) i = some t.d := by
      rw [atI_of (by omega), show i.toNat = (i - 1).toNat + 1 by omega, List.getElem?_cons_succ, List.getElem?_map, h1]; rfl
    refine go_ixT hix ?_
    walk_at "rd"
    refine gc__law_replace hp (by simp at hn; omega) (by have := size_mem (List.mem_of_getElem? h1); omega) ?_
    walk_at "rd"
    rw [cutD_toI (by omega)]
    refine go_addT (by rw [sizeLine_val]; simp; omega) ?_
    walk_at "rd"
    rw [cutD_fromI (by omega)]
    refine go_addT (by rw [sizeLine_val]; simp; omega) ?_
    have e : (D.str f :: ts.map Trm.d).take i.toNat ++ [(t.put p u).d] ++ (D.str f :: ts.map Trm.d).drop (i + 1).toNat = .str f :: (ts.set (i - 1).toNat (t.put p u)).map Trm.d := by
      rw [show (i + 1).toNat = i.toNat + 1 by omega, set_parts (by simp; omega), show i.toNat = (i - 1).toNat + 1 by omega, List.set_cons_succ, List.map_set]
    rw [e, ← Trm.d_app]
    exact q

theorem sc__law_replace : FnScope ["_law_term_here", "_law_position", "_law_new", "_law_k"] ["_law_term_here", "_law_position", "_law_new"] (defScope s__law_replace) := ⟨rfl, rfl, rfl, by decide +kernel, rfl, by decide +kernel, by decide +kernel⟩
theorem ok__law_replace {P : Program} {w : World} {K : PySem.W.Frag} {mg : Str → Option Value} {base : Heap} {k : Nat} (n : Nat) (F : Df K mg "_law_replace" "_law_replace" s__law_replace) (z_len : mg "len" = none) (g__law_replace : Fk P w K mg base CX0 k "_law_replace" ["_law_term_here", "_law_position", "_law_new"] (sp__law_replace n)) : Fk P w K mg base CX0 (k + 1) "_law_replace" ["_law_term_here", "_law_position", "_law_new"] (sp__law_replace (n + 1)) := by
  have sc := sc__law_replace
  exact okF F sc (fun _ _ _ _ _ _ us hl => match us, hl with | [_, _, _], _ => rfl) len__law_replace fun cdv A outer s H E G f hr hgd => ⟨_, a__law_replace n,
    dss_cons (ds_if (dt_cmp (op_eqP (hu151 hr)) sr_eq (de_callB call_lenA sc_len (by rfl) z_len (by decide +kernel) (da_cons (dv 1) (da_nil))) (de_int) (nomark _)) (dss_one (ds_ret (dv 2))) (dss_nil)) (dss_cons (ds_set (i := 3) sc.nd rfl (.inl rfl) (de_ix (ix_all (hu_of hr)) sr_ix (dv 1) (de_int))) (dss_one (ds_ret (de_op (op_addA) sr_add (de_op (op_addA) sr_add (de_slice sl_all sl_sim (dv 0) (do_none) (do_some (dv 3))) (de_tup (da_cons (de_fn g__law_replace hr hgd (da_cons (de_ix (ix_all (hu_of hr)) sr_ix (dv 0) (dv 3)) (da_cons (de_slice sl_all sl_sim (dv 1) (do_some (de_int)) (do_none)) (da_cons (dv 2) (da_nil))))) (da_nil)))) (de_slice sl_all sl_sim (dv 0) (do_some (de_op (op_addA) sr_add (dv 3) (de_int))) (do_none)))))),
    fun ds W QD ED h => rd__law_replace h⟩
theorem all__law_replace {P : Program} {w : World} {K : PySem.W.Frag} {mg : Str → Option Value} {base : Heap} {k : Nat} (F : Df K mg "_law_replace" "_law_replace" s__law_replace) (z_len : mg "len" = none) : ∀ n : Nat, Fk P w K mg base CX0 (k + n) "_law_replace" ["_law_term_here", "_law_position", "_law_new"] (sp__law_replace n)
  | 0 => (Fk.none F none__law_replace (fun _ _ _ _ _ _ us hl => match us, hl with | [_, _, _], _ => rfl)).mono (Nat.zero_le _)
  | n + 1 => ok__law_replace n F  z_len (all__law_replace F  z_len n)
def sp__law_positions (n : Nat) : SpD := fun ds W Q _ => ∃ t : Trm, ds = [t.d] ∧ t.depth ≤ n ∧ t.size ≤ 1000000 ∧ Q (.lst (t.pos.map posD)) W
theorem len__law_positions {n : Nat} : ∀ ds W Q E, sp__law_positions n ds W Q E → ds.length = 1 := by
  rintro ds W Q E ⟨t, rfl, _⟩; rfl
theorem none__law_positions : ∀ ds W Q E, ¬ sp__law_positions 0 ds W Q E := fun ds W Q E ⟨t, _, h, _⟩ => by have := t.depth_pos; omega
theorem gc__law_positions {n : Nat} {t : Trm} {W : Wd} {Q : DQ} {E : DX} (h1 : t.depth ≤ n) (h2 : t.size ≤ 1000000) (k : Q (.lst (t.pos.map posD)) W) : sp__law_positions n [t.d] W Q E := ⟨t, rfl, h1, h2, k⟩

abbrev n__law_positions : List Str := ["_law_term_here", "_law_found", "_law_k", "_law_inner"]
def b1__law_positions (n : Nat) : AS := aDrop (aBM tyL dAppend (aVar 1) (aCons (aOp (dAdd false) (aTup (aCons (aVar 2) (aNil))) (aVar 3)) (aNil)))
def b2__law_positions (n : Nat) : AS := aFor (aiSeq (aCall (sp__law_positions n) [] ED0 (aCons (aOp dIx (aVar 0) (aVar 2)) (aNil)))) (agName 3) (b1__law_positions n)
def a__law_positions (n : Nat) : AS := aSeq (aAsg (aLst true (aCons (aTup (aNil)) (aNil))) (agName 1)) (aSeq (aIfS (aTest (aCB (dIsi) (aCons (aVar 0) (aCons (aC (.ty "int")) (aNil))))) (aRet (aVarF 1)) (aNext)) (aSeq (aFor (aiRng2 (aCons (aC (.int 1)) (aCons (aCB (dLen) (aCons (aVar 0) (aNil))) (aNil)))) (agName 2) (b2__law_positions n)) (aRet (aVarF 1))))
theorem rd__law_positions {n : Nat} {ds : List D} {W : Wd} {Q : DQ} {E : DX} (h : sp__law_positions (n + 1) ds W Q E) : a__law_positions n (EN Q) (startD n__law_positions ds) W := by
  obtain ⟨t, rfl, hd, hz, q⟩ := h
  unfold a__law_positions
  walk_at "rd"
  intro p hp
  cases t with
  | var v =>
    rw [Trm.d_var]
    walk_at "rd"
    exact q
  | app f ts =>
    have hd := depth_app_le.mp hd
    have hln : (D.str f :: ts.map Trm.d).length ≤ 2000000 := by have := length_sizes ts; rw [Trm.size] at hz; simp; omega
    have hpl : (Trm.app f ts).pos.length ≤ 1000000 := by rw [pos_length]; exact hz
    rw [Trm.d_app]
    walk_at "rd"
    refine forL_inv (items := rangeD 1 (((D.str f :: ts.map Trm.d).length : Int) - 1).toNat) (fun ds δ W' => ∃ (i : Nat) (acc : List D) (x y : Option D), W' = W.set p (.lst acc) ∧ ds = rangeD (1 + i) (ts.length - i) ∧ i ≤ ts.length ∧
      δ = [some (.tup (.str f :: ts.map Trm.d)), some (.ptr p), x, y] ∧ acc ++ (Trm.poss (1 + i) (ts.drop i)).map posD = (Trm.app f ts).pos.map posD) ?_ (fun _ _ _ _ => trivial) ?_ ?_
    · refine ⟨0, _, none, none, rfl, ?_, Nat.zero_le _, rfl, rfl⟩
      congr 1; simp
    · rintro d ds δ W' N ⟨i, acc, x, y, rfl, e, hi, rfl, hacc⟩ kk
      have hlt : i < ts.length := by
        by_cases h : i < ts.length
        · exact h
        · rw [show ts.length - i = 0 by omega] at e; cases e
      rw [show ts.length - i = (ts.length - (i + 1)) + 1 by omega, rangeD_succ] at e
      cases e
      rw [List.drop_eq_getElem_cons hlt, Trm.poss, List.map_append, List.map_map] at hacc
      unfold b2__law_positions
      walk_at "rd"
      refine go_ixT (d := ts[i].d) (by rw [atI_of (by omega), show (1 + (i : Int)).toNat = i + 1 by omega]; simp [hlt]) ?_
      walk_at "rd"
      have hmem : ts[i] ∈ ts := List.getElem_mem _
      refine gc__law_positions (hd _ hmem) (by have := size_mem hmem; rw [Trm.size] at hz; omega) ?_
      walk_at "rd"
      refine forL_inv (items := ts[i].pos.map posD) (fun ds δ W' => ∃ (acc' : List D) (ps : List (List Int)) (y : Option D), W' = W.set p (.lst acc') ∧ ds = ps.map posD ∧ (∀ r ∈ ps, r.length ≤ 1000000) ∧
        δ = [some (.tup (.str f :: ts.map Trm.d)), some (.ptr p), some (.int (1 + i)), y] ∧ acc' ++ (ps.map (fun q => posD ((1 + (i : Int)) :: q)) ++ (Trm.poss (1 + i + 1) (ts.drop (i + 1))).map posD) = (Trm.app f ts).pos.map posD) ?_ (fun _ _ _ _ => trivial) ?_ ?_
      · exact ⟨acc, _, _, rfl, rfl, fun r hr => by have := (pos_ok _ r hr).short; have := depth_le_size ts[i]; have := size_mem hmem; rw [Trm.size] at hz; omega, rfl, hacc⟩
      · rintro d ds δ W' N ⟨acc', ps, y, rfl, e, hrs, rfl, hacc'⟩ kk'
        cases ps with
        | nil => cases e
        | cons r ps =>
          rw [List.map_cons] at e
          cases e
          have hl2 := congrArg List.length hacc'
          have hr := hrs r List.mem_cons_self
          have hpl2 : acc'.length < 1000000 := by simp only [List.length_append, List.length_map, List.length_cons] at hl2; omega
          unfold b1__law_positions posD
          walk_at "rd"
          refine kk' _ _ ⟨acc' ++ [posD ((1 + (i : Int)) :: r)], ps, _, rfl, rfl, fun x hx => hrs x (List.mem_cons_of_mem _ hx), rfl, ?_⟩
          rw [← hacc']; simp
      · rintro δ W' ⟨acc', ps, y, rfl, e, hrs, rfl, hacc'⟩
        cases ps with
        | cons _ _ => cases e
        | nil =>
          refine kk _ _ ⟨i + 1, acc', _, _, rfl, by rw [show (1 + (i : Int) + 1) = 1 + ((i + 1 : Nat) : Int) by omega], by omega, rfl, ?_⟩
          rw [← hacc', show (1 + (i : Int) + 1) = 1 + ((i + 1 : Nat) : Int) by omega]; rfl
    · rintro δ W' ⟨i, acc, x, y, rfl, e, hi, rfl, hacc⟩
      have hge : ts.length - i = 0 := by
        cases h : ts.length - i with
        | zero => rfl
        | succ m => rw [h, rangeD_succ] at e; cases e
      rw [List.drop_eq_nil_of_le (by omega : ts.length ≤ i), Trm.poss, List.map_nil, List.append_nil] at hacc
      rw [hacc]
      walk_at "rd"
      exact q

theorem sc__law_positions : FnScope ["_law_term_here", "_law_found", "_law_k", "_law_inner"] ["_law_term_here"] (defScope s__law_positions) := ⟨rfl, rfl, rfl, by decide +kernel, rfl, by decide +kernel, by decide +kernel⟩
theorem ok__law_positions {P : Program} {w : World} {K : PySem.W.Frag} {mg : Str → Option Value} {base : Heap} {k : Nat} (n : Nat) (F : Df K mg "_law_positions" "_law_positions" s__law_positions) (z_isinstance : mg "isinstance" = none) (z_int : mg "int" = none) (z_len : mg "len" = none) (z_range : mg "range" = none) (g__law_positions : Fk P w K mg base CX0 k "_law_positions" ["_law_term_here"] (sp__law_positions n)) : Fk P w K mg base CX0 (k + 1) "_law_positions" ["_law_term_here"] (sp__law_positions (n + 1)) := by
  have sc := sc__law_positions
  exact okF F sc (fun _ _ _ _ _ _ us hl => match us, hl with | [_], _ => rfl) len__law_positions fun cdv A outer s H E G f hr hgd => ⟨_, a__law_positions n,
    dss_cons (ds_set (i := 1) sc.nd rfl (.inl rfl) (de_lst true (da_cons (de_tup (da_nil)) (da_nil)))) (dss_cons (ds_if (dt_val (de_callB call_isi sc_isi (by rfl) z_isinstance (by decide +kernel) (da_cons (dv 0) (da_cons (de_bty (by rfl) z_int (by decide +kernel)) (da_nil))))) (dss_one (ds_ret (dvF 1))) (dss_nil)) (dss_cons (ds_for PassesOwn.never rfl (di_range2 (by rfl) z_range (da_cons (de_int) (da_cons (de_callB call_lenA sc_len (by rfl) z_len (by decide +kernel) (da_cons (dv 0) (da_nil))) (da_nil)))) (dg_name (i := 2) sc.nd rfl (.inl rfl)) (dss_one (ds_for PassesOwn.never rfl (di_seq (de_fn g__law_positions hr hgd (da_cons (de_ix (ix_all (hu_of hr)) sr_ix (dv 0) (dv 2)) (da_nil)))) (dg_name (i := 3) sc.nd rfl (.inl rfl)) (dss_one (ds_expr (de_append (dv 1) (da_cons (de_op (op_addA) sr_add (de_tup (da_cons (dv 2) (da_nil))) (dv 3)) (da_nil)))))))) (dss_one (ds_ret (dvF 1))))),
    fun ds W QD ED h => rd__law_positions h⟩
theorem all__law_positions {P : Program} {w : World} {K : PySem.W.Frag} {mg : Str → Option Value} {base : Heap} {k : Nat} (F : Df K mg "_law_positions" "_law_positions" s__law_positions) (z_isinstance : mg "isinstance" = none) (z_int : mg "int" = none) (z_len : mg "len" = none) (z_range : mg "range" = none) : ∀ n : Nat, Fk P w K mg base CX0 (k + n) "_law_positions" ["_law_term_here"] (sp__law_positions n)
  | 0 => (Fk.none F none__law_positions (fun _ _ _ _ _ _ us hl => match us, hl with | [_], _ => rfl)).mono (Nat.zero_le _)
  | n + 1 => ok__law_positions n F  z_isinstance z_int z_len z_range (all__law_positions F  z_isinstance z_int z_len z_range n)
def sp__law_substitute (n : Nat) : SpD := fun ds W Q _ => ∃ (t : Trm) (dd : D) (kds : List (Key × D)) (s : Int → Trm), ds = [t.d, dd] ∧ dkOf W dd = some kds ∧ (∀ v, (look kds (.inl v)).getD (.int v) = (s v).d) ∧ t.depth ≤ n ∧ t.size ≤ 1000000 ∧ Q (t.sub s).d W
theorem len__law_substitute {n : Nat} : ∀ ds W Q E, sp__law_substitute n ds W Q E → ds.length = 2 := by
  rintro ds W Q E ⟨t, _, _, _, rfl, _⟩; rfl
theorem none__law_substitute : ∀ ds W Q E, ¬ sp__law_substitute 0 ds W Q E := fun ds W Q E ⟨t, _, _, _, _, _, _, h, _⟩ => by have := t.depth_pos; omega
theorem gc__law_substitute {n : Nat} {t : Trm} {dd : D} {kds : List (Key × D)} {s : Int → Trm} {W : Wd} {Q : DQ} {E : DX} (h0 : dkOf W dd = some kds) (h1 : ∀ v, (look kds (.inl v)).getD (.int v) = (s v).d) (h2 : t.depth ≤ n) (h3 : t.size ≤ 1000000) (k : Q (t.sub s).d W) : sp__law_substitute n [t.d, dd] W Q E := ⟨t, dd, kds, s, rfl, h0, h1, h2, h3, k⟩

abbrev n__law_substitute : List Str := ["_law_term_here", "_law_substitution", "_law_result", "_law_argument"]
def b1__law_substitute (n : Nat) : AS := aAsg (aOp (dAdd false) (aVar 2) (aTup (aCons (aCall (sp__law_substitute n) [] ED0 (aCons (aVar 3) (aCons (aVar 1) (aNil)))) (aNil)))) (agName 2)
def a__law_substitute (n : Nat) : AS := aSeq (aIfS (aTest (aCB (dIsi) (aCons (aVar 0) (aCons (aC (.ty "int")) (aNil))))) (aRet (aGet2 (aVar 1) (aVar 0) (aVar 0))) (aNext)) (aSeq (aAsg (aTup (aCons (aOp dIx (aVar 0) (aC (.int 0))) (aNil))) (agName 2)) (aSeq (aFor (aiSeq (aSl (dSl false) (aVar 0) (aPart (aC (.int 1))) (aNoPart))) (agName 3) (b1__law_substitute n)) (aRet (aVar 2))))
theorem rd__law_substitute {n : Nat} {ds : List D} {W : Wd} {Q : DQ} {E : DX} (h : sp__law_substitute (n + 1) ds W Q E) : a__law_substitute n (EN Q) (startD n__law_substitute ds) W := by
  obtain ⟨t, dd, kds, s, rfl, hk, hs, hd, hz, q⟩ := h
  unfold a__law_substitute
  cases t with
  | var v =>
    rw [Trm.d_var]
    walk_at "rd"
    refine go_dv hk ?_
    walk_at "rd"
    refine go_dg hk rfl rfl ?_
    rw [hs v]
    exact q
  | app f ts =>
    have hd := depth_app_le.mp hd
    have hls := length_sizes ts
    rw [Trm.size] at hz
    rw [sub_app] at q
    rw [Trm.d_app]
    walk_at "rd"
    refine forL_inv (items := ts.map Trm.d) (fun ds δ W' => ∃ (us vs : List Trm) (x : Option D), W' = W ∧ ds = us.map Trm.d ∧ vs ++ us = ts ∧
      δ = [some (.tup (.str f :: ts.map Trm.d)), some dd, some (.tup (.str f :: (vs.map (Trm.sub s)).map Trm.d)), x]) ⟨ts, [], none, rfl, rfl, rfl, rfl⟩ (fun _ _ _ _ => trivial) ?_ ?_
    · rintro d ds δ W' N ⟨us, vs, x, rfl, e, hv, rfl⟩ kk
      cases us with
      | nil => cases e
      | cons u us =>
        rw [List.map_cons] at e
        cases e
        have hu : u ∈ ts := by rw [← hv]; simp
        have hl2 := congrArg List.length hv
        simp only [List.length_append, List.length_cons] at hl2
        unfold b1__law_substitute
        walk_at "rd"
        refine gc__law_substitute hk hs (hd u hu) (by have := size_mem hu; omega) ?_
        walk_at "rd"
        refine kk _ _ ⟨us, vs ++ [u], _, rfl, rfl, by rw [← hv]; simp, by simp; rfl⟩
    · rintro δ W' ⟨us, vs, x, rfl, e, hv, rfl⟩
      cases us with
      | cons _ _ => cases e
      | nil =>
        rw [List.append_nil] at hv
        subst hv
        walk_at "rd"
        rw [← Trm.d_app]
        exact q

theorem sc__law_substitute : FnScope ["_law_term_here", "_law_substitution", "_law_result", "_law_argument"] ["_law_term_here", "_law_substitution"] (defScope s__law_substitute) := ⟨rfl, rfl, rfl, by decide +kernel, rfl, by decide +kernel, by decide +kernel⟩
theorem ok__law_substitute {P : Program} {w : World} {K : PySem.W.Frag} {mg : Str → Option Value} {base : Heap} {k : Nat} (n : Nat) (F : Df K mg "_law_substitute" "_law_substitute" s__law_substitute) (z_isinstance : mg "isinstance" = none) (z_int : mg "int" = none) (g__law_substitute : Fk P w K mg base CX0 k "_law_substitute" ["_law_term_here", "_law_substitution"] (sp__law_substitute n)) : Fk P w K mg base CX0 (k + 1) "_law_substitute" ["_law_term_here", "_law_substitution"] (sp__law_substitute (n + 1)) := by
  have sc := sc__law_substitute
  exact okF F sc (fun _ _ _ _ _ _ us hl => match us, hl with | [_, _], _ => rfl) len__law_substitute fun cdv A outer s H E G f hr hgd => ⟨_, a__law_substitute n,
    dss_cons (ds_if (dt_val (de_callB call_isi sc_isi (by rfl) z_isinstance (by decide +kernel) (da_cons (dv 0) (da_cons (de_bty (by rfl) z_int (by decide +kernel)) (da_nil))))) (dss_one (ds_ret (de_get2 (hu_of hr) (dv 1) (dv 0) (dv 0)))) (dss_nil)) (dss_cons (ds_set (i := 2) sc.nd rfl (.inl rfl) (de_tup (da_cons (de_ix (ix_all (hu_of hr)) sr_ix (dv 0) (de_int)) (da_nil)))) (dss_cons (ds_for PassesOwn.never rfl (di_seq (de_slice sl_all sl_sim (dv 0) (do_some (de_int)) (do_none))) (dg_name (i := 3) sc.nd rfl (.inl rfl)) (dss_one (ds_set (i := 2) sc.nd rfl (.inl rfl) (de_op (op_addA) sr_add (dv 2) (de_tup (da_cons (de_fn g__law_substitute hr hgd (da_cons (dv 3) (da_cons (dv 1) (da_nil)))) (da_nil))))))) (dss_one (ds_ret (dv 2))))),
    fun ds W QD ED h => rd__law_substitute h⟩
theorem all__law_substitute {P : Program} {w : World} {K : PySem.W.Frag} {mg : Str → Option Value} {base : Heap} {k : Nat} (F : Df K mg "_law_substitute" "_law_substitute" s__law_substitute) (z_isinstance : mg "isinstance" = none) (z_int : mg "int" = none) : ∀ n : Nat, Fk P w K mg base CX0 (k + n) "_law_substitute" ["_law_term_here", "_law_substitution"] (sp__law_substitute n)
  | 0 => (Fk.none F none__law_substitute (fun _ _ _ _ _ _ us hl => match us, hl with | [_, _], _ => rfl)).mono (Nat.zero_le _)
  | n + 1 => ok__law_substitute n F  z_isinstance z_int (all__law_substitute F  z_isinstance z_int n)
def sp__law_variables (n : Nat) : SpD := fun ds W Q _ => ∃ t : Trm, ds = [t.d] ∧ t.depth ≤ n ∧ t.size ≤ 1000000 ∧ Q (.lst (t.vars.map .int)) W
theorem len__law_variables {n : Nat} : ∀ ds W Q E, sp__law_variables n ds W Q E → ds.length = 1 := by
  rintro ds W Q E ⟨t, rfl, _⟩; rfl
theorem none__law_variables : ∀ ds W Q E, ¬ sp__law_variables 0 ds W Q E := fun ds W Q E ⟨t, _, h, _⟩ => by have := t.depth_pos; omega
theorem gc__law_variables {n : Nat} {t : Trm} {W : Wd} {Q : DQ} {E : DX} (h1 : t.depth ≤ n) (h2 : t.size ≤ 1000000) (k : Q (.lst (t.vars.map .int)) W) : sp__law_variables n [t.d] W Q E := ⟨t, rfl, h1, h2, k⟩
theorem nub_app : ∀ (ns ms acc : List Int), nub acc (ns ++ ms) = nub (nub acc ns) ms
  | [], ms, acc => rfl
  | n :: ns, ms, acc => by rw [List.cons_append, nub, nub, nub_app ns ms]
theorem nub_mono {x : Int} : ∀ (ns acc : List Int), x ∈ acc → x ∈ nub acc ns
  | [], acc, h => h
  | n :: ns, acc, h => by
    rw [nub]
    apply nub_mono
    split
    · exact h
    · exact List.mem_append_left _ h
theorem nub_mem {x : Int} : ∀ (ns acc : List Int), x ∈ ns → x ∈ nub acc ns
  | n :: ns, acc, h => by
    rw [nub]
    rcases List.mem_cons.mp h with e | h
    · apply nub_mono
      split
      · rw [e]; assumption
      · rw [e]; simp
    · exact nub_mem ns _ h
theorem nub_nub : ∀ (ns acc acc' : List Int), nub acc (nub acc' ns) = nub acc (acc' ++ ns) := by
  intro ns
  induction ns with
  | nil => intro acc acc'; rw [nub, List.append_nil]
  | cons n ns ih =>
    intro acc acc'
    rw [nub, ih]
    split
    · rename_i h
      rw [nub_app, nub_app, nub, if_pos (nub_mem acc' acc h)]
    · rw [List.append_assoc]; rfl
def varss (ts : List Trm) : List Int := (Trm.symss ts).filterMap Sy.int?
theorem varss_cons (t : Trm) (ts : List Trm) : varss (t :: ts) = t.syms.filterMap Sy.int? ++ varss ts := by
  unfold varss; rw [Trm.symss, List.filterMap_append]
theorem varss_len (ts : List Trm) : (varss ts).length ≤ Trm.sizes ts := by
  unfold varss; rw [← symss_len]; exact List.length_filterMap_le ..
theorem vars_len (t : Trm) : t.vars.length ≤ t.size := by
  unfold Trm.vars
  have := nub_len (t.syms.filterMap Sy.int?) []
  have := List.length_filterMap_le Sy.int? t.syms
  rw [syms_len] at this
  simp at *
  omega

abbrev n__law_variables : List Str := ["_law_term_here", "_law_found", "_law_argument", "_law_variable"]
def b1__law_variables (n : Nat) : AS := aIfS (aTest (aOp (dIn true) (aVar 3) (aVar 1))) (aDrop (aBM tyL dAppend (aVar 1) (aCons (aVar 3) (aNil)))) (aNext)
def b2__law_variables (n : Nat) : AS := aFor (aiSeq (aCall (sp__law_variables n) [] ED0 (aCons (aVar 2) (aNil)))) (agName 3) (b1__law_variables n)
def a__law_variables (n : Nat) : AS := aSeq (aIfS (aTest (aCB (dIsi) (aCons (aVar 0) (aCons (aC (.ty "int")) (aNil))))) (aRet (aLst false (aCons (aVar 0) (aNil)))) (aNext)) (aSeq (aAsg (aLst true (aNil)) (agName 1)) (aSeq (aFor (aiSeq (aSl (dSl false) (aVar 0) (aPart (aC (.int 1))) (aNoPart))) (agName 2) (b2__law_variables n)) (aRet (aVarF 1))))
theorem rd__law_variables {n : Nat} {ds : List D} {W : Wd} {Q : DQ} {E : DX} (h : sp__law_variables (n + 1) ds W Q E) : a__law_variables n (EN Q) (startD n__law_variables ds) W := by
  obtain ⟨t, rfl, hd, hz, q⟩ := h
  unfold a__law_variables
  cases t with
  | var v =>
    rw [Trm.d_var]
    walk_at "rd"
    exact q
  | app f ts =>
    have hd := depth_app_le.mp hd
    have hv : (Trm.app f ts).vars = nub [] (varss ts) := rfl
    rw [hv] at q
    have hvl := varss_len ts
    rw [Trm.size] at hz
    rw [Trm.d_app]
    walk_at "rd"
    intro p hp
    walk_at "rd"
    refine forL_inv (items := ts.map Trm.d) (fun ds δ W' => ∃ (us : List Trm) (acc : List Int) (x y : Option D), W' = W.set p (.lst (acc.map .int)) ∧ ds = us.map Trm.d ∧ (∀ u ∈ us, u ∈ ts) ∧ nub acc (varss us) = nub [] (varss ts) ∧ acc.length + (varss us).length ≤ 1000000 ∧
      δ = [some (.tup (.str f :: ts.map Trm.d)), some (.ptr p), x, y]) ⟨ts, [], none, none, rfl, rfl, fun _ h => h, rfl, by simp; omega, rfl⟩ (fun _ _ _ _ => trivial) ?_ ?_
    · rintro d ds δ W' N ⟨us, acc, x, y, rfl, e, hu, hn, hl, rfl⟩ kk
      cases us with
      | nil => cases e
      | cons u us =>
        rw [List.map_cons] at e
        cases e
        have hu1 := hu u List.mem_cons_self
        rw [varss_cons, nub_app] at hn
        rw [varss_cons, List.length_append] at hl
        have hvu : u.vars.length ≤ (u.syms.filterMap Sy.int?).length := by
          unfold Trm.vars
          have := nub_len (u.syms.filterMap Sy.int?) []
          simpa using this
        unfold b2__law_variables
        walk_at "rd"
        refine gc__law_variables (hd u hu1) (by have := size_mem hu1; omega) ?_
        walk_at "rd"
        refine forL_inv (items := u.vars.map .int) (fun ds δ W' => ∃ (vs acc' : List Int) (y : Option D), W' = W.set p (.lst (acc'.map .int)) ∧ ds = vs.map .int ∧ nub acc' vs = nub acc (u.syms.filterMap Sy.int?) ∧ acc'.length + vs.length ≤ acc.length + u.vars.length ∧
          δ = [some (.tup (.str f :: ts.map Trm.d)), some (.ptr p), some u.d, y]) ?_ (fun _ _ _ _ => trivial) ?_ ?_
        · exact ⟨u.vars, acc, _, rfl, rfl, by unfold Trm.vars; rw [nub_nub]; rfl, Nat.le_refl _, rfl⟩
        · rintro d ds δ W' N ⟨vs, acc', y, rfl, e, hn', hl', rfl⟩ kk'
          cases vs with
          | nil => cases e
          | cons v vs =>
            rw [List.map_cons] at e
            cases e
            rw [nub] at hn'
            rw [List.length_cons] at hl'
            unfold b1__law_variables
            walk_at "rd"
            refine go_ninIp (Wd.set_same ..) ?_
            walk_at "rd"
            by_cases hm : v ∈ acc'
            · rw [if_pos hm] at hn'
              rw [decide_eq_true hm]
              walk_at "rd"
              exact kk' _ _ ⟨vs, acc', _, rfl, rfl, hn', by omega, rfl⟩
            · rw [if_neg hm] at hn'
              rw [decide_eq_false hm]
              walk_at "rd"
              exact kk' _ _ ⟨vs, acc' ++ [v], _, by rw [List.map_append]; rfl, rfl, hn', by rw [List.length_append, List.length_singleton]; omega, rfl⟩
        · rintro δ W' ⟨vs, acc', y, rfl, e, hn', hl', rfl⟩
          cases vs with
          | cons _ _ => cases e
          | nil =>
            rw [nub] at hn'
            exact kk _ _ ⟨us, acc', _, _, rfl, rfl, fun v hv => hu v (List.mem_cons_of_mem _ hv), by rw [hn']; exact hn, by simp at hl'; omega, rfl⟩
    · rintro δ W' ⟨us, acc, x, y, rfl, e, hu, hn, hl, rfl⟩
      cases us with
      | cons _ _ => cases e
      | nil =>
        rw [show varss [] = [] from rfl, nub] at hn
        rw [hn]
        walk_at "rd"
        exact q

theorem sc__law_variables : FnScope ["_law_term_here", "_law_found", "_law_argument", "_law_variable"] ["_law_term_here"] (defScope s__law_variables) := ⟨rfl, rfl, rfl, by decide +kernel, rfl, by decide +kernel, by decide +kernel⟩
theorem ok__law_variables {P : Program} {w : World} {K : PySem.W.Frag} {mg : Str → Option Value} {base : Heap} {k : Nat} (n : Nat) (F : Df K mg "_law_variables" "_law_variables" s__law_variables) (z_isinstance : mg "isinstance" = none) (z_int : mg "int" = none) (g__law_variables : Fk P w K mg base CX0 k "_law_variables" ["_law_term_here"] (sp__law_variables n)) : Fk P w K mg base CX0 (k + 1) "_law_variables" ["_law_term_here"] (sp__law_variables (n + 1)) := by
  have sc := sc__law_variables
  exact okF F sc (fun _ _ _ _ _ _ us hl => match us, hl with | [_], _ => rfl) len__law_variables fun cdv A outer s H E G f hr hgd => ⟨_, a__law_variables n,
    dss_cons (ds_if (dt_val (de_callB call_isi sc_isi (by rfl) z_isinstance (by decide +kernel) (da_cons (dv 0) (da_cons (de_bty (by rfl) z_int (by decide +kernel)) (da_nil))))) (dss_one (ds_ret (de_lst false (da_cons (dv 0) (da_nil))))) (dss_nil)) (dss_cons (ds_set (i := 1) sc.nd rfl (.inl rfl) (de_lst true (da_nil))) (dss_cons (ds_for PassesOwn.never rfl (di_seq (de_slice sl_all sl_sim (dv 0) (do_some (de_int)) (do_none))) (dg_name (i := 2) sc.nd rfl (.inl rfl)) (dss_one (ds_for PassesOwn.never rfl (di_seq (de_fn g__law_variables hr hgd (da_cons (dv 2) (da_nil)))) (dg_name (i := 3) sc.nd rfl (.inl rfl)) (dss_one (ds_if (dt_cmp (op_notInA (hu151 hr)) sr_in (dv 3) (dv 1) (by rfl)) (dss_one (ds_expr (de_append (dv 1) (da_cons (dv 3) (da_nil))))) (dss_nil)))))) (dss_one (ds_ret (dvF 1))))),
    fun ds W QD ED h => rd__law_variables h⟩
theorem all__law_variables {P : Program} {w : World} {K : PySem.W.Frag} {mg : Str → Option Value} {base : Heap} {k : Nat} (F : Df K mg "_law_variables" "_law_variables" s__law_variables) (z_isinstance : mg "isinstance" = none) (z_int : mg "int" = none) : ∀ n : Nat, Fk P w K mg base CX0 (k + n) "_law_variables" ["_law_term_here"] (sp__law_variables n)
  | 0 => (Fk.none F none__law_variables (fun _ _ _ _ _ _ us hl => match us, hl with | [_], _ => rfl)).mono (Nat.zero_le _)
  | n + 1 => ok__law_variables n F  z_isinstance z_int (all__law_variables F  z_isinstance z_int n)
def sp__law_same (n : Nat) : SpD := fun ds W Q _ => ∃ t u : Trm, ds = [t.d, u.d] ∧ t.depth ≤ n ∧ t.size ≤ 1000000 ∧ Q (.bl (decide (t = u))) W
theorem len__law_same {n : Nat} : ∀ ds W Q E, sp__law_same n ds W Q E → ds.length = 2 := by
  rintro ds W Q E ⟨_, _, rfl, _⟩; rfl
theorem none__law_same : ∀ ds W Q E, ¬ sp__law_same 0 ds W Q E := fun ds W Q E ⟨t, _, _, h, _⟩ => by have := t.depth_pos; omega
theorem gc__law_same {n : Nat} {t u : Trm} {W : Wd} {Q : DQ} {E : DX} (h1 : t.depth ≤ n) (h2 : t.size ≤ 1000000) (k : Q (.bl (decide (t = u))) W) : sp__law_same n [t.d, u.d] W Q E := ⟨t, u, rfl, h1, h2, k⟩

abbrev n__law_same : List Str := ["_law_first", "_law_second", "_law_k"]
def b1__law_same (n : Nat) : AS := aIfS (aNot (aTest (aCall (sp__law_same n) [] ED0 (aCons (aOp dIx (aVar 0) (aVar 2)) (aCons (aOp dIx (aVar 1) (aVar 2)) (aNil)))))) (aRet (aC (.bl false))) (aNext)
def a__law_same (n : Nat) : AS := aSeq (aIfS (aOr (aTest (aCB (dIsi) (aCons (aVar 0) (aCons (aC (.ty "bool")) (aNil))))) (aTest (aCB (dIsi) (aCons (aVar 1) (aCons (aC (.ty "bool")) (aNil)))))) (aRet (aC (.bl false))) (aNext)) (aSeq (aIfS (aOr (aTest (aCB (dIsi) (aCons (aVar 0) (aCons (aC (.ty "int")) (aNil))))) (aTest (aCB (dIsi) (aCons (aVar 1) (aCons (aC (.ty "int")) (aNil)))))) (aRet (aAndV (aCB (dIsi) (aCons (aVar 0) (aCons (aC (.ty "int")) (aNil)))) (aAndV (aCB (dIsi) (aCons (aVar 1) (aCons (aC (.ty "int")) (aNil)))) (aOp (dEq) (aVar 0) (aVar 1))))) (aNext)) (aSeq (aIfS (aOr (aNot (aTest (aCB (dIsi) (aCons (aVar 0) (aCons (aC (.ty "tuple")) (aNil)))))) (aOr (aNot (aTest (aCB (dIsi) (aCons (aVar 1) (aCons (aC (.ty "tuple")) (aNil)))))) (aTest (aOp (dNe) (aCB (dLen) (aCons (aVar 0) (aNil))) (aCB (dLen) (aCons (aVar 1) (aNil))))))) (aRet (aC (.bl false))) (aNext)) (aSeq (aIfS (aOr (aTest (aOp (dEq) (aCB (dLen) (aCons (aVar 0) (aNil))) (aC (.int 0)))) (aOr (aNot (aTest (aCB (dIsi) (aCons (aOp dIx (aVar 0) (aC (.int 0))) (aCons (aC (.ty "str")) (aNil)))))) (aTest (aOp (dNe) (aOp dIx (aVar 0) (aC (.int 0))) (aOp dIx (aVar 1) (aC (.int 0))))))) (aRet (aC (.bl false))) (aNext)) (aSeq (aFor (aiRng2 (aCons (aC (.int 1)) (aCons (aCB (dLen) (aCons (aVar 0) (aNil))) (aNil)))) (agName 2) (b1__law_same n)) (aRet (aC (.bl true)))))))
theorem rd__law_same {n : Nat} {ds : List D} {W : Wd} {Q : DQ} {E : DX} (h : sp__law_same (n + 1) ds W Q E) : a__law_same n (EN Q) (startD n__law_same ds) W := by
  obtain ⟨t, u, rfl, hd, hz, q⟩ := h
  unfold a__law_same
  cases t with
  | var v =>
    cases u with
    | var w =>
      rw [Trm.d_var, Trm.d_var]
      walk_at "rs"
      simpa using q
    | app g us =>
      rw [Trm.d_var, Trm.d_app]
      walk_at "rs"
      simpa using q
  | app f ts =>
    cases u with
    | var w =>
      rw [Trm.d_var, Trm.d_app]
      walk_at "rs"
      simpa using q
    | app g us =>
      have hd := depth_app_le.mp hd
      have hls := length_sizes ts
      rw [Trm.size] at hz
      rw [Trm.d_app, Trm.d_app]
      by_cases hfg : f = g ∧ ts.length = us.length
      · obtain ⟨rfl, hl⟩ := hfg
        have hc : (((D.str f :: ts.map Trm.d).length : Nat) : Int) = ((D.str f :: us.map Trm.d).length : Nat) := by simp [hl]
        have hn0 : ¬ (((D.str f :: ts.map Trm.d).length : Nat) : Int) = 0 := by simp; omega
        have hln : (D.str f :: ts.map Trm.d).length ≤ 2000000 := by simp; omega
        walk_at "rs"
        all_goals first
          | (exfalso; exact absurd hc (by assumption))
          | (exfalso; exact absurd (by assumption) hn0)
          | skip
        refine forL_inv (items := rangeD 1 (((D.str f :: ts.map Trm.d).length : Int) - 1).toNat) (fun ds δ W' => ∃ (i : Nat) (x : Option D), W' = W ∧ ds = rangeD (1 + i) (ts.length - i) ∧ i ≤ ts.length ∧
          δ = [some (.tup (.str f :: ts.map Trm.d)), some (.tup (.str f :: us.map Trm.d)), x] ∧ ts.take i = us.take i) ?_ (fun _ _ _ _ => trivial) ?_ ?_
        · refine ⟨0, none, rfl, ?_, Nat.zero_le _, rfl, by simp⟩
          congr 1; simp
        · rintro d ds δ W' N ⟨i, x, rfl, e, hi, rfl, hm⟩ kk
          have hlt : i < ts.length := by
            by_cases h : i < ts.length
            · exact h
            · rw [show ts.length - i = 0 by omega] at e; cases e
          have hlt2 : i < us.length := by omega
          rw [show ts.length - i = (ts.length - (i + 1)) + 1 by omega, rangeD_succ] at e
          cases e
          have hmem : ts[i] ∈ ts := List.getElem_mem _
          unfold b1__law_same
          walk_at "rd"
          refine go_ixT (d := ts[i].d) (by rw [atI_of (by omega), show (1 + (i : Int)).toNat = i + 1 by omega]; simp [hlt]) ?_
          walk_at "rd"
          refine go_ixT (d := us[i].d) (by rw [atI_of (by omega), show (1 + (i : Int)).toNat = i + 1 by omega]; simp [hlt2]) ?_
          walk_at "rd"
          refine gc__law_same (hd _ hmem) (by have := size_mem hmem; omega) ?_
          walk_at "rd"
          by_cases eb : ts[i] = us[i]
          · rw [decide_eq_true eb]
            walk_at "rd"
            refine kk _ _ ⟨i + 1, _, rfl, by rw [show (1 + (i : Int) + 1) = 1 + ((i + 1 : Nat) : Int) by omega], by omega, rfl, ?_⟩
            rw [List.take_succ_eq_append_getElem hlt, List.take_succ_eq_append_getElem hlt2, hm, eb]
          · rw [decide_eq_false eb]
            walk_at "rd"
            have : ¬ Trm.app f ts = Trm.app f us := fun h => by
              injection h with _ h
              subst h
              exact eb rfl
            rw [decide_eq_false this] at q
            exact q
        · rintro δ W' ⟨i, x, rfl, e, hi, rfl, hm⟩
          have hge : ts.length - i = 0 := by
            cases h : ts.length - i with
            | zero => rfl
            | succ m => rw [h, rangeD_succ] at e; cases e
          rw [List.take_of_length_le (by omega : ts.length ≤ i), List.take_of_length_le (by omega : us.length ≤ i)] at hm
          subst hm
          walk_at "rd"
          simpa using q
      · have q : Q (.bl false) W := by
          have : ¬ Trm.app f ts = Trm.app g us := fun h => by
            injection h with h1 h2
            exact hfg ⟨h1, by rw [h2]⟩
          rw [decide_eq_false this] at q
          exact q
        have hln : (D.str f :: ts.map Trm.d).length ≤ 2000000 := by simp; omega
        walk_at "rs"
        all_goals first
          | exact q
          | (exfalso; exact hfg ⟨by assumption, by simp at *; omega⟩)

theorem sc__law_same : FnScope ["_law_first", "_law_second", "_law_k"] ["_law_first", "_law_second"] (defScope s__law_same) := ⟨rfl, rfl, rfl, by decide +kernel, rfl, by decide +kernel, by decide +kernel⟩
theorem ok__law_same {P : Program} {w : World} {K : PySem.W.Frag} {mg : Str → Option Value} {base : Heap} {k : Nat} (n : Nat) (F : Df K mg "_law_same" "_law_same" s__law_same) (z_isinstance : mg "isinstance" = none) (z_bool : mg "bool" = none) (z_int : mg "int" = none) (z_tuple : mg "tuple" = none) (z_len : mg "len" = none) (z_str : mg "str" = none) (z_range : mg "range" = none) (g__law_same : Fk P w K mg base CX0 k "_law_same" ["_law_first", "_law_second"] (sp__law_same n)) : Fk P w K mg base CX0 (k + 1) "_law_same" ["_law_first", "_law_second"] (sp__law_same (n + 1)) := by
  have sc := sc__law_same
  exact okF F sc (fun _ _ _ _ _ _ us hl => match us, hl with | [_, _], _ => rfl) len__law_same fun cdv A outer s H E G f hr hgd => ⟨_, a__law_same n,
    dss_cons (ds_if (DW.dt (dw_or (dt_val (de_callB call_isi sc_isi (by rfl) z_isinstance (by decide +kernel) (da_cons (dv 0) (da_cons (de_bty (by rfl) z_bool (by decide +kernel)) (da_nil))))) (dw_or1 (dt_val (de_callB call_isi sc_isi (by rfl) z_isinstance (by decide +kernel) (da_cons (dv 1) (da_cons (de_bty (by rfl) z_bool (by decide +kernel)) (da_nil)))))))) (dss_one (ds_ret (de_bl))) (dss_nil)) (dss_cons (ds_if (DW.dt (dw_or (dt_val (de_callB call_isi sc_isi (by rfl) z_isinstance (by decide +kernel) (da_cons (dv 0) (da_cons (de_bty (by rfl) z_int (by decide +kernel)) (da_nil))))) (dw_or1 (dt_val (de_callB call_isi sc_isi (by rfl) z_isinstance (by decide +kernel) (da_cons (dv 1) (da_cons (de_bty (by rfl) z_int (by decide +kernel)) (da_nil)))))))) (dss_one (ds_ret (de_and (de_callB call_isi sc_isi (by rfl) z_isinstance (by decide +kernel) (da_cons (dv 0) (da_cons (de_bty (by rfl) z_int (by decide +kernel)) (da_nil)))) (de_and (de_callB call_isi sc_isi (by rfl) z_isinstance (by decide +kernel) (da_cons (dv 1) (da_cons (de_bty (by rfl) z_int (by decide +kernel)) (da_nil)))) (de_one (de_cmp (op_eqP (hu151 hr)) sr_eq (dv 0) (dv 1) (nomark _))))))) (dss_nil)) (dss_cons (ds_if (DW.dt (dw_or (dt_not (dt_val (de_callB call_isi sc_isi (by rfl) z_isinstance (by decide +kernel) (da_cons (dv 0) (da_cons (de_bty (by rfl) z_tuple (by decide +kernel)) (da_nil)))))) (dw_or (dt_not (dt_val (de_callB call_isi sc_isi (by rfl) z_isinstance (by decide +kernel) (da_cons (dv 1) (da_cons (de_bty (by rfl) z_tuple (by decide +kernel)) (da_nil)))))) (dw_or1 (dt_cmp (op_neP (hu151 hr)) sr_ne (de_callB call_lenA sc_len (by rfl) z_len (by decide +kernel) (da_cons (dv 0) (da_nil))) (de_callB call_lenA sc_len (by rfl) z_len (by decide +kernel) (da_cons (dv 1) (da_nil))) (nomark _)))))) (dss_one (ds_ret (de_bl))) (dss_nil)) (dss_cons (ds_if (DW.dt (dw_or (dt_cmp (op_eqP (hu151 hr)) sr_eq (de_callB call_lenA sc_len (by rfl) z_len (by decide +kernel) (da_cons (dv 0) (da_nil))) (de_int) (nomark _)) (dw_or (dt_not (dt_val (de_callB call_isi sc_isi (by rfl) z_isinstance (by decide +kernel) (da_cons (de_ix (ix_all (hu_of hr)) sr_ix (dv 0) (de_int)) (da_cons (de_bty (by rfl) z_str (by decide +kernel)) (da_nil)))))) (dw_or1 (dt_cmp (op_neP (hu151 hr)) sr_ne (de_ix (ix_all (hu_of hr)) sr_ix (dv 0) (de_int)) (de_ix (ix_all (hu_of hr)) sr_ix (dv 1) (de_int)) (nomark _)))))) (dss_one (ds_ret (de_bl))) (dss_nil)) (dss_cons (ds_for PassesOwn.never rfl (di_range2 (by rfl) z_range (da_cons (de_int) (da_cons (de_callB call_lenA sc_len (by rfl) z_len (by decide +kernel) (da_cons (dv 0) (da_nil))) (da_nil)))) (dg_name (i := 2) sc.nd rfl (.inl rfl)) (dss_one (ds_if (dt_not (dt_val (de_fn g__law_same hr hgd (da_cons (de_ix (ix_all (hu_of hr)) sr_ix (dv 0) (dv 2)) (da_cons (de_ix (ix_all (hu_of hr)) sr_ix (dv 1) (dv 2)) (da_nil)))))) (dss_one (ds_ret (de_bl))) (dss_nil)))) (dss_one (ds_ret (de_bl))))))),
    fun ds W QD ED h => rd__law_same h⟩
theorem all__law_same {P : Program} {w : World} {K : PySem.W.Frag} {mg : Str → Option Value} {base : Heap} {k : Nat} (F : Df K mg "_law_same" "_law_same" s__law_same) (z_isinstance : mg "isinstance" = none) (z_bool : mg "bool" = none) (z_int : mg "int" = none) (z_tuple : mg "tuple" = none) (z_len : mg "len" = none) (z_str : mg "str" = none) (z_range : mg "range" = none) : ∀ n : Nat, Fk P w K mg base CX0 (k + n) "_law_same" ["_law_first", "_law_second"] (sp__law_same n)
  | 0 => (Fk.none F none__law_same (fun _ _ _ _ _ _ us hl => match us, hl with | [_, _], _ => rfl)).mono (Nat.zero_le _)
  | n + 1 => ok__law_same n F  z_isinstance z_bool z_int z_tuple z_len z_str z_range (all__law_same F  z_isinstance z_bool z_int z_tuple z_len z_str z_range n)
def patS (u : Trm) (vs : List Int) : Sb := (9, u) :: (vs.filter (· ≠ 9)).map fun v => (v, .var v)
def sp__law_pattern : SpD := fun ds W Q _ => ∃ (st : Addr) (o : MO) (t : Trm) (ps : List (List Int)), ds = [.ptr st, t.d, .lst (ps.map posD)] ∧ W st = some o ∧ StO o ∧ t.depth ≤ 100 ∧ t.size ≤ 100000 ∧ 0 < ps.length ∧ ps.length ≤ 100000 ∧ (∀ p ∈ ps, t.isPos p = true) ∧ ∀ p q o', p ∈ ps → q ≠ st → W q = none → StO o' → Q (.tup [(t.put p (.var 9)).d, .ptr q]) ((W.set st o').set q (.dk (dkS (patS (t.at p) (t.put p (.var 9)).vars))))
theorem len__law_pattern : ∀ ds W Q E, sp__law_pattern ds W Q E → ds.length = 3 := by
  rintro ds W Q E ⟨_, _, _, _, rfl, _⟩; rfl
theorem gc__law_pattern {st : Addr} {o : MO} {t : Trm} {ps : List (List Int)} {W : Wd} {Q : DQ} {E : DX} (h1 : W st = some o) (h2 : StO o) (h3 : t.depth ≤ 100) (h4 : t.size ≤ 100000) (h5 : 0 < ps.length) (h6 : ps.length ≤ 100000) (h7 : ∀ p ∈ ps, t.isPos p = true) (k : ∀ p q o', p ∈ ps → q ≠ st → W q = none → StO o' → Q (.tup [(t.put p (.var 9)).d, .ptr q]) ((W.set st o').set q (.dk (dkS (patS (t.at p) (t.put p (.var 9)).vars))))) : sp__law_pattern [.ptr st, t.d, .lst (ps.map posD)] W Q E := ⟨st, o, t, ps, rfl, h1, h2, h3, h4, h5, h6, h7, k⟩
theorem patS_9 {u : Trm} {us : List Int} : patS u (us ++ [9]) = patS u us := by
  unfold patS; rw [List.filter_append]; simp
theorem patS_v {u : Trm} {us : List Int} {v : Int} (h : v ≠ 9) : patS u (us ++ [v]) = patS u us ++ [(v, .var v)] := by
  unfold patS; rw [List.filter_append]; simp [h]
theorem patS_len {u : Trm} {us : List Int} : (patS u us).length ≤ us.length + 1 := by
  unfold patS
  have := List.length_filter_le (fun x : Int => decide (x ≠ 9)) us
  rw [List.length_cons, List.length_map]; omega
theorem patS_keys {u : Trm} {us : List Int} : (patS u us).map (·.1) = 9 :: us.filter (· ≠ 9) := by
  unfold patS; simp [Function.comp_def]

abbrev n__law_pattern : List Str := ["_law_state_here", "_law_term_here", "_law_places", "_law_position", "_law_pattern_here", "_law_bound", "_law_variable"]
def b1__law_pattern  : AS := aIfS (aTest (aOp (dNe) (aVar 6) (aC (.int 9)))) (aAsg (aVar 6) (agSub (aVar 5) (aVar 6) dSet)) (aNext)
def a__law_pattern  : AS := aSeq (aAsg (aOp dIx (aVar 2) (aCall (sp__law_draw) [] ED0 (aCons (aVar 0) (aCons (aCB (dLen) (aCons (aVar 2) (aNil))) (aNil))))) (agName 3)) (aSeq (aAsg (aCall (sp__law_replace 140) [] ED0 (aCons (aVar 1) (aCons (aVar 3) (aCons (aC (.int 9)) (aNil))))) (agName 4)) (aSeq (aAsg (aDisp1 true (aC (.int 9)) (aCall (sp__law_subterm) [] ED0 (aCons (aVar 1) (aCons (aVar 3) (aNil))))) (agName 5)) (aSeq (aFor (aiSeq (aCall (sp__law_variables 140) [] ED0 (aCons (aVar 4) (aNil)))) (agName 6) (b1__law_pattern)) (aRet (aTup (aCons (aVar 4) (aCons (aVar 5) (aNil))))))))
theorem rd__law_pattern {ds : List D} {W : Wd} {Q : DQ} {E : DX} (h : sp__law_pattern ds W Q E) : a__law_pattern (EN Q) (startD n__law_pattern ds) W := by
  obtain ⟨st, o, t, ps, rfl, hw, ho, hd, hz, hl0, hl, hps, q⟩ := h
  have h6 : (ps.map posD).length = ps.length := List.length_map ..
  unfold a__law_pattern
  walk_at "rd"
  rename_i n o1 hn0 hn1 ho1
  have hn : n.toNat < ps.length := by omega
  obtain ⟨p, ep⟩ : ∃ p, ps[n.toNat] = p := ⟨_, rfl⟩
  have hpm : p ∈ ps := ep ▸ List.getElem_mem hn
  have hp := hps p hpm
  have az := at_size hp
  refine go_ixL (d := posD p) (show atI (ps.map posD) n = some (posD p) by rw [atI_of hn0, List.getElem?_map, List.getElem?_eq_getElem hn, ep]; rfl) ?_
  walk_at "rd"
  refine gc__law_replace (u := .var 9) (pos_of hp) (by omega) (by omega) ?_
  walk_at "rd"
  have hpz := put_size (u := Trm.var 9) (pos_of hp)
  have hpd := put_depthM (u := Trm.var 9) (pos_of hp)
  rw [show (Trm.var 9).size = 1 by rw [Trm.size]] at hpz
  rw [show (Trm.var 9).depth = 1 by rw [Trm.depth]] at hpd
  intro a hq
  have hne : a ≠ st := fun h => by subst h; rw [Wd.set_same] at hq; cases hq
  have hWa : W a = none := by rw [Wd.set_ne hne] at hq; exact hq
  walk_at "rd"
  refine gc__law_subterm hp ?_
  refine ⟨.inl 9, rfl, Wd.set_same .., ?_⟩
  rw [if_pos rfl, Wd.set_set]
  walk_at "rd"
  refine gc__law_variables (by omega) (by omega) ?_
  generalize hL : (t.put p (.var 9)) = l
  rw [hL] at hpz hpd
  have qq := q p a o1 hpm hne hWa ho1
  rw [hL] at qq
  have hvl : l.vars.length ≤ l.size := vars_len l
  walk_at "rd"
  refine forL_inv (fun ds δ W' => ∃ (us vs : List Int) (x : Option D), W' = (W.set st o1).set a (.dk (dkS (patS (t.at p) us))) ∧ ds = vs.map .int ∧ us ++ vs = l.vars ∧ δ = [some (.ptr st), some t.d, some (.lst (ps.map posD)), some (posD p), some l.d, some (.ptr a), x]) ⟨[], l.vars, none, rfl, rfl, rfl, rfl⟩ (fun _ _ _ _ => trivial) ?_ ?_
  · rintro d ds δ W' N ⟨us, vs, x, rfl, e, hv, rfl⟩ kk
    cases vs with
    | nil => cases e
    | cons v vs =>
      rw [List.map_cons] at e
      cases e
      unfold b1__law_pattern
      have hlen : us.length < l.vars.length := by rw [← hv, List.length_append, List.length_cons]; omega
      have hpl := patS_len (u := t.at p) (us := us)
      have hnd := vars_nodup l
      rw [← hv] at hnd
      walk_at "rs"
      · rename_i h9
        refine go_setDk (Wd.set_same ..) rfl (by rw [dkS_length]; exact Nat.lt_of_le_of_lt (m := 200000) (by omega) (by decide)) ?_
        have hno : (patS (t.at p) us).get v = none := by
          cases hg : (patS (t.at p) us).get v with
          | none => rfl
          | some y =>
            have hk := get_key hg
            rw [patS_keys, List.mem_cons, List.mem_filter] at hk
            rcases hk with h | ⟨h, _⟩
            · exact absurd h h9
            · exact absurd rfl ((List.nodup_append.mp hnd).2.2 v h v (by simp))
        rw [Wd.set_set, show D.int v = (Trm.var v).d by rw [Trm.d], put_dkS hno]
        exact kk _ _ ⟨us ++ [v], vs, _, by rw [patS_v h9], rfl, by rw [← hv]; simp, rfl⟩
      · rename_i h9
        subst h9
        exact kk _ _ ⟨us ++ [9], vs, _, by rw [patS_9], rfl, by rw [← hv]; simp, rfl⟩
  · rintro δ W' ⟨us, vs, x, rfl, e, hv, rfl⟩
    cases vs with
    | cons _ _ => cases e
    | nil =>
      rw [List.append_nil] at hv
      subst hv
      walk_at "rd"
      exact qq

theorem sc__law_pattern : FnScope ["_law_state_here", "_law_term_here", "_law_places", "_law_position", "_law_pattern_here", "_law_bound", "_law_variable"] ["_law_state_here", "_law_term_here", "_law_places"] (defScope s__law_pattern) := ⟨rfl, rfl, rfl, by decide +kernel, rfl, by decide +kernel, by decide +kernel⟩
theorem ok__law_pattern {P : Program} {w : World} {K : PySem.W.Frag} {mg : Str → Option Value} {base : Heap} {k : Nat}  (F : Df K mg "_law_pattern" "_law_pattern" s__law_pattern) (g__law_draw : Fk P w K mg base CX0 k "_law_draw" ["_law_state_here", "_law_many"] (sp__law_draw)) (z_len : mg "len" = none) (g__law_replace : Fk P w K mg base CX0 k "_law_replace" ["_law_term_here", "_law_position", "_law_new"] (sp__law_replace 140)) (g__law_subterm : Fk P w K mg base CX0 k "_law_subterm" ["_law_term_here", "_law_position"] (sp__law_subterm)) (g__law_variables : Fk P w K mg base CX0 k "_law_variables" ["_law_term_here"] (sp__law_variables 140)) : Fk P w K mg base CX0 (k + 1) "_law_pattern" ["_law_state_here", "_law_term_here", "_law_places"] (sp__law_pattern) := by
  have sc := sc__law_pattern
  exact okF F sc (fun _ _ _ _ _ _ us hl => match us, hl with | [_, _, _], _ => rfl) len__law_pattern fun cdv A outer s H E G f hr hgd => ⟨_, a__law_pattern ,
    dss_cons (ds_set (i := 3) sc.nd rfl (.inl rfl) (de_ix (ix_all (hu_of hr)) sr_ix (dv 2) (de_fn g__law_draw hr hgd (da_cons (dv 0) (da_cons (de_callB call_lenA sc_len (by rfl) z_len (by decide +kernel) (da_cons (dv 2) (da_nil))) (da_nil)))))) (dss_cons (ds_set (i := 4) sc.nd rfl (.inl rfl) (de_fn g__law_replace hr hgd (da_cons (dv 1) (da_cons (dv 3) (da_cons (de_int) (da_nil)))))) (dss_cons (ds_set (i := 5) sc.nd rfl (.inl rfl) (de_disp1 true (de_int) (de_fn g__law_subterm hr hgd (da_cons (dv 1) (da_cons (dv 3) (da_nil)))))) (dss_cons (ds_for PassesOwn.never rfl (di_seq (de_fn g__law_variables hr hgd (da_cons (dv 4) (da_nil)))) (dg_name (i := 6) sc.nd rfl (.inl rfl)) (dss_one (ds_if (dt_cmp (op_neP (hu151 hr)) sr_ne (dv 6) (de_int) (nomark _)) (dss_one (ds_asg (dv 6) (dg_sub (dv 5) (dv 6) (set_all (hu_of hr)) set_sim))) (dss_nil)))) (dss_one (ds_ret (de_tup (da_cons (dv 4) (da_cons (dv 5) (da_nil))))))))),
    fun ds W QD ED h => rd__law_pattern h⟩
def sp__law_step : SpD := fun ds W Q _ => ∃ (st : Addr) (o : MO) (ops : Sig) (t : Trm) (src : D), ds = [.ptr st, .lst (ops.map opD), .int 9, t.d, src] ∧ W st = some o ∧ StO o ∧ Ops ops ∧ Wf ops 9 t ∧ t.depth ≤ 60 ∧ t.size ≤ 10000 ∧ ∀ (b : Bool) old new p s t' o', StpK ops t old new p s t' → StO o' → Q (.tup [if b = true then eqD old new else eqD new old, .tup [src, .bl b, posD p, .dk (dkS s)], t'.d]) (W.set st o')
theorem len__law_step : ∀ ds W Q E, sp__law_step ds W Q E → ds.length = 5 := by
  rintro ds W Q E ⟨_, _, _, _, _, rfl, _⟩; rfl
/-- the new side: drawn, or drawn and the fresh variable put somewhere -/
def NewOf (m w : Trm) : Prop := w = m ∨ ∃ r, m.isPos r = true ∧ w = m.put r (.var 9)

abbrev n__law_step : List Str := ["_law_state_here", "_law_operations_here", "_law_count", "_law_term_here", "_law_source", "_law_places", "_law_position", "_law_inner", "_law_old", "_law_bound", "_law_new", "_law_variable", "_law_result"]
def b1__law_step  : AS := aIfS (aTest (aOp (dIn true) (aVar 11) (aVar 9))) (aAsg (aCall (sp__law_term 3) [] ED0 (aCons (aVar 0) (aCons (aVar 1) (aCons (aVar 2) (aCons (aC (.int 1)) (aNil)))))) (agSub (aVar 9) (aVar 11) dSet)) (aNext)
def a__law_step  : AS := aSeq (aAsg (aCall (sp__law_positions 140) [] ED0 (aCons (aVar 3) (aNil))) (agName 5)) (aSeq (aAsg (aOp dIx (aVar 5) (aCall (sp__law_draw) [] ED0 (aCons (aVar 0) (aCons (aCB (dLen) (aCons (aVar 5) (aNil))) (aNil))))) (agName 6)) (aSeq (aAsg (aCall (sp__law_subterm) [] ED0 (aCons (aVar 3) (aCons (aVar 6) (aNil)))) (agName 7)) (aSeq (aAsg (aCall (sp__law_pattern) [] ED0 (aCons (aVar 0) (aCons (aVar 7) (aCons (aCall (sp__law_positions 140) [] ED0 (aCons (aVar 7) (aNil))) (aNil))))) (agTup 2 (agCons (agName 8) (agCons (agName 9) (agNil))))) (aSeq (aAsg (aCall (sp__law_term 3) [] ED0 (aCons (aVar 0) (aCons (aVar 1) (aCons (aVar 2) (aCons (aC (.int 1)) (aNil)))))) (agName 10)) (aSeq (aIfS (aTest (aOp (dEq) (aCall (sp__law_draw) [] ED0 (aCons (aVar 0) (aCons (aC (.int 2)) (aNil)))) (aC (.int 0)))) (aAsg (aCall (sp__law_replace 140) [] ED0 (aCons (aVar 10) (aCons (aOp dIx (aCall (sp__law_positions 140) [] ED0 (aCons (aVar 10) (aNil))) (aOp (dI0 fun i j => .int (i - j)) (aC (.int 0)) (aC (.int 1)))) (aCons (aC (.int 9)) (aNil))))) (agName 10)) (aNext)) (aSeq (aFor (aiSeq (aCall (sp__law_variables 140) [] ED0 (aCons (aVar 10) (aNil)))) (agName 11) (b1__law_step)) (aSeq (aAsg (aCall (sp__law_replace 140) [] ED0 (aCons (aVar 3) (aCons (aVar 6) (aCons (aCall (sp__law_substitute 140) [] ED0 (aCons (aVar 10) (aCons (aVar 9) (aNil)))) (aNil))))) (agName 12)) (aSeq (aIfS (aTest (aOp (dEq) (aCall (sp__law_draw) [] ED0 (aCons (aVar 0) (aCons (aC (.int 2)) (aNil)))) (aC (.int 0)))) (aRet (aTup (aCons (aTup (aCons (aVar 8) (aCons (aVar 10) (aNil)))) (aCons (aTup (aCons (aVar 4) (aCons (aC (.bl true)) (aCons (aVar 6) (aCons (aVarF 9) (aNil)))))) (aCons (aVar 12) (aNil)))))) (aNext)) (aRet (aTup (aCons (aTup (aCons (aVar 10) (aCons (aVar 8) (aNil)))) (aCons (aTup (aCons (aVar 4) (aCons (aC (.bl false)) (aCons (aVar 6) (aCons (aVarF 9) (aNil)))))) (aCons (aVar 12) (aNil))))))))))))))
theorem rd__law_step {ds : List D} {W : Wd} {Q : DQ} {E : DX} (h : sp__law_step ds W Q E) : a__law_step (EN Q) (startD n__law_step ds) W := by
  obtain ⟨st, o, ops, t, src, rfl, hw, ho, hO, ht, hd, hz, q⟩ := h
  have hpl := pos_length t
  have hp0 := pos_pos t
  have h6 : (t.pos.map posD).length = t.pos.length := List.length_map ..
  unfold a__law_step
  walk_at "rd"
  refine gc__law_positions (by omega) (by omega) ?_
  walk_at "rd"
  rename_i n o1 hn0 hn1 ho1
  rw [h6] at hn1
  obtain ⟨p, hat, hpm⟩ := posAt hn0 hn1
  have hp : t.isPos p = true := (pos_ok t p hpm).isPos
  have az := at_size hp
  refine go_ixL hat ?_
  walk_at "rd"
  refine gc__law_subterm hp ?_
  have wu := ht.at hp
  generalize hu : t.at p = u at az wu
  have hul := pos_length u
  have hu0 := pos_pos u
  walk_at "rd"
  refine gc__law_positions (by omega) (by omega) ?_
  walk_at "rd"
  refine gc__law_pattern (Wd.set_same ..) ho1 (by omega) (by omega) (by omega) (by omega) (fun r hr => (pos_ok u r hr).isPos) fun r c o2 hr hne hc ho2 => ?_
  rw [Wd.set_set]
  have hWc : W c = none := by rw [Wd.set_ne hne] at hc; exact hc
  have hcs : ((W.set st o2).set c (.dk (dkS (patS (u.at r) (u.put r (.var 9)).vars)))) st = some o2 := by rw [Wd.set_ne (Ne.symm hne), Wd.set_same]
  walk_at "rd"
  refine gc_term hcs ho2 hO (by omega) (by omega) (by omega) fun m o3 wm dm zm ho3 => ?_
  rw [Wd.set_swap (Ne.symm hne)]
  have dm : m.depth ≤ 2 := dm
  have zm : m.size ≤ 4 := zm
  generalize hl : u.put r (.var 9) = l
  generalize hv : l.vars = lv
  have hcs : ((W.set st o3).set c (.dk (dkS (patS (u.at r) lv)))) st = some o3 := by rw [Wd.set_ne (Ne.symm hne), Wd.set_same]
  have hml := pos_length m
  have hm0 := pos_pos m
  walk_at "rs"
  focus
    rename_i k o5 _ _ ho5 _
    rw [Wd.set_swap (Ne.symm hne)]
    refine gc__law_positions (by omega) (by omega) ?_
    walk_at "rd"
    have hat : ∃ r', atI (m.pos.map posD) (-1) = some (posD r') ∧ r' ∈ m.pos := by
      have hlt : m.pos.length - 1 < m.pos.length := by omega
      refine ⟨m.pos[m.pos.length - 1], ?_, List.getElem_mem hlt⟩
      have hx : ixN (m.pos.map posD).length (-1) = some (m.pos.length - 1) := by
        rw [List.length_map]; unfold ixN; simp; omega
      unfold atI
      rw [hx, Option.bind_some, List.getElem?_map, List.getElem?_eq_getElem hlt]
      rfl
    obtain ⟨r', hr0, hrm⟩ := hat
    have hr' : m.isPos r' = true := (pos_ok m r' hrm).isPos
    have am := at_size hr'
    refine go_ixL hr0 ?_
    walk_at "rd"
    refine gc__law_replace (u := .var 9) (pos_of hr') (by omega) (by omega) ?_
    walk_at "rd"
    generalize ew : m.put r' (.var 9) = w
    have hw5 : NewOf m w := .inr ⟨r', hr', ew.symm⟩
  rotate_left
  focus
    rename_i k o5 _ _ ho5 _
    rw [Wd.set_swap (Ne.symm hne)]
    obtain ⟨w, ew⟩ : ∃ w, w = m := ⟨_, rfl⟩
    have hw5 : NewOf m w := .inl ew
    rw [← ew]
  all_goals
    have hwd : w.depth ≤ 2 ∧ w.size ≤ 4 := by
      rcases hw5 with rfl | ⟨r', hr', rfl⟩
      · exact ⟨dm, zm⟩
      · have h1 := put_sizeE (u := Trm.var 9) (pos_of hr')
        have h2 := put_depthM (u := Trm.var 9) (pos_of hr')
        have h3 := at_size hr'
        have h4 := (m.at r').depth_pos
        have h5 : 1 ≤ (m.at r').size := by have := pos_pos (m.at r'); have := pos_length (m.at r'); omega
        rw [show (Trm.var 9).size = 1 by rw [Trm.size]] at h1
        rw [show (Trm.var 9).depth = 1 by rw [Trm.depth]] at h2
        exact ⟨by omega, by omega⟩
    refine gc__law_variables (by omega) (by omega) ?_
    walk_at "rd"
    refine forL_inv (fun ds δ W' => ∃ (us vs : List Int) (ex : Sb) (o6 : MO) (x : Option D), W' = (W.set st o6).set c (.dk (dkS (patS (u.at r) lv ++ ex))) ∧ StO o6 ∧ ds = vs.map .int ∧ us ++ vs = w.vars ∧ (∀ v, v ∈ ex.map (·.1) → v ∈ us) ∧ (∀ v ∈ us, v ∈ (patS (u.at r) lv ++ ex).map (·.1)) ∧ ((patS (u.at r) lv ++ ex).map (·.1)).Nodup ∧ (∀ vt ∈ ex, Wf ops 9 vt.2 ∧ vt.2.depth ≤ 2 ∧ vt.2.size ≤ 4) ∧ ex.length ≤ us.length ∧ δ = [some (.ptr st), some (.lst (ops.map opD)), some (.int 9), some t.d, some src, some (.lst (t.pos.map posD)), some (posD p), some u.d, some l.d, some (.ptr c), some w.d, x, none]) ⟨[], w.vars, [], o5, none, by rw [List.append_nil], ho5, rfl, rfl, by simp, by simp, ?_, by simp, by simp, rfl⟩ (fun _ _ _ _ => trivial) ?_ ?_
    · rw [List.append_nil, patS_keys]
      exact List.nodup_cons.mpr ⟨by simp [List.mem_filter], (hv ▸ vars_nodup l : lv.Nodup).sublist List.filter_sublist⟩
    · rintro d ds δ W' N ⟨us, vs, ex, o6, x, rfl, ho6, e, hu6, hx1, hx2, hx3, hx4, hx5, rfl⟩ kk
      cases vs with
      | nil => cases e
      | cons v vs =>
        rw [List.map_cons] at e
        cases e
        unfold b1__law_step
        walk_at "rd"
        have hc1 : ((W.set st o6).set c (.dk (dkS (patS (u.at r) lv ++ ex)))) st = some o6 := by rw [Wd.set_ne (Ne.symm hne), Wd.set_same]
        cases hg : (patS (u.at r) lv ++ ex).get v with
        | some y =>
          rw [look_dkS, hg]
          walk_at "rd"
          exact kk _ _ ⟨us ++ [v], vs, ex, o6, _, rfl, ho6, rfl, by rw [← hu6]; simp, fun v' h => List.mem_append_left _ (hx1 v' h), fun v' h => by
            rcases List.mem_append.mp h with h | h
            · exact hx2 v' h
            · rw [List.mem_singleton.mp h]; exact get_key hg, hx3, hx4, by rw [List.length_append]; omega, rfl⟩
        | none =>
          rw [look_dkS, hg]
          walk_at "rd"
          refine gc_term hc1 ho6 hO (by omega) (by omega) (by omega) fun y o7 wy dy zy ho7 => ?_
          rw [Wd.set_swap (Ne.symm hne)]
          have hnk := get_nokey hg
          walk_at "rd"
          refine go_setDk (Wd.set_same ..) rfl ?_ ?_
          · rw [dkS_length, List.length_append, sizeLine_val]
            have hpl := patS_len (u := u.at r) (us := lv)
            have hvl := vars_len l
            have hvw := vars_len w
            have hlz := put_size (u := Trm.var 9) (pos_ok u r hr)
            rw [show (Trm.var 9).size = 1 by rw [Trm.size], hl] at hlz
            have h8 : us.length ≤ w.vars.length := by rw [← hu6, List.length_append]; omega
            rw [hv] at hvl
            omega
          · rw [Wd.set_set, put_dkS hg, List.append_assoc]
            exact kk _ _ ⟨us ++ [v], vs, ex ++ [(v, y)], o7, _, rfl, ho7, rfl, by rw [← hu6]; simp, fun v' h => by
              rw [List.map_append, List.mem_append] at h
              rcases h with h | h
              · exact List.mem_append_left _ (hx1 v' h)
              · exact List.mem_append_right _ (by simpa using h), fun v' h => by
              rw [← List.append_assoc, List.map_append, List.mem_append]
              rcases List.mem_append.mp h with h | h
              · exact .inl (hx2 v' h)
              · exact .inr (by simpa using h), by
              rw [← List.append_assoc, List.map_append]
              refine List.nodup_append.mpr ⟨hx3, by simp, fun a ha b hb => ?_⟩
              have hb : b = v := by simpa using hb
              subst hb
              exact fun e => hnk (e ▸ ha), fun vt hvt => by
              rcases List.mem_append.mp hvt with h | h
              · exact hx4 vt h
              · rw [List.mem_singleton.mp h]; exact ⟨wy, dy, zy⟩, by rw [List.length_append, List.length_append]; simpa using hx5, rfl⟩
    · rintro δ W' ⟨us, vs, ex, o6, x, rfl, ho6, e, hu6, hx1, hx2, hx3, hx4, hx5, rfl⟩
      cases vs with
      | cons _ _ => cases e
      | nil =>
        rw [List.append_nil] at hu6
        subst hu6
        have hlk := look_fn (patS (u.at r) lv ++ ex)
        walk_at "rd"
        refine gc__law_substitute (dkOf_ptr (Wd.set_same ..)) hlk (by omega) (by omega) ?_
        walk_at "rd"
        refine gc__law_replace (pos_of hp) (by omega) (by omega) ?_
        have hc1 : ((W.set st o6).set c (.dk (dkS (patS (u.at r) lv ++ ex)))) st = some o6 := by rw [Wd.set_ne (Ne.symm hne), Wd.set_same]
        have HK : StpK ops t l w p (patS (u.at r) lv ++ ex) (t.put p (w.sub (patS (u.at r) lv ++ ex).fn)) := by
          have wl : Wf ops 10 l := by rw [← hl]; exact Wf.put (pos_ok u r hr) (wu.more (by decide)) (.var (by decide) (by decide))
          have wm10 : Wf ops 10 m := wm.more (by decide)
          have ww : Wf ops 10 w := by
            rcases hw5 with rfl | ⟨r', hr', rfl⟩
            · exact wm10
            · exact Wf.put (pos_of hr') wm10 (.var (by decide) (by decide))
          have hlz := put_size (u := Trm.var 9) (pos_ok u r hr)
          have hld := put_depthM (u := Trm.var 9) (pos_ok u r hr)
          rw [show (Trm.var 9).size = 1 by rw [Trm.size], hl] at hlz
          rw [show (Trm.var 9).depth = 1 by rw [Trm.depth], hl] at hld
          have hrs := (at_size (pos_ok u r hr).isPos).2
          have hrd := (u.at r).depth_pos
          have hfit : l.sub (Sb.fn (patS (u.at r) lv ++ ex)) = u := by
            rw [← hl]
            refine put_sub2 (pos_ok u r hr) ?_ (fun v hv h => ?_) fun v hv h9 => ?_
            · rw [Trm.sub]; simp [Sb.fn, Sb.get, patS]
            · have h1 := occ_wf2 wu v hv
              have h2 := occ_wf2 (.var (by decide) (by decide) : Wf ops 10 (.var 9)) v h
              have h3 : v = 9 := by simpa [occ, Trm.syms, Sy.int?] using h
              omega
            · rw [hl] at hv
              have hvl : v ∈ lv := by rw [← ‹l.vars = lv›]; exact mem_vars.mpr hv
              unfold Sb.fn
              cases hg : Sb.get (patS (u.at r) lv ++ ex) v with
              | none => rfl
              | some y =>
                have hm := get_mem hg
                have h9' : v ≠ 9 := fun e => h9 (by subst e; simp [occ, Trm.syms, Sy.int?])
                rcases List.mem_append.mp hm with h | h
                · unfold patS at h
                  rcases List.mem_cons.mp h with h | h
                  · exact absurd (congrArg Prod.fst h) h9'
                  · obtain ⟨z, _, e⟩ := List.mem_map.mp h
                    cases e; rfl
                · rw [List.map_append] at hx3
                  refine absurd rfl ((List.nodup_append.mp hx3).2.2 v ?_ v (List.mem_map_of_mem (f := (·.1)) h))
                  rw [patS_keys]
                  exact List.mem_cons_of_mem _ (List.mem_filter.mpr ⟨hvl, by simpa using h9'⟩)
          have elv : l.vars = lv := by assumption
          have hkeys : ∀ v, v ∈ (patS (u.at r) lv ++ ex).map (·.1) ↔ v ∈ occ l ∨ v ∈ occ w := fun v => by
            constructor
            · intro h
              rw [List.map_append, List.mem_append, patS_keys] at h
              rcases h with h | h
              · left
                rcases List.mem_cons.mp h with h | h
                · rw [h, ← hl]; exact occ_put_in (pos_ok u r hr) (by simp [occ, Trm.syms, Sy.int?])
                · exact mem_vars.mp (by rw [elv]; exact (List.mem_filter.mp h).1)
              · exact .inr (mem_vars.mp (hx1 v h))
            · rintro (h | h)
              · rw [List.map_append, List.mem_append, patS_keys]
                left
                by_cases e : v = 9
                · rw [e]; exact List.mem_cons_self
                · exact List.mem_cons_of_mem _ (List.mem_filter.mpr ⟨by rw [← elv]; exact mem_vars.mpr h, by simpa using e⟩)
              · exact hx2 v (mem_vars.mpr h)
          have hur := (pos_ok u r hr).isPos
          have hvals : ∀ vt ∈ patS (u.at r) lv ++ ex, (0 ≤ vt.1 ∧ vt.1 < 10) ∧ Wf ops 9 vt.2 ∧ vt.2.depth ≤ t.depth + 1 ∧ vt.2.size ≤ t.size + 4 := fun vt h => by
            have hsz := (at_size hur).1
            have htd := t.depth_pos
            rcases List.mem_append.mp h with h | h
            · unfold patS at h
              rcases List.mem_cons.mp h with rfl | h
              · exact ⟨⟨show (0 : Int) ≤ 9 by decide, show (9 : Int) < 10 by decide⟩, wu.at hur, by show (u.at r).depth ≤ _; omega, by show (u.at r).size ≤ _; omega⟩
              · obtain ⟨z, hz, rfl⟩ := List.mem_map.mp h
                obtain ⟨hz1, hz2⟩ := List.mem_filter.mp hz
                have h9 : z ≠ 9 := by simpa using hz2
                have hb := occ_wf2 wl z (mem_vars.mp (by rw [elv]; exact hz1))
                exact ⟨hb, .var hb.1 (by omega), by rw [Trm.depth]; omega, by rw [Trm.size]; omega⟩
            · have hb := occ_wf2 ww vt.1 (mem_vars.mp (hx1 vt.1 (List.mem_map_of_mem (f := (·.1)) h)))
              obtain ⟨g1, g2, g3⟩ := hx4 vt h
              exact ⟨hb, g1, by omega, by omega⟩
          have hfn : ∀ v, v ≠ 9 → (Sb.fn (patS (u.at r) lv ++ ex) v = .var v) ∨ ((Sb.fn (patS (u.at r) lv ++ ex) v).depth ≤ 2 ∧ (Sb.fn (patS (u.at r) lv ++ ex) v).size ≤ 4) := fun v h9 => by
            unfold Sb.fn
            cases hg : Sb.get (patS (u.at r) lv ++ ex) v with
            | none => exact .inl rfl
            | some y =>
              rcases List.mem_append.mp (get_mem hg) with h | h
              · unfold patS at h
                rcases List.mem_cons.mp h with h | h
                · exact absurd (congrArg Prod.fst h) h9
                · obtain ⟨z, _, e⟩ := List.mem_map.mp h
                  cases e; exact .inl rfl
              · exact .inr (hx4 _ h).2
          have h9 : Sb.fn (patS (u.at r) lv ++ ex) 9 = u.at r := by simp [Sb.fn, Sb.get, patS]
          have hnb := new_bounds (x := u.at r) (f := Sb.fn (patS (u.at r) lv ++ ex)) hw5 dm zm (fun v hv => by
            have hb := occ_wf2 wm v hv
            rcases hfn v (by omega) with h | h
            · rw [h, Trm.depth, Trm.size]; exact ⟨by decide, by decide⟩
            · exact h) h9
          have huz := at_size hur
          have hwf : Wf ops 9 (w.sub (Sb.fn (patS (u.at r) lv ++ ex))) := Wf.sub (fun v h0 h1 => by
            by_cases e9 : v = 9
            · rw [e9, h9]; exact wu.at hur
            · unfold Sb.fn
              cases hg : Sb.get (patS (u.at r) lv ++ ex) v with
              | none => exact .var h0 (by omega)
              | some y => exact (hvals _ (get_mem hg)).2.1) ww
          have hpb := put_bounds (u := w.sub (Sb.fn (patS (u.at r) lv ++ ex))) (d := 3) (z := 15) hp (by rw [hu]; omega) (by rw [hu]; omega)
          exact { pos := hp, fit := by rw [hu]; exact hfit, to := rfl, nd := hx3, keys := hkeys, nine := by rw [List.map_append, patS_keys]; simp, wo := wl, wn := ww, vals := hvals, od := by omega, oz := by omega, nw := by omega, nz := by omega, w := Wf.put (pos_of hp) ht hwf, d := by omega, z := by omega }
        walk_at "rs"
        · rename_i n7 o7 _ _ ho7 _
          rw [Wd.set_swap (Ne.symm hne)]
          refine go_varF (d := .dk (dkS (patS (u.at r) lv ++ ex))) rfl (Wd.set_same ..) rfl (Wd.del_set (by rw [Wd.set_ne hne]; exact hWc)) ?_
          walk_at "rd"
          exact q true l w p _ _ o7 HK ho7
        · rename_i n7 o7 _ _ ho7 _
          rw [Wd.set_swap (Ne.symm hne)]
          refine go_varF (d := .dk (dkS (patS (u.at r) lv ++ ex))) rfl (Wd.set_same ..) rfl (Wd.del_set (by rw [Wd.set_ne hne]; exact hWc)) ?_
          walk_at "rd"
          exact q false l w p _ _ o7 HK ho7

theorem sc__law_step : FnScope ["_law_state_here", "_law_operations_here", "_law_count", "_law_term_here", "_law_source", "_law_places", "_law_position", "_law_inner", "_law_old", "_law_bound", "_law_new", "_law_variable", "_law_result"] ["_law_state_here", "_law_operations_here", "_law_count", "_law_term_here", "_law_source"] (defScope s__law_step) := ⟨rfl, rfl, rfl, by decide +kernel, rfl, by decide +kernel, by decide +kernel⟩
theorem ok__law_step {P : Program} {w : World} {K : PySem.W.Frag} {mg : Str → Option Value} {base : Heap} {k : Nat}  (F : Df K mg "_law_step" "_law_step" s__law_step) (g__law_positions : Fk P w K mg base CX0 k "_law_positions" ["_law_term_here"] (sp__law_positions 140)) (g__law_draw : Fk P w K mg base CX0 k "_law_draw" ["_law_state_here", "_law_many"] (sp__law_draw)) (z_len : mg "len" = none) (g__law_subterm : Fk P w K mg base CX0 k "_law_subterm" ["_law_term_here", "_law_position"] (sp__law_subterm)) (g__law_pattern : Fk P w K mg base CX0 k "_law_pattern" ["_law_state_here", "_law_term_here", "_law_places"] (sp__law_pattern)) (g__law_term : Fk P w K mg base CX0 k "_law_term" ["_law_state_here", "_law_operations_here", "_law_count", "_law_height"] (sp__law_term 3)) (g__law_replace : Fk P w K mg base CX0 k "_law_replace" ["_law_term_here", "_law_position", "_law_new"] (sp__law_replace 140)) (g__law_variables : Fk P w K mg base CX0 k "_law_variables" ["_law_term_here"] (sp__law_variables 140)) (g__law_substitute : Fk P w K mg base CX0 k "_law_substitute" ["_law_term_here", "_law_substitution"] (sp__law_substitute 140)) : Fk P w K mg base CX0 (k + 1) "_law_step" ["_law_state_here", "_law_operations_here", "_law_count", "_law_term_here", "_law_source"] (sp__law_step) := by
  have sc := sc__law_step
  exact okF F sc (fun _ _ _ _ _ _ us hl => match us, hl with | [_, _, _, _, _], _ => rfl) len__law_step fun cdv A outer s H E G f hr hgd => ⟨_, a__law_step ,
    dss_cons (ds_set (i := 5) sc.nd rfl (.inl rfl) (de_fn g__law_positions hr hgd (da_cons (dv 3) (da_nil)))) (dss_cons (ds_set (i := 6) sc.nd rfl (.inl rfl) (de_ix (ix_all (hu_of hr)) sr_ix (dv 5) (de_fn g__law_draw hr hgd (da_cons (dv 0) (da_cons (de_callB call_lenA sc_len (by rfl) z_len (by decide +kernel) (da_cons (dv 5) (da_nil))) (da_nil)))))) (dss_cons (ds_set (i := 7) sc.nd rfl (.inl rfl) (de_fn g__law_subterm hr hgd (da_cons (dv 3) (da_cons (dv 6) (da_nil))))) (dss_cons (ds_asg (de_fn g__law_pattern hr hgd (da_cons (dv 0) (da_cons (dv 7) (da_cons (de_fn g__law_positions hr hgd (da_cons (dv 7) (da_nil))) (da_nil))))) (dg_tup rfl (dgs_cons (dg_name (i := 8) sc.nd rfl (.inl rfl)) (dgs_cons (dg_name (i := 9) sc.nd rfl (.inl rfl)) (dgs_nil))))) (dss_cons (ds_set (i := 10) sc.nd rfl (.inl rfl) (de_fn g__law_term hr hgd (da_cons (dv 0) (da_cons (dv 1) (da_cons (dv 2) (da_cons (de_int) (da_nil))))))) (dss_cons (ds_if (dt_cmp (op_eqP (hu151 hr)) sr_eq (de_fn g__law_draw hr hgd (da_cons (dv 0) (da_cons (de_int) (da_nil)))) (de_int) (nomark _)) (dss_one (ds_set (i := 10) sc.nd rfl (.inl rfl) (de_fn g__law_replace hr hgd (da_cons (dv 10) (da_cons (de_ix (ix_all (hu_of hr)) sr_ix (de_fn g__law_positions hr hgd (da_cons (dv 10) (da_nil))) (de_op op_sub sr_i0 (de_int) (de_int))) (da_cons (de_int) (da_nil))))))) (dss_nil)) (dss_cons (ds_for PassesOwn.never rfl (di_seq (de_fn g__law_variables hr hgd (da_cons (dv 10) (da_nil)))) (dg_name (i := 11) sc.nd rfl (.inl rfl)) (dss_one (ds_if (dt_cmp (op_notInA (hu151 hr)) sr_in (dv 11) (dv 9) (by rfl)) (dss_one (ds_asg (de_fn g__law_term hr hgd (da_cons (dv 0) (da_cons (dv 1) (da_cons (dv 2) (da_cons (de_int) (da_nil)))))) (dg_sub (dv 9) (dv 11) (set_all (hu_of hr)) set_sim))) (dss_nil)))) (dss_cons (ds_set (i := 12) sc.nd rfl (.inl rfl) (de_fn g__law_replace hr hgd (da_cons (dv 3) (da_cons (dv 6) (da_cons (de_fn g__law_substitute hr hgd (da_cons (dv 10) (da_cons (dv 9) (da_nil)))) (da_nil)))))) (dss_cons (ds_if (dt_cmp (op_eqP (hu151 hr)) sr_eq (de_fn g__law_draw hr hgd (da_cons (dv 0) (da_cons (de_int) (da_nil)))) (de_int) (nomark _)) (dss_one (ds_ret (de_tup (da_cons (de_tup (da_cons (dv 8) (da_cons (dv 10) (da_nil)))) (da_cons (de_tup (da_cons (dv 4) (da_cons (de_bl) (da_cons (dv 6) (da_cons (dvF 9) (da_nil)))))) (da_cons (dv 12) (da_nil))))))) (dss_nil)) (dss_one (ds_ret (de_tup (da_cons (de_tup (da_cons (dv 10) (da_cons (dv 8) (da_nil)))) (da_cons (de_tup (da_cons (dv 4) (da_cons (de_bl) (da_cons (dv 6) (da_cons (dvF 9) (da_nil)))))) (da_cons (dv 12) (da_nil))))))))))))))),
    fun ds W QD ED h => rd__law_step h⟩
def sp__law_chain : SpD := fun ds W Q _ => ∃ (st : Addr) (o : MO) (ops : Sig) (t : Trm) (first many : Nat), ds = [.ptr st, .lst (ops.map opD), .int 9, t.d, .int first, .int many] ∧ W st = some o ∧ StO o ∧ Ops ops ∧ Wf ops 9 t ∧ t.depth ≤ 30 ∧ t.size ≤ 5000 ∧ many ≤ 6 ∧ ∀ gs xs ts u o', ChK ops first t gs xs ts u → xs.length = many → StO o' → Q (.tup [.lst (gs.map ruD), .lst (xs.map Stq.d), .lst ((t :: ts).map Trm.d)]) (W.set st o')
theorem len__law_chain : ∀ ds W Q E, sp__law_chain ds W Q E → ds.length = 6 := by
  rintro ds W Q E ⟨_, _, _, _, _, _, rfl, _⟩; rfl
theorem gc__law_chain {st : Addr} {o : MO} {ops : Sig} {t : Trm} {first many : Int} {W : Wd} {Q : DQ} {E : DX} (h1 : W st = some o) (h2 : StO o) (h3 : Ops ops) (h4 : Wf ops 9 t) (h5 : t.depth ≤ 30) (h6 : t.size ≤ 5000) (h7 : 0 ≤ first) (h8 : 0 ≤ many) (h9 : many ≤ 6) (k : ∀ gs xs ts u o', ChK ops first.toNat t gs xs ts u → (xs.length : Int) = many → StO o' → Q (.tup [.lst (gs.map ruD), .lst (xs.map Stq.d), .lst ((t :: ts).map Trm.d)]) (W.set st o')) : sp__law_chain [.ptr st, .lst (ops.map opD), .int 9, t.d, .int first, .int many] W Q E :=
  ⟨st, o, ops, t, first.toNat, many.toNat, by rw [show ((first.toNat : Nat) : Int) = first by omega, show ((many.toNat : Nat) : Int) = many by omega], h1, h2, h3, h4, h5, h6, by omega, fun gs xs ts u o' a b c => k gs xs ts u o' a (by omega) c⟩
theorem gc__law_step {st : Addr} {o : MO} {ops : Sig} {t : Trm} {src : D} {W : Wd} {Q : DQ} {E : DX} (h1 : W st = some o) (h2 : StO o) (h3 : Ops ops) (h4 : Wf ops 9 t) (h5 : t.depth ≤ 60) (h6 : t.size ≤ 10000) (k : ∀ (b : Bool) old new p s t' o', StpK ops t old new p s t' → StO o' → Q (.tup [if b = true then eqD old new else eqD new old, .tup [src, .bl b, posD p, .dk (dkS s)], t'.d]) (W.set st o')) : sp__law_step [.ptr st, .lst (ops.map opD), .int 9, t.d, src] W Q E := ⟨st, o, ops, t, src, rfl, h1, h2, h3, h4, h5, h6, k⟩

abbrev n__law_chain : List Str := ["_law_state_here", "_law_operations_here", "_law_count", "_law_term_here", "_law_first", "_law_many", "_law_given", "_law_steps", "_law_terms", "_law_k", "_law_equation_here", "_law_step_here"]
def b1__law_chain  : AS := aSeq (aAsg (aCall (sp__law_step) [] ED0 (aCons (aVar 0) (aCons (aVar 1) (aCons (aVar 2) (aCons (aVar 3) (aCons (aTup (aCons (aC (.str "given")) (aCons (aOp (dAdd false) (aVar 4) (aVar 9)) (aNil)))) (aNil))))))) (agTup 3 (agCons (agName 10) (agCons (agName 11) (agCons (agName 3) (agNil)))))) (aSeq (aDrop (aBM tyL dAppend (aVar 6) (aCons (aVar 10) (aNil)))) (aSeq (aDrop (aBM tyL dAppend (aVar 7) (aCons (aVar 11) (aNil)))) (aDrop (aBM tyL dAppend (aVar 8) (aCons (aVar 3) (aNil))))))
def a__law_chain  : AS := aSeq (aAsg (aLst true (aNil)) (agName 6)) (aSeq (aAsg (aLst true (aNil)) (agName 7)) (aSeq (aAsg (aLst true (aCons (aVar 3) (aNil))) (agName 8)) (aSeq (aFor (aiRng1 (aCons (aVar 5) (aNil))) (agName 9) (b1__law_chain)) (aRet (aTup (aCons (aVarF 6) (aCons (aVarF 7) (aCons (aVarF 8) (aNil)))))))))
theorem rd__law_chain {ds : List D} {W : Wd} {Q : DQ} {E : DX} (h : sp__law_chain ds W Q E) : a__law_chain (EN Q) (startD n__law_chain ds) W := by
  obtain ⟨st, o, ops, t, first, many, rfl, hw, ho, hO, ht, hd, hz, hm, q⟩ := h
  unfold a__law_chain
  walk_at "rd"
  intro a ha
  walk_at "rd"
  intro b hb
  walk_at "rd"
  intro c hc
  have nsa : a ≠ st := fun e => by rw [e, hw] at ha; cases ha
  have nba : b ≠ a := fun e => by rw [e, Wd.set_same] at hb; cases hb
  have hb0 : W b = none := by rw [Wd.set_ne nba] at hb; exact hb
  have nsb : b ≠ st := fun e => by rw [e, hw] at hb0; cases hb0
  have ncb : c ≠ b := fun e => by rw [e, Wd.set_same] at hc; cases hc
  have hc1 : (W.set a (.lst [])) c = none := by rw [Wd.set_ne ncb] at hc; exact hc
  have nca : c ≠ a := fun e => by rw [e, Wd.set_same] at hc1; cases hc1
  have hc0 : W c = none := by rw [Wd.set_ne nca] at hc1; exact hc1
  have nsc : c ≠ st := fun e => by rw [e, hw] at hc0; cases hc0
  walk_at "rd"
  have nas := Ne.symm nsa
  have nab := Ne.symm nba
  have nbs := Ne.symm nsb
  have nbc := Ne.symm ncb
  have nac := Ne.symm nca
  have ncs := Ne.symm nsc
  refine forL_inv (fun ds δ W' => ∃ (gs : List Ru) (xs : List Stq) (ts : List Trm) (u : Trm) (o' : MO) (x1 x2 x3 : Option D), ChK ops first t gs xs ts u ∧ xs.length ≤ many ∧ ds = (rangeD 0 many).drop xs.length ∧ StO o' ∧ W' = (((W.set a (.lst (gs.map ruD))).set b (.lst (xs.map Stq.d))).set c (.lst ((t :: ts).map Trm.d))).set st o' ∧
    δ = [some (.ptr st), some (.lst (ops.map opD)), some (.int 9), some u.d, some (.int first), some (.int many), some (.ptr a), some (.ptr b), some (.ptr c), x1, x2, x3]) ?_ (fun _ _ _ _ => trivial) ?_ ?_
  · refine ⟨[], [], [], t, o, none, none, none, .nil, Nat.zero_le _, rfl, ho, ?_, rfl⟩
    funext l
    simp only [Wd.set]
    by_cases h1 : l = st
    · subst h1; simp [nas, nbs, ncs, hw]
    · simp [h1]
  · rintro d ds δ W' N ⟨gs, xs, ts, u, o', x1, x2, x3, hC, hl, hds, ho', rfl, rfl⟩ kk
    have hlt : xs.length < many := by
      have := congrArg List.length hds
      rw [List.length_drop, rangeD_length, List.length_cons] at this
      omega
    rw [rng_cut hlt] at hds
    cases hds
    obtain ⟨l1, l2⟩ := hC.len
    obtain ⟨w1, d1, z1, _⟩ := hC.ok ht
    unfold b1__law_chain
    walk_at "rd"
    refine gc__law_step (Wd.set_same ..) ho' hO w1 (by omega) (by omega) fun bb old new p s u' o2 hS ho2 => ?_
    rw [Wd.set_set]
    obtain ⟨W1, hW1⟩ : ∃ W1, W1 = ((((W.set a (.lst (gs.map ruD))).set b (.lst (xs.map Stq.d))).set c (.lst ((t :: ts).map Trm.d))).set st o2) := ⟨_, rfl⟩
    rw [← hW1]
    have hA : W1 a = some (.lst (gs.map ruD)) := by rw [hW1, Wd.set_ne nsa, Wd.set_ne nac, Wd.set_ne nab, Wd.set_same]
    have hB : W1 b = some (.lst (xs.map Stq.d)) := by rw [hW1, Wd.set_ne nsb, Wd.set_ne nbc, Wd.set_same]
    have hCc : W1 c = some (.lst ((t :: ts).map Trm.d)) := by rw [hW1, Wd.set_ne nsc, Wd.set_same]
    walk_at "rd"
    refine go_tyLp (ds := xs.map Stq.d) (by rw [Wd.set_ne nba]; exact hB) ?_
    walk_at "rd"
    refine go_append (ds := xs.map Stq.d) (by rw [Wd.set_ne nba]; exact hB) (by rw [sizeLine_val, List.length_map]; omega) ?_
    walk_at "rd"
    refine go_tyLp (ds := (t :: ts).map Trm.d) (by rw [Wd.set_ne ncb, Wd.set_ne nca]; exact hCc) ?_
    walk_at "rd"
    refine go_append (ds := (t :: ts).map Trm.d) (by rw [Wd.set_ne ncb, Wd.set_ne nca]; exact hCc) (by rw [sizeLine_val, List.length_map, List.length_cons]; omega) ?_
    refine kk _ _ ⟨_, _, _, u', o2, _, _, _, hC.snoc bb hS, by rw [List.length_append, List.length_singleton]; omega, by rw [List.length_append, List.length_singleton], ho2, ?_, rfl⟩
    rw [hW1]
    have e1 : (gs ++ [if bb = true then (old, new) else (new, old)]).map ruD = gs.map ruD ++ [if bb = true then eqD old new else eqD new old] := by
      rw [List.map_append]; cases bb <;> rfl
    have e2 : (xs ++ [(⟨true, ((first + xs.length : Nat) : Int), bb, p, s⟩ : Stq)]).map Stq.d = xs.map Stq.d ++ [.tup [.tup [.str "given", .int ((first : Int) + (xs.length : Int))], .bl bb, posD p, .dk (dkS s)]] := by
      rw [List.map_append]
      show _ ++ [Stq.d _] = _
      unfold Stq.d Stq.src
      rw [Int.natCast_add]; rfl
    have e3 : (t :: (ts ++ [u'])).map Trm.d = (t :: ts).map Trm.d ++ [u'.d] := by simp
    rw [e1, e2, e3]
    funext l
    simp only [Wd.set]
    by_cases h1 : l = st
    · subst h1; simp [nas, nbs, ncs]
    · by_cases h2 : l = a
      · subst h2; simp [nsa, nab, nac]
      · by_cases h3 : l = b
        · subst h3; simp [nsb, nbc]
        · by_cases h4 : l = c
          · subst h4; simp [nsc]
          · simp [h1, h2, h3, h4]
  · rintro δ W' ⟨gs, xs, ts, u, o', x1, x2, x3, hC, hl, hds, ho', rfl, rfl⟩
    have hge : xs.length = many := by
      have := congrArg List.length hds
      rw [List.length_drop, rangeD_length, List.length_nil] at this
      omega
    walk_at "rd"
    obtain ⟨W1, hW1⟩ : ∃ W1, W1 = ((((W.set a (.lst (gs.map ruD))).set b (.lst (xs.map Stq.d))).set c (.lst ((t :: ts).map Trm.d))).set st o') := ⟨_, rfl⟩
    rw [← hW1]
    have hA : W1 a = some (.lst (gs.map ruD)) := by rw [hW1, Wd.set_ne nsa, Wd.set_ne nac, Wd.set_ne nab, Wd.set_same]
    have hB : W1 b = some (.lst (xs.map Stq.d)) := by rw [hW1, Wd.set_ne nsb, Wd.set_ne nbc, Wd.set_same]
    have hCc : W1 c = some (.lst ((t :: ts).map Trm.d)) := by rw [hW1, Wd.set_ne nsc, Wd.set_same]
    refine go_varF (d := .lst (gs.map ruD)) (W1 := W1.del a) rfl hA rfl rfl ?_
    walk_at "rd"
    refine go_varF (d := .lst (xs.map Stq.d)) (W1 := (W1.del a).del b) rfl (by rw [show (W1.del a) b = W1 b by simp [Wd.del, nba]]; exact hB) rfl rfl ?_
    walk_at "rd"
    refine go_varF (d := .lst ((t :: ts).map Trm.d)) (W1 := ((W1.del a).del b).del c) rfl (by rw [show ((W1.del a).del b) c = W1 c by simp [Wd.del, nca, ncb]]; exact hCc) rfl rfl ?_
    walk_at "rd"
    have eW : ((W1.del a).del b).del c = W.set st o' := by
      rw [hW1]
      funext l
      simp only [Wd.set, Wd.del]
      by_cases h1 : l = st
      · subst h1; simp [nas, nbs, ncs, nsa, nsb, nsc]
      · by_cases h2 : l = a
        · subst h2; simp [h1, ha]
        · by_cases h3 : l = b
          · subst h3; simp [h1, hb0]
          · by_cases h4 : l = c
            · subst h4; simp [h1, hc0]
            · simp [h1, h2, h3, h4]
    rw [eW]
    exact q gs xs ts u o' hC hge ho'

theorem sc__law_chain : FnScope ["_law_state_here", "_law_operations_here", "_law_count", "_law_term_here", "_law_first", "_law_many", "_law_given", "_law_steps", "_law_terms", "_law_k", "_law_equation_here", "_law_step_here"] ["_law_state_here", "_law_operations_here", "_law_count", "_law_term_here", "_law_first", "_law_many"] (defScope s__law_chain) := ⟨rfl, rfl, rfl, by decide +kernel, rfl, by decide +kernel, by decide +kernel⟩
theorem ok__law_chain {P : Program} {w : World} {K : PySem.W.Frag} {mg : Str → Option Value} {base : Heap} {k : Nat}  (F : Df K mg "_law_chain" "_law_chain" s__law_chain) (z_range : mg "range" = none) (g__law_step : Fk P w K mg base CX0 k "_law_step" ["_law_state_here", "_law_operations_here", "_law_count", "_law_term_here", "_law_source"] (sp__law_step)) : Fk P w K mg base CX0 (k + 1) "_law_chain" ["_law_state_here", "_law_operations_here", "_law_count", "_law_term_here", "_law_first", "_law_many"] (sp__law_chain) := by
  have sc := sc__law_chain
  exact okF F sc (fun _ _ _ _ _ _ us hl => match us, hl with | [_, _, _, _, _, _], _ => rfl) len__law_chain fun cdv A outer s H E G f hr hgd => ⟨_, a__law_chain ,
    dss_cons (ds_set (i := 6) sc.nd rfl (.inl rfl) (de_lst true (da_nil))) (dss_cons (ds_set (i := 7) sc.nd rfl (.inl rfl) (de_lst true (da_nil))) (dss_cons (ds_set (i := 8) sc.nd rfl (.inl rfl) (de_lst true (da_cons (dv 3) (da_nil)))) (dss_cons (ds_for PassesOwn.never rfl (di_range1 (by rfl) z_range (da_cons (dv 5) (da_nil))) (dg_name (i := 9) sc.nd rfl (.inl rfl)) (dss_cons (ds_asg (de_fn g__law_step hr hgd (da_cons (dv 0) (da_cons (dv 1) (da_cons (dv 2) (da_cons (dv 3) (da_cons (de_tup (da_cons (de_str) (da_cons (de_op (op_addA) sr_add (dv 4) (dv 9)) (da_nil)))) (da_nil))))))) (dg_tup rfl (dgs_cons (dg_name (i := 10) sc.nd rfl (.inl rfl)) (dgs_cons (dg_name (i := 11) sc.nd rfl (.inl rfl)) (dgs_cons (dg_name (i := 3) sc.nd rfl (.inl rfl)) (dgs_nil)))))) (dss_cons (ds_expr (de_append (dv 6) (da_cons (dv 10) (da_nil)))) (dss_cons (ds_expr (de_append (dv 7) (da_cons (dv 11) (da_nil)))) (dss_one (ds_expr (de_append (dv 8) (da_cons (dv 3) (da_nil))))))))) (dss_one (ds_ret (de_tup (da_cons (dvF 6) (da_cons (dvF 7) (da_cons (dvF 8) (da_nil)))))))))),
    fun ds W QD ED h => rd__law_chain h⟩
def sp__law_equation : SpD := fun ds W Q _ => ∃ (gs : List Ru) (sts : List (Ru × D)) (x : Stq) (e : Ru), ds = [.lst (gs.map ruD), .lst (sts.map stgD), .tup [.str (kindS x.giv), .int x.i]] ∧ eqAt gs (sts.map (·.1)) x = some e ∧ Q (ruD e) W
theorem len__law_equation : ∀ ds W Q E, sp__law_equation ds W Q E → ds.length = 3 := by
  rintro ds W Q E ⟨_, _, _, _, rfl, _⟩; rfl
theorem gc__law_equation {gs : List Ru} {sts : List (Ru × D)} {x : Stq} {e : Ru} {W : Wd} {Q : DQ} {E : DX} (h2 : eqAt gs (sts.map (·.1)) x = some e) (k : Q (ruD e) W) : sp__law_equation [.lst (gs.map ruD), .lst (sts.map stgD), .tup [.str (kindS x.giv), .int x.i]] W Q E := ⟨gs, sts, x, e, rfl, h2, k⟩

abbrev n__law_equation : List Str := ["_law_given", "_law_stages", "_law_source", "_law_kind", "_law_index"]
def a__law_equation  : AS := aSeq (aAsg (aVar 2) (agTup 2 (agCons (agName 3) (agCons (agName 4) (agNil))))) (aSeq (aIfS (aTest (aOp (dEq) (aVar 3) (aC (.str "given")))) (aRet (aOp dIx (aVar 0) (aVar 4))) (aNext)) (aRet (aTup (aCons (aOp dIx (aOp dIx (aVar 1) (aVar 4)) (aC (.int 0))) (aCons (aOp dIx (aOp dIx (aVar 1) (aVar 4)) (aC (.int 1))) (aNil))))))
theorem rd__law_equation {ds : List D} {W : Wd} {Q : DQ} {E : DX} (h : sp__law_equation ds W Q E) : a__law_equation (EN Q) (startD n__law_equation ds) W := by
  obtain ⟨gs, sts, x, e, rfl, he, q⟩ := h
  obtain ⟨giv, i, fwd, p, s⟩ := x
  unfold eqAt at he
  dsimp only at he ⊢
  split at he
  · cases he
  rename_i h0
  unfold a__law_equation
  cases giv with
  | true =>
    rw [if_pos rfl] at he
    rw [show kindS true = "given" from rfl]
    walk_at "rd"
    refine go_ixL (d := ruD e) (by rw [atI_of (by omega), List.getElem?_map, he]; rfl) ?_
    exact q
  | false =>
    rw [if_neg (by decide), List.getElem?_map] at he
    cases hs : sts[i.toNat]? with
    | none => rw [hs] at he; cases he
    | some y =>
      rw [hs] at he
      cases he
      rw [show kindS false = "stage" from rfl]
      walk_at "rd"
      refine go_ixL (d := stgD y) (by rw [atI_of (by omega), List.getElem?_map, hs]; rfl) ?_
      unfold stgD
      walk_at "rd"
      refine go_ixL (d := stgD y) (by rw [atI_of (by omega), List.getElem?_map, hs]; rfl) ?_
      unfold stgD
      walk_at "rd"
      exact q

theorem sc__law_equation : FnScope ["_law_given", "_law_stages", "_law_source", "_law_kind", "_law_index"] ["_law_given", "_law_stages", "_law_source"] (defScope s__law_equation) := ⟨rfl, rfl, rfl, by decide +kernel, rfl, by decide +kernel, by decide +kernel⟩
theorem ok__law_equation {P : Program} {w : World} {K : PySem.W.Frag} {mg : Str → Option Value} {base : Heap} {k : Nat}  (F : Df K mg "_law_equation" "_law_equation" s__law_equation)  : Fk P w K mg base CX0 (k + 1) "_law_equation" ["_law_given", "_law_stages", "_law_source"] (sp__law_equation) := by
  have sc := sc__law_equation
  exact okF F sc (fun _ _ _ _ _ _ us hl => match us, hl with | [_, _, _], _ => rfl) len__law_equation fun cdv A outer s H E G f hr hgd => ⟨_, a__law_equation ,
    dss_cons (ds_asg (dv 2) (dg_tup rfl (dgs_cons (dg_name (i := 3) sc.nd rfl (.inl rfl)) (dgs_cons (dg_name (i := 4) sc.nd rfl (.inl rfl)) (dgs_nil))))) (dss_cons (ds_if (dt_cmp (op_eqP (hu151 hr)) sr_eq (dv 3) (de_str) (nomark _)) (dss_one (ds_ret (de_ix (ix_all (hu_of hr)) sr_ix (dv 0) (dv 4)))) (dss_nil)) (dss_one (ds_ret (de_tup (da_cons (de_ix (ix_all (hu_of hr)) sr_ix (de_ix (ix_all (hu_of hr)) sr_ix (dv 1) (dv 4)) (de_int)) (da_cons (de_ix (ix_all (hu_of hr)) sr_ix (de_ix (ix_all (hu_of hr)) sr_ix (dv 1) (dv 4)) (de_int)) (da_nil))))))),
    fun ds W QD ED h => rd__law_equation h⟩
def sp__law_has_position : SpD := fun ds W Q _ => ∃ (t : Trm) (p : List Int), ds = [t.d, posD p] ∧ t.size ≤ 1000000 ∧ Q (.bl (t.isPos p)) W
theorem len__law_has_position : ∀ ds W Q E, sp__law_has_position ds W Q E → ds.length = 2 := by
  rintro ds W Q E ⟨_, _, rfl, _⟩; rfl
theorem gc__law_has_position {t : Trm} {p : List Int} {W : Wd} {Q : DQ} {E : DX} (h1 : t.size ≤ 1000000) (k : Q (.bl (t.isPos p)) W) : sp__law_has_position [t.d, posD p] W Q E := ⟨t, p, rfl, h1, k⟩

abbrev n__law_has_position : List Str := ["_law_term_here", "_law_position", "_law_k"]
def b1__law_has_position  : AS := aSeq (aIfS (aOr (aTest (aCB (dIsi) (aCons (aVar 0) (aCons (aC (.ty "int")) (aNil))))) (aNot (aTest (aChain (dI0 fun i j => .bl (decide (i ≤ j))) (dLt) (aC (.int 1)) (aVar 2) (aCB (dLen) (aCons (aVar 0) (aNil))))))) (aRet (aC (.bl false))) (aNext)) (aAsg (aOp dIx (aVar 0) (aVar 2)) (agName 0))
def a__law_has_position  : AS := aSeq (aFor (aiSeq (aVar 1)) (agName 2) (b1__law_has_position)) (aRet (aC (.bl true)))
theorem rd__law_has_position {ds : List D} {W : Wd} {Q : DQ} {E : DX} (h : sp__law_has_position ds W Q E) : a__law_has_position (EN Q) (startD n__law_has_position ds) W := by
  obtain ⟨t, p, rfl, hz, q⟩ := h
  unfold a__law_has_position posD
  walk_at "rd"
  refine forL_inv (fun ds δ W' => ∃ (u : Trm) (r : List Int) (x : Option D), W' = W ∧ ds = r.map .int ∧ u.isPos r = t.isPos p ∧ u.size ≤ 1000000 ∧ δ = [some u.d, some (.tup (p.map .int)), x]) ⟨t, p, none, rfl, rfl, rfl, hz, rfl⟩ (fun _ _ _ _ => trivial) ?_ ?_
  · rintro d ds δ W' N ⟨u, r, x, rfl, e, hr, hzu, rfl⟩ kk
    cases r with
    | nil => cases e
    | cons i r =>
      rw [List.map_cons] at e
      cases e
      unfold b1__law_has_position
      cases u with
      | var v =>
        rw [Trm.isPos] at hr
        rw [← hr] at q
        rw [Trm.d_var]
        walk_at "rd"
        exact q
      | app f ts =>
        have hls := length_sizes ts
        rw [Trm.size] at hzu
        rw [Trm.d_app]
        walk_at "rd"
        by_cases h1 : 1 ≤ i
        · rw [show decide ((1 : Int) ≤ i) = true from decide_eq_true h1]
          walk_at "rd"
          by_cases h2 : (i - 1).toNat < ts.length
          · rw [show decide (i < ((D.str f :: ts.map Trm.d).length : Int)) = true from decide_eq_true (by simp; omega)]
            walk_at "rd"
            have h3 : ts[(i - 1).toNat]? = some ts[(i - 1).toNat] := List.getElem?_eq_getElem h2
            have hsm := size_mem (List.getElem_mem h2)
            refine go_ixT (d := (ts[(i - 1).toNat]).d) (by rw [atI_of (by omega), show i.toNat = (i - 1).toNat + 1 by omega, List.getElem?_cons_succ, List.getElem?_map, h3]; rfl) ?_
            walk_at "rd"
            exact kk _ _ ⟨_, r, _, rfl, rfl, by rw [← hr, isPos_cons h1 h3], by omega, rfl⟩
          · rw [show decide (i < ((D.str f :: ts.map Trm.d).length : Int)) = false from decide_eq_false (by simp; omega)]
            rw [isPos_no (by rw [Trm.hasArg]; simp; omega)] at hr
            rw [← hr] at q
            walk_at "rd"
            exact q
        · rw [show decide ((1 : Int) ≤ i) = false from decide_eq_false h1]
          rw [isPos_no (by rw [Trm.hasArg]; simp; omega)] at hr
          rw [← hr] at q
          walk_at "rd"
          exact q
  · rintro δ W' ⟨u, r, x, rfl, e, hr, hzu, rfl⟩
    cases r with
    | cons _ _ => cases e
    | nil =>
      rw [Trm.isPos] at hr
      rw [← hr] at q
      walk_at "rd"
      exact q

theorem sc__law_has_position : FnScope ["_law_term_here", "_law_position", "_law_k"] ["_law_term_here", "_law_position"] (defScope s__law_has_position) := ⟨rfl, rfl, rfl, by decide +kernel, rfl, by decide +kernel, by decide +kernel⟩
theorem ok__law_has_position {P : Program} {w : World} {K : PySem.W.Frag} {mg : Str → Option Value} {base : Heap} {k : Nat}  (F : Df K mg "_law_has_position" "_law_has_position" s__law_has_position) (z_isinstance : mg "isinstance" = none) (z_int : mg "int" = none) (z_len : mg "len" = none) : Fk P w K mg base CX0 (k + 1) "_law_has_position" ["_law_term_here", "_law_position"] (sp__law_has_position) := by
  have sc := sc__law_has_position
  exact okF F sc (fun _ _ _ _ _ _ us hl => match us, hl with | [_, _], _ => rfl) len__law_has_position fun cdv A outer s H E G f hr hgd => ⟨_, a__law_has_position ,
    dss_cons (ds_for PassesOwn.never rfl (di_seq (dv 1)) (dg_name (i := 2) sc.nd rfl (.inl rfl)) (dss_cons (ds_if (DW.dt (dw_or (dt_val (de_callB call_isi sc_isi (by rfl) z_isinstance (by decide +kernel) (da_cons (dv 0) (da_cons (de_bty (by rfl) z_int (by decide +kernel)) (da_nil))))) (dw_or1 (dt_not (dt_chain (op_le) (op_ltA (hu151 hr)) sr_b0 sr_lt (de_int) (dv 2) (de_callB call_lenA sc_len (by rfl) z_len (by decide +kernel) (da_cons (dv 0) (da_nil)))))))) (dss_one (ds_ret (de_bl))) (dss_nil)) (dss_one (ds_set (i := 0) sc.nd rfl (.inl rfl) (de_ix (ix_all (hu_of hr)) sr_ix (dv 0) (dv 2)))))) (dss_one (ds_ret (de_bl))),
    fun ds W QD ED h => rd__law_has_position h⟩
def sp__law_is_step : SpD := fun ds W Q _ => ∃ (b c : Bool) (i : Int) (p : List Int) (d : D) (kds : List (Key × D)), ds = [.tup [.tup [.str (kindS b), .int i], .bl c, posD p, d]] ∧ dkOf W d = some kds ∧ Q (.bl true) W
theorem len__law_is_step : ∀ ds W Q E, sp__law_is_step ds W Q E → ds.length = 1 := by
  rintro ds W Q E ⟨_, _, _, _, _, _, rfl, _⟩; rfl
theorem gc__law_is_step {b c : Bool} {i : Int} {p : List Int} {d : D} {kds : List (Key × D)} {W : Wd} {Q : DQ} {E : DX} (h1 : dkOf W d = some kds) (k : Q (.bl true) W) : sp__law_is_step [.tup [.tup [.str (kindS b), .int i], .bl c, posD p, d]] W Q E := ⟨b, c, i, p, d, kds, rfl, h1, k⟩
theorem within_kind (b : Bool) : D.within (.str (kindS b)) [.str "given", .str "stage"] = true := by cases b <;> decide
theorem nears_kind (b : Bool) : D.nears (.str (kindS b)) [.str "given", .str "stage"] := by cases b <;> exact ⟨rfl, rfl, by decide⟩
theorem tyOf_dk {W : Wd} {d : D} {kds : List (Key × D)} (h : dkOf W d = some kds) : tyOf W d = some "dict" := by
  cases d with
  | dk _ => rfl
  | ptr l =>
    unfold dkOf at h
    unfold tyOf
    cases e : W l with
    | none => simp [e] at h
    | some o => cases o <;> simp [e] at h ⊢
  | _ => simp [dkOf] at h

abbrev n__law_is_step : List Str := ["_law_step_here"]
def a__law_is_step  : AS := aSeq (aIfS (aOr (aNot (aTest (aCB (dIsi) (aCons (aVar 0) (aCons (aC (.ty "tuple")) (aNil)))))) (aTest (aOp (dNe) (aCB (dLen) (aCons (aVar 0) (aNil))) (aC (.int 4))))) (aRet (aC (.bl false))) (aNext)) (aSeq (aIfS (aOr (aNot (aTest (aCB (dIsi) (aCons (aOp dIx (aVar 0) (aC (.int 0))) (aCons (aC (.ty "tuple")) (aNil)))))) (aOr (aTest (aOp (dNe) (aCB (dLen) (aCons (aOp dIx (aVar 0) (aC (.int 0))) (aNil))) (aC (.int 2)))) (aTest (aOp (dIn true) (aOp dIx (aOp dIx (aVar 0) (aC (.int 0))) (aC (.int 0))) (aLst false (aCons (aC (.str "given")) (aCons (aC (.str "stage")) (aNil)))))))) (aRet (aC (.bl false))) (aNext)) (aSeq (aIfS (aOr (aNot (aTest (aCB (dIsi) (aCons (aOp dIx (aOp dIx (aVar 0) (aC (.int 0))) (aC (.int 1))) (aCons (aC (.ty "int")) (aNil)))))) (aTest (aCB (dIsi) (aCons (aOp dIx (aOp dIx (aVar 0) (aC (.int 0))) (aC (.int 1))) (aCons (aC (.ty "bool")) (aNil)))))) (aRet (aC (.bl false))) (aNext)) (aSeq (aIfS (aAnd (aTest (aOp (dIs true) (aOp dIx (aVar 0) (aC (.int 1))) (aC (.bl true)))) (aTest (aOp (dIs true) (aOp dIx (aVar 0) (aC (.int 1))) (aC (.bl false))))) (aRet (aC (.bl false))) (aNext)) (aRet (aAndV (aCB (dIsi) (aCons (aOp dIx (aVar 0) (aC (.int 2))) (aCons (aC (.ty "tuple")) (aNil)))) (aCB (dIsi) (aCons (aOp dIx (aVar 0) (aC (.int 3))) (aCons (aC (.ty "dict")) (aNil)))))))))
theorem rd__law_is_step {ds : List D} {W : Wd} {Q : DQ} {E : DX} (h : sp__law_is_step ds W Q E) : a__law_is_step (EN Q) (startD n__law_is_step ds) W := by
  obtain ⟨b, c, i, p, d, kds, rfl, hd, q⟩ := h
  unfold a__law_is_step
  walk_at "rd"
  refine .inl ⟨_, rfl, nears_kind b, ?_⟩
  rw [within_kind]
  cases c
  all_goals walk_at "rd"
  all_goals refine go_isi (tyOf_dk hd) (by simp) rfl ?_
  all_goals exact q

theorem sc__law_is_step : FnScope ["_law_step_here"] ["_law_step_here"] (defScope s__law_is_step) := ⟨rfl, rfl, rfl, by decide +kernel, rfl, by decide +kernel, by decide +kernel⟩
theorem ok__law_is_step {P : Program} {w : World} {K : PySem.W.Frag} {mg : Str → Option Value} {base : Heap} {k : Nat}  (F : Df K mg "_law_is_step" "_law_is_step" s__law_is_step) (z_isinstance : mg "isinstance" = none) (z_tuple : mg "tuple" = none) (z_len : mg "len" = none) (z_int : mg "int" = none) (z_bool : mg "bool" = none) (z_dict : mg "dict" = none) : Fk P w K mg base CX0 (k + 1) "_law_is_step" ["_law_step_here"] (sp__law_is_step) := by
  have sc := sc__law_is_step
  exact okF F sc (fun _ _ _ _ _ _ us hl => match us, hl with | [_], _ => rfl) len__law_is_step fun cdv A outer s H E G f hr hgd => ⟨_, a__law_is_step ,
    dss_cons (ds_if (DW.dt (dw_or (dt_not (dt_val (de_callB call_isi sc_isi (by rfl) z_isinstance (by decide +kernel) (da_cons (dv 0) (da_cons (de_bty (by rfl) z_tuple (by decide +kernel)) (da_nil)))))) (dw_or1 (dt_cmp (op_neP (hu151 hr)) sr_ne (de_callB call_lenA sc_len (by rfl) z_len (by decide +kernel) (da_cons (dv 0) (da_nil))) (de_int) (nomark _))))) (dss_one (ds_ret (de_bl))) (dss_nil)) (dss_cons (ds_if (DW.dt (dw_or (dt_not (dt_val (de_callB call_isi sc_isi (by rfl) z_isinstance (by decide +kernel) (da_cons (de_ix (ix_all (hu_of hr)) sr_ix (dv 0) (de_int)) (da_cons (de_bty (by rfl) z_tuple (by decide +kernel)) (da_nil)))))) (dw_or (dt_cmp (op_neP (hu151 hr)) sr_ne (de_callB call_lenA sc_len (by rfl) z_len (by decide +kernel) (da_cons (de_ix (ix_all (hu_of hr)) sr_ix (dv 0) (de_int)) (da_nil))) (de_int) (nomark _)) (dw_or1 (dt_cmp (op_notInA (hu151 hr)) sr_in (de_ix (ix_all (hu_of hr)) sr_ix (de_ix (ix_all (hu_of hr)) sr_ix (dv 0) (de_int)) (de_int)) (de_lst false (da_cons (de_str) (da_cons (de_str) (da_nil)))) (by rfl)))))) (dss_one (ds_ret (de_bl))) (dss_nil)) (dss_cons (ds_if (DW.dt (dw_or (dt_not (dt_val (de_callB call_isi sc_isi (by rfl) z_isinstance (by decide +kernel) (da_cons (de_ix (ix_all (hu_of hr)) sr_ix (de_ix (ix_all (hu_of hr)) sr_ix (dv 0) (de_int)) (de_int)) (da_cons (de_bty (by rfl) z_int (by decide +kernel)) (da_nil)))))) (dw_or1 (dt_val (de_callB call_isi sc_isi (by rfl) z_isinstance (by decide +kernel) (da_cons (de_ix (ix_all (hu_of hr)) sr_ix (de_ix (ix_all (hu_of hr)) sr_ix (dv 0) (de_int)) (de_int)) (da_cons (de_bty (by rfl) z_bool (by decide +kernel)) (da_nil)))))))) (dss_one (ds_ret (de_bl))) (dss_nil)) (dss_cons (ds_if (DW.dt (dw_and (dt_cmp (op_isnotA) sr_is (de_ix (ix_all (hu_of hr)) sr_ix (dv 0) (de_int)) (de_bl) (nomark _)) (dw_and1 (dt_cmp (op_isnotA) sr_is (de_ix (ix_all (hu_of hr)) sr_ix (dv 0) (de_int)) (de_bl) (nomark _))))) (dss_one (ds_ret (de_bl))) (dss_nil)) (dss_one (ds_ret (de_and (de_callB call_isi sc_isi (by rfl) z_isinstance (by decide +kernel) (da_cons (de_ix (ix_all (hu_of hr)) sr_ix (dv 0) (de_int)) (da_cons (de_bty (by rfl) z_tuple (by decide +kernel)) (da_nil)))) (de_one (de_callB call_isi sc_isi (by rfl) z_isinstance (by decide +kernel) (da_cons (de_ix (ix_all (hu_of hr)) sr_ix (dv 0) (de_int)) (da_cons (de_bty (by rfl) z_dict (by decide +kernel)) (da_nil))))))))))),
    fun ds W QD ED h => rd__law_is_step h⟩
def sp__law_variables_o : SpD := fun ds W Q _ => ∃ t : Trm, ds = [t.d] ∧ t.depth ≤ 140 ∧ t.size ≤ 1000000 ∧ ∀ p, W p = none → Q (.ptr p) (W.set p (.lst (t.vars.map .int)))
theorem len__law_variables_o : ∀ ds W Q E, sp__law_variables_o ds W Q E → ds.length = 1 := by
  rintro ds W Q E ⟨t, rfl, _⟩; rfl
theorem gc__law_variables_o {t : Trm} {W : Wd} {Q : DQ} {E : DX} (h1 : t.depth ≤ 140) (h2 : t.size ≤ 1000000) (k : ∀ p, W p = none → Q (.ptr p) (W.set p (.lst (t.vars.map .int)))) : sp__law_variables_o [t.d] W Q E := ⟨t, rfl, h1, h2, k⟩

abbrev n__law_variables_o : List Str := ["_law_term_here", "_law_found", "_law_argument", "_law_variable"]
def b1__law_variables_o  : AS := aIfS (aTest (aOp (dIn true) (aVar 3) (aVar 1))) (aDrop (aBM tyL dAppend (aVar 1) (aCons (aVar 3) (aNil)))) (aNext)
def b2__law_variables_o  : AS := aFor (aiSeq (aCall (sp__law_variables 140) [] ED0 (aCons (aVar 2) (aNil)))) (agName 3) (b1__law_variables_o)
def a__law_variables_o  : AS := aSeq (aIfS (aTest (aCB (dIsi) (aCons (aVar 0) (aCons (aC (.ty "int")) (aNil))))) (aRet (aLst true (aCons (aVar 0) (aNil)))) (aNext)) (aSeq (aAsg (aLst true (aNil)) (agName 1)) (aSeq (aFor (aiSeq (aSl (dSl false) (aVar 0) (aPart (aC (.int 1))) (aNoPart))) (agName 2) (b2__law_variables_o)) (aRet (aVar 1))))
theorem rd__law_variables_o {ds : List D} {W : Wd} {Q : DQ} {E : DX} (h : sp__law_variables_o ds W Q E) : a__law_variables_o (EN Q) (startD n__law_variables_o ds) W := by
  obtain ⟨t, rfl, hd, hz, q⟩ := h
  unfold a__law_variables_o
  cases t with
  | var v =>
    rw [Trm.d_var]
    walk_at "rd"
    exact q
  | app f ts =>
    have hd := (depth_app_le (n := 139)).mp hd
    have hv : (Trm.app f ts).vars = nub [] (varss ts) := rfl
    rw [hv] at q
    have hvl := varss_len ts
    rw [Trm.size] at hz
    rw [Trm.d_app]
    walk_at "rd"
    intro p hp
    have q := q p hp
    walk_at "rd"
    refine forL_inv (items := ts.map Trm.d) (fun ds δ W' => ∃ (us : List Trm) (acc : List Int) (x y : Option D), W' = W.set p (.lst (acc.map .int)) ∧ ds = us.map Trm.d ∧ (∀ u ∈ us, u ∈ ts) ∧ nub acc (varss us) = nub [] (varss ts) ∧ acc.length + (varss us).length ≤ 1000000 ∧
      δ = [some (.tup (.str f :: ts.map Trm.d)), some (.ptr p), x, y]) ⟨ts, [], none, none, rfl, rfl, fun _ h => h, rfl, by simp; omega, rfl⟩ (fun _ _ _ _ => trivial) ?_ ?_
    · rintro d ds δ W' N ⟨us, acc, x, y, rfl, e, hu, hn, hl, rfl⟩ kk
      cases us with
      | nil => cases e
      | cons u us =>
        rw [List.map_cons] at e
        cases e
        have hu1 := hu u List.mem_cons_self
        rw [varss_cons, nub_app] at hn
        rw [varss_cons, List.length_append] at hl
        have hvu : u.vars.length ≤ (u.syms.filterMap Sy.int?).length := by
          unfold Trm.vars
          have := nub_len (u.syms.filterMap Sy.int?) []
          simpa using this
        unfold b2__law_variables_o
        walk_at "rd"
        refine gc__law_variables (by have := hd u hu1; omega) (by have := size_mem hu1; omega) ?_
        walk_at "rd"
        refine forL_inv (items := u.vars.map .int) (fun ds δ W' => ∃ (vs acc' : List Int) (y : Option D), W' = W.set p (.lst (acc'.map .int)) ∧ ds = vs.map .int ∧ nub acc' vs = nub acc (u.syms.filterMap Sy.int?) ∧ acc'.length + vs.length ≤ acc.length + u.vars.length ∧
          δ = [some (.tup (.str f :: ts.map Trm.d)), some (.ptr p), some u.d, y]) ?_ (fun _ _ _ _ => trivial) ?_ ?_
        · exact ⟨u.vars, acc, _, rfl, rfl, by unfold Trm.vars; rw [nub_nub]; rfl, Nat.le_refl _, rfl⟩
        · rintro d ds δ W' N ⟨vs, acc', y, rfl, e, hn', hl', rfl⟩ kk'
          cases vs with
          | nil => cases e
          | cons v vs =>
            rw [List.map_cons] at e
            cases e
            rw [nub] at hn'
            rw [List.length_cons] at hl'
            unfold b1__law_variables_o
            walk_at "rd"
            refine go_ninIp (Wd.set_same ..) ?_
            walk_at "rd"
            by_cases hm : v ∈ acc'
            · rw [if_pos hm] at hn'
              rw [decide_eq_true hm]
              walk_at "rd"
              exact kk' _ _ ⟨vs, acc', _, rfl, rfl, hn', by omega, rfl⟩
            · rw [if_neg hm] at hn'
              rw [decide_eq_false hm]
              walk_at "rd"
              exact kk' _ _ ⟨vs, acc' ++ [v], _, by rw [List.map_append]; rfl, rfl, hn', by rw [List.length_append, List.length_singleton]; omega, rfl⟩
        · rintro δ W' ⟨vs, acc', y, rfl, e, hn', hl', rfl⟩
          cases vs with
          | cons _ _ => cases e
          | nil =>
            rw [nub] at hn'
            exact kk _ _ ⟨us, acc', _, _, rfl, rfl, fun v hv => hu v (List.mem_cons_of_mem _ hv), by rw [hn']; exact hn, by simp at hl'; omega, rfl⟩
    · rintro δ W' ⟨us, acc, x, y, rfl, e, hu, hn, hl, rfl⟩
      cases us with
      | cons _ _ => cases e
      | nil =>
        rw [show varss [] = [] from rfl, nub] at hn
        rw [hn]
        walk_at "rd"
        exact q

theorem sc__law_variables_o : FnScope ["_law_term_here", "_law_found", "_law_argument", "_law_variable"] ["_law_term_here"] (defScope s__law_variables) := ⟨rfl, rfl, rfl, by decide +kernel, rfl, by decide +kernel, by decide +kernel⟩
theorem ok__law_variables_o {P : Program} {w : World} {K : PySem.W.Frag} {mg : Str → Option Value} {base : Heap} {k : Nat}  (F : Df K mg "_law_variables" "_law_variables" s__law_variables) (z_isinstance : mg "isinstance" = none) (z_int : mg "int" = none) (g__law_variables : Fk P w K mg base CX0 k "_law_variables" ["_law_term_here"] (sp__law_variables 140)) : Fk P w K mg base CX0 (k + 1) "_law_variables" ["_law_term_here"] (sp__law_variables_o) := by
  have sc := sc__law_variables_o
  exact okF F sc (fun _ _ _ _ _ _ us hl => match us, hl with | [_], _ => rfl) len__law_variables_o fun cdv A outer s H E G f hr hgd => ⟨_, a__law_variables_o ,
    dss_cons (ds_if (dt_val (de_callB call_isi sc_isi (by rfl) z_isinstance (by decide +kernel) (da_cons (dv 0) (da_cons (de_bty (by rfl) z_int (by decide +kernel)) (da_nil))))) (dss_one (ds_ret (de_lst true (da_cons (dv 0) (da_nil))))) (dss_nil)) (dss_cons (ds_set (i := 1) sc.nd rfl (.inl rfl) (de_lst true (da_nil))) (dss_cons (ds_for PassesOwn.never rfl (di_seq (de_slice sl_all sl_sim (dv 0) (do_some (de_int)) (do_none))) (dg_name (i := 2) sc.nd rfl (.inl rfl)) (dss_one (ds_for PassesOwn.never rfl (di_seq (de_fn g__law_variables hr hgd (da_cons (dv 2) (da_nil)))) (dg_name (i := 3) sc.nd rfl (.inl rfl)) (dss_one (ds_if (dt_cmp (op_notInA (hu151 hr)) sr_in (dv 3) (dv 1) (by rfl)) (dss_one (ds_expr (de_append (dv 1) (da_cons (dv 3) (da_nil))))) (dss_nil)))))) (dss_one (ds_ret (dv 1))))),
    fun ds W QD ED h => rd__law_variables_o h⟩
def sp__law_next : SpD := fun ds W Q _ => ∃ (gs : List Ru) (sts : List (Ru × D)) (t : Trm) (x : Stq) (e : D), ds = [.lst (gs.map ruD), .lst (sts.map stgD), t.d, x.dAt e] ∧ dkOf W e = some (dkS x.s) ∧ EqsOk gs ∧ EqsOk (sts.map (·.1)) ∧ t.depth ≤ 140 ∧ t.size ≤ 1000000 ∧ Q (optT (nxt gs (sts.map (·.1)) t x)) W
theorem len__law_next : ∀ ds W Q E, sp__law_next ds W Q E → ds.length = 4 := by
  rintro ds W Q E ⟨_, _, _, _, _, rfl, _⟩; rfl
theorem gc__law_next {gs : List Ru} {sts : List (Ru × D)} {t : Trm} {x : Stq} {e : D} {W : Wd} {Q : DQ} {E : DX} (h1 : dkOf W e = some (dkS x.s)) (h2 : EqsOk gs) (h3 : EqsOk (sts.map (·.1))) (h4 : t.depth ≤ 140) (h5 : t.size ≤ 1000000) (k : Q (optT (nxt gs (sts.map (·.1)) t x)) W) : sp__law_next [.lst (gs.map ruD), .lst (sts.map stgD), t.d, x.dAt e] W Q E := ⟨gs, sts, t, x, e, rfl, h1, h2, h3, h4, h5, k⟩

abbrev n__law_next : List Str := ["_law_given", "_law_stages", "_law_term_here", "_law_step_here", "_law_kind", "_law_index", "_law_many", "_law_left", "_law_right", "_law_names_here", "_law_variable"]
def b1__law_next  : AS := aIfS (aTest (aOp (dIn true) (aVar 10) (aVar 9))) (aDrop (aBM tyL dAppend (aVar 9) (aCons (aVar 10) (aNil)))) (aNext)
def b2__law_next  : AS := aIfS (aTest (aOp (dIn true) (aVar 10) (aOp dIx (aVar 3) (aC (.int 3))))) (aRet (aC .non)) (aNext)
def a__law_next  : AS := aSeq (aIfS (aNot (aTest (aCall (sp__law_is_step) [] ED0 (aCons (aVar 3) (aNil))))) (aRet (aC .non)) (aNext)) (aSeq (aAsg (aOp dIx (aVar 3) (aC (.int 0))) (agTup 2 (agCons (agName 4) (agCons (agName 5) (agNil))))) (aSeq (aAsg (aCB (dLen) (aCons (aVar 1) (aNil))) (agName 6)) (aSeq (aIfS (aTest (aOp (dEq) (aVar 4) (aC (.str "given")))) (aAsg (aCB (dLen) (aCons (aVar 0) (aNil))) (agName 6)) (aNext)) (aSeq (aIfS (aOr (aNot (aTest (aChain (dI0 fun i j => .bl (decide (i ≤ j))) (dLt) (aC (.int 0)) (aVar 5) (aVar 6)))) (aNot (aTest (aCall (sp__law_has_position) [] ED0 (aCons (aVar 2) (aCons (aOp dIx (aVar 3) (aC (.int 2))) (aNil))))))) (aRet (aC .non)) (aNext)) (aSeq (aAsg (aCall (sp__law_equation) [] ED0 (aCons (aVar 0) (aCons (aVar 1) (aCons (aOp dIx (aVar 3) (aC (.int 0))) (aNil))))) (agTup 2 (agCons (agName 7) (agCons (agName 8) (agNil))))) (aSeq (aAsg (aCall (sp__law_variables_o) [] ED0 (aCons (aVar 7) (aNil))) (agName 9)) (aSeq (aFor (aiSeq (aCall (sp__law_variables 140) [] ED0 (aCons (aVar 8) (aNil)))) (agName 10) (b1__law_next)) (aFrz 9 (aSeq (aIfS (aTest (aOp (dNe) (aCB (dLen) (aCons (aOp dIx (aVar 3) (aC (.int 3))) (aNil))) (aCB (dLen) (aCons (aVar 9) (aNil))))) (aRet (aC .non)) (aNext)) (aSeq (aFor (aiSeq (aVar 9)) (agName 10) (b2__law_next)) (aSeq (aIfS (aNot (aTest (aOp dIx (aVar 3) (aC (.int 1))))) (aPar 7 8 (aCons (aVar 8) (aCons (aVar 7) (aNil)))) (aNext)) (aSeq (aIfS (aNot (aTest (aCall (sp__law_same 140) [] ED0 (aCons (aCall (sp__law_subterm) [] ED0 (aCons (aVar 2) (aCons (aOp dIx (aVar 3) (aC (.int 2))) (aNil)))) (aCons (aCall (sp__law_substitute 140) [] ED0 (aCons (aVar 7) (aCons (aOp dIx (aVar 3) (aC (.int 3))) (aNil)))) (aNil)))))) (aRet (aC .non)) (aNext)) (aRet (aCall (sp__law_replace 140) [] ED0 (aCons (aVar 2) (aCons (aOp dIx (aVar 3) (aC (.int 2))) (aCons (aCall (sp__law_substitute 140) [] ED0 (aCons (aVar 8) (aCons (aOp dIx (aVar 3) (aC (.int 3))) (aNil)))) (aNil))))))))))))))))))
theorem rd__law_next {ds : List D} {W : Wd} {Q : DQ} {E : DX} (h : sp__law_next ds W Q E) : a__law_next (EN Q) (startD n__law_next ds) W := by
  obtain ⟨gs, sts, t, x, e, rfl, he, hg, hs, hd, hz, q⟩ := h
  obtain ⟨giv, i, fwd, p, s⟩ := x
  dsimp only at he
  have hgl := hg.1
  have hsl := hs.1
  rw [List.length_map] at hsl
  generalize hN : nxt gs (sts.map (·.1)) t ⟨giv, i, fwd, p, s⟩ = N at q
  unfold a__law_next
  walk_at "rd"
  unfold Stq.dAt Stq.src
  dsimp only
  refine gc__law_is_step he ?_
  walk_at "rd"
  have hM : ∃ (L : List Ru), eqAt gs (sts.map (·.1)) ⟨giv, i, fwd, p, s⟩ = (if i < 0 then none else L[i.toNat]?) ∧ L.length = if giv = true then gs.length else sts.length := by
    cases giv with
    | true => exact ⟨gs, by unfold eqAt; simp, rfl⟩
    | false => exact ⟨sts.map (·.1), by unfold eqAt; simp, by simp⟩
  obtain ⟨L, hE, hL⟩ := hM
  rw [show decide (kindS giv = ("given" : Str)) = giv from by cases giv <;> decide +kernel]
  cases giv
  focus
    rw [if_neg (by decide)] at hL
    walk_at "rd"
    rw [show (((sts.map stgD).length : Nat) : Int) = (L.length : Int) by rw [List.length_map, hL]]
  rotate_left
  focus
    rw [if_pos rfl] at hL
    walk_at "rd"
    rw [show (((gs.map ruD).length : Nat) : Int) = (L.length : Int) by rw [List.length_map, hL]]
  all_goals
    by_cases h0 : 0 ≤ i
    rotate_left
    · rw [show decide ((0 : Int) ≤ i) = false from decide_eq_false h0]
      have e0 : N = none := by rw [← hN]; unfold nxt; rw [hE, if_pos (by omega)]; rfl
      rw [e0] at q
      walk_at "rd"
      exact q
    rw [show decide ((0 : Int) ≤ i) = true from decide_eq_true h0]
    walk_at "rd"
    by_cases h1 : i < (L.length : Int)
    rotate_left
    · rw [show decide (i < (L.length : Int)) = false from decide_eq_false h1]
      have e0 : N = none := by rw [← hN]; unfold nxt; rw [hE, if_neg (by omega), List.getElem?_eq_none (by omega)]; rfl
      rw [e0] at q
      walk_at "rd"
      exact q
    rw [show decide (i < (L.length : Int)) = true from decide_eq_true h1]
    walk_at "rd"
    refine gc__law_has_position hz ?_
    obtain ⟨E, hEe⟩ : ∃ E : Ru, L[i.toNat]? = some E := ⟨_, List.getElem?_eq_getElem (by omega)⟩
    rw [if_neg (by omega), hEe] at hE
    have hN2 : nxtE t ⟨true, i, fwd, p, s⟩ E = N := by rw [← hN]; unfold nxt; rw [hE]; rfl
    unfold nxtE at hN2
    dsimp only at hN2
    have hEb : E.1.depth ≤ 140 ∧ E.1.size ≤ 100000 ∧ E.2.depth ≤ 140 ∧ E.2.size ≤ 100000 := (eqAt_mem hE).elim (hg.2 E) (hs.2 E)
    cases hp : t.isPos p with
    | false =>
      rw [if_neg (by rw [hp]; simp)] at hN2
      rw [← hN2] at q
      walk_at "rd"
      exact q
    | true =>
    walk_at "rd"
    refine gc__law_equation hE ?_
    obtain ⟨l, r⟩ := E
    dsimp only at hN2 hEb
    unfold ruD
    dsimp only
    have v1 := vars_len l
    have v2 := vars_len r
    walk_at "rd"
    refine gc__law_variables_o hEb.1 (by omega) fun a ha => ?_
    walk_at "rd"
    refine gc__law_variables hEb.2.2.1 (by omega) ?_
    walk_at "rd"
    refine forL_inv (items := r.vars.map .int) (fun ds δ W' => ∃ (us acc : List Int) (sk : Str) (y : Option D), W' = W.set a (.lst (acc.map .int)) ∧ ds = us.map .int ∧ nub acc us = nub l.vars r.vars ∧ acc.length + us.length ≤ 1000000 ∧ δ = [some (.lst (gs.map ruD)), some (.lst (sts.map stgD)), some t.d, some (.tup [.tup [.str sk, .int i], .bl fwd, posD p, e]), some (.str sk), some (.int i), some (.int (L.length : Int)), some l.d, some r.d, some (.ptr a), y]) ⟨r.vars, l.vars, _, none, rfl, rfl, rfl, by omega, rfl⟩ (fun _ _ _ _ => trivial) ?_ ?_
    · rintro d ds δ W' N' ⟨us, acc, sk, y, rfl, e1, hn, hl, rfl⟩ kk
      cases us with
      | nil => cases e1
      | cons v us =>
        rw [List.map_cons] at e1
        cases e1
        rw [List.length_cons] at hl
        rw [nub] at hn
        unfold b1__law_next
        walk_at "rd"
        refine go_ninIp (Wd.set_same ..) ?_
        walk_at "rd"
        by_cases hm : v ∈ acc
        · rw [if_pos hm] at hn
          rw [decide_eq_true hm]
          walk_at "rd"
          exact kk _ _ ⟨us, acc, sk, _, rfl, rfl, hn, by omega, rfl⟩
        · rw [if_neg hm] at hn
          rw [decide_eq_false hm]
          walk_at "rd"
          exact kk _ _ ⟨us, acc ++ [v], sk, _, by rw [List.map_append]; rfl, rfl, hn, by rw [List.length_append, List.length_singleton]; omega, rfl⟩
    · rintro δ W' ⟨us, acc, sk, y, rfl, e1, hn, hl, rfl⟩
      cases us with
      | cons _ _ => cases e1
      | nil =>
      rw [nub] at hn
      subst hn
      walk_at "rd"
      refine go_lenV (lenOf_dk he) ?_
      have hbd : bnd s l r = (decide (s.length = (nub l.vars r.vars).length) && (nub l.vars r.vars).all fun v => decide (v ∈ s.map (·.1))) := rfl
      walk_at "rd"
      rw [dkS_length, List.length_map]
      have hnl := nub_len r.vars l.vars
      by_cases hlen : s.length = (nub l.vars r.vars).length
      rotate_left
      · rw [show decide ((s.length : Int) = ((nub l.vars r.vars).length : Int)) = false from decide_eq_false (by omega)]
        rw [if_neg (by rw [hbd, decide_eq_false hlen]; simp)] at hN2
        rw [← hN2] at q
        walk_at "rd"
        exact q
      rw [show decide ((s.length : Int) = ((nub l.vars r.vars).length : Int)) = true from decide_eq_true (by omega)]
      walk_at "rd"
      refine forL_inv (items := (nub l.vars r.vars).map .int) (fun ds δ W' => ∃ (us vs : List Int) (y : Option D), W' = W ∧ ds = us.map .int ∧ vs ++ us = nub l.vars r.vars ∧ (∀ v ∈ vs, v ∈ s.map (·.1)) ∧ δ = [some (.lst (gs.map ruD)), some (.lst (sts.map stgD)), some t.d, some (.tup [.tup [.str sk, .int i], .bl fwd, posD p, e]), some (.str sk), some (.int i), some (.int (L.length : Int)), some l.d, some r.d, some (.lst ((nub l.vars r.vars).map .int)), y]) ⟨nub l.vars r.vars, [], _, rfl, rfl, rfl, by simp, rfl⟩ (fun _ _ _ _ => trivial) ?_ ?_
      · rintro d ds δ W' N' ⟨us, vs, y, rfl, e1, hv, hk, rfl⟩ kk
        cases us with
        | nil => cases e1
        | cons v us =>
          rw [List.map_cons] at e1
          cases e1
          unfold b2__law_next
          walk_at "rd"
          refine go_ninDv he rfl ?_
          rw [look_dkS, Option.isSome_map, get_isSome]
          walk_at "rd"
          by_cases hm : v ∈ s.map (·.1)
          · rw [decide_eq_true hm]
            walk_at "rd"
            exact kk _ _ ⟨us, vs ++ [v], _, rfl, rfl, by rw [← hv]; simp, fun w hw => by
              rcases List.mem_append.mp hw with h | h
              · exact hk w h
              · rw [List.mem_singleton.mp h]; exact hm, rfl⟩
          · rw [decide_eq_false hm]
            have hb0 : ¬ bnd s l r = true := fun h => by
              rw [hbd, Bool.and_eq_true, List.all_eq_true] at h
              exact hm (of_decide_eq_true (h.2 v (by rw [← hv]; simp)))
            rw [if_neg (fun h => hb0 h.2.1)] at hN2
            rw [← hN2] at q
            walk_at "rd"
            exact q
      · rintro δ W' ⟨us, vs, y, rfl, e1, hv, hk, rfl⟩
        cases us with
        | cons _ _ => cases e1
        | nil =>
        rw [List.append_nil] at hv
        subst hv
        have hb1 : bnd s l r = true := by
          rw [hbd, Bool.and_eq_true, List.all_eq_true]
          exact ⟨decide_eq_true hlen, fun v hv => decide_eq_true (hk v hv)⟩
        have hlk := look_fn s
        have az := at_size hp
        cases fwd
        all_goals
          walk_at "rd"
          refine gc__law_subterm hp ?_
          walk_at "rd"
          refine gc__law_substitute he hlk (by omega) (by omega) ?_
          walk_at "rd"
          refine gc__law_same (by omega) (by omega) ?_
          unfold Stq.old Stq.new at hN2
          simp only [↓reduceIte, Bool.false_eq_true] at hN2
          split at hN2
          · rename_i hc
            rw [decide_eq_true hc.2.2]
            rw [← hN2] at q
            walk_at "rd"
            refine gc__law_substitute he hlk (by omega) (by omega) ?_
            walk_at "rd"
            refine gc__law_replace (pos_of hp) (by have := (pos_of hp).short; omega) (by omega) ?_
            exact q
          · rename_i hc
            rw [decide_eq_false fun h => hc ⟨hp, hb1, h⟩]
            rw [← hN2] at q
            walk_at "rd"
            exact q

theorem sc__law_next : FnScope ["_law_given", "_law_stages", "_law_term_here", "_law_step_here", "_law_kind", "_law_index", "_law_many", "_law_left", "_law_right", "_law_names_here", "_law_variable"] ["_law_given", "_law_stages", "_law_term_here", "_law_step_here"] (defScope s__law_next) := ⟨rfl, rfl, rfl, by decide +kernel, rfl, by decide +kernel, by decide +kernel⟩
theorem ok__law_next {P : Program} {w : World} {K : PySem.W.Frag} {mg : Str → Option Value} {base : Heap} {k : Nat}  (F : Df K mg "_law_next" "_law_next" s__law_next) (g__law_is_step : Fk P w K mg base CX0 k "_law_is_step" ["_law_step_here"] (sp__law_is_step)) (z_len : mg "len" = none) (g__law_has_position : Fk P w K mg base CX0 k "_law_has_position" ["_law_term_here", "_law_position"] (sp__law_has_position)) (g__law_equation : Fk P w K mg base CX0 k "_law_equation" ["_law_given", "_law_stages", "_law_source"] (sp__law_equation)) (g__law_variables__at_o : Fk P w K mg base CX0 k "_law_variables" ["_law_term_here"] (sp__law_variables_o)) (g__law_variables : Fk P w K mg base CX0 k "_law_variables" ["_law_term_here"] (sp__law_variables 140)) (g__law_same : Fk P w K mg base CX0 k "_law_same" ["_law_first", "_law_second"] (sp__law_same 140)) (g__law_substitute : Fk P w K mg base CX0 k "_law_substitute" ["_law_term_here", "_law_substitution"] (sp__law_substitute 140)) (g__law_subterm : Fk P w K mg base CX0 k "_law_subterm" ["_law_term_here", "_law_position"] (sp__law_subterm)) (g__law_replace : Fk P w K mg base CX0 k "_law_replace" ["_law_term_here", "_law_position", "_law_new"] (sp__law_replace 140)) : Fk P w K mg base CX0 (k + 1) "_law_next" ["_law_given", "_law_stages", "_law_term_here", "_law_step_here"] (sp__law_next) := by
  have sc := sc__law_next
  exact okF F sc (fun _ _ _ _ _ _ us hl => match us, hl with | [_, _, _, _], _ => rfl) len__law_next fun cdv A outer s H E G f hr hgd => ⟨_, a__law_next ,
    dss_cons (ds_if (dt_not (dt_val (de_fn g__law_is_step hr hgd (da_cons (dv 3) (da_nil))))) (dss_one (ds_ret (de_non))) (dss_nil)) (dss_cons (ds_asg (de_ix (ix_all (hu_of hr)) sr_ix (dv 3) (de_int)) (dg_tup rfl (dgs_cons (dg_name (i := 4) sc.nd rfl (.inl rfl)) (dgs_cons (dg_name (i := 5) sc.nd rfl (.inl rfl)) (dgs_nil))))) (dss_cons (ds_set (i := 6) sc.nd rfl (.inl rfl) (de_callB call_lenA sc_len (by rfl) z_len (by decide +kernel) (da_cons (dv 1) (da_nil)))) (dss_cons (ds_if (dt_cmp (op_eqP (hu151 hr)) sr_eq (dv 4) (de_str) (nomark _)) (dss_one (ds_set (i := 6) sc.nd rfl (.inl rfl) (de_callB call_lenA sc_len (by rfl) z_len (by decide +kernel) (da_cons (dv 0) (da_nil))))) (dss_nil)) (dss_cons (ds_if (DW.dt (dw_or (dt_not (dt_chain (op_le) (op_ltA (hu151 hr)) sr_b0 sr_lt (de_int) (dv 5) (dv 6))) (dw_or1 (dt_not (dt_val (de_fn g__law_has_position hr hgd (da_cons (dv 2) (da_cons (de_ix (ix_all (hu_of hr)) sr_ix (dv 3) (de_int)) (da_nil))))))))) (dss_one (ds_ret (de_non))) (dss_nil)) (dss_cons (ds_asg (de_fn g__law_equation hr hgd (da_cons (dv 0) (da_cons (dv 1) (da_cons (de_ix (ix_all (hu_of hr)) sr_ix (dv 3) (de_int)) (da_nil))))) (dg_tup rfl (dgs_cons (dg_name (i := 7) sc.nd rfl (.inl rfl)) (dgs_cons (dg_name (i := 8) sc.nd rfl (.inl rfl)) (dgs_nil))))) (dss_cons (ds_set (i := 9) sc.nd rfl (.inl rfl) (de_fn g__law_variables__at_o hr hgd (da_cons (dv 7) (da_nil)))) (dss_cons (ds_for PassesOwn.never rfl (di_seq (de_fn g__law_variables hr hgd (da_cons (dv 8) (da_nil)))) (dg_name (i := 10) sc.nd rfl (.inl rfl)) (dss_one (ds_if (dt_cmp (op_notInA (hu151 hr)) sr_in (dv 10) (dv 9) (by rfl)) (dss_one (ds_expr (de_append (dv 9) (da_cons (dv 10) (da_nil))))) (dss_nil)))) (dss_frz 9 (dss_cons (ds_if (dt_cmp (op_neP (hu151 hr)) sr_ne (de_callB call_lenA sc_len (by rfl) z_len (by decide +kernel) (da_cons (de_ix (ix_all (hu_of hr)) sr_ix (dv 3) (de_int)) (da_nil))) (de_callB call_lenA sc_len (by rfl) z_len (by decide +kernel) (da_cons (dv 9) (da_nil))) (nomark _)) (dss_one (ds_ret (de_non))) (dss_nil)) (dss_cons (ds_for PassesOwn.never rfl (di_seq (dv 9)) (dg_name (i := 10) sc.nd rfl (.inl rfl)) (dss_one (ds_if (dt_cmp (op_notInA (hu151 hr)) sr_in (dv 10) (de_ix (ix_all (hu_of hr)) sr_ix (dv 3) (de_int)) (by rfl)) (dss_one (ds_ret (de_non))) (dss_nil)))) (dss_cons (ds_if (dt_not (dt_val (de_ix (ix_all (hu_of hr)) sr_ix (dv 3) (de_int)))) (dss_one (ds_par (i := 7) (j := 8) rfl sc.nd rfl rfl (by decide) rfl rfl (da_cons (dv 8) (da_cons (dv 7) (da_nil))) (by rfl))) (dss_nil)) (dss_cons (ds_if (dt_not (dt_val (de_fn g__law_same hr hgd (da_cons (de_fn g__law_subterm hr hgd (da_cons (dv 2) (da_cons (de_ix (ix_all (hu_of hr)) sr_ix (dv 3) (de_int)) (da_nil)))) (da_cons (de_fn g__law_substitute hr hgd (da_cons (dv 7) (da_cons (de_ix (ix_all (hu_of hr)) sr_ix (dv 3) (de_int)) (da_nil)))) (da_nil)))))) (dss_one (ds_ret (de_non))) (dss_nil)) (dss_one (ds_ret (de_fn g__law_replace hr hgd (da_cons (dv 2) (da_cons (de_ix (ix_all (hu_of hr)) sr_ix (dv 3) (de_int)) (da_cons (de_fn g__law_substitute hr hgd (da_cons (dv 8) (da_cons (de_ix (ix_all (hu_of hr)) sr_ix (dv 3) (de_int)) (da_nil)))) (da_nil))))))))))))))))))),
    fun ds W QD ED h => rd__law_next h⟩
def sp__law_follow : SpD := fun ds W Q _ => ∃ (gs : List Ru) (sts : List (Ru × D)) (t : Trm) (xs : List (Stq × D)), ds = [.lst (gs.map ruD), .lst (sts.map stgD), t.d, .lst (xs.map fun z => z.1.dAt z.2)] ∧ (∀ z ∈ xs, dkOf W z.2 = some (dkS z.1.s)) ∧ EqsOk gs ∧ EqsOk (sts.map (·.1)) ∧ FolOk gs (sts.map (·.1)) t (xs.map (·.1)) ∧ Q (optT (follow gs (sts.map (·.1)) t (xs.map (·.1)))) W
theorem len__law_follow : ∀ ds W Q E, sp__law_follow ds W Q E → ds.length = 4 := by
  rintro ds W Q E ⟨_, _, _, _, rfl, _⟩; rfl
theorem gc__law_follow {gs : List Ru} {sts : List (Ru × D)} {t : Trm} {xs : List (Stq × D)} {W : Wd} {Q : DQ} {E : DX} (h1 : ∀ z ∈ xs, dkOf W z.2 = some (dkS z.1.s)) (h2 : EqsOk gs) (h3 : EqsOk (sts.map (·.1))) (h4 : FolOk gs (sts.map (·.1)) t (xs.map (·.1))) (k : Q (optT (follow gs (sts.map (·.1)) t (xs.map (·.1)))) W) : sp__law_follow [.lst (gs.map ruD), .lst (sts.map stgD), t.d, .lst (xs.map fun z => z.1.dAt z.2)] W Q E := ⟨gs, sts, t, xs, rfl, h1, h2, h3, h4, k⟩

abbrev n__law_follow : List Str := ["_law_given", "_law_stages", "_law_term_here", "_law_steps", "_law_step_here"]
def b1__law_follow  : AS := aSeq (aAsg (aCall (sp__law_next) [] ED0 (aCons (aVar 0) (aCons (aVar 1) (aCons (aVar 2) (aCons (aVar 4) (aNil)))))) (agName 2)) (aIfS (aTest (aOp (dIs false) (aVar 2) (aC .non))) (aRet (aC .non)) (aNext))
def a__law_follow  : AS := aSeq (aIfS (aNot (aTest (aCB (dIsi) (aCons (aVar 3) (aCons (aC (.ty "list")) (aNil)))))) (aRet (aC .non)) (aNext)) (aSeq (aFor (aiSeq (aVar 3)) (agName 4) (b1__law_follow)) (aRet (aVar 2)))
theorem rd__law_follow {ds : List D} {W : Wd} {Q : DQ} {E : DX} (h : sp__law_follow ds W Q E) : a__law_follow (EN Q) (startD n__law_follow ds) W := by
  obtain ⟨gs, sts, t, xs, rfl, he, hg, hs, hf, q⟩ := h
  unfold a__law_follow
  walk_at "rd"
  refine forL_inv (fun ds δ W' => ∃ (u : Trm) (ys : List (Stq × D)) (y : Option D), W' = W ∧ ds = ys.map (fun z => z.1.dAt z.2) ∧ (∀ z ∈ ys, dkOf W z.2 = some (dkS z.1.s)) ∧ FolOk gs (sts.map (·.1)) u (ys.map (·.1)) ∧ follow gs (sts.map (·.1)) u (ys.map (·.1)) = follow gs (sts.map (·.1)) t (xs.map (·.1)) ∧ δ = [some (.lst (gs.map ruD)), some (.lst (sts.map stgD)), some u.d, some (.lst (xs.map fun z => z.1.dAt z.2)), y]) ⟨t, xs, none, rfl, rfl, he, hf, rfl, rfl⟩ (fun _ _ _ _ => trivial) ?_ ?_
  · rintro d ds δ W' N ⟨u, ys, y, rfl, e, hy, hf', hq, rfl⟩ kk
    cases ys with
    | nil => cases e
    | cons z ys =>
      rw [List.map_cons] at e
      cases e
      rw [List.map_cons, FolOk] at hf'
      rw [List.map_cons, follow] at hq
      unfold b1__law_follow
      walk_at "rd"
      refine gc__law_next (hy z List.mem_cons_self) hg hs hf'.1.1 hf'.1.2 ?_
      cases hn : nxt gs (sts.map (·.1)) u z.1 with
      | none =>
        rw [hn] at hq
        rw [show optT none = .non from rfl]
        walk_at "rd"
        rw [← hq] at q
        exact q
      | some w =>
        rw [hn] at hq
        rw [show optT (some w) = w.d from rfl]
        walk_at "rd"
        refine go_iteC0 (by cases w <;> simp [isNon]) ?_
        walk_at "rd"
        exact kk _ _ ⟨w, ys, _, rfl, rfl, fun v hv => hy v (List.mem_cons_of_mem _ hv), hf'.2 w hn, hq, rfl⟩
  · rintro δ W' ⟨u, ys, y, rfl, e, hy, hf', hq, rfl⟩
    cases ys with
    | cons _ _ => cases e
    | nil =>
      walk_at "rd"
      rw [← hq] at q
      exact q

theorem sc__law_follow : FnScope ["_law_given", "_law_stages", "_law_term_here", "_law_steps", "_law_step_here"] ["_law_given", "_law_stages", "_law_term_here", "_law_steps"] (defScope s__law_follow) := ⟨rfl, rfl, rfl, by decide +kernel, rfl, by decide +kernel, by decide +kernel⟩
theorem ok__law_follow {P : Program} {w : World} {K : PySem.W.Frag} {mg : Str → Option Value} {base : Heap} {k : Nat}  (F : Df K mg "_law_follow" "_law_follow" s__law_follow) (z_isinstance : mg "isinstance" = none) (z_list : mg "list" = none) (g__law_next : Fk P w K mg base CX0 k "_law_next" ["_law_given", "_law_stages", "_law_term_here", "_law_step_here"] (sp__law_next)) : Fk P w K mg base CX0 (k + 1) "_law_follow" ["_law_given", "_law_stages", "_law_term_here", "_law_steps"] (sp__law_follow) := by
  have sc := sc__law_follow
  exact okF F sc (fun _ _ _ _ _ _ us hl => match us, hl with | [_, _, _, _], _ => rfl) len__law_follow fun cdv A outer s H E G f hr hgd => ⟨_, a__law_follow ,
    dss_cons (ds_if (dt_not (dt_val (de_callB call_isi sc_isi (by rfl) z_isinstance (by decide +kernel) (da_cons (dv 3) (da_cons (de_bty (by rfl) z_list (by decide +kernel)) (da_nil)))))) (dss_one (ds_ret (de_non))) (dss_nil)) (dss_cons (ds_for PassesOwn.never rfl (di_seq (dv 3)) (dg_name (i := 4) sc.nd rfl (.inl rfl)) (dss_cons (ds_set (i := 2) sc.nd rfl (.inl rfl) (de_fn g__law_next hr hgd (da_cons (dv 0) (da_cons (dv 1) (da_cons (dv 2) (da_cons (dv 4) (da_nil))))))) (dss_one (ds_if (dt_cmp (op_isA) sr_is (dv 2) (de_non) (nomark _)) (dss_one (ds_ret (de_non))) (dss_nil))))) (dss_one (ds_ret (dv 2)))),
    fun ds W QD ED h => rd__law_follow h⟩
theorem len_law : ∀ ds W Q E, spLawD ds W Q E → ds.length = 1 := by
  rintro ds W Q E ⟨t, rfl, _⟩; rfl
theorem own_map {xs : List (Stq × Addr)} : xs.map (fun y => y.1.dAt (.ptr y.2)) = (xs.map fun y => (y.1, D.ptr y.2)).map fun z => z.1.dAt z.2 := by
  rw [List.map_map]; rfl
theorem frz_map {xs : List Stq} : xs.map Stq.d = (xs.map fun x => (x, D.dk (dkS x.s))).map fun z => z.1.dAt z.2 := by
  rw [List.map_map]; rfl

abbrev n_law : List Str := ["_law_script", "_law_state_here", "_law_operations_here", "_law_term_here", "_law_given", "_law_steps", "_law_terms", "_law_last", "_law_kept", "_law_around", "_law_places", "_law_position", "_law_shifted", "_law_end", "_law_table", "_law_variable", "_law_changed", "_law_step_here"]
def b1_law  : AS := aIfS (aTest (aOp (dI0 fun i j => .bl (decide (j < i))) (aCall (sp__law_draw) [] ED0 (aCons (aVar 1) (aCons (aC (.int 3)) (aNil)))) (aC (.int 0)))) (aAsg (aCall (sp__law_term 4) [] ED0 (aCons (aVar 1) (aCons (aVar 2) (aCons (aC (.int 10)) (aCons (aC (.int 1)) (aNil)))))) (agSub (aVar 14) (aVar 15) dSet)) (aNext)
def b2_law  : AS := aAsg (aTup (aCons (aOp dIx (aOp dIx (aVar 2) (aC (.int 0))) (aC (.int 0))) (aNil))) (agSub (aOp dIx (aVar 17) (aC (.int 3))) (aC (.int 17)) dSet)
def a_law  : AS := aSeq (aAsg (aCall (sp__law_state) [] ED0 (aCons (aVar 0) (aNil))) (agName 1)) (aSeq (aAsg (aCall (sp__law_operations) [] ED0 (aCons (aVar 1) (aNil))) (agName 2)) (aSeq (aAsg (aCall (sp__law_term 4) [] ED0 (aCons (aVar 1) (aCons (aVar 2) (aCons (aCall (sp__law_draw) [] ED0 (aCons (aVar 1) (aCons (aC (.int 9)) (aNil)))) (aCons (aC (.int 3)) (aNil)))))) (agName 3)) (aSeq (aAsg (aCall (sp__law_chain) [] ED0 (aCons (aVar 1) (aCons (aVar 2) (aCons (aC (.int 9)) (aCons (aVar 3) (aCons (aC (.int 0)) (aCons (aCall (sp__law_draw) [] ED0 (aCons (aVar 1) (aCons (aC (.int 6)) (aNil)))) (aNil)))))))) (agTup 3 (agCons (agName 4) (agCons (agName 5) (agCons (agName 6) (agNil)))))) (aSeq (aAsg (aOp dIx (aVar 6) (aOp (dI0 fun i j => .int (i - j)) (aCB (dLen) (aCons (aVar 6) (aNil))) (aC (.int 1)))) (agName 7)) (aSeq (aAsg (aCB (dReprX) (aCons (aVar 5) (aNil))) (agName 8)) (aSeq (aAsg (aCall (sp__law_term 4) [] ED0 (aCons (aVar 1) (aCons (aVar 2) (aCons (aC (.int 9)) (aCons (aC (.int 3)) (aNil)))))) (agName 9)) (aSeq (aAsg (aCall (sp__law_positions 140) [] ED0 (aCons (aVar 9) (aNil))) (agName 10)) (aSeq (aAsg (aOp dIx (aVar 10) (aCall (sp__law_draw) [] ED0 (aCons (aVar 1) (aCons (aCB (dLen) (aCons (aVar 10) (aNil))) (aNil))))) (agName 11)) (aSeq (aAsg (aCall (sp_moved) [] ED0 (aCons (aVar 5) (aCons (aVar 11) (aNil)))) (agName 12)) (aSeq (aAsg (aCall (sp__law_follow) [] ED0 (aCons (aVar 4) (aCons (aLst false (aNil)) (aCons (aCall (sp__law_replace 140) [] ED0 (aCons (aVar 9) (aCons (aVar 11) (aCons (aVar 3) (aNil))))) (aCons (aVar 12) (aNil)))))) (agName 13)) (aSeq (aIfS (aOr (aTest (aOp (dIs false) (aVar 13) (aC .non))) (aNot (aTest (aCall (sp__law_same 140) [] ED0 (aCons (aVar 13) (aCons (aCall (sp__law_replace 140) [] ED0 (aCons (aVar 9) (aCons (aVar 11) (aCons (aVar 7) (aNil))))) (aNil))))))) (aRet (aC (.bl false))) (aNext)) (aSeq (aAsg (aDk0) (agName 14)) (aSeq (aFor (aiRng1 (aCons (aC (.int 10)) (aNil))) (agName 15) (b1_law)) (aFrz 14 (aSeq (aAsg (aCall (sp_instantiated) [] ED0 (aCons (aVar 5) (aCons (aVar 14) (aNil)))) (agName 16)) (aSeq (aAsg (aCall (sp__law_follow) [] ED0 (aCons (aVar 4) (aCons (aLst false (aNil)) (aCons (aCall (sp__law_substitute 140) [] ED0 (aCons (aVar 3) (aCons (aVar 14) (aNil)))) (aCons (aVar 16) (aNil)))))) (agName 13)) (aSeq (aIfS (aOr (aTest (aOp (dIs false) (aVar 13) (aC .non))) (aNot (aTest (aCall (sp__law_same 140) [] ED0 (aCons (aVar 13) (aCons (aCall (sp__law_substitute 140) [] ED0 (aCons (aVar 7) (aCons (aVar 14) (aNil)))) (aNil))))))) (aRet (aC (.bl false))) (aNext)) (aSeq (aIfS (aOr (aTest (aOp (dNe) (aCB (dLen) (aCons (aVar 12) (aNil))) (aCB (dLen) (aCons (aVar 5) (aNil))))) (aTest (aOp (dNe) (aCB (dLen) (aCons (aVar 16) (aNil))) (aCB (dLen) (aCons (aVar 5) (aNil)))))) (aRet (aC (.bl false))) (aNext)) (aSeq (aFor (aiSeq (aOp (dAdd false) (aVar 12) (aVar 16))) (agName 17) (b2_law)) (aRet (aOp (dEq) (aCB (dReprX) (aCons (aVar 5) (aNil))) (aVar 8))))))))))))))))))))))
theorem rd_law {ds : List D} {W : Wd} {Q : DQ} {E : DX} (h : spLawD ds W Q E) : a_law (EN Q) (startD n_law ds) W := by
  obtain ⟨ns, rfl, hn, hW, q⟩ := h
  unfold a_law
  walk_at "rd"
  refine gc_state fun st o hw ho => ?_
  walk_at "rd"
  refine gc_operations (Wd.set_same ..) ho fun ops o1 hO ho1 => ?_
  rw [Wd.set_set]
  walk_at "rd"
  rename_i n2 o2 hn0 hn1 ho2
  refine gc_term (Wd.set_same ..) ho2 hO (by omega) (by omega) (by omega) fun t o3 ht htd htz ho3 => ?_
  rw [Wd.set_set]
  have ht : Wf ops 9 t := ht.more (by omega)
  have htd : t.depth ≤ 4 := htd
  have htz : t.size ≤ 40 := htz
  walk_at "rd"
  rename_i n3 o4 hm0 hm1 ho4
  refine gc__law_chain (Wd.set_same ..) ho4 hO ht (by omega) (by omega) (by omega) hm0 (by omega) fun gs xs ts u o5 hC hxl ho5 => ?_
  rw [Wd.set_set]
  obtain ⟨wu, du, zu, lu⟩ := hC.ok ht
  obtain ⟨l1, l2⟩ := hC.len
  have hsm := hC.sm hO ht (by simp; omega) (by omega)
  have hrp := rp_stqs hsm
  have hw1 : xs.length * (10 * (12 * (t.size + 16 * xs.length) + 13) + 2501) ≤ 6 * (10 * (12 * 136 + 13) + 2501) := Nat.mul_le_mul (by omega) (by omega)
  walk_at "rd"
  refine go_ixL (d := u.d) ?_ ?_
  · rw [List.length_map, List.length_cons, atI_of (by omega), List.getElem?_map, show (((ts.length + 1 : Nat) : Int) - 1).toNat = ts.length by omega]
    rw [List.getLast?_eq_getElem?, List.length_cons] at lu
    rw [show ts.length + 1 - 1 = ts.length by omega] at lu
    rw [lu]; rfl
  walk_at "rd"
  refine go_reprE hrp (by omega) (by omega) ?_
  walk_at "rd"
  refine gc_term (Wd.set_same ..) ho5 hO (by omega) (by omega) (by omega) fun c o6 hc hcd hcz ho6 => ?_
  rw [Wd.set_set]
  have hcd : c.depth ≤ 4 := hcd
  have hcz : c.size ≤ 40 := hcz
  have hcl := pos_length c
  have hc0 := pos_pos c
  have h6 : (c.pos.map posD).length = c.pos.length := List.length_map ..
  walk_at "rd"
  refine gc__law_positions (by omega) (by omega) ?_
  walk_at "rd"
  rename_i n o7 hj0 hj1 ho7
  rw [h6] at hj1
  obtain ⟨pq, hat, hpm⟩ := posAt hj0 hj1
  have hpq : c.isPos pq = true := (pos_ok c pq hpm).isPos
  have apq := at_size hpq
  have hcd1 := (c.at pq).depth_pos
  refine go_ixL hat ?_
  walk_at "rd"
  rw [frz_map]
  refine gc_moved (by rw [List.length_map]; omega) (by omega) (fun z hz => by
    obtain ⟨x, hx, rfl⟩ := List.mem_map.mp hz
    exact ⟨by have := (hsm x hx).2.pl; dsimp only; omega, rfl⟩) fun ys W2 hys hg hnd hy => ?_
  have efs : ((xs.map fun x => (x, D.dk (dkS x.s))).map (·.1)) = xs := by rw [List.map_map]; simp [Function.comp_def]
  rw [efs] at hys
  rw [← frz_map]
  have hyl : ys.length = xs.length := by have := congrArg List.length hys; simpa using this
  walk_at "rd"
  refine gc__law_replace (pos_of hpq) (by omega) (by omega) ?_
  walk_at "rd"
  have hfol := hC.fol [] [] [] rfl
  have hvis := hC.vis ht [] [] [] rfl
  rw [List.nil_append, List.append_nil] at hfol hvis
  have hgs := hC.eqs ht 140 100000 (by omega) (by omega)
  have hgo : EqsOk gs := ⟨by omega, fun e he => by
    obtain ⟨⟨_, a, b⟩, _, c, d⟩ := hgs e he
    exact ⟨a, b, c, d⟩⟩
  have eys : ((ys.map fun y => (y.1, D.ptr y.2)).map (·.1)) = xs.map (Stq.mv pq) := by rw [List.map_map, ← hys]; rfl
  have hmv := follow_mv (gs := gs) (ss := []) hpq hfol
  have hmvo : FolOk gs [] (c.put pq t) (xs.map (Stq.mv pq)) := (hvis.mv (P' := fun v => v.depth ≤ 140 ∧ v.size ≤ 1000000) hpq fun v hv => by
    obtain ⟨_, a, b⟩ := hv
    have h1 := put_sizeE (u := v) (pos_of hpq)
    have h2 := put_depthM (u := v) (pos_of hpq)
    exact ⟨by omega, by omega⟩).folok fun _ h => h
  rw [own_map]
  refine gc__law_follow (sts := []) (fun z hz => ?_) hgo ⟨by simp, by simp⟩ (by rw [eys]; exact hmvo) ?_
  · obtain ⟨y, hyy, rfl⟩ := List.mem_map.mp hz
    exact dkOf_ptr (hy y hyy).2
  rw [← own_map, eys, show follow gs ([].map fun x : Ru × D => x.1) (c.put pq t) (xs.map (Stq.mv pq)) = some (c.put pq u) from hmv, show optT (some (c.put pq u)) = (c.put pq u).d from rfl]
  have hpu1 := put_sizeE (u := u) (pos_of hpq)
  have hpu2 := put_depthM (u := u) (pos_of hpq)
  walk_at "rd"
  refine go_iteC0 (by cases c.put pq u <;> simp [isNon]) ?_
  walk_at "rd"
  refine gc__law_replace (pos_of hpq) (by omega) (by omega) ?_
  walk_at "rd"
  refine gc__law_same (by omega) (by omega) ?_
  rw [decide_eq_true rfl]
  walk_at "rd"
  intro T hT
  have hst2 : W2 st = some o7 := hg _ _ (Wd.set_same ..)
  have nT : T ≠ st := fun e => by rw [e, hst2] at hT; cases hT
  walk_at "rd"
  refine forL_inv (fun ds δ W' => ∃ (j : Nat) (s : Sb) (o : MO) (x : Option D), W' = (W2.set st o).set T (.dk (dkS s)) ∧ StO o ∧ ds = (rangeD 0 10).drop j ∧ j ≤ 10 ∧ (∀ vt ∈ s, vt.1 < j ∧ Wf ops 10 vt.2 ∧ vt.2.depth ≤ 2 ∧ vt.2.size ≤ 4) ∧ s.length ≤ j ∧ δ = [some (.flst (ns.map .int)), some (.ptr st), some (.lst (ops.map opD)), some t.d, some (.lst (gs.map ruD)), some (.lst (xs.map Stq.d)), some (.lst ((t :: ts).map Trm.d)), some u.d, some (.str (D.lst (xs.map Stq.d)).sh), some c.d, some (.lst (c.pos.map posD)), some (posD pq), some (.lst (ys.map fun y => y.1.dAt (.ptr y.2))), some (c.put pq u).d, some (.ptr T), x, none, none]) ?_ (fun _ _ _ _ => trivial) ?_ ?_
  · exact ⟨0, [], o7, none, by rw [Wd.set_self hst2]; rfl, ho7, rfl, Nat.zero_le _, by simp, by simp, rfl⟩
  · rintro d ds δ W' N ⟨j, s, o, x, rfl, ho, e, hj, hs, hsl, rfl⟩ kk
    have hlt : j < 10 := by
      have := congrArg List.length e
      rw [List.length_drop, rangeD_length, List.length_cons] at this
      omega
    rw [rng_cut hlt] at e
    cases e
    have hcs : ∀ o, ((W2.set st o).set T (.dk (dkS s))) st = some o := fun o => by rw [Wd.set_ne (Ne.symm nT), Wd.set_same]
    have hcs0 := hcs o
    unfold b1_law
    walk_at "rd"
    rename_i n8 o8 hk0 hk1 ho8
    rw [Wd.set_swap (Ne.symm nT)]
    walk_at "rs"
    · refine gc_term (hcs o8) ho8 hO (by omega) (by omega) (by omega) fun y o9 wy dy zy ho9 => ?_
      rw [Wd.set_swap (Ne.symm nT)]
      have dy : y.depth ≤ 2 := dy
      have zy : y.size ≤ 4 := zy
      walk_at "rd"
      have hg0 : s.get (j : Int) = none := by
        cases hh : s.get (j : Int) with
        | none => rfl
        | some z => have := (hs _ (get_mem hh)).1; dsimp only at this; omega
      refine go_setDk (Wd.set_same ..) rfl (by rw [dkS_length, sizeLine_val]; omega) ?_
      rw [Wd.set_set, put_dkS hg0]
      refine kk _ _ ⟨j + 1, s ++ [((j : Int), y)], o9, _, rfl, ho9, rfl, by omega, fun vt hv => ?_, by rw [List.length_append, List.length_singleton]; omega, rfl⟩
      rcases List.mem_append.mp hv with h | h
      · obtain ⟨a, b⟩ := hs vt h
        exact ⟨by omega, b⟩
      · rw [List.mem_singleton.mp h]
        exact ⟨by dsimp only; omega, wy, dy, zy⟩
    · refine kk _ _ ⟨j + 1, s, o8, _, rfl, ho8, rfl, by omega, fun vt hv => ?_, by omega, rfl⟩
      obtain ⟨a, b⟩ := hs vt hv
      exact ⟨by omega, b⟩
  · rintro δ W' ⟨j, s, o, x, rfl, ho, e, hj, hs, hsl, rfl⟩
    have hT' : (W2.set st o) T = none := by rw [Wd.set_ne nT]; exact hT
    refine go_frz (d := .dk (dkS s)) rfl (Wd.set_same ..) rfl (Wd.del_set hT') rfl ?_
    walk_at "rd"
    have hfn : ∀ v, (s.fn v).depth ≤ 2 ∧ (s.fn v).size ≤ 4 := fun v => by
      unfold Sb.fn
      cases hh : s.get v with
      | none => show (Trm.var v).depth ≤ 2 ∧ (Trm.var v).size ≤ 4; rw [Trm.depth, Trm.size]; exact ⟨by decide, by decide⟩
      | some y => exact (hs _ (get_mem hh)).2.2
    have hsub : ∀ v : Trm, (v.sub s.fn).depth ≤ v.depth + 2 ∧ (v.sub s.fn).size ≤ v.size * 4 := fun v => ⟨sub_depth0 (fun v => (hfn v).1) v, sub_size0 (by decide) (fun v => (hfn v).2) v⟩
    refine gc_instantiated (by omega) (fun x hx => ⟨by have := (hsm x hx).1; omega, hC.nds x hx, fun vt hv => by
      obtain ⟨_, _, a, b⟩ := (hsm x hx).2.s vt hv
      exact ⟨by omega, by omega⟩⟩) fun zs W3 hzs hg3 hnd3 hz => ?_
    have hzl : zs.length = xs.length := by have := congrArg List.length hzs; simpa using this
    walk_at "rd"
    have hsu := hsub t
    have hsv := hsub u
    refine gc__law_substitute (dd := .dk (dkS s)) rfl (look_fn s) (by omega) (by omega) ?_
    walk_at "rd"
    have hin := follow_inst (gs := gs) (ss := []) (g := s.fn) hC.nds hfol
    have hino : FolOk gs [] (t.sub s.fn) (xs.map (Stq.inst s.fn)) := (hvis.inst (P' := fun v => v.depth ≤ 140 ∧ v.size ≤ 1000000) (g := s.fn) (fun v hv => by
      obtain ⟨_, a, b⟩ := hv
      have := hsub v
      exact ⟨by omega, by omega⟩) hC.nds).folok fun _ h => h
    have ezs : ((zs.map fun y => (y.1, D.ptr y.2)).map (·.1)) = xs.map (Stq.inst s.fn) := by rw [List.map_map, ← hzs]; rfl
    rw [own_map (xs := zs)]
    refine gc__law_follow (sts := []) (fun z hz2 => ?_) hgo ⟨by simp, by simp⟩ (by rw [ezs]; exact hino) ?_
    · obtain ⟨y, hyy, rfl⟩ := List.mem_map.mp hz2
      exact dkOf_ptr (hz y hyy).2
    rw [← own_map, ezs, show follow gs ([].map fun x : Ru × D => x.1) (t.sub s.fn) (xs.map (Stq.inst s.fn)) = some (u.sub s.fn) from hin, show optT (some (u.sub s.fn)) = (u.sub s.fn).d from rfl]
    walk_at "rd"
    refine go_iteC0 (by cases u.sub s.fn <;> simp [isNon]) ?_
    walk_at "rd"
    refine gc__law_substitute (dd := .dk (dkS s)) rfl (look_fn s) (by omega) (by omega) ?_
    walk_at "rd"
    refine gc__law_same (by omega) (by omega) ?_
    rw [decide_eq_true rfl]
    walk_at "rd"
    rw [List.length_map, List.length_map, hyl, decide_eq_true rfl]
    walk_at "rd"
    rw [List.length_map, List.length_map, hzl, decide_eq_true rfl]
    walk_at "rd"
    refine go_addL (ds := ys.map fun y => y.1.dAt (.ptr y.2)) (es := zs.map fun y => y.1.dAt (.ptr y.2)) rfl rfl (by rw [List.length_map, List.length_map, sizeLine_val]; omega) ?_
    rw [← List.map_append]
    walk_at "rd"
    have hys3 : ∀ y ∈ ys, W3 y.2 = some (.dk (dkS y.1.s)) := fun y hyy => by
      obtain ⟨a, b⟩ := hy y hyy
      refine hg3 _ _ ?_
      rw [Wd.set_ne fun e => by rw [e, Wd.set_same] at a; cases a]
      exact b
    have hall : ∀ y ∈ ys ++ zs, W3 y.2 = some (.dk (dkS y.1.s)) ∧ y.1.s.length ≤ 40 := fun y hyy => by
      rcases List.mem_append.mp hyy with h | h
      · refine ⟨hys3 y h, ?_⟩
        have hm : y.1 ∈ ys.map (·.1) := List.mem_map_of_mem h
        rw [hys] at hm
        obtain ⟨z, hz', e⟩ := List.mem_map.mp hm
        have := (hsm z hz').1
        rw [← e]
        show z.s.length ≤ 40
        omega
      · refine ⟨(hz y h).2, ?_⟩
        have hm : y.1 ∈ zs.map (·.1) := List.mem_map_of_mem h
        rw [hzs] at hm
        obtain ⟨z, hz', e⟩ := List.mem_map.mp hm
        have := (hsm z hz').1
        rw [← e]
        show (instS s.fn z.s).length ≤ 40
        unfold instS
        rw [List.length_map]
        omega
    have hnd4 : ((ys ++ zs).map (·.2)).Nodup := by
      rw [List.map_append]
      refine List.nodup_append.mpr ⟨hnd, hnd3, fun a ha b hb e => ?_⟩
      obtain ⟨y, hyy, rfl⟩ := List.mem_map.mp ha
      obtain ⟨z, hzz, rfl⟩ := List.mem_map.mp hb
      have h1 := (hz z hzz).1
      obtain ⟨h2, h3⟩ := hy y hyy
      rw [← e, Wd.set_ne fun e => by rw [e, Wd.set_same] at h2; cases h2] at h1
      rw [h3] at h1; cases h1
    refine forL_inv (fun ds δ W' => ∃ (us : List (Stq × Addr)) (x1 x2 : Option D), ds = us.map (fun y => y.1.dAt (.ptr y.2)) ∧ (∀ y ∈ us, W' y.2 = some (.dk (dkS y.1.s)) ∧ y.1.s.length ≤ 40) ∧ (us.map (·.2)).Nodup ∧ δ = [some (.flst (ns.map .int)), some (.ptr st), some (.lst (ops.map opD)), some t.d, some (.lst (gs.map ruD)), some (.lst (xs.map Stq.d)), some (.lst ((t :: ts).map Trm.d)), some u.d, some (.str (D.lst (xs.map Stq.d)).sh), some c.d, some (.lst (c.pos.map posD)), some (posD pq), some (.lst (ys.map fun y => y.1.dAt (.ptr y.2))), some (u.sub s.fn).d, some (.dk (dkS s)), x1, some (.lst (zs.map fun y => y.1.dAt (.ptr y.2))), x2]) ⟨ys ++ zs, _, none, rfl, hall, hnd4, rfl⟩ (fun _ _ _ _ => trivial) ?_ ?_
    · rintro d ds δ W' N ⟨us, x1, x2, e, hu, hnd2, rfl⟩ kk
      cases us with
      | nil => cases e
      | cons y us =>
        rw [List.map_cons] at e
        cases e
        obtain ⟨hy1, hy2⟩ := hu y List.mem_cons_self
        obtain ⟨hn1, hn2⟩ := List.nodup_cons.mp hnd2
        obtain ⟨⟨c0, hc0⟩, l0, e0⟩ : ∃ c : Str × Nat, ∃ h : 0 < ops.length, ops[0]'h = c := ⟨_, by have := hO.len; omega, rfl⟩
        have ec0 : atI (ops.map opD) 0 = some (opD (c0, hc0)) := by rw [show (0 : Int) = ((0 : Nat) : Int) from rfl, ops_at (by omega) (by omega)]; simp [e0]
        unfold b2_law Stq.dAt
        walk_at "rd"
        refine go_ixL ec0 ?_
        unfold opD
        walk_at "rd"
        refine go_setDk hy1 rfl (by rw [dkS_length, sizeLine_val]; omega) ?_
        refine kk _ _ ⟨us, _, _, rfl, fun z hz => ⟨?_, (hu z (List.mem_cons_of_mem _ hz)).2⟩, hn2, rfl⟩
        rw [Wd.set_ne fun h => hn1 (by show y.2 ∈ _; rw [← h]; exact List.mem_map_of_mem (f := (·.2)) hz)]
        exact (hu z (List.mem_cons_of_mem _ hz)).1
    · rintro δ W' ⟨us, x1, x2, e, hu, hnd2, rfl⟩
      walk_at "rd"
      refine go_reprE hrp (by omega) (by omega) ?_
      walk_at "rd"
      rw [decide_eq_true rfl]
      exact q _

theorem sc_law : FnScope ["_law_script", "_law_state_here", "_law_operations_here", "_law_term_here", "_law_given", "_law_steps", "_law_terms", "_law_last", "_law_kept", "_law_around", "_law_places", "_law_position", "_law_shifted", "_law_end", "_law_table", "_law_variable", "_law_changed", "_law_step_here"] ["_law_script"] (defScope s_law) := ⟨rfl, rfl, rfl, by decide +kernel, rfl, by decide +kernel, by decide +kernel⟩
theorem ok_law {P : Program} {w : World} {K : PySem.W.Frag} {mg : Str → Option Value} {base : Heap} {k : Nat}  {f : Addr} {fd : FuncData} (F : FunD K "law" "law" (defArgs s_law) (defBody s_law) (defScope s_law) [] [] f fd) (g__law_state : Fk P w K mg base CX0 k "_law_state" ["_law_script"] (sp__law_state)) (g__law_operations : Fk P w K mg base CX0 k "_law_operations" ["_law_state_here"] (sp__law_operations)) (g__law_term : Fk P w K mg base CX0 k "_law_term" ["_law_state_here", "_law_operations_here", "_law_count", "_law_height"] (sp__law_term 4)) (g__law_draw : Fk P w K mg base CX0 k "_law_draw" ["_law_state_here", "_law_many"] (sp__law_draw)) (g__law_chain : Fk P w K mg base CX0 k "_law_chain" ["_law_state_here", "_law_operations_here", "_law_count", "_law_term_here", "_law_first", "_law_many"] (sp__law_chain)) (z_len : mg "len" = none) (z_repr : mg "repr" = none) (hmod : ModK K) (g__law_positions : Fk P w K mg base CX0 k "_law_positions" ["_law_term_here"] (sp__law_positions 140)) (g_moved : Fk P w K mg base CX0 k "moved" ["steps", "position"] (sp_moved)) (g__law_follow : Fk P w K mg base CX0 k "_law_follow" ["_law_given", "_law_stages", "_law_term_here", "_law_steps"] (sp__law_follow)) (g__law_replace : Fk P w K mg base CX0 k "_law_replace" ["_law_term_here", "_law_position", "_law_new"] (sp__law_replace 140)) (g__law_same : Fk P w K mg base CX0 k "_law_same" ["_law_first", "_law_second"] (sp__law_same 140)) (z_range : mg "range" = none) (g_instantiated : Fk P w K mg base CX0 k "instantiated" ["steps", "substitution"] (sp_instantiated)) (g__law_substitute : Fk P w K mg base CX0 k "_law_substitute" ["_law_term_here", "_law_substitution"] (sp__law_substitute 140)) : FnG P w K mg base CX0 (k + 1) f fd ["_law_script"] (liftSp K (spLawD)) := by
  have sc := sc_law
  exact okL F sc len_law fun cdv A outer s H E G f hr hgd => ⟨_, a_law ,
    dss_cons (ds_set (i := 1) sc.nd rfl (.inl rfl) (de_fn g__law_state hr hgd (da_cons (dv 0) (da_nil)))) (dss_cons (ds_set (i := 2) sc.nd rfl (.inl rfl) (de_fn g__law_operations hr hgd (da_cons (dv 1) (da_nil)))) (dss_cons (ds_set (i := 3) sc.nd rfl (.inl rfl) (de_fn g__law_term hr hgd (da_cons (dv 1) (da_cons (dv 2) (da_cons (de_fn g__law_draw hr hgd (da_cons (dv 1) (da_cons (de_int) (da_nil)))) (da_cons (de_int) (da_nil))))))) (dss_cons (ds_asg (de_fn g__law_chain hr hgd (da_cons (dv 1) (da_cons (dv 2) (da_cons (de_int) (da_cons (dv 3) (da_cons (de_int) (da_cons (de_fn g__law_draw hr hgd (da_cons (dv 1) (da_cons (de_int) (da_nil)))) (da_nil)))))))) (dg_tup rfl (dgs_cons (dg_name (i := 4) sc.nd rfl (.inl rfl)) (dgs_cons (dg_name (i := 5) sc.nd rfl (.inl rfl)) (dgs_cons (dg_name (i := 6) sc.nd rfl (.inl rfl)) (dgs_nil)))))) (dss_cons (ds_set (i := 7) sc.nd rfl (.inl rfl) (de_ix (ix_all (hu_of hr)) sr_ix (dv 6) (de_op op_sub sr_i0 (de_callB call_lenA sc_len (by rfl) z_len (by decide +kernel) (da_cons (dv 6) (da_nil))) (de_int)))) (dss_cons (ds_set (i := 8) sc.nd rfl (.inl rfl) (de_callB (call_reprX hgd (hu152 hr)) (sc_reprX hmod) (by rfl) z_repr (by decide +kernel) (da_cons (dv 5) (da_nil)))) (dss_cons (ds_set (i := 9) sc.nd rfl (.inl rfl) (de_fn g__law_term hr hgd (da_cons (dv 1) (da_cons (dv 2) (da_cons (de_int) (da_cons (de_int) (da_nil))))))) (dss_cons (ds_set (i := 10) sc.nd rfl (.inl rfl) (de_fn g__law_positions hr hgd (da_cons (dv 9) (da_nil)))) (dss_cons (ds_set (i := 11) sc.nd rfl (.inl rfl) (de_ix (ix_all (hu_of hr)) sr_ix (dv 10) (de_fn g__law_draw hr hgd (da_cons (dv 1) (da_cons (de_callB call_lenA sc_len (by rfl) z_len (by decide +kernel) (da_cons (dv 10) (da_nil))) (da_nil)))))) (dss_cons (ds_set (i := 12) sc.nd rfl (.inl rfl) (de_fn g_moved hr hgd (da_cons (dv 5) (da_cons (dv 11) (da_nil))))) (dss_cons (ds_set (i := 13) sc.nd rfl (.inl rfl) (de_fn g__law_follow hr hgd (da_cons (dv 4) (da_cons (de_lst false (da_nil)) (da_cons (de_fn g__law_replace hr hgd (da_cons (dv 9) (da_cons (dv 11) (da_cons (dv 3) (da_nil))))) (da_cons (dv 12) (da_nil))))))) (dss_cons (ds_if (DW.dt (dw_or (dt_cmp (op_isA) sr_is (dv 13) (de_non) (nomark _)) (dw_or1 (dt_not (dt_val (de_fn g__law_same hr hgd (da_cons (dv 13) (da_cons (de_fn g__law_replace hr hgd (da_cons (dv 9) (da_cons (dv 11) (da_cons (dv 7) (da_nil))))) (da_nil))))))))) (dss_one (ds_ret (de_bl))) (dss_nil)) (dss_cons (ds_set (i := 14) sc.nd rfl (.inl rfl) (de_dk0)) (dss_cons (ds_for PassesOwn.never rfl (di_range1 (by rfl) z_range (da_cons (de_int) (da_nil))) (dg_name (i := 15) sc.nd rfl (.inl rfl)) (dss_one (ds_if (dt_cmp (op_gt) sr_b0 (de_fn g__law_draw hr hgd (da_cons (dv 1) (da_cons (de_int) (da_nil)))) (de_int) (nomark _)) (dss_one (ds_asg (de_fn g__law_term hr hgd (da_cons (dv 1) (da_cons (dv 2) (da_cons (de_int) (da_cons (de_int) (da_nil)))))) (dg_sub (dv 14) (dv 15) (set_all (hu_of hr)) set_sim))) (dss_nil)))) (dss_frz 14 (dss_cons (ds_set (i := 16) sc.nd rfl (.inl rfl) (de_fn g_instantiated hr hgd (da_cons (dv 5) (da_cons (dv 14) (da_nil))))) (dss_cons (ds_set (i := 13) sc.nd rfl (.inl rfl) (de_fn g__law_follow hr hgd (da_cons (dv 4) (da_cons (de_lst false (da_nil)) (da_cons (de_fn g__law_substitute hr hgd (da_cons (dv 3) (da_cons (dv 14) (da_nil)))) (da_cons (dv 16) (da_nil))))))) (dss_cons (ds_if (DW.dt (dw_or (dt_cmp (op_isA) sr_is (dv 13) (de_non) (nomark _)) (dw_or1 (dt_not (dt_val (de_fn g__law_same hr hgd (da_cons (dv 13) (da_cons (de_fn g__law_substitute hr hgd (da_cons (dv 7) (da_cons (dv 14) (da_nil)))) (da_nil))))))))) (dss_one (ds_ret (de_bl))) (dss_nil)) (dss_cons (ds_if (DW.dt (dw_or (dt_cmp (op_neP (hu151 hr)) sr_ne (de_callB call_lenA sc_len (by rfl) z_len (by decide +kernel) (da_cons (dv 12) (da_nil))) (de_callB call_lenA sc_len (by rfl) z_len (by decide +kernel) (da_cons (dv 5) (da_nil))) (nomark _)) (dw_or1 (dt_cmp (op_neP (hu151 hr)) sr_ne (de_callB call_lenA sc_len (by rfl) z_len (by decide +kernel) (da_cons (dv 16) (da_nil))) (de_callB call_lenA sc_len (by rfl) z_len (by decide +kernel) (da_cons (dv 5) (da_nil))) (nomark _))))) (dss_one (ds_ret (de_bl))) (dss_nil)) (dss_cons (ds_for PassesOwn.never rfl (di_seq (de_op (op_addA) sr_add (dv 12) (dv 16))) (dg_name (i := 17) sc.nd rfl (.inl rfl)) (dss_one (ds_asg (de_tup (da_cons (de_ix (ix_all (hu_of hr)) sr_ix (de_ix (ix_all (hu_of hr)) sr_ix (dv 2) (de_int)) (de_int)) (da_nil))) (dg_sub (de_ix (ix_all (hu_of hr)) sr_ix (dv 17) (de_int)) (de_int) (set_all (hu_of hr)) set_sim)))) (dss_one (ds_ret (de_cmp (op_eqP (hu151 hr)) sr_eq (de_callB (call_reprX hgd (hu152 hr)) (sc_reprX hmod) (by rfl) z_repr (by decide +kernel) (da_cons (dv 5) (da_nil))) (dv 8) (nomark _))))))))))))))))))))))),
    fun ds W QD ED h => rd_law h⟩
theorem facts {P : Program} {w : World} {K : PySem.W.Frag} {h : Heap} {mg : Str → Option Value} {f : Addr} (hPf : P.main.file = PRG.main.file) (hPs : (P.main.scope.names.lookup ("super" : Str)).isSome = false) (X : K.In h) (G : h.Ns mainGlobals mg) (hfa : mg ("law" : Str) = some (.ref f)) (cy : SaysY faL fnL xsL ssL K) :
    ∃ fd : FuncData, (∀ (s : Shared) (v : Value), BindsTo s fd ⟨[v], []⟩ [("_law_script", v)]) ∧ ∀ base : Heap, K.In base → base.Ns mainGlobals mg → FnG P w K mg base CX0 144 f fd ["_law_script"] (liftSp K spLawD) := by
  have c := cy.to
  have z_isinstance : mg "isinstance" = none := He.free_ok X G (c.d.fact 32 (f := .free "isinstance") rfl)
  have z_int : mg "int" = none := He.free_ok X G (c.d.fact 31 (f := .free "int") rfl)
  have z_tuple : mg "tuple" = none := He.free_ok X G (c.d.fact 38 (f := .free "tuple") rfl)
  have z_dict : mg "dict" = none := He.free_ok X G (c.d.fact 30 (f := .free "dict") rfl)
  have z_len : mg "len" = none := He.free_ok X G (c.d.fact 33 (f := .free "len") rfl)
  have z_list : mg "list" = none := He.free_ok X G (c.d.fact 34 (f := .free "list") rfl)
  have z_range : mg "range" = none := He.free_ok X G (c.d.fact 35 (f := .free "range") rfl)
  have z_bool : mg "bool" = none := He.free_ok X G (c.d.fact 29 (f := .free "bool") rfl)
  have z_str : mg "str" = none := He.free_ok X G (c.d.fact 37 (f := .free "str") rfl)
  have z_repr : mg "repr" = none := He.free_ok X G (c.d.fact 36 (f := .free "repr") rfl)
  have hmod : ModK K := lkMod_ok (c.x 0 (x := lkMod) rfl)
  have F_is_variable : Df K mg "is_variable" "is_variable" s_is_variable := by obtain ⟨fd, F⟩ := c.d.def_ 0 (d := d_is_variable) rfl; exact ⟨_, fd, F, He.glo_ok X G (c.d.fact 0 (f := .glo "is_variable") rfl)⟩
  have F_substitute : Df K mg "substitute" "substitute" s_substitute := by obtain ⟨fd, F⟩ := c.d.def_ 1 (d := d_substitute) rfl; exact ⟨_, fd, F, He.glo_ok X G (c.d.fact 1 (f := .glo "substitute") rfl)⟩
  have F_moved : Df K mg "moved" "moved" s_moved := by obtain ⟨fd, F⟩ := c.d.def_ 2 (d := d_moved) rfl; exact ⟨_, fd, F, He.glo_ok X G (c.d.fact 2 (f := .glo "moved") rfl)⟩
  have F_compose : Df K mg "compose" "compose" s_compose := by obtain ⟨fd, F⟩ := c.d.def_ 3 (d := d_compose) rfl; exact ⟨_, fd, F, He.glo_ok X G (c.d.fact 3 (f := .glo "compose") rfl)⟩
  have F_instantiated : Df K mg "instantiated" "instantiated" s_instantiated := by obtain ⟨fd, F⟩ := c.d.def_ 4 (d := d_instantiated) rfl; exact ⟨_, fd, F, He.glo_ok X G (c.d.fact 4 (f := .glo "instantiated") rfl)⟩
  have F__law_mix : Df K mg "_law_mix" "_law_mix" s__law_mix := by obtain ⟨fd, F⟩ := c.d.def_ 5 (d := d__law_mix) rfl; exact ⟨_, fd, F, He.glo_ok X G (c.d.fact 5 (f := .glo "_law_mix") rfl)⟩
  have F__law_number : Df K mg "_law_number" "_law_number" s__law_number := by obtain ⟨fd, F⟩ := c.d.def_ 6 (d := d__law_number) rfl; exact ⟨_, fd, F, He.glo_ok X G (c.d.fact 6 (f := .glo "_law_number") rfl)⟩
  have F__law_state : Df K mg "_law_state" "_law_state" s__law_state := by obtain ⟨fd, F⟩ := c.d.def_ 7 (d := d__law_state) rfl; exact ⟨_, fd, F, He.glo_ok X G (c.d.fact 7 (f := .glo "_law_state") rfl)⟩
  have F__law_draw : Df K mg "_law_draw" "_law_draw" s__law_draw := by obtain ⟨fd, F⟩ := c.d.def_ 8 (d := d__law_draw) rfl; exact ⟨_, fd, F, He.glo_ok X G (c.d.fact 8 (f := .glo "_law_draw") rfl)⟩
  have F__law_word : Df K mg "_law_word" "_law_word" s__law_word := by obtain ⟨fd, F⟩ := c.d.def_ 9 (d := d__law_word) rfl; exact ⟨_, fd, F, He.glo_ok X G (c.d.fact 9 (f := .glo "_law_word") rfl)⟩
  have F__law_names : Df K mg "_law_names" "_law_names" s__law_names := by obtain ⟨fd, F⟩ := c.d.def_ 10 (d := d__law_names) rfl; exact ⟨_, fd, F, He.glo_ok X G (c.d.fact 10 (f := .glo "_law_names") rfl)⟩
  have F__law_operations : Df K mg "_law_operations" "_law_operations" s__law_operations := by obtain ⟨fd, F⟩ := c.d.def_ 11 (d := d__law_operations) rfl; exact ⟨_, fd, F, He.glo_ok X G (c.d.fact 11 (f := .glo "_law_operations") rfl)⟩
  have F__law_leaf : Df K mg "_law_leaf" "_law_leaf" s__law_leaf := by obtain ⟨fd, F⟩ := c.d.def_ 12 (d := d__law_leaf) rfl; exact ⟨_, fd, F, He.glo_ok X G (c.d.fact 12 (f := .glo "_law_leaf") rfl)⟩
  have F__law_term : Df K mg "_law_term" "_law_term" s__law_term := by obtain ⟨fd, F⟩ := c.d.def_ 13 (d := d__law_term) rfl; exact ⟨_, fd, F, He.glo_ok X G (c.d.fact 13 (f := .glo "_law_term") rfl)⟩
  have F__law_subterm : Df K mg "_law_subterm" "_law_subterm" s__law_subterm := by obtain ⟨fd, F⟩ := c.d.def_ 14 (d := d__law_subterm) rfl; exact ⟨_, fd, F, He.glo_ok X G (c.d.fact 14 (f := .glo "_law_subterm") rfl)⟩
  have F__law_replace : Df K mg "_law_replace" "_law_replace" s__law_replace := by obtain ⟨fd, F⟩ := c.d.def_ 15 (d := d__law_replace) rfl; exact ⟨_, fd, F, He.glo_ok X G (c.d.fact 15 (f := .glo "_law_replace") rfl)⟩
  have F__law_positions : Df K mg "_law_positions" "_law_positions" s__law_positions := by obtain ⟨fd, F⟩ := c.d.def_ 16 (d := d__law_positions) rfl; exact ⟨_, fd, F, He.glo_ok X G (c.d.fact 16 (f := .glo "_law_positions") rfl)⟩
  have F__law_substitute : Df K mg "_law_substitute" "_law_substitute" s__law_substitute := by obtain ⟨fd, F⟩ := c.d.def_ 17 (d := d__law_substitute) rfl; exact ⟨_, fd, F, He.glo_ok X G (c.d.fact 17 (f := .glo "_law_substitute") rfl)⟩
  have F__law_variables : Df K mg "_law_variables" "_law_variables" s__law_variables := by obtain ⟨fd, F⟩ := c.d.def_ 18 (d := d__law_variables) rfl; exact ⟨_, fd, F, He.glo_ok X G (c.d.fact 18 (f := .glo "_law_variables") rfl)⟩
  have F__law_same : Df K mg "_law_same" "_law_same" s__law_same := by obtain ⟨fd, F⟩ := c.d.def_ 19 (d := d__law_same) rfl; exact ⟨_, fd, F, He.glo_ok X G (c.d.fact 19 (f := .glo "_law_same") rfl)⟩
  have F__law_pattern : Df K mg "_law_pattern" "_law_pattern" s__law_pattern := by obtain ⟨fd, F⟩ := c.d.def_ 20 (d := d__law_pattern) rfl; exact ⟨_, fd, F, He.glo_ok X G (c.d.fact 20 (f := .glo "_law_pattern") rfl)⟩
  have F__law_step : Df K mg "_law_step" "_law_step" s__law_step := by obtain ⟨fd, F⟩ := c.d.def_ 21 (d := d__law_step) rfl; exact ⟨_, fd, F, He.glo_ok X G (c.d.fact 21 (f := .glo "_law_step") rfl)⟩
  have F__law_chain : Df K mg "_law_chain" "_law_chain" s__law_chain := by obtain ⟨fd, F⟩ := c.d.def_ 22 (d := d__law_chain) rfl; exact ⟨_, fd, F, He.glo_ok X G (c.d.fact 22 (f := .glo "_law_chain") rfl)⟩
  have F__law_equation : Df K mg "_law_equation" "_law_equation" s__law_equation := by obtain ⟨fd, F⟩ := c.d.def_ 23 (d := d__law_equation) rfl; exact ⟨_, fd, F, He.glo_ok X G (c.d.fact 23 (f := .glo "_law_equation") rfl)⟩
  have F__law_has_position : Df K mg "_law_has_position" "_law_has_position" s__law_has_position := by obtain ⟨fd, F⟩ := c.d.def_ 24 (d := d__law_has_position) rfl; exact ⟨_, fd, F, He.glo_ok X G (c.d.fact 24 (f := .glo "_law_has_position") rfl)⟩
  have F__law_is_step : Df K mg "_law_is_step" "_law_is_step" s__law_is_step := by obtain ⟨fd, F⟩ := c.d.def_ 25 (d := d__law_is_step) rfl; exact ⟨_, fd, F, He.glo_ok X G (c.d.fact 25 (f := .glo "_law_is_step") rfl)⟩
  have F__law_variables_o : Df K mg "_law_variables" "_law_variables" s__law_variables := by obtain ⟨fd, F⟩ := c.d.def_ 18 (d := d__law_variables) rfl; exact ⟨_, fd, F, He.glo_ok X G (c.d.fact 18 (f := .glo "_law_variables") rfl)⟩
  have F__law_next : Df K mg "_law_next" "_law_next" s__law_next := by obtain ⟨fd, F⟩ := c.d.def_ 26 (d := d__law_next) rfl; exact ⟨_, fd, F, He.glo_ok X G (c.d.fact 26 (f := .glo "_law_next") rfl)⟩
  have F__law_follow : Df K mg "_law_follow" "_law_follow" s__law_follow := by obtain ⟨fd, F⟩ := c.d.def_ 27 (d := d__law_follow) rfl; exact ⟨_, fd, F, He.glo_ok X G (c.d.fact 27 (f := .glo "_law_follow") rfl)⟩
  obtain ⟨fd, F⟩ := c.d.def_ 28 (d := d_law) rfl
  have e := hfa.symm.trans (He.glo_ok X G (c.d.fact 28 (f := .glo "law") rfl))
  cases e
  have b := FunD.bindsA (ps := ["_law_script"]) F fun _ _ _ _ _ _ us hl => match us, hl with | [_], _ => rfl
  refine ⟨fd, fun s v => b s [v] rfl, fun base _ _ => ?_⟩
  have G_is_variable := ok_is_variable (P := P) (w := w) (mg := mg) (base := base) (k := 0) F_is_variable z_isinstance z_int
  have G_substitute := all_substitute (P := P) (w := w) (mg := mg) (base := base) (k := 1) F_substitute (G_is_variable.mono (by decide)) z_tuple
  have G_moved := ok_moved (P := P) (w := w) (mg := mg) (base := base) (k := 0) F_moved z_dict
  have G_compose := ok_compose (P := P) (w := w) (mg := mg) (base := base) (k := 141) F_compose ((G_substitute 140).mono (by decide))
  have G_instantiated := ok_instantiated (P := P) (w := w) (mg := mg) (base := base) (k := 142) F_instantiated (G_compose.mono (by decide))
  have G__law_mix := ok__law_mix (P := P) (w := w) (mg := mg) (base := base) (k := 0) F__law_mix z_int
  have G__law_number := ok__law_number (P := P) (w := w) (mg := mg) (base := base) (k := 1) F__law_number (G__law_mix.mono (by decide))
  have G__law_state := ok__law_state (P := P) (w := w) (mg := mg) (base := base) (k := 0) F__law_state z_len z_list
  have G__law_draw := ok__law_draw (P := P) (w := w) (mg := mg) (base := base) (k := 2) F__law_draw z_len (G__law_number.mono (by decide)) z_int
  have G__law_word := ok__law_word (P := P) (w := w) (mg := mg) (base := base) (k := 3) F__law_word z_range (G__law_draw.mono (by decide))
  have G__law_names := ok__law_names (P := P) (w := w) (mg := mg) (base := base) (k := 4) F__law_names (G__law_word.mono (by decide)) (G__law_draw.mono (by decide)) z_range z_int
  have G__law_operations := ok__law_operations (P := P) (w := w) (mg := mg) (base := base) (k := 5) F__law_operations (G__law_names.mono (by decide)) (G__law_draw.mono (by decide)) z_range
  have G__law_leaf := ok__law_leaf (P := P) (w := w) (mg := mg) (base := base) (k := 3) F__law_leaf (G__law_draw.mono (by decide))
  have G__law_term := all__law_term (P := P) (w := w) (mg := mg) (base := base) (k := 4) F__law_term (G__law_draw.mono (by decide)) (G__law_leaf.mono (by decide)) z_len z_range
  have G__law_subterm := ok__law_subterm (P := P) (w := w) (mg := mg) (base := base) (k := 0) F__law_subterm 
  have G__law_replace := all__law_replace (P := P) (w := w) (mg := mg) (base := base) (k := 0) F__law_replace z_len
  have G__law_positions := all__law_positions (P := P) (w := w) (mg := mg) (base := base) (k := 0) F__law_positions z_isinstance z_int z_len z_range
  have G__law_substitute := all__law_substitute (P := P) (w := w) (mg := mg) (base := base) (k := 0) F__law_substitute z_isinstance z_int
  have G__law_variables := all__law_variables (P := P) (w := w) (mg := mg) (base := base) (k := 0) F__law_variables z_isinstance z_int
  have G__law_same := all__law_same (P := P) (w := w) (mg := mg) (base := base) (k := 0) F__law_same z_isinstance z_bool z_int z_tuple z_len z_str z_range
  have G__law_pattern := ok__law_pattern (P := P) (w := w) (mg := mg) (base := base) (k := 140) F__law_pattern (G__law_draw.mono (by decide)) z_len ((G__law_replace 140).mono (by decide)) (G__law_subterm.mono (by decide)) ((G__law_variables 140).mono (by decide))
  have G__law_step := ok__law_step (P := P) (w := w) (mg := mg) (base := base) (k := 141) F__law_step ((G__law_positions 140).mono (by decide)) (G__law_draw.mono (by decide)) z_len (G__law_subterm.mono (by decide)) (G__law_pattern.mono (by decide)) ((G__law_term 3).mono (by decide)) ((G__law_replace 140).mono (by decide)) ((G__law_variables 140).mono (by decide)) ((G__law_substitute 140).mono (by decide))
  have G__law_chain := ok__law_chain (P := P) (w := w) (mg := mg) (base := base) (k := 142) F__law_chain z_range (G__law_step.mono (by decide))
  have G__law_equation := ok__law_equation (P := P) (w := w) (mg := mg) (base := base) (k := 0) F__law_equation 
  have G__law_has_position := ok__law_has_position (P := P) (w := w) (mg := mg) (base := base) (k := 0) F__law_has_position z_isinstance z_int z_len
  have G__law_is_step := ok__law_is_step (P := P) (w := w) (mg := mg) (base := base) (k := 0) F__law_is_step z_isinstance z_tuple z_len z_int z_bool z_dict
  have G__law_variables_o := ok__law_variables_o (P := P) (w := w) (mg := mg) (base := base) (k := 140) F__law_variables_o z_isinstance z_int ((G__law_variables 140).mono (by decide))
  have G__law_next := ok__law_next (P := P) (w := w) (mg := mg) (base := base) (k := 141) F__law_next (G__law_is_step.mono (by decide)) z_len (G__law_has_position.mono (by decide)) (G__law_equation.mono (by decide)) (G__law_variables_o.mono (by decide)) ((G__law_variables 140).mono (by decide)) ((G__law_same 140).mono (by decide)) ((G__law_substitute 140).mono (by decide)) (G__law_subterm.mono (by decide)) ((G__law_replace 140).mono (by decide))
  have G__law_follow := ok__law_follow (P := P) (w := w) (mg := mg) (base := base) (k := 142) F__law_follow z_isinstance z_list (G__law_next.mono (by decide))
  exact ok_law (P := P) (w := w) (mg := mg) (base := base) (k := 143) F (G__law_state.mono (by decide)) (G__law_operations.mono (by decide)) ((G__law_term 4).mono (by decide)) (G__law_draw.mono (by decide)) (G__law_chain.mono (by decide)) z_len z_repr hmod ((G__law_positions 140).mono (by decide)) (G_moved.mono (by decide)) (G__law_follow.mono (by decide)) ((G__law_replace 140).mono (by decide)) ((G__law_same 140).mono (by decide)) z_range (G_instantiated.mono (by decide)) ((G__law_substitute 140).mono (by decide))
end DL
open PySem PySem.W PySem.Calls PyProof.Rows
theorem PySem.Challenge.cw_joinedends_k16_moved_and_instantiated_holds : PySem.Challenge.rw_joinedends_k16_moved_and_instantiated.Holds := by
  w_on; o_law
  refine HandSHeadRun.head_any (r := OpenLaw.row PySem.Challenge.rw_joinedends_k16_moved_and_instantiated) (q := view (OpenLaw.row PySem.Challenge.rw_joinedends_k16_moved_and_instantiated).prog [31]) (H := DL.hk) (ob := DL.ob) (M := 8000) (loose := DL.looseL) (d := HandSHeadRun.topDef (OpenLaw.row PySem.Challenge.rw_joinedends_k16_moved_and_instantiated).prog 31) (kwd := []) DL.ob_eq
    (by kernel_rfl) (fun s => by kernel_rfl) DL.run (by kernel_rfl) (by kernel_rfl) (by kernel_rfl) (by rfl) (by first | assumption | decide +kernel) (by decide +kernel) ⟨rfl, rfl, rfl, rfl, rfl, by decide +kernel⟩ ?hw ?hc
  case hw => w_witness2
  case hc =>
    refine DL.walk_G (l := PySem.Challenge.rw_joinedends_k16_moved_and_instantiated) (n := 63) (k := 144) (x := "_law_script") (CX := L2.CX0) rfl (by decide) (by kernel_rfl) ⟨rfl, by decide, by decide⟩ ?F (fun _ _ _ _ z => z)
    intro w mg fa h Y G hmg0
    obtain ⟨K, KX, c⟩ := Y
    have hmg : mg ("law" : PySem.Str) = some (.ref fa) := by
      have e : (HandSHeadRun.topDef (OpenLaw.row PySem.Challenge.rw_joinedends_k16_moved_and_instantiated).prog 31).name = ("law" : PySem.Str) := by kernel_rfl
      rw [← e]
      exact hmg0
    obtain ⟨fd, hb, hF⟩ := DL.facts (P := (PySem.Challenge.rw_joinedends_k16_moved_and_instantiated).prog) (w := w) (by kernel_rfl) (by kernel_rfl) KX G hmg c
    exact ⟨K, fd, DL.liftSp K DL.spLawD, KX, hb, fun H a ns hl hO hS => DL.law_end hl hO hS, hF⟩

