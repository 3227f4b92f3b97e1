import PyProof.Rows.All
import Wide.All
import OpenK.AllK
import Wide.FinOn
import HandS.ForMost
import HandS.ForExc
import HandS.More
import HandS.Star
import HandS.ClsMeth
import HandS.Property
import HandS.Defaults
import HandS.IsInst
import HandS.Wide
import HandS.WideBits
import HandS.Conv
import HandS.Lambda
import KE.KStateDown
import Lean
import HandS.WordsExc
import HandS.Head0
import HandS.Head1
import HandS.Head2
import HandS.HeadEnd
import HandS.HeadHook1
import HandS.HeadHook2
import KE.KExcInit
import KE.KNestM
import KE.KSuper
import HandS.OwnEq
import HandS.MakeKw
import HandS.MakeKwOnly
import HandS.RaiseMore
import HandS.TryOnly
import HandS.Style
import HandS.SortInts
import PyProof.LongRange
import KE.GoesMore
import HandS.ExcInit
import HandS.ExcField
import HandS.ExcIs
import HandS.TryMany
import KE.KExcIs
import HandS.Zip
import KE.OsSetLaws
import HandS.SetKeys
import PyProof.DictMoreH
import HandS.Small
import OpenK.KOps
import KE.KCallOwn
import HandS.FStr
import HandS.Text
import HandS.DictSubView
import HandS.DictTup
import KE.SortKeyHeap
import KE.KSortKey
import HandS.DictComp
import KE.KDictList
import KE.KEqDict
import HandS.Nested
import HandS.Dict
import KE.KEqNest
import PyProof.NeKinds
import OpenK.KOwn
import PyProof.Rows.StrOr
import PyProof.StrHeap
import PyProof.ReprNest
import PyProof.ReprRoads
import OpenK.KWalk
import PyProof.DictFindH
import HandS.EndTab
import PyProof.ReprBulk
import PyProof.FitsInt
import PySem.Challenge.RW_threeswaps_k54_renaming_faults
set_option Elab.async false
set_option linter.all false
set_option maxRecDepth 100000
set_option maxRecDepth 100000
set_option maxHeartbeats 4000000
namespace TS
open PySem L2
noncomputable section
noncomputable def gd (p : Prop) [Decidable p] : Bool := Classical.choose (⟨decide p, rfl⟩ : ∃ b, b = decide p)
theorem gd_eq (p : Prop) [Decidable p] : gd p = decide p := Classical.choose_spec (⟨decide p, rfl⟩ : ∃ b, b = decide p)
theorem gd_true {p : Prop} [Decidable p] (h : p) : gd p = true := by rw [gd_eq]; exact decide_eq_true h
theorem of_gd {p : Prop} [Decidable p] (h : gd p = true) : p := by rw [gd_eq] at h; exact of_decide_eq_true h
structure Lm where
  p : Hp → V → Prop
  mono : ∀ {F F' : Hp} {v : V}, Same F F' → p F v → p F' v
  rf : ∀ {F : Hp} {v : V}, p F v → ∃ a, v = .ref a
def L0 : Lm := ⟨fun _ _ => False, fun _ h => h, fun h => h.elim⟩
structure Gm where
  K : PySem.W.Frag
  G : Nat → Option Addr
  nm : Nat → List Str
  T : List (Addr × Str) := []
  lm : Lm := L0
def TbOb : HO → Bool
  | .tbl _ => false
  | .ext _ => false
  | _ => true
abbrev TbO (o : HO) : Prop := TbOb o = true
def NTb : HO → Bool
  | .tbl _ => false
  | .ext _ => false
  | .tup _ => false
  | _ => true
abbrev NT (o : HO) : Prop := NTb o = true
theorem NT.tt {o : HO} (n : NT o) : TbO o := by cases o <;> first | rfl | cases n
instance {o : HO} : Coe (NT o) (TbO o) := ⟨NT.tt⟩
structure Tb (M : Gm) (F H : Hp) : Prop where
  tab : LamX.Tabs M.T H
  fr : ∀ p ∈ M.T, F p.1 = none
  nt : ∀ b ps, F b ≠ some (.tbl ps)
theorem Tb.keep {M : Gm} {F H F' H' : Hp} (t : Tb M F H) (k : ∀ b o, H b = some o → ¬ TbO o → H' b = some o) (kf : ∀ b o, H b = some o → ¬ TbO o → F b = none → F' b = none) (kn : ∀ b ps, F' b ≠ some (.tbl ps)) : Tb M F' H' where
  tab := fun p hp => by
    obtain ⟨ps, h1, h2, h3⟩ := t.tab p hp
    exact ⟨ps, k _ _ h1 (by intro z; cases z), h2, fun pos cv hc => by
      obtain ⟨c, e1, e2⟩ := h3 pos cv hc
      exact ⟨c, e1, k _ _ e2 (by intro z; cases z)⟩⟩
  fr := fun p hp => by
    obtain ⟨ps, h1, _⟩ := t.tab p hp
    exact kf _ _ h1 (by intro z; cases z) (t.fr p hp)
  nt := kn
theorem Tb.alloc {M : Gm} {F H : Hp} (t : Tb M F H) {p : Addr} {o : HO} (hp : H p = none) : Tb M F (upd H p o) :=
  t.keep (fun b u e _ => by rw [upd_ne (ne_of_none e hp)]; exact e) (fun _ _ _ _ z => z) t.nt
theorem Tb.frz {M : Gm} {F H : Hp} (t : Tb M F H) {p : Addr} {o u : HO} (hp : H p = some o) (n : TbO o) (n2 : TbO u := by first | rfl | assumption | exact NT.tt (by assumption)) : Tb M (upd F p u) H :=
  t.keep (fun b u e _ => e) (fun b v e z q => by
    rw [upd_ne (fun y => by rw [y, hp] at e; cases e; exact z n)]; exact q) fun b ps e => by
    by_cases z : b = p
    · rw [z, upd_same] at e; cases e; cases n2
    · rw [upd_ne z] at e; exact t.nt b ps e
theorem Tb.write {M : Gm} {F H : Hp} (t : Tb M F H) {p : Addr} {o u : HO} (hp : H p = some o) (n : TbO o) : Tb M F (upd H p u) :=
  t.keep (fun b v e z => by rw [upd_ne (fun y => by rw [y, hp] at e; cases e; exact z n)]; exact e) (fun _ _ _ _ q => q) t.nt
def str0 (H : Hp) : Hp := fun b => match H b with
  | some o => if NTb o then some o else none
  | none => none
theorem str0_nt {H : Hp} {b : Addr} {o : HO} (h : str0 H b = some o) : H b = some o ∧ NT o := by
  unfold str0 at h
  split at h
  · rename_i u e
    split at h
    · rename_i n; cases h; exact ⟨e, n⟩
    · cases h
  · cases h
theorem str0_of {H : Hp} {b : Addr} {o : HO} (h : H b = some o) (n : NT o) : str0 H b = some o := by
  unfold str0
  rw [h]
  simp [show NTb o = true from n]
theorem str0_none {H : Hp} {b : Addr} (h : str0 H b = none) : ∀ o, H b = some o → ¬ NT o := fun o e n => by
  rw [str0_of e n] at h; cases h
inductive D where
  | non | bl (b : Bool) | int (i : Int) | str (x : Str)
  | lst (xs : List D) | tup (xs : List D) | scr (xs : List D)
  | dK (ks : List Key) (vs : List D) | dT (ks : List (List Key)) (vs : List D)
  | obj (c : Nat) (vs : List D)
  | cls (c : Nat)
  | lam
  | ktp (ns : List Int)
inductive OB where
  | l (xs : List D) | dK (ks : List Key) (vs : List D) | dT (ks : List (List Key)) (vs : List D) | o (c : Nat) (vs : List D)
def OB.dic : OB → Bool
  | .dK _ _ => true
  | .dT _ _ => true
  | _ => false
def D.dic : D → Bool
  | .dK _ _ => true
  | .dT _ _ => true
  | _ => false
def OB.toD : OB → D
  | .l xs => .lst xs
  | .dK ks vs => .dK ks vs
  | .dT ks vs => .dT ks vs
  | .o c vs => .obj c vs
inductive R where
  | imm (d : D) | own (o : OB) | brw (o : OB)
def R.mu : R → Bool
  | .imm _ => false
  | _ => true
abbrev Sl := List (Option R)
structure XD where
  c : Nat
  vs : List D
inductive Res (α : Type) where
  | ok (a : α) (δ : Sl) | exc (x : XD) (δ : Sl) | bad
inductive SR where
  | nx (δ : Sl) | rt (r : R) (δ : Sl) | bk (δ : Sl) | ct (δ : Sl) | exc (x : XD) (δ : Sl) | bad
inductive FR where
  | ok (r : R) (io : Option OB) | exc (x : XD) (io : Option OB) | bad
abbrev Fm := Option OB → List D → FR
abbrev FE := Sl → Res R
abbrev FD := Sl → Res D
abbrev FA := Sl → Res (List D)
abbrev FT := Sl → Res Bool
abbrev FS := Sl → SR
def Res.bind {α β : Type} (m : Res α) (k : α → Sl → Res β) : Res β := match m with
  | .ok a δ => k a δ
  | .exc x δ => .exc x δ
  | .bad => .bad
def Res.bindS {α : Type} (m : Res α) (k : α → Sl → SR) : SR := match m with
  | .ok a δ => k a δ
  | .exc x δ => .exc x δ
  | .bad => .bad
@[simp] theorem Res.bind_ok {α β : Type} (a : α) (δ : Sl) (k : α → Sl → Res β) : (Res.ok a δ).bind k = k a δ := rfl
@[simp] theorem Res.bindS_ok {α : Type} (a : α) (δ : Sl) (k : α → Sl → SR) : (Res.ok a δ).bindS k = k a δ := rfl
@[simp] theorem Res.bind_exc {α β : Type} (x : XD) (δ : Sl) (k : α → Sl → Res β) : (Res.exc x δ : Res α).bind k = .exc x δ := rfl
@[simp] theorem Res.bindS_exc {α : Type} (x : XD) (δ : Sl) (k : α → Sl → SR) : (Res.exc x δ : Res α).bindS k = .exc x δ := rfl
def KTup (K : PySem.W.Frag) (a : Addr) (ns : List Int) : Prop := ∃ (o : Obj) (its : Array Value) (n : Nat), K.lookup a = some o ∧ o.cls = .type "tuple" ∧ o.data = .seq its n ∧ its.size ≤ 100 ∧ Vals (ns.map V.int) its.toList
mutual
def rep (M : Gm) (F : Hp) : D → V → Prop
  | .non, v => v = .non
  | .bl b, v => v = .bl b
  | .int i, v => v = .int i
  | .str x, v => v = .str x
  | .lst ds, v => ∃ a vs, v = .ref a ∧ F a = some (.lst vs) ∧ reps M F ds vs
  | .scr ds, v => ∃ a vs, v = .ref a ∧ SqL M.K F a vs ∧ reps M F ds vs
  | .tup ds, v => ∃ a vs, v = .ref a ∧ F a = some (.tup vs) ∧ reps M F ds vs
  | .dK ks ds, v => ∃ (a : Addr) (od : Obj) (kvs : List (Key × V)), v = .ref a ∧ F a = some (.frz od (.dK kvs)) ∧ kvs.map (·.1) = ks ∧ reps M F ds (kvs.map (·.2))
  | .dT ks ds, v => ∃ (a : Addr) (od : Obj) (kvs : List (List Key × V)), v = .ref a ∧ F a = some (.frz od (.dT kvs)) ∧ kvs.map (·.1) = ks ∧ reps M F ds (kvs.map (·.2))
  | .obj c ds, v => ∃ (a C dx : Addr) (fs : List (Str × V)), v = .ref a ∧ M.G c = some C ∧ F a = some (.ins C dx fs) ∧ fs.map (·.1) = (M.nm c).take ds.length ∧ reps M F ds (fs.map (·.2))
  | .cls c, v => ∃ C, M.G c = some C ∧ v = .ref C
  | .lam, v => M.lm.p F v
  | .ktp ns, v => ∃ a, v = .ref a ∧ KTup M.K a ns
def reps (M : Gm) (F : Hp) : List D → List V → Prop
  | [], vs => vs = []
  | d :: ds, vs => ∃ v r, vs = v :: r ∧ rep M F d v ∧ reps M F ds r
end
def obAt (M : Gm) (F H : Hp) : OB → Addr → Prop
  | .l ds, a => ∃ vs, H a = some (.lst vs) ∧ reps M F ds vs
  | .dK ks ds, a => ∃ (kvs : List (Key × V)), H a = some (.dK kvs) ∧ kvs.map (·.1) = ks ∧ reps M F ds (kvs.map (·.2))
  | .dT ks ds, a => ∃ (kvs : List (List Key × V)), H a = some (.dT kvs) ∧ kvs.map (·.1) = ks ∧ reps M F ds (kvs.map (·.2))
  | .o c ds, a => ∃ (C dx : Addr) (fs : List (Str × V)), M.G c = some C ∧ H a = some (.ins C dx fs) ∧ fs.map (·.1) = (M.nm c).take ds.length ∧ reps M F ds (fs.map (·.2))
theorem Same.seqT {K : PySem.W.Frag} {H H' : Hp} {a : Addr} {xs : List V} (e : Same H H') (h : SqT K H a xs) : SqT K H' a xs := by
  rcases h with (h | ⟨o, h⟩) | h
  · exact .inl (.inl (e _ _ h))
  · exact .inl (.inr ⟨o, e _ _ h⟩)
  · exact .inr h
section
variable {M : Gm} {F F' H H' : Hp}
mutual
theorem rep_mono (e : Same F F') : ∀ (d : D) (v : V), rep M F d v → rep M F' d v
  | .non, v, h => by unfold rep at h ⊢; exact h
  | .bl _, v, h => by unfold rep at h ⊢; exact h
  | .int _, v, h => by unfold rep at h ⊢; exact h
  | .str _, v, h => by unfold rep at h ⊢; exact h
  | .lst ds, v, h => by
    unfold rep at h ⊢
    obtain ⟨a, vs, h1, h2, h3⟩ := h
    exact ⟨a, vs, h1, e _ _ h2, reps_mono e ds vs h3⟩
  | .scr ds, v, h => by
    unfold rep at h ⊢
    obtain ⟨a, vs, h1, h2, h3⟩ := h
    exact ⟨a, vs, h1, e.seq h2, reps_mono e ds vs h3⟩
  | .tup ds, v, h => by
    unfold rep at h ⊢
    obtain ⟨a, vs, h1, h2, h3⟩ := h
    exact ⟨a, vs, h1, e _ _ h2, reps_mono e ds vs h3⟩
  | .dK ks ds, v, h => by
    unfold rep at h ⊢
    obtain ⟨a, od, vs, h1, h2, h3, h4⟩ := h
    exact ⟨a, od, vs, h1, e _ _ h2, h3, reps_mono e ds _ h4⟩
  | .dT ks ds, v, h => by
    unfold rep at h ⊢
    obtain ⟨a, od, vs, h1, h2, h3, h4⟩ := h
    exact ⟨a, od, vs, h1, e _ _ h2, h3, reps_mono e ds _ h4⟩
  | .obj c ds, v, h => by
    unfold rep at h ⊢
    obtain ⟨a, C, dx, fs, h1, h2, h3, h4, h5⟩ := h
    exact ⟨a, C, dx, fs, h1, h2, e _ _ h3, h4, reps_mono e ds _ h5⟩
  | .cls c, v, h => by unfold rep at h ⊢; exact h
  | .lam, v, h => by unfold rep at h ⊢; exact M.lm.mono e h
  | .ktp ns, v, h => by unfold rep at h ⊢; exact h
theorem reps_mono (e : Same F F') : ∀ (ds : List D) (vs : List V), reps M F ds vs → reps M F' ds vs
  | [], vs, h => by unfold reps at h ⊢; exact h
  | d :: ds, vs, h => by
    unfold reps at h ⊢
    obtain ⟨v, r, h1, h2, h3⟩ := h
    exact ⟨v, r, h1, rep_mono e d v h2, reps_mono e ds r h3⟩
end
theorem reps_length : ∀ {ds : List D} {vs : List V}, reps M F ds vs → vs.length = ds.length
  | [], vs, h => by unfold reps at h; rw [h]; rfl
  | d :: ds, vs, h => by
    unfold reps at h
    obtain ⟨v, r, rfl, _, h3⟩ := h
    simp [reps_length h3]
theorem reps_get : ∀ {ds : List D} {vs : List V} {i : Nat} {d : D}, reps M F ds vs → ds[i]? = some d → ∃ v, vs[i]? = some v ∧ rep M F d v
  | [], vs, i, d, h, e => by simp at e
  | d :: ds, vs, 0, d', h, e => by
    unfold reps at h
    obtain ⟨v, r, rfl, h2, h3⟩ := h
    simp at e; subst e
    exact ⟨v, rfl, h2⟩
  | d :: ds, vs, i + 1, d', h, e => by
    unfold reps at h
    obtain ⟨v, r, rfl, h2, h3⟩ := h
    simp at e
    obtain ⟨w, e1, e2⟩ := reps_get h3 e
    exact ⟨w, by simpa using e1, e2⟩
theorem reps_nil : reps M F [] [] := by unfold reps; rfl
theorem reps_cons {d : D} {ds : List D} {v : V} {vs : List V} (h1 : rep M F d v) (h2 : reps M F ds vs) : reps M F (d :: ds) (v :: vs) := by
  unfold reps; exact ⟨v, vs, rfl, h1, h2⟩
theorem reps_cons_iff {d : D} {ds : List D} {v : V} {vs : List V} : reps M F (d :: ds) (v :: vs) ↔ rep M F d v ∧ reps M F ds vs := by
  constructor
  · intro h
    unfold reps at h
    obtain ⟨v', r, e, h2, h3⟩ := h
    cases e
    exact ⟨h2, h3⟩
  · exact fun h => reps_cons h.1 h.2
theorem reps_append : ∀ {ds es : List D} {vs ws : List V}, reps M F ds vs → reps M F es ws → reps M F (ds ++ es) (vs ++ ws)
  | [], es, vs, ws, h, h' => by unfold reps at h; subst h; exact h'
  | d :: ds, es, vs, ws, h, h' => by
    unfold reps at h
    obtain ⟨v, r, rfl, h2, h3⟩ := h
    exact reps_cons h2 (reps_append h3 h')
theorem reps_take : ∀ {ds : List D} {vs : List V} (n : Nat), reps M F ds vs → reps M F (ds.take n) (vs.take n)
  | _, _, 0, _ => by simp [reps]
  | [], vs, n + 1, h => by unfold reps at h; subst h; simp [reps]
  | d :: ds, vs, n + 1, h => by
    unfold reps at h
    obtain ⟨v, r, rfl, h2, h3⟩ := h
    exact reps_cons h2 (reps_take n h3)
theorem reps_drop : ∀ {ds : List D} {vs : List V} (n : Nat), reps M F ds vs → reps M F (ds.drop n) (vs.drop n)
  | _, _, 0, h => h
  | [], vs, n + 1, h => by unfold reps at h; subst h; simp [reps]
  | d :: ds, vs, n + 1, h => by
    unfold reps at h
    obtain ⟨v, r, rfl, h2, h3⟩ := h
    exact reps_drop n h3
theorem reps_set : ∀ {ds : List D} {vs : List V} {d : D} {v : V} (i : Nat), reps M F ds vs → rep M F d v → reps M F (ds.set i d) (vs.set i v)
  | [], vs, d, v, i, h, _ => by unfold reps at h; subst h; simp [reps]
  | d0 :: ds, vs, d, v, 0, h, hv => by
    unfold reps at h
    obtain ⟨v0, r, rfl, h2, h3⟩ := h
    exact reps_cons hv h3
  | d0 :: ds, vs, d, v, i + 1, h, hv => by
    unfold reps at h
    obtain ⟨v0, r, rfl, h2, h3⟩ := h
    exact reps_cons h2 (reps_set i h3 hv)
theorem obAt_mono (e : Same F F') {o : OB} {a : Addr} (ha : H' a = H a) (h : obAt M F H o a) : obAt M F' H' o a := by
  cases o with
  | l ds => obtain ⟨vs, h1, h2⟩ := h; exact ⟨vs, ha.trans h1, reps_mono e _ _ h2⟩
  | dK ks ds => obtain ⟨vs, h1, h2, h3⟩ := h; exact ⟨vs, ha.trans h1, h2, reps_mono e _ _ h3⟩
  | dT ks ds => obtain ⟨vs, h1, h2, h3⟩ := h; exact ⟨vs, ha.trans h1, h2, reps_mono e _ _ h3⟩
  | o c ds => obtain ⟨C, dx, fs, h1, h2, h3, h4⟩ := h; exact ⟨C, dx, fs, h1, ha.trans h2, h3, reps_mono e _ _ h4⟩
theorem obAt_some {o : OB} {a : Addr} (h : obAt M F H o a) : ∃ u, H a = some u := by
  cases o with
  | l ds => obtain ⟨vs, h1, h2⟩ := h; exact ⟨_, h1⟩
  | dK ks ds => obtain ⟨vs, h1, h2, h3⟩ := h; exact ⟨_, h1⟩
  | dT ks ds => obtain ⟨vs, h1, h2, h3⟩ := h; exact ⟨_, h1⟩
  | o c ds => obtain ⟨C, dx, fs, h1, h2, h3, h4⟩ := h; exact ⟨_, h2⟩
theorem obAt_nt {o : OB} {a : Addr} (h : obAt M F H o a) : ∃ u, H a = some u ∧ NT u := by
  cases o with
  | l ds => obtain ⟨vs, h1, h2⟩ := h; exact ⟨_, h1, rfl⟩
  | dK ks ds => obtain ⟨vs, h1, h2, h3⟩ := h; exact ⟨_, h1, rfl⟩
  | dT ks ds => obtain ⟨vs, h1, h2, h3⟩ := h; exact ⟨_, h1, rfl⟩
  | o c ds => obtain ⟨C, dx, fs, h1, h2, h3, h4⟩ := h; exact ⟨_, h2, rfl⟩
theorem obAt_rep {o : OB} {a : Addr} (hd : o.dic = false) (h : obAt M F F o a) : rep M F o.toD (.ref a) := by
  cases o with
  | l ds => obtain ⟨vs, h1, h2⟩ := h; unfold OB.toD rep; exact ⟨a, vs, rfl, h1, h2⟩
  | dK ks ds => cases hd
  | dT ks ds => cases hd
  | o c ds => obtain ⟨C, dx, fs, h1, h2, h3, h4⟩ := h; unfold OB.toD rep; exact ⟨a, C, dx, fs, rfl, h1, h2, h3, h4⟩
theorem obAt_repD {o : OB} {a : Addr} {u : HO} {od : Obj} (hd : o.dic = true) (hu : H a = some u) (hF : F' a = some (.frz od u)) (g : Same F F') (h : obAt M F H o a) : rep M F' o.toD (.ref a) := by
  cases o with
  | l ds => cases hd
  | dK ks ds =>
    obtain ⟨vs, h1, h2, h3⟩ := h
    rw [hu] at h1; cases h1
    unfold OB.toD rep; exact ⟨a, od, vs, rfl, hF, h2, reps_mono g _ _ h3⟩
  | dT ks ds =>
    obtain ⟨vs, h1, h2, h3⟩ := h
    rw [hu] at h1; cases h1
    unfold OB.toD rep; exact ⟨a, od, vs, rfl, hF, h2, reps_mono g _ _ h3⟩
  | o c ds => cases hd
theorem obAt_mut {o : OB} {a : Addr} (h : obAt M F H o a) : ∃ u, H a = some u ∧ NT u ∧ Mut (some u) := by
  cases o with
  | l ds => obtain ⟨vs, h1, h2⟩ := h; exact ⟨_, h1, rfl, True.intro⟩
  | dK ks ds => obtain ⟨vs, h1, h2, h3⟩ := h; exact ⟨_, h1, rfl, True.intro⟩
  | dT ks ds => obtain ⟨vs, h1, h2, h3⟩ := h; exact ⟨_, h1, rfl, True.intro⟩
  | o c ds => obtain ⟨C, dx, fs, h1, h2, h3, h4⟩ := h; exact ⟨_, h2, rfl, True.intro⟩
end
inductive LkS (Q : Hp → Prop) : Hp → Prop where
  | now {H : Hp} (h : Q H) : LkS Q H
  | lock {H : Hp} (d : Addr) (u : HO) (h : H d = some u) (mu : Mut (some u)) (k : ∀ od, LkS Q (upd H d (.frz od u))) : LkS Q H
theorem LkS.mono {Q R : Hp → Prop} {H : Hp} (l : LkS Q H) (h : ∀ H', Q H' → R H') : LkS R H := by
  induction l with
  | now q => exact .now (h _ q)
  | lock d u e mu _ ih => exact .lock d u e mu ih
theorem LkS.bind {Q R : Hp → Prop} {H : Hp} (l : LkS Q H) (h : ∀ H', Q H' → LkS R H') : LkS R H := by
  induction l with
  | now q => exact h _ q
  | lock d u e mu _ ih => exact .lock d u e mu ih
section
variable {X : Cx} {pins : List (Addr × Obj)} {σ : St} {s : Shared}
theorem LkS.inv {Q : Hp → Prop} {H : Hp} (l : LkS Q H) (I : Inv X pins σ H s) : ∃ H', Inv X pins σ H' s ∧ Q H' := by
  induction l with
  | now q => exact ⟨_, I, q⟩
  | lock d u e mu _ ih =>
    obtain ⟨od, I'⟩ := I.lock e mu
    exact ih od I'
theorem pe_lks {e : Expr} {t : TE} (p : PE X e t) : PE X e (fun σ H Q => t σ H fun v H' => LkS (Q v) H') := by
  refine ⟨fun pins s σ H Q I h => thn (p.run pins s σ H _ I h) fun v s1 ⟨x, H1, I1, r, q⟩ => ?_⟩
  obtain ⟨H2, I2, q2⟩ := q.inv I1
  exact ⟨x, H2, I2, r, q2⟩
end
structure Cn (M : Gm) where
  F0 : Hp
  H0 : Hp
  io : Option Addr
  iob : ∀ a, io = some a → H0 a ≠ none
  nt : ∀ b o, H0 b = some o → NT o
def slotOk (c : Cn M) (F H : Hp) : R → V → Prop
  | .imm d, v => rep M F d v
  | .own o, v => ∃ a, v = .ref a ∧ F a = none ∧ c.H0 a = none ∧ obAt M F H o a
  | .brw o, v => ∃ a, v = .ref a ∧ F a = none ∧ c.io = some a ∧ obAt M F H o a
structure Ok (c : Cn M) (F H : Hp) (σ : St) (δ : Sl) : Prop where
  same : Same F H
  grow : Same c.F0 F
  nofz : ∀ b, c.H0 b ≠ none → c.F0 b = none → F b = none
  kept : ∀ b o, c.H0 b = some o → c.io ≠ some b → H b = some o
  ioh : ∀ a, c.io = some a → ∃ u, H a = some u ∧ NT u
  tb : Tb M F H
  len : σ.length = δ.length
  slot : ∀ (i : Nat) (r : R), δ[i]? = some (some r) → ∃ v, σ[i]? = some (some v) ∧ slotOk c F H r v
  dist : ∀ (i j : Nat) (r r' : R) (v : V), i ≠ j → δ[i]? = some (some r) → δ[j]? = some (some r') → r.mu = true → r'.mu = true → σ[i]? = some (some v) → σ[j]? = some (some v) → False
def repR (c : Cn M) (F H : Hp) (σ : St) (δ : Sl) : R → V → Prop
  | .imm d, v => rep M F d v
  | .own o, v => ∃ a, v = .ref a ∧ F a = none ∧ c.H0 a = none ∧ obAt M F H o a ∧ ∀ (i : Nat) (r : R), δ[i]? = some (some r) → r.mu = true → σ[i]? ≠ some (some (V.ref a))
  | .brw _, _ => False
section
variable {M : Gm} {c : Cn M} {F F' H H' : Hp} {σ : St} {δ : Sl}
theorem Ok.h0 (ok : Ok c F H σ δ) {p : Addr} (hp : H p = none) : c.H0 p = none := by
  cases e : c.H0 p with
  | none => rfl
  | some o =>
    by_cases hi : c.io = some p
    · obtain ⟨u, e1, _⟩ := ok.ioh p hi
      rw [hp] at e1; cases e1
    · rw [ok.kept p o e hi] at hp; cases hp
theorem Ok.hn (ok : Ok c F H σ δ) {p : Addr} (hp : c.H0 p ≠ none) : ∃ u, H p = some u ∧ NT u := by
  by_cases hi : c.io = some p
  · exact ok.ioh p hi
  · cases e : c.H0 p with
    | none => exact absurd e hp
    | some o => exact ⟨o, ok.kept p o e hi, c.nt p o e⟩
theorem Ok.h1 (ok : Ok c F H σ δ) {p : Addr} (hp : ∀ o, H p = some o → ¬ NT o) : c.H0 p = none := by
  cases e : c.H0 p with
  | none => rfl
  | some o =>
    obtain ⟨u, e1, e2⟩ := ok.hn (p := p) (by rw [e]; exact fun z => by cases z)
    exact absurd e2 (hp u e1)
theorem Ok.f (ok : Ok c F H σ δ) {p : Addr} (hp : H p = none) : F p = none := ok.same.free hp
theorem Ok.mus (ok : Ok c F H σ δ) {i : Nat} {r : R} (e : δ[i]? = some (some r)) (hm : r.mu = true) : ∃ a o, σ[i]? = some (some (.ref a)) ∧ F a = none ∧ obAt M F H o a ∧ (r = .own o ∧ c.H0 a = none ∨ r = .brw o ∧ c.io = some a) := by
  obtain ⟨v, e1, e2⟩ := ok.slot i r e
  cases r with
  | imm d => cases hm
  | own o => obtain ⟨a, rfl, h1, h2, h3⟩ := e2; exact ⟨a, o, e1, h1, h3, .inl ⟨rfl, h2⟩⟩
  | brw o => obtain ⟨a, rfl, h1, h2, h3⟩ := e2; exact ⟨a, o, e1, h1, h3, .inr ⟨rfl, h2⟩⟩
theorem Ok.fresh1 (ok : Ok c F H σ δ) {p : Addr} (hp : ∀ o, H p = some o → ¬ NT o) : ∀ (i : Nat) (r : R), δ[i]? = some (some r) → r.mu = true → σ[i]? ≠ some (some (V.ref p)) := fun i r e hm q => by
  obtain ⟨a, o, e1, _, h3, _⟩ := ok.mus e hm
  rw [e1] at q
  cases q
  obtain ⟨u, hu, n⟩ := obAt_nt h3
  exact hp u hu n
theorem Ok.fresh (ok : Ok c F H σ δ) {p : Addr} (hp : H p = none) : ∀ (i : Nat) (r : R), δ[i]? = some (some r) → r.mu = true → σ[i]? ≠ some (some (V.ref p)) := fun i r e hm q => by
  obtain ⟨a, o, e1, _, h3, _⟩ := ok.mus e hm
  rw [e1] at q
  cases q
  obtain ⟨u, hu⟩ := obAt_some h3
  rw [hu] at hp; cases hp
theorem Ok.alloc (ok : Ok c F H σ δ) {p : Addr} {o : HO} (hp : H p = none) : Ok c F (upd H p o) σ δ where
  same := fun b u e => by rw [upd_ne (ne_of_none (ok.same b u e) hp)]; exact ok.same b u e
  grow := ok.grow
  nofz := ok.nofz
  kept := fun b u e hi => by
    have := ok.kept b u e hi
    rw [upd_ne (ne_of_none this hp)]; exact this
  ioh := fun a e => by
    obtain ⟨u, e1, e2⟩ := ok.ioh a e
    exact ⟨u, by rw [upd_ne (ne_of_none e1 hp)]; exact e1, e2⟩
  tb := ok.tb.alloc hp
  len := ok.len
  slot := fun i r e => by
    obtain ⟨v, e1, e2⟩ := ok.slot i r e
    refine ⟨v, e1, ?_⟩
    cases r with
    | imm d => exact e2
    | own ob =>
      obtain ⟨a, rfl, h1, h2, h3⟩ := e2
      obtain ⟨u, hu⟩ := obAt_some h3
      exact ⟨a, rfl, h1, h2, obAt_mono (Same.refl _) (upd_ne (ne_of_none hu hp)) h3⟩
    | brw ob =>
      obtain ⟨a, rfl, h1, h2, h3⟩ := e2
      obtain ⟨u, hu⟩ := obAt_some h3
      exact ⟨a, rfl, h1, h2, obAt_mono (Same.refl _) (upd_ne (ne_of_none hu hp)) h3⟩
  dist := ok.dist
theorem Ok.made (ok : Ok c F H σ δ) {p : Addr} {o : HO} {ob : OB} (hp : H p = none) (h : obAt M F (upd H p o) ob p) : repR c F (upd H p o) σ δ (.own ob) (.ref p) :=
  ⟨p, rfl, ok.f hp, ok.h0 hp, h, ok.fresh hp⟩
theorem Ok.freeze (ok : Ok c F H σ δ) {ob : OB} {v : V} (r : repR c F H σ δ (.own ob) v) : LkS (fun H' => ∃ F', Same F F' ∧ Ok c F' H' σ δ ∧ rep M F' ob.toD v) H := by
  obtain ⟨a, rfl, h1, h2, h3, h4⟩ := r
  obtain ⟨u, hu, hnu, hmu⟩ := obAt_mut h3
  have key : ∀ (u' : HO) (H' : Hp), NT u' → H' a = some u' → (∀ b, b ≠ a → H' b = H b) → Tb M (upd F a u') H' → Same F (upd F a u') ∧ Ok c (upd F a u') H' σ δ := fun u' H' hn' ea eb htb => by
    have g : Same F (upd F a u') := fun b o e => by rw [upd_ne (ne_of_none e h1)]; exact e
    refine ⟨g, fun b o e => ?_, ok.grow.trans g, fun b e1 e2 => ?_, fun b o e hi => ?_, fun b e => ?_, htb, ok.len, fun i r e => ?_, ok.dist⟩
    · by_cases q : b = a
      · subst q; rw [upd_same] at e; cases e; exact ea
      · rw [upd_ne q] at e; rw [eb b q]; exact ok.same b o e
    · have q : b ≠ a := fun z => e1 (z ▸ h2)
      rw [upd_ne q]; exact ok.nofz b e1 e2
    · have q : b ≠ a := fun z => by rw [z, h2] at e; cases e
      rw [eb b q]; exact ok.kept b o e hi
    · have q : b ≠ a := fun z => c.iob b e (z ▸ h2)
      rw [eb b q]; exact ok.ioh b e
    · obtain ⟨v, e1, e2⟩ := ok.slot i r e
      refine ⟨v, e1, ?_⟩
      cases r with
      | imm d => exact rep_mono g _ _ e2
      | own o =>
        obtain ⟨a', rfl, k1, k2, k3⟩ := e2
        have q : a' ≠ a := fun z => h4 i _ e rfl (by rw [e1, z])
        exact ⟨a', rfl, by rw [upd_ne q]; exact k1, k2, obAt_mono g (eb a' q) k3⟩
      | brw o =>
        obtain ⟨a', rfl, k1, k2, k3⟩ := e2
        have q : a' ≠ a := fun z => h4 i _ e rfl (by rw [e1, z])
        exact ⟨a', rfl, by rw [upd_ne q]; exact k1, k2, obAt_mono g (eb a' q) k3⟩
  cases hd : ob.dic with
  | false =>
    obtain ⟨g, ok'⟩ := key u H hnu hu (fun _ _ => rfl) (ok.tb.frz hu hnu)
    exact .now ⟨upd F a u, g, ok', obAt_rep hd (obAt_mono g (upd_same.trans hu.symm) h3)⟩
  | true =>
    refine .lock a u hu hmu fun od => .now ?_
    obtain ⟨g, ok'⟩ := key (.frz od u) (upd H a (.frz od u)) rfl upd_same (fun b z => upd_ne z) ((ok.tb.frz hu hnu rfl).keep (fun b o e z => by
      rw [upd_ne (fun y => by rw [y, hu] at e; cases e; exact z hnu)]; exact e) (fun b o e z q => q) (ok.tb.frz hu hnu rfl).nt)
    exact ⟨upd F a (.frz od u), g, ok', obAt_repD hd hu upd_same g h3⟩
theorem getElem?_set_some {α : Type} {l : List α} {i j : Nat} {x y : α} (h : (l.set i x)[j]? = some y) : (i = j ∧ x = y ∧ i < l.length) ∨ (i ≠ j ∧ l[j]? = some y) := by
  by_cases e : i = j
  · subst e
    by_cases hl : i < l.length
    · rw [List.getElem?_set_self hl] at h
      exact .inl ⟨rfl, Option.some.inj h, hl⟩
    · rw [List.getElem?_eq_none (by simpa using hl)] at h; cases h
  · rw [List.getElem?_set_ne e] at h
    exact .inr ⟨e, h⟩
theorem Ok.setI (ok : Ok c F H σ δ) {d : D} {v : V} (i : Nat) (r : rep M F d v) : Ok c F H (σ.set i (some v)) (δ.set i (some (.imm d))) where
  same := ok.same
  grow := ok.grow
  nofz := ok.nofz
  kept := ok.kept
  ioh := ok.ioh
  tb := ok.tb
  len := by simp [ok.len]
  slot := fun j r' e => by
    rcases getElem?_set_some e with ⟨rfl, e1, hl⟩ | ⟨hn, e1⟩
    · cases e1
      exact ⟨v, List.getElem?_set_self (by rw [ok.len]; exact hl), r⟩
    · rw [List.getElem?_set_ne hn]
      exact ok.slot j r' e1
  dist := fun j k r1 r2 w hjk e1 e2 m1 m2 s1 s2 => by
    rcases getElem?_set_some e1 with ⟨rfl, q, _⟩ | ⟨hn, q1⟩
    · cases q; cases m1
    · rcases getElem?_set_some e2 with ⟨rfl, q, _⟩ | ⟨hn2, q2⟩
      · cases q; cases m2
      · rw [List.getElem?_set_ne hn] at s1
        rw [List.getElem?_set_ne hn2] at s2
        exact ok.dist j k r1 r2 w hjk q1 q2 m1 m2 s1 s2
theorem Ok.setO (ok : Ok c F H σ δ) {ob : OB} {v : V} (i : Nat) (r : repR c F H σ δ (.own ob) v) : Ok c F H (σ.set i (some v)) (δ.set i (some (.own ob))) where
  same := ok.same
  grow := ok.grow
  nofz := ok.nofz
  kept := ok.kept
  ioh := ok.ioh
  tb := ok.tb
  len := by simp [ok.len]
  slot := fun j r' e => by
    rcases getElem?_set_some e with ⟨rfl, e1, hl⟩ | ⟨hn, e1⟩
    · cases e1
      obtain ⟨a, rfl, h1, h2, h3, _⟩ := r
      exact ⟨.ref a, List.getElem?_set_self (by rw [ok.len]; exact hl), a, rfl, h1, h2, h3⟩
    · rw [List.getElem?_set_ne hn]
      exact ok.slot j r' e1
  dist := fun j k r1 r2 w hjk e1 e2 m1 m2 s1 s2 => by
    obtain ⟨a, rfl, h1, h2, h3, h4⟩ := r
    rcases getElem?_set_some e1 with ⟨rfl, q, hl⟩ | ⟨hn, q1⟩
    · rw [List.getElem?_set_self (by rw [ok.len]; exact hl)] at s1
      rcases getElem?_set_some e2 with ⟨rfl, q, _⟩ | ⟨hn2, q2⟩
      · exact hjk rfl
      · rw [List.getElem?_set_ne hn2] at s2
        cases s1
        exact h4 k r2 q2 m2 s2
    · rw [List.getElem?_set_ne hn] at s1
      rcases getElem?_set_some e2 with ⟨rfl, q, hl⟩ | ⟨hn2, q2⟩
      · rw [List.getElem?_set_self (by rw [ok.len]; exact hl)] at s2
        cases s2
        exact h4 j r1 q1 m1 s1
      · rw [List.getElem?_set_ne hn2] at s2
        exact ok.dist j k r1 r2 w hjk q1 q2 m1 m2 s1 s2
theorem Ok.mutate (ok : Ok c F H σ δ) {i : Nat} {r r' : R} {a : Addr} {ob ob' : OB} (e : δ[i]? = some (some r)) (hr : r = .own ob ∧ r' = .own ob' ∨ r = .brw ob ∧ r' = .brw ob') (ea : σ[i]? = some (some (.ref a))) (g : Same F F')
    (hF : ∀ b o, b ≠ a → H b = some o → NT o → F b = none → F' b = none) (hFa : F' a = none)
    (hk : ∀ b o, b ≠ a → NT o → H b = some o → H' b = some o) (hs : Same F' H') (htb : Tb M F' H') (hob : obAt M F' H' ob' a) : Ok c F' H' σ (δ.set i (some r')) := by
  have hm : r.mu = true := by rcases hr with ⟨rfl, _⟩ | ⟨rfl, _⟩ <;> rfl
  have hm' : r'.mu = true := by rcases hr with ⟨_, rfl⟩ | ⟨_, rfl⟩ <;> rfl
  obtain ⟨a', o', q1, q2, q3, q4⟩ := ok.mus e hm
  rw [ea] at q1; cases q1
  have ha0 : c.H0 a = none ∨ c.io = some a := by rcases q4 with ⟨_, z⟩ | ⟨_, z⟩; exact .inl z; exact .inr z
  have hfa : F a = none := q2
  refine ⟨hs, ok.grow.trans g, fun b e1 e2 => ?_, fun b o e1 e2 => ?_, fun b e1 => ?_, htb, by simp [ok.len], fun j r1 e1 => ?_, fun j k r1 r2 w hjk e1 e2 m1 m2 s1 s2 => ?_⟩
  · by_cases z : b = a
    · subst z; exact hFa
    · obtain ⟨u, k1, k2⟩ := ok.hn e1
      exact hF b u z k1 k2 (ok.nofz b e1 e2)
  · have z : b ≠ a := fun z => by
      subst z
      rcases ha0 with z | z
      · rw [z] at e1; cases e1
      · exact e2 z
    exact hk b o z (c.nt b o e1) (ok.kept b o e1 e2)
  · obtain ⟨u, hu, hn⟩ := obAt_nt hob
    by_cases z : b = a
    · subst z; exact ⟨u, hu, hn⟩
    · obtain ⟨o, q1, q2⟩ := ok.ioh b e1
      exact ⟨o, hk b o z q2 q1, q2⟩
  · rcases getElem?_set_some e1 with ⟨rfl, z, hl⟩ | ⟨hn, e1⟩
    · cases z
      refine ⟨.ref a, ea, ?_⟩
      rcases hr with ⟨rfl, rfl⟩ | ⟨rfl, rfl⟩
      · rcases q4 with ⟨_, z⟩ | ⟨z, _⟩
        · exact ⟨a, rfl, hFa, z, hob⟩
        · cases z
      · rcases q4 with ⟨z, _⟩ | ⟨_, z⟩
        · cases z
        · exact ⟨a, rfl, hFa, z, hob⟩
    · obtain ⟨v, s1, s2⟩ := ok.slot j r1 e1
      refine ⟨v, s1, ?_⟩
      cases r1 with
      | imm d => exact rep_mono g _ _ s2
      | own o =>
        obtain ⟨b, rfl, k1, k2, k3⟩ := s2
        have z : b ≠ a := fun z => ok.dist i j r (.own o) (.ref a) hn e e1 hm rfl ea (by rw [s1, z])
        obtain ⟨u, hu, hn⟩ := obAt_nt k3
        exact ⟨b, rfl, hF b u z hu hn k1, k2, obAt_mono g ((hk b u z hn hu).trans hu.symm) k3⟩
      | brw o =>
        obtain ⟨b, rfl, k1, k2, k3⟩ := s2
        have z : b ≠ a := fun z => ok.dist i j r (.brw o) (.ref a) hn e e1 hm rfl ea (by rw [s1, z])
        obtain ⟨u, hu, hn⟩ := obAt_nt k3
        exact ⟨b, rfl, hF b u z hu hn k1, k2, obAt_mono g ((hk b u z hn hu).trans hu.symm) k3⟩
  · have f1 : ∃ q, δ[j]? = some (some q) ∧ q.mu = true := by
      rcases getElem?_set_some e1 with ⟨rfl, z, hl⟩ | ⟨hn, z⟩
      · exact ⟨r, e, hm⟩
      · exact ⟨r1, z, m1⟩
    have f2 : ∃ q, δ[k]? = some (some q) ∧ q.mu = true := by
      rcases getElem?_set_some e2 with ⟨rfl, z, hl⟩ | ⟨hn, z⟩
      · exact ⟨r, e, hm⟩
      · exact ⟨r2, z, m2⟩
    obtain ⟨x1, y1, z1⟩ := f1
    obtain ⟨x2, y2, z2⟩ := f2
    exact ok.dist j k x1 x2 w hjk y1 y2 z1 z2 s1 s2
theorem Ok.write (ok : Ok c F H σ δ) {i : Nat} {r r' : R} {a : Addr} {ob ob' : OB} {o : HO} (e : δ[i]? = some (some r)) (hr : r = .own ob ∧ r' = .own ob' ∨ r = .brw ob ∧ r' = .brw ob') (ea : σ[i]? = some (some (.ref a)))
    (hob : obAt M F (upd H a o) ob' a) : Ok c F (upd H a o) σ (δ.set i (some r')) := by
  have hm : r.mu = true := by rcases hr with ⟨rfl, _⟩ | ⟨rfl, _⟩ <;> rfl
  obtain ⟨a', o', q1, q2, q3, q4⟩ := ok.mus e hm
  rw [ea] at q1; cases q1
  obtain ⟨u0, hu0, hn0⟩ := obAt_nt q3
  refine ok.mutate e hr ea (Same.refl _) (fun _ _ _ _ _ z => z) q2 (fun b u z _ h => by rw [upd_ne z]; exact h) (fun b u h => ?_) (ok.tb.write hu0 hn0) hob
  have z : b ≠ a := fun z => by rw [z, q2] at h; cases h
  rw [upd_ne z]; exact ok.same b u h
end
structure Stp (M : Gm) (F H F' H' : Hp) (io : Option Addr) : Prop where
  grow : Same F F'
  nofz : ∀ b o, H b = some o → NT o → F b = none → F' b = none
  kept : ∀ b o, H b = some o → NT o → io ≠ some b → H' b = some o
  same : Same F' H'
  tb : Tb M F' H'
def ioAt (M : Gm) (F H : Hp) : Option OB → Addr → Prop
  | none, _ => True
  | some o, a => F a = none ∧ obAt M F H o a
def ioV : Option OB → Addr → List V
  | none, _ => []
  | some _, a => [.ref a]
def resAt (M : Gm) (H F' H' : Hp) : R → V → Prop
  | .imm d, v => rep M F' d v
  | .own o, v => ∃ a, v = .ref a ∧ F' a = none ∧ (∀ u, H a = some u → ¬ NT u) ∧ obAt M F' H' o a
  | .brw _, _ => False
def xAt (M : Gm) (F : Hp) (x : XD) (cls : Value) (d : Option Addr) (H : Hp) : Prop :=
  ∃ C, M.G x.c = some C ∧ cls = .ref C ∧ (x.vs = [] ∨ ∃ (dd : Addr) (fs : List (Str × V)), d = some dd ∧ F dd = some (.xd fs) ∧ fs.map (·.1) = M.nm x.c ∧ reps M F x.vs (fs.map (·.2)))
def spD (M : Gm) (f : Fm) : Sp := fun vs H Q E => ∃ (F : Hp) (io : Option OB) (a : Addr) (ws : List V) (ds : List D),
  vs = ioV io a ++ ws ∧ Same F H ∧ Tb M F H ∧ reps M F ds ws ∧ ioAt M F H io a ∧
  match f io ds with
  | .ok r io' => ∀ v F' H', Stp M F H F' H' (io.map fun _ => a) → resAt M H F' H' r v → ioAt M F' H' io' a → Q v H'
  | .exc x io' => ∀ cls d F' H', Stp M F H F' H' (io.map fun _ => a) → xAt M F' x cls d H' → ioAt M F' H' io' a → E cls d H'
  | .bad => False
section
variable {M : Gm} {c : Cn M} {F F' H H' : Hp} {σ : St} {δ : Sl}
theorem Ok.stp (ok : Ok c F H σ δ) (st : Stp M F H F' H' none) : Ok c F' H' σ δ := by
  have kp : ∀ b o, H b = some o → NT o → H' b = some o := fun b o e n => st.kept b o e n (fun z => by cases z)
  refine ⟨st.same, ok.grow.trans st.grow, fun b e1 e2 => ?_, fun b o e1 e2 => kp b o (ok.kept b o e1 e2) (c.nt b o e1), fun b e1 => ?_, st.tb, ok.len, fun i r e => ?_, ok.dist⟩
  · obtain ⟨u, k1, k2⟩ := ok.hn e1
    exact st.nofz b u k1 k2 (ok.nofz b e1 e2)
  · obtain ⟨o, q1, q2⟩ := ok.ioh b e1
    exact ⟨o, kp b o q1 q2, q2⟩
  · obtain ⟨v, s1, s2⟩ := ok.slot i r e
    refine ⟨v, s1, ?_⟩
    cases r with
    | imm d => exact rep_mono st.grow _ _ s2
    | own o =>
      obtain ⟨b, rfl, k1, k2, k3⟩ := s2
      obtain ⟨u, hu, hn⟩ := obAt_nt k3
      exact ⟨b, rfl, st.nofz b u hu hn k1, k2, obAt_mono st.grow ((kp b u hu hn).trans hu.symm) k3⟩
    | brw o =>
      obtain ⟨b, rfl, k1, k2, k3⟩ := s2
      obtain ⟨u, hu, hn⟩ := obAt_nt k3
      exact ⟨b, rfl, st.nofz b u hu hn k1, k2, obAt_mono st.grow ((kp b u hu hn).trans hu.symm) k3⟩
theorem Ok.stpIo (ok : Ok c F H σ δ) {i : Nat} {r r' : R} {a : Addr} {ob ob' : OB} (e : δ[i]? = some (some r)) (hr : r = .own ob ∧ r' = .own ob' ∨ r = .brw ob ∧ r' = .brw ob') (ea : σ[i]? = some (some (.ref a)))
    (st : Stp M F H F' H' (some a)) (h : ioAt M F' H' (some ob') a) : Ok c F' H' σ (δ.set i (some r')) :=
  ok.mutate e hr ea st.grow (fun b o _ e1 n e2 => st.nofz b o e1 n e2) h.1 (fun b o z n q => st.kept b o q n (fun y => z (Option.some.inj y).symm)) st.same st.tb h.2
theorem Ok.resR (ok : Ok c F H σ δ) (st : Stp M F H F' H' none) {r : R} {v : V} (h : resAt M H F' H' r v) : repR c F' H' σ δ r v := by
  cases r with
  | imm d => exact h
  | own o =>
    obtain ⟨a, rfl, h1, h2, h3⟩ := h
    exact ⟨a, rfl, h1, ok.h1 h2, h3, ok.fresh1 h2⟩
  | brw o => exact h
end
end
end TS

set_option maxRecDepth 100000
set_option maxHeartbeats 4000000
namespace TS
open PySem L2
noncomputable section
def prep (M : Gm) (F H : Hp) (d : D) (v : V) : Prop := rep M F d v ∨ ∃ o a, v = V.ref a ∧ d = OB.toD o ∧ obAt M F H o a
def Post {α β : Type} (c : Cn M) (W : WX) (F : Hp) (σ : St) (ρ : Hp → Hp → Sl → α → β → Prop) (r : Res α) (Q : β → Hp → Prop) : Prop := match r with
  | .ok a δ' => ∀ v F' H', Same F F' → Ok c F' H' σ δ' → ρ F' H' δ' a v → Q v H'
  | .exc x δ' => ∀ cls d F' H', Same F F' → Ok c F' H' σ δ' → xAt M F' x cls d H' → W cls d σ H'
  | .bad => False
abbrev ρD (c : Cn M) : Hp → Hp → Sl → D → V → Prop := fun F _ _ d v => rep M F d v
abbrev ρP (c : Cn M) : Hp → Hp → Sl → D → V → Prop := fun F H _ d v => prep M F H d v
abbrev ρR (c : Cn M) (σ : St) : Hp → Hp → Sl → R → V → Prop := fun F H δ r v => repR c F H σ δ r v
abbrev ρA (c : Cn M) : Hp → Hp → Sl → List D → List V → Prop := fun F _ _ ds vs => reps M F ds vs
abbrev ρB (c : Cn M) : Hp → Hp → Sl → List D → List V → Prop := fun F H _ ds vs => Paired (prep M F H) ds vs
abbrev ρT : Hp → Hp → Sl → Bool → Bool → Prop := fun _ _ _ b k => b = k
section
variable {M : Gm} {c : Cn M} {W : WX} {F F1 H H1 : Hp} {σ : St} {δ : Sl}
theorem Post.shift {α β : Type} {ρ : Hp → Hp → Sl → α → β → Prop} {r : Res α} {Q : β → Hp → Prop} (h : Post c W F σ ρ r Q) (g : Same F F1) : Post c W F1 σ ρ r Q := by
  cases r with
  | ok a δ' => exact fun v F' H' s => h v F' H' (g.trans s)
  | exc x δ' => exact fun cls d F' H' s => h cls d F' H' (g.trans s)
  | bad => exact h
theorem Post.bind {α β γ ζ : Type} {m : Res α} {k : α → Sl → Res γ} {ρ : Hp → Hp → Sl → α → β → Prop} {ρ' : Hp → Hp → Sl → γ → ζ → Prop} {Q : ζ → Hp → Prop} {T : β → Hp → Prop} (h : Post c W F σ ρ' (m.bind k) Q)
    (f : ∀ a δ1 v F1 H1, m = .ok a δ1 → Same F F1 → Ok c F1 H1 σ δ1 → ρ F1 H1 δ1 a v → Post c W F1 σ ρ' (k a δ1) Q → T v H1) : Post c W F σ ρ m T := by
  cases m with
  | ok a δ' => exact fun v F' H' s ok r => f a δ' v F' H' rfl s ok r (Post.shift h s)
  | exc x δ' => exact h
  | bad => exact h
theorem Post.ok {α β : Type} {ρ : Hp → Hp → Sl → α → β → Prop} {a : α} {δ : Sl} {Q : β → Hp → Prop} (h : Post c W F σ ρ (.ok a δ) Q) {v : β} (ok : Ok c F H σ δ) (r : ρ F H δ a v) : Q v H := h v F H (Same.refl _) ok r
end
def DE (M : Gm) (W : WX) (X : Cx) (e : Expr) (f : FE) : Prop := ∃ t, PE X e t ∧ ∀ (c : Cn M) F H σ δ Q, Ok c F H σ δ → Post c W F σ (ρR c σ) (f δ) Q → t σ H Q
def DI (M : Gm) (W : WX) (X : Cx) (e : Expr) (f : FD) : Prop := ∃ t, PE X e t ∧ ∀ (c : Cn M) F H σ δ Q, Ok c F H σ δ → Post c W F σ (ρD c) (f δ) Q → t σ H Q
def DP (M : Gm) (W : WX) (X : Cx) (e : Expr) (f : FD) : Prop := ∃ t, PE X e t ∧ ∀ (c : Cn M) F H σ δ Q, Ok c F H σ δ → Post c W F σ (ρP c) (f δ) Q → t σ H Q
def DT (M : Gm) (W : WX) (X : Cx) (e : Expr) (f : FT) : Prop := ∃ t, PT X e t ∧ ∀ (c : Cn M) F H σ δ Q, Ok c F H σ δ → Post c W F σ ρT (f δ) Q → t σ H Q
def DW (M : Gm) (W : WX) (X : Cx) (e : Expr) (f : FT) : Prop := ∃ t, PW X e t ∧ ∀ (c : Cn M) F H σ δ Q, Ok c F H σ δ → Post c W F σ ρT (f δ) Q → t σ H Q
def DA (M : Gm) (W : WX) (X : Cx) (es : List Expr) (f : FA) : Prop := ∃ t, PA X es t ∧ ∀ (c : Cn M) F H σ δ Q, Ok c F H σ δ → Post c W F σ (ρA c) (f δ) Q → t σ H Q
def DB (M : Gm) (W : WX) (X : Cx) (es : List Expr) (f : FA) : Prop := ∃ t, PA X es t ∧ ∀ (c : Cn M) F H σ δ Q, Ok c F H σ δ → Post c W F σ (ρB c) (f δ) Q → t σ H Q
def toE (f : FD) : FE := fun δ => (f δ).bind fun d δ => .ok (.imm d) δ
def frz (f : FE) : FD := fun δ => (f δ).bind fun r δ => match r with
  | .imm d => .ok d δ
  | .own o => .ok o.toD δ
  | .brw _ => .bad
section
variable {M : Gm} {c : Cn M} {W : WX} {X : Cx} {e : Expr}
theorem DI.toE {f : FD} (h : DI M W X e f) : DE M W X e (toE f) := by
  obtain ⟨t, p, h⟩ := h
  exact ⟨t, p, fun c F H σ δ Q ok post => h c F H σ δ Q ok (Post.bind post fun d δ1 v F1 H1 _ s ok1 r post => post.ok ok1 r)⟩
theorem DE.frz {f : FE} (h : DE M W X e f) : DI M W X e (frz f) := by
  obtain ⟨t, p, h⟩ := h
  refine ⟨_, pe_lks p, fun c F H σ δ Q ok post => h c F H σ δ (fun v H' => LkS (Q v) H') ok (Post.bind post fun r δ1 v F1 H1 _ s ok1 rr post => ?_)⟩
  cases r with
  | imm d => exact .now (post.ok ok1 rr)
  | own o => exact (ok1.freeze rr).mono fun H2 ⟨F', g, ok', r'⟩ => post v F' H2 g ok' r'
  | brw o => exact post.elim
theorem DE.pk {f : FE} (h : DE M W X e f) : DP M W X e (TS.frz f) := by
  obtain ⟨t, p, h⟩ := h
  refine ⟨t, p, fun c F H σ δ Q ok post => h c F H σ δ Q ok (Post.bind post fun r δ1 v F1 H1 _ s ok1 rr post => ?_)⟩
  cases r with
  | imm d => exact post.ok ok1 (.inl rr)
  | own o =>
    obtain ⟨a, rfl, h1, h2, h3, h4⟩ := rr
    exact post.ok ok1 (.inr ⟨o, a, rfl, rfl, h3⟩)
  | brw o => exact post.elim
theorem DI.pk {f : FD} (h : DI M W X e f) : DP M W X e f := by
  obtain ⟨t, p, h⟩ := h
  refine ⟨t, p, fun c F H σ δ Q ok post => h c F H σ δ Q ok ?_⟩
  cases q : f δ with
  | ok d δ1 => rw [q] at post; exact fun v F' H' s ok' r => post v F' H' s ok' (.inl r)
  | exc x δ1 => rw [q] at post; exact post
  | bad => rw [q] at post; exact post
end
def kD (d : D) : FD := fun δ => .ok d δ
def vI (i : Nat) : FD := fun δ => match δ[i]? with
  | some (some (.imm d)) => .ok d δ
  | some (some (.own o)) => .ok o.toD (δ.set i (some (.imm o.toD)))
  | _ => .bad
def vP (i : Nat) : FD := fun δ => match δ[i]? with
  | some (some (.imm d)) => .ok d δ
  | some (some (.own o)) => .ok o.toD δ
  | some (some (.brw o)) => .ok o.toD δ
  | _ => .bad
def vR (i : Nat) : FE := fun δ => match δ[i]? with
  | some (some (.imm d)) => .ok (.imm d) δ
  | some (some (.own o)) => .ok (.own o) (δ.set i none)
  | _ => .bad
section
variable {M : Gm} {c : Cn M} {W : WX} {X : Cx} {e : Expr}
theorem di_c {v : V} {d : D} (h : PE X e (tC v)) (r : ∀ F, rep M F d v) : DI M W X e (kD d) := ⟨_, h, fun c F H σ δ Q ok post => post.ok ok (r F)⟩
theorem di_int {i j pos} : DI M W X (.Constant (.int i) j pos) (kD (.int i)) := di_c pe_int fun F => by unfold rep; rfl
theorem di_bl {b j pos} : DI M W X (.Constant (.bool b) j pos) (kD (.bl b)) := di_c pe_bl fun F => by unfold rep; rfl
theorem di_non {j pos} : DI M W X (.Constant .none j pos) (kD .non) := di_c pe_non fun F => by unfold rep; rfl
theorem di_str {x j pos} : DI M W X (.Constant (.str x) j pos) (kD (.str x)) := di_c pe_str fun F => by unfold rep; rfl
theorem Ok.drop {F H : Hp} {σ : St} {δ : Sl} (ok : Ok c F H σ δ) (i : Nat) : Ok c F H σ (δ.set i none) where
  same := ok.same
  grow := ok.grow
  nofz := ok.nofz
  kept := ok.kept
  ioh := ok.ioh
  tb := ok.tb
  len := by simp [ok.len]
  slot := fun j r e => by
    rcases getElem?_set_some e with ⟨_, e1, _⟩ | ⟨_, e1⟩
    · cases e1
    · exact ok.slot j r e1
  dist := fun j k r1 r2 w hjk e1 e2 m1 m2 s1 s2 => by
    rcases getElem?_set_some e1 with ⟨_, q, _⟩ | ⟨_, q1⟩
    · cases q
    · rcases getElem?_set_some e2 with ⟨_, q, _⟩ | ⟨_, q2⟩
      · cases q
      · exact ok.dist j k r1 r2 w hjk q1 q2 m1 m2 s1 s2
theorem Ok.take {F H : Hp} {σ : St} {δ : Sl} (ok : Ok c F H σ δ) {i : Nat} {o : OB} (e : δ[i]? = some (some (.own o))) : ∃ v, σ[i]? = some (some v) ∧ repR c F H σ (δ.set i none) (.own o) v := by
  obtain ⟨v, e1, a, rfl, h1, h2, h3⟩ := ok.slot i _ e
  refine ⟨.ref a, e1, a, rfl, h1, h2, h3, fun j r q hm z => ?_⟩
  rcases getElem?_set_some q with ⟨_, q, _⟩ | ⟨hn, q⟩
  · cases q
  · exact ok.dist i j _ r _ hn e q rfl hm e1 z
theorem Ok.setSame {F H : Hp} {σ : St} {δ : Sl} (ok : Ok c F H σ δ) {i : Nat} {d : D} {v : V} (e1 : σ[i]? = some (some v)) (r : rep M F d v) : Ok c F H σ (δ.set i (some (.imm d))) := by
  have h := ok.setI i r
  have e : σ.set i (some v) = σ := by
    apply List.ext_getElem?
    intro j
    by_cases hj : i = j
    · subst hj
      rw [List.getElem?_set_self (List.getElem?_eq_some_iff.mp e1).1, e1]
    · rw [List.getElem?_set_ne hj]
  rw [e] at h
  exact h
theorem di_var {i : Nat} (h : PE X e (tVar i)) : DI M W X e (vI i) := by
  refine ⟨_, pe_lks h, fun c F H σ δ Q ok post => ?_⟩
  unfold vI at post
  split at post
  · rename_i d q
    obtain ⟨v, e1, e2⟩ := ok.slot i _ q
    exact ⟨v, e1, .now (post.ok ok e2)⟩
  · rename_i o q
    obtain ⟨v, e1, e2⟩ := ok.take q
    refine ⟨v, e1, ((ok.drop i).freeze e2).mono fun H2 ⟨F', g, ok', r'⟩ => ?_⟩
    have ok2 := ok'.setSame (i := i) e1 r'
    rw [List.set_set] at ok2
    exact post v F' H2 g ok2 r'
  · exact post.elim
theorem dp_var {i : Nat} (h : PE X e (tVar i)) : DP M W X e (vP i) := by
  refine ⟨_, h, fun c F H σ δ Q ok post => ?_⟩
  unfold vP at post
  split at post
  · rename_i d q
    obtain ⟨v, e1, e2⟩ := ok.slot i _ q
    exact ⟨v, e1, post.ok ok (.inl e2)⟩
  · rename_i o q
    obtain ⟨v, e1, a, rfl, h1, h2, h3⟩ := ok.slot i _ q
    exact ⟨_, e1, post.ok ok (.inr ⟨o, a, rfl, rfl, h3⟩)⟩
  · rename_i o q
    obtain ⟨v, e1, a, rfl, h1, h2, h3⟩ := ok.slot i _ q
    exact ⟨_, e1, post.ok ok (.inr ⟨o, a, rfl, rfl, h3⟩)⟩
  · exact post.elim
theorem de_var {i : Nat} (h : PE X e (tVar i)) : DE M W X e (vR i) := by
  refine ⟨_, h, fun c F H σ δ Q ok post => ?_⟩
  unfold vR at post
  split at post
  · rename_i d q
    obtain ⟨v, e1, e2⟩ := ok.slot i _ q
    exact ⟨v, e1, post.ok ok e2⟩
  · rename_i o q
    obtain ⟨v, e1, e2⟩ := ok.take q
    exact ⟨v, e1, post.ok (ok.drop i) e2⟩
  · exact post.elim
end
section
variable {M : Gm} {c : Cn M} {F H : Hp} {v : V}
theorem prep_non (h : prep M F H .non v) : v = .non := by
  rcases h with h | ⟨o, a, _, e, _⟩
  · unfold rep at h; exact h
  · cases o <;> cases e
theorem prep_bl {b : Bool} (h : prep M F H (.bl b) v) : v = .bl b := by
  rcases h with h | ⟨o, a, _, e, _⟩
  · unfold rep at h; exact h
  · cases o <;> cases e
theorem prep_int {i : Int} (h : prep M F H (.int i) v) : v = .int i := by
  rcases h with h | ⟨o, a, _, e, _⟩
  · unfold rep at h; exact h
  · cases o <;> cases e
theorem prep_str {x : Str} (h : prep M F H (.str x) v) : v = .str x := by
  rcases h with h | ⟨o, a, _, e, _⟩
  · unfold rep at h; exact h
  · cases o <;> cases e
theorem prep_lst {ds : List D} (s : Same F H) (h : prep M F H (.lst ds) v) : ∃ a vs, v = .ref a ∧ H a = some (.lst vs) ∧ reps M F ds vs := by
  rcases h with h | ⟨o, a, ev, e, h⟩
  · unfold rep at h
    obtain ⟨a, vs, h1, h2, h3⟩ := h
    exact ⟨a, vs, h1, s _ _ h2, h3⟩
  · cases o <;> cases e
    obtain ⟨vs, h1, h2⟩ := h
    exact ⟨a, vs, ev, h1, h2⟩
theorem prep_tup {ds : List D} (s : Same F H) (h : prep M F H (.tup ds) v) : ∃ a vs, v = .ref a ∧ SqT M.K H a vs ∧ reps M F ds vs := by
  rcases h with h | ⟨o, a, ev, e, h⟩
  · unfold rep at h
    obtain ⟨a, vs, h1, h2, h3⟩ := h
    exact ⟨a, vs, h1, SqT.of (s _ _ h2), h3⟩
  · cases o <;> cases e
theorem reps_kt {M : Gm} {F : Hp} : ∀ ns : List Int, reps M F (ns.map D.int) (ns.map V.int)
  | [] => reps_nil
  | n :: ns => reps_cons (by unfold rep; rfl) (reps_kt ns)
theorem ktup_sq {K : PySem.W.Frag} {H : Hp} {a : Addr} {ns : List Int} (h : KTup K a ns) : SqT K H a (ns.map V.int) := by
  obtain ⟨o, its, n, h1, h2, h3, h4, h5⟩ := h
  exact .inr ⟨o, its, n, h1, h2, h3, by rw [sizeLine_eq]; omega, h5⟩
theorem prep_ktp {ns : List Int} (h : prep M F H (.ktp ns) v) : ∃ a, v = .ref a ∧ SqT M.K H a (ns.map V.int) ∧ reps M F (ns.map D.int) (ns.map V.int) := by
  rcases h with h | ⟨o, a, ev, e, h⟩
  · unfold rep at h
    obtain ⟨a, h1, h2⟩ := h
    exact ⟨a, h1, ktup_sq h2, reps_kt ns⟩
  · cases o <;> cases e
theorem prep_scr {ds : List D} (s : Same F H) (h : prep M F H (.scr ds) v) : ∃ a vs, v = .ref a ∧ SqL M.K H a vs ∧ reps M F ds vs := by
  rcases h with h | ⟨o, a, ev, e, h⟩
  · unfold rep at h
    obtain ⟨a, vs, h1, h2, h3⟩ := h
    exact ⟨a, vs, h1, s.seq h2, h3⟩
  · cases o <;> cases e
theorem prep_dK {ks : List Key} {ds : List D} (s : Same F H) (h : prep M F H (.dK ks ds) v) : ∃ (a : Addr) (kvs : List (Key × V)), v = .ref a ∧ Rd H a (.dK kvs) ∧ kvs.map (·.1) = ks ∧ reps M F ds (kvs.map (·.2)) := by
  rcases h with h | ⟨o, a, ev, e, h⟩
  · unfold rep at h
    obtain ⟨a, od, vs, h1, h2, h3, h4⟩ := h
    exact ⟨a, vs, h1, .inr ⟨od, s _ _ h2⟩, h3, h4⟩
  · cases o <;> cases e
    obtain ⟨vs, h1, h2, h3⟩ := h
    exact ⟨a, vs, ev, .inl h1, h2, h3⟩
theorem prep_dT {ks : List (List Key)} {ds : List D} (s : Same F H) (h : prep M F H (.dT ks ds) v) : ∃ (a : Addr) (kvs : List (List Key × V)), v = .ref a ∧ Rd H a (.dT kvs) ∧ kvs.map (·.1) = ks ∧ reps M F ds (kvs.map (·.2)) := by
  rcases h with h | ⟨o, a, ev, e, h⟩
  · unfold rep at h
    obtain ⟨a, od, vs, h1, h2, h3, h4⟩ := h
    exact ⟨a, vs, h1, .inr ⟨od, s _ _ h2⟩, h3, h4⟩
  · cases o <;> cases e
    obtain ⟨vs, h1, h2, h3⟩ := h
    exact ⟨a, vs, ev, .inl h1, h2, h3⟩
theorem prep_obj {n : Nat} {ds : List D} (s : Same F H) (h : prep M F H (.obj n ds) v) : ∃ (a C dx : Addr) (fs : List (Str × V)), v = .ref a ∧ M.G n = some C ∧ H a = some (.ins C dx fs) ∧ fs.map (·.1) = (M.nm n).take ds.length ∧ reps M F ds (fs.map (·.2)) := by
  rcases h with h | ⟨o, a, ev, e, h⟩
  · unfold rep at h
    obtain ⟨a, C, dx, fs, h1, h2, h3, h4, h5⟩ := h
    exact ⟨a, C, dx, fs, h1, h2, s _ _ h3, h4, h5⟩
  · cases o <;> cases e
    obtain ⟨C, dx, fs, h1, h2, h3, h4⟩ := h
    exact ⟨a, C, dx, fs, ev, h1, h2, h3, h4⟩
end
@[simp] theorem rep_int' {M : Gm} {F : Hp} (i : Int) : rep M F (.int i) (.int i) := by unfold rep; rfl
@[simp] theorem rep_bl' {M : Gm} {F : Hp} (b : Bool) : rep M F (.bl b) (.bl b) := by unfold rep; rfl
@[simp] theorem rep_str' {M : Gm} {F : Hp} (x : Str) : rep M F (.str x) (.str x) := by unfold rep; rfl
@[simp] theorem rep_non' {M : Gm} {F : Hp} : rep M F .non .non := by unfold rep; rfl
section
variable {M : Gm} {c : Cn M} {F H : Hp} {σ : St} {δ : Sl}
theorem rr_int {i : Int} : repR c F H σ δ (.imm (.int i)) (.int i) := rep_int' (M := M) (F := F) i
theorem rr_bl {b : Bool} : repR c F H σ δ (.imm (.bl b)) (.bl b) := rep_bl' (M := M) (F := F) b
theorem rr_str {x : Str} : repR c F H σ δ (.imm (.str x)) (.str x) := rep_str' (M := M) (F := F) x
end
def OpD (M : Gm) (r : R2) (g : D → D → Option R) : Prop := ∀ (c : Cn M) (F H : Hp) (σ : St) (δ : Sl) (x y : V) (dx dy : D) (z : R) (Q : VK), Ok c F H σ δ → prep M F H dx x → prep M F H dy y → g dx dy = some z →
  (∀ v F' H', Same F F' → Ok c F' H' σ δ → repR c F' H' σ δ z v → Q v H') → r x y H Q
def gOr (g g' : D → D → Option R) : D → D → Option R := fun x y => match g x y with
  | some z => some z
  | none => g' x y
theorem OpD.or {M : Gm} {r r' : R2} {g g' : D → D → Option R} (h : OpD M r g) (h' : OpD M r' g') : OpD M (fun x y H Q => r x y H Q ∨ r' x y H Q) (gOr g g') := by
  intro c F H σ δ x y dx dy z Q ok px py e q
  unfold gOr at e
  cases e1 : g dx dy with
  | some w =>
    rw [e1] at e
    cases e
    exact .inl (h c F H σ δ x y dx dy _ Q ok px py e1 q)
  | none =>
    rw [e1] at e
    exact .inr (h' c F H σ δ x y dx dy z Q ok px py e q)
def gI (C : Int → Int → Bool) (g : Int → Int → Int) : D → D → Option R
  | .int i, .int j => if C i j then some (.imm (.int (g i j))) else none
  | _, _ => none
def gB (g : Int → Int → Bool) : D → D → Option R
  | .int i, .int j => some (.imm (.bl (g i j)))
  | _, _ => none
theorem od_I {M : Gm} {C : Int → Int → Prop} {Cb : Int → Int → Bool} {g : Int → Int → Int} (hC : ∀ i j, Cb i j = true → C i j) : OpD M (rI C fun i j => .int (g i j)) (gI Cb g) := by
  intro c F H σ δ x y dx dy z Q ok px py e q
  unfold gI at e
  split at e
  · rename_i i j
    split at e
    · rename_i hc
      cases e
      exact ⟨i, j, prep_int px, prep_int py, hC i j hc, q _ F H (Same.refl _) ok rr_int⟩
    · cases e
  · cases e
theorem od_I0 {M : Gm} {g : Int → Int → Int} : OpD M (rI0 fun i j => .int (g i j)) (gI (fun _ _ => true) g) := by
  intro c F H σ δ x y dx dy z Q ok px py e q
  unfold gI at e
  split at e
  · rename_i i j
    cases e
    exact ⟨i, j, prep_int px, prep_int py, q _ F H (Same.refl _) ok rr_int⟩
  · cases e
theorem od_B {M : Gm} {g : Int → Int → Bool} : OpD M (rI0 fun i j => .bl (g i j)) (gB g) := by
  intro c F H σ δ x y dx dy z Q ok px py e q
  unfold gB at e
  split at e
  · rename_i i j
    cases e
    exact ⟨i, j, prep_int px, prep_int py, q _ F H (Same.refl _) ok rr_bl⟩
  · cases e
def fBin (g : D → D → Option R) (fa fb : FD) : FE := fun δ => (fa δ).bind fun x δ1 => (fb δ1).bind fun y δ2 => match g x y with
  | some z => .ok z δ2
  | none => .bad
def there (δ : Sl) (i : Nat) : Bool := match δ[i]? with
  | some (some _) => true
  | _ => false
def fBinV (g : D → D → Option R) (i : Nat) (fb : FD) : FE := fun δ => if there δ i then (fb δ).bind fun y δ1 => (vP i δ1).bind fun x δ2 => match g x y with
  | some z => .ok z δ2
  | none => .bad
  else .bad
section
variable {M : Gm} {c : Cn M} {W : WX} {X : Cx} {a b : Expr} {pos : Pos} {fa fb : FD} {r : R2} {g : D → D → Option R}
theorem bin_of (hd : OpD M r g) {F H : Hp} {σ : St} {δ : Sl} {x y : V} {dx dy : D} {Q : VK} (ok : Ok c F H σ δ) (px : prep M F H dx x) (py : prep M F H dy y)
    (post : Post c W F σ (ρR c σ) (match g dx dy with | some z => .ok z δ | none => .bad) Q) : r x y H Q := by
  cases e : g dx dy with
  | none => rw [e] at post; exact post.elim
  | some z => rw [e] at post; exact hd c F H σ δ x y dx dy z Q ok px py e post
theorem d_op {e : Expr} (mk : ∀ {ta tb : TE}, PE X a ta → PE X b tb → PE X e (tOp r ta tb)) (hd : OpD M r g) (ha : DI M W X a fa) (hb : DP M W X b fb) : DE M W X e (fBin g fa fb) := by
  obtain ⟨ta, pa, ha⟩ := ha
  obtain ⟨tb, pb, hb⟩ := hb
  refine ⟨_, mk pa pb, fun c F H σ δ Q ok post => ha c F H σ δ _ ok (Post.bind post fun dx δ1 x F1 H1 _ s1 ok1 rx post => hb c F1 H1 σ δ1 _ ok1 (Post.bind post fun dy δ2 y F2 H2 _ s2 ok2 ry post => ?_))⟩
  exact bin_of hd ok2 (.inl (rep_mono s2 _ _ rx)) ry post
theorem vP_run {i : Nat} {F H : Hp} {σ : St} {δ : Sl} {α β : Type} {k : D → Sl → Res α} {ρ : Hp → Hp → Sl → α → β → Prop} {Q : β → Hp → Prop} {P : Prop} (ok : Ok c F H σ δ) {v : V} (e1 : σ[i]? = some (some v))
    (post : Post c W F σ ρ ((vP i δ).bind k) Q) (h : ∀ d, vP i δ = .ok d δ → prep M F H d v → Post c W F σ ρ (k d δ) Q → P) : P := by
  unfold vP at post h
  split at post
  · rename_i d q
    obtain ⟨v', e2, e3⟩ := ok.slot i _ q
    rw [e1] at e2; cases e2
    exact h d (by rw [q]) (.inl e3) post
  · rename_i o q
    obtain ⟨v', e2, a, rfl, h1, h2, h3⟩ := ok.slot i _ q
    rw [e1] at e2; cases e2
    exact h o.toD (by rw [q]) (.inr ⟨o, a, rfl, rfl, h3⟩) post
  · rename_i o q
    obtain ⟨v', e2, a, rfl, h1, h2, h3⟩ := ok.slot i _ q
    rw [e1] at e2; cases e2
    exact h o.toD (by rw [q]) (.inr ⟨o, a, rfl, rfl, h3⟩) post
  · exact post.elim
theorem there_v {F H : Hp} {σ : St} {δ : Sl} {i : Nat} (ok : Ok c F H σ δ) (h : there δ i = true) : ∃ v, σ[i]? = some (some v) := by
  unfold there at h
  split at h
  · rename_i r q
    obtain ⟨v, e, _⟩ := ok.slot i r q
    exact ⟨v, e⟩
  · cases h
theorem d_opV {e : Expr} {i : Nat} (mk : ∀ {ta tb : TE}, PE X a ta → PE X b tb → PE X e (tOp r ta tb)) (hd : OpD M r g) (ha : PE X a (tVar i)) (hb : DP M W X b fb) : DE M W X e (fBinV g i fb) := by
  obtain ⟨tb, pb, hb⟩ := hb
  refine ⟨_, mk ha pb, fun c F H σ δ Q ok post => ?_⟩
  unfold fBinV at post
  by_cases ht : there δ i = true
  · rw [if_pos ht] at post
    obtain ⟨v, e1⟩ := there_v ok ht
    refine ⟨v, e1, hb c F H σ δ _ ok (Post.bind post fun dy δ2 y F2 H2 _ s2 ok2 ry post => ?_)⟩
    exact vP_run ok2 e1 post fun dx _ px post => bin_of hd ok2 px ry post
  · rw [if_neg ht] at post
    exact post.elim
end
def CMulB (i j : Int) : Bool := gd (i.natAbs.log2 + j.natAbs.log2 < 1000000)
def CDivB (i j : Int) : Bool := gd (0 < j ∧ j.natAbs.log2 < 9000)
def CDivNB (i j : Int) : Bool := gd (j < 0 ∧ j.natAbs.log2 < 9000)
def CModB (i j : Int) : Bool := decide (0 < j)
def CPowB (i j : Int) : Bool := gd (0 ≤ j ∧ j ≤ 1000000 ∧ i.natAbs < 18446744073709551616)
section
variable {M : Gm} {c : Cn M} {W : WX} {X : Cx}
theorem od_sub : OpD M (rI0 fun i j => .int (i - j)) (gI (fun _ _ => true) fun i j => i - j) := od_I0
theorem od_mul : OpD M (rI CMulW fun i j => .int (i * j)) (gI CMulB fun i j => i * j) := od_I fun i j h => of_gd (p := (i.natAbs.log2 + j.natAbs.log2 < 1000000)) h
theorem od_fdiv : OpD M (rI CDivW fun i j => .int (i / j)) (gI CDivB fun i j => i / j) := od_I fun i j h => of_gd (p := (0 < j ∧ j.natAbs.log2 < 9000)) h
theorem od_fdivN : OpD M (rI (fun _ j => j < 0 ∧ j.natAbs.log2 < 9000) fun i j => .int (i.fdiv j)) (gI CDivNB fun i j => i.fdiv j) := od_I fun i j h => of_gd (p := (j < 0 ∧ j.natAbs.log2 < 9000)) h
theorem od_mod : OpD M (rI (fun _ j => 0 < j) fun i j => .int (i % j)) (gI CModB fun i j => i % j) := od_I fun i j h => of_decide_eq_true h
theorem od_pow : OpD M (rI CPow fun i j => .int (i ^ j.toNat)) (gI CPowB fun i j => i ^ j.toNat) := od_I fun i j h => by
  obtain ⟨h1, h2, h3⟩ := of_gd h
  exact ⟨h1, h2, by have e : (2:Nat) ^ 64 = 18446744073709551616 := by decide
                    rw [e]; exact h3⟩
end
def gCat : D → D → Option R
  | .lst xs, .lst ys => if xs.length + ys.length ≤ 16777216 then some (.own (.l (xs ++ ys))) else none
  | _, _ => none
def gRep : D → D → Option R
  | .lst xs, .int k => if gd (0 ≤ k ∧ k < 9223372036854775808 ∧ xs.length * k.toNat ≤ 16777216) then some (.own (.l ((List.replicate k.toNat xs).flatten))) else none
  | _, _ => none
def gCatS : D → D → Option R
  | .str x, .str y => if x.length + y.length ≤ 16777216 then some (.imm (.str (x ++ y))) else none
  | _, _ => none
theorem reps_rep {M : Gm} {F : Hp} {ds : List D} {vs : List V} (h : reps M F ds vs) : ∀ n : Nat, reps M F (List.replicate n ds).flatten (List.replicate n vs).flatten
  | 0 => by simp [reps]
  | n + 1 => by
    rw [List.replicate_succ, List.replicate_succ, List.flatten_cons, List.flatten_cons]
    exact reps_append h (reps_rep h n)
section
variable {M : Gm} {c : Cn M} {W : WX} {X : Cx}
theorem new_list {F H : Hp} {σ : St} {δ : Sl} (ok : Ok c F H σ δ) {p : Addr} (hp : H p = none) {ds : List D} {vs : List V} (r : reps M F ds vs) : Ok c F (upd H p (.lst vs)) σ δ ∧ repR c F (upd H p (.lst vs)) σ δ (.own (.l ds)) (.ref p) :=
  ⟨ok.alloc hp, ok.made hp ⟨vs, upd_same, r⟩⟩
theorem od_cat : OpD M rCat gCat := by
  intro c F H σ δ x y dx dy z Q ok px py e q
  unfold gCat at e
  split at e
  · rename_i xs ys
    split at e
    · rename_i hl
      cases e
      obtain ⟨a, vs, h1, h2, h3⟩ := prep_lst ok.same px
      obtain ⟨b, ws, k1, k2, k3⟩ := prep_lst ok.same py
      refine ⟨a, b, vs, ws, h1, k1, h2, k2, ?_, fun p hp => ?_⟩
      · rw [reps_length h3, reps_length k3, sizeLine_eq]; exact hl
      · obtain ⟨o1, o2⟩ := new_list ok hp (reps_append h3 k3)
        exact q _ F _ (Same.refl _) o1 o2
    · cases e
  · cases e
theorem od_rep : OpD M rRep gRep := by
  intro c F H σ δ x y dx dy z Q ok px py e q
  unfold gRep at e
  split at e
  · rename_i xs k
    split at e
    · rename_i hl
      cases e
      obtain ⟨h0, hk, hz⟩ := of_gd hl
      obtain ⟨a, vs, h1, h2, h3⟩ := prep_lst ok.same px
      refine ⟨a, k, vs, h1, prep_int py, h2, by omega, by omega, ?_, fun p hp => ?_⟩
      · rw [reps_length h3, sizeLine_eq]; exact hz
      · obtain ⟨o1, o2⟩ := new_list ok hp (reps_rep h3 k.toNat)
        exact q _ F _ (Same.refl _) o1 o2
    · cases e
  · cases e
theorem od_catS : OpD M (fun x y H Q => ∃ i j, x = .str i ∧ y = .str j ∧ i.length + j.length ≤ sizeLine ∧ Q (.str (i ++ j)) H) gCatS := by
  intro c F H σ δ x y dx dy z Q ok px py e q
  unfold gCatS at e
  split at e
  · rename_i i j
    split at e
    · rename_i hl
      cases e
      exact ⟨i, j, prep_str px, prep_str py, by rw [sizeLine_eq]; exact hl, q _ F H (Same.refl _) ok rr_str⟩
    · cases e
  · cases e
end
end
end TS

set_option maxRecDepth 100000
set_option maxHeartbeats 4000000
namespace TS
open PySem L2
noncomputable section
mutual
def toP : D → Option PyData
  | .non => some .none
  | .bl b => some (.bool b)
  | .int i => some (.int i)
  | .str x => some (.str x)
  | .lst ds => (toPs ds).map .list
  | .tup ds => (toPs ds).map .tuple
  | .ktp ns => some (.tuple (ns.map PyData.int))
  | _ => none
def toPs : List D → Option (List PyData)
  | [] => some []
  | d :: ds => match toP d, toPs ds with
    | some p, some ps => some (p :: ps)
    | _, _ => none
end
section
variable {M : Gm} {F H : Hp}
mutual
theorem rep_dp (s : Same F H) : ∀ (d : D) (v : V) (p : PyData), rep M F d v → toP d = some p → Dp M.K H v p
  | .non, v, p, h, e => by unfold rep at h; unfold toP at e; cases e; subst h; exact .non
  | .bl b, v, p, h, e => by unfold rep at h; unfold toP at e; cases e; subst h; exact .bl b
  | .int b, v, p, h, e => by unfold rep at h; unfold toP at e; cases e; subst h; exact .int b
  | .str b, v, p, h, e => by unfold rep at h; unfold toP at e; cases e; subst h; exact .str b
  | .lst ds, v, p, h, e => by
    unfold rep at h
    unfold toP at e
    obtain ⟨ps, e1, rfl⟩ := Option.map_eq_some_iff.mp e
    obtain ⟨a, vs, rfl, h2, h3⟩ := h
    exact .lst (SqL.of (s _ _ h2)) (reps_dp s ds vs ps h3 e1)
  | .tup ds, v, p, h, e => by
    unfold rep at h
    unfold toP at e
    obtain ⟨ps, e1, rfl⟩ := Option.map_eq_some_iff.mp e
    obtain ⟨a, vs, rfl, h2, h3⟩ := h
    exact .tup (SqT.of (s _ _ h2)) (reps_dp s ds vs ps h3 e1)
  | .scr ds, v, p, h, e => by unfold toP at e; cases e
  | .dK ks ds, v, p, h, e => by unfold toP at e; cases e
  | .dT ks ds, v, p, h, e => by unfold toP at e; cases e
  | .obj c ds, v, p, h, e => by unfold toP at e; cases e
  | .cls c, v, p, h, e => by unfold toP at e; cases e
  | .lam, v, p, h, e => by unfold toP at e; cases e
  | .ktp ns, v, p, h, e => by
    unfold rep at h
    unfold toP at e
    cases e
    obtain ⟨a, rfl, h2⟩ := h
    refine .tup (ktup_sq h2) ?_
    clear h2
    induction ns with
    | nil => exact .nil
    | cons i ns ih => exact .cons (.int i) ih
theorem reps_dp (s : Same F H) : ∀ (ds : List D) (vs : List V) (ps : List PyData), reps M F ds vs → toPs ds = some ps → DpAll M.K H vs ps
  | [], vs, ps, h, e => by unfold reps at h; unfold toPs at e; cases e; subst h; exact .nil
  | d :: ds, vs, ps, h, e => by
    unfold reps at h
    obtain ⟨v, r, rfl, h2, h3⟩ := h
    unfold toPs at e
    split at e
    · rename_i p qs e1 e2
      cases e
      exact .cons (rep_dp s d v p h2 e1) (reps_dp s ds r qs h3 e2)
    · cases e
end
end
theorem prep_dp {M : Gm} {F H : Hp} {d : D} {v : V} {p : PyData} (s : Same F H) (h : prep M F H d v) (e : toP d = some p) : Dp M.K H v p := by
  rcases h with h | ⟨o, a, rfl, rfl, h⟩
  · exact rep_dp s d v p h e
  · cases o with
    | l ds =>
      obtain ⟨vs, h1, h2⟩ := h
      unfold OB.toD toP at e
      obtain ⟨ps, e1, rfl⟩ := Option.map_eq_some_iff.mp e
      exact .lst (SqL.of h1) (reps_dp s ds vs ps h2 e1)
    | dK ks ds => unfold OB.toD toP at e; cases e
    | dT ks ds => unfold OB.toD toP at e; cases e
    | o n ds => unfold OB.toD toP at e; cases e
def gEq : D → D → Option R := fun x y => match toP x, toP y with
  | some p, some q => if SeqAt.shaped p && SeqAt.shaped q then some (.imm (.bl (PyData.eqv p q))) else none
  | _, _ => none
def gNe : D → D → Option R := fun x y => match toP x, toP y with
  | some p, some q => if SeqAt.shaped p && SeqAt.shaped q then some (.imm (.bl (!PyData.eqv p q))) else none
  | _, _ => none
theorem od_eq {M : Gm} : OpD M (rEqD M.K) gEq := by
  intro c F H σ δ x y dx dy z Q ok px py e q
  unfold gEq at e
  split at e
  · rename_i p p' e1 e2
    split at e
    · rename_i hs
      cases e
      rw [Bool.and_eq_true] at hs
      exact ⟨p, p', prep_dp ok.same px e1, prep_dp ok.same py e2, hs.1, hs.2, q _ F H (Same.refl _) ok rr_bl⟩
    · cases e
  · cases e
theorem od_ne {M : Gm} : OpD M (rNeD M.K) gNe := by
  intro c F H σ δ x y dx dy z Q ok px py e q
  unfold gNe at e
  split at e
  · rename_i p p' e1 e2
    split at e
    · rename_i hs
      cases e
      rw [Bool.and_eq_true] at hs
      exact ⟨p, p', prep_dp ok.same px e1, prep_dp ok.same py e2, hs.1, hs.2, q _ F H (Same.refl _) ok rr_bl⟩
    · cases e
  · cases e
def gNotN : D → D → Option R
  | .non, .non => some (.imm (.bl false))
  | _, .non => some (.imm (.bl true))
  | _, _ => none
theorem prep_ne_non {M : Gm} {F H : Hp} {d : D} {v : V} (h : prep M F H d v) (hd : d ≠ .non) : v ≠ .non := by
  rcases h with h | ⟨o, a, rfl, _, _⟩
  · cases d <;> unfold rep at h <;> first | exact absurd rfl hd | (rintro rfl; cases h; done) | (rintro rfl; obtain ⟨_, _, h, _⟩ := h; cases h; done) | (rintro rfl; obtain ⟨_, _, _, _, h, _⟩ := h; cases h; done) | (rintro rfl; obtain ⟨_, _, _, h, _⟩ := h; cases h; done) | (rintro rfl; obtain ⟨_, _, h⟩ := h; cases h; done) | (rintro rfl; obtain ⟨_, h, _⟩ := h; cases h; done) | (rintro rfl; obtain ⟨_, h⟩ := M.lm.rf h; cases h; done)
  · intro h; cases h
theorem od_notN {M : Gm} : OpD M (fun x y H Q => y = .non ∧ Q (.bl (!decide (x = .non))) H) gNotN := by
  intro c F H σ δ x y dx dy z Q ok px py e q
  unfold gNotN at e
  split at e
  · cases e
    have h1 := prep_non px
    subst h1
    exact ⟨prep_non py, q _ F H (Same.refl _) ok rr_bl⟩
  · rename_i hn
    cases e
    refine ⟨prep_non py, ?_⟩
    rw [decide_eq_false (prep_ne_non px hn)]
    exact q _ F H (Same.refl _) ok rr_bl
  · cases e
def keyOf : D → Option Key
  | .int i => some (.inl i)
  | .str x => some (.inr x)
  | _ => none
def keysOf : List D → Option (List Key)
  | [] => some []
  | d :: ds => match keyOf d, keysOf ds with
    | some k, some ks => some (k :: ks)
    | _, _ => none
def lookD {κ : Type} [DecidableEq κ] : List κ → List D → κ → Option D
  | k' :: ks, d :: ds, k => if k' = k then some d else lookD ks ds k
  | _, _, _ => none
theorem keyOf_v {M : Gm} {F H : Hp} {d : D} {v : V} {k : Key} (h : prep M F H d v) (e : keyOf d = some k) : v = kV k := by
  cases d <;> simp [keyOf] at e
  · subst e; exact prep_int h
  · subst e; exact prep_str h
theorem lookD_val {M : Gm} {F : Hp} {κ : Type} [DecidableEq κ] : ∀ {kvs : List (κ × V)} {ds : List D} (k : κ), reps M F ds (kvs.map (·.2)) → (∀ d, lookD (kvs.map (·.1)) ds k = some d → ∃ v, valV kvs k = some v ∧ rep M F d v) ∧ (lookD (kvs.map (·.1)) ds k = none → valV kvs k = none)
  | [], ds, k, h => by
    constructor
    · intro d e; simp [lookD] at e
    · intro _; rfl
  | p :: kvs, ds, k, h => by
    cases ds with
    | nil => unfold reps at h; cases h
    | cons d ds =>
      rw [List.map_cons, reps_cons_iff] at h
      obtain ⟨h1, h2⟩ := h
      have ih := lookD_val k h2
      unfold valV at ih ⊢
      by_cases e : p.1 = k
      · constructor
        · intro d' e'
          simp only [List.map_cons, lookD, if_pos e] at e'
          cases e'
          exact ⟨p.2, by simp [List.find?_cons, e], h1⟩
        · intro e'
          simp only [List.map_cons, lookD, if_pos e] at e'
          cases e'
      · constructor
        · intro d' e'
          simp only [List.map_cons, lookD, if_neg e] at e'
          obtain ⟨v, q1, q2⟩ := ih.1 d' e'
          exact ⟨v, by simp only [List.find?_cons, decide_eq_false e]; exact q1, q2⟩
        · intro e'
          simp only [List.map_cons, lookD, if_neg e] at e'
          simp only [List.find?_cons, decide_eq_false e]
          exact ih.2 e'
theorem atI_reps {M : Gm} {F : Hp} {ds : List D} {vs : List V} {i : Int} {d : D} (h : reps M F ds vs) (e : atI ds i = some d) : ∃ v, atI vs i = some v ∧ rep M F d v := by
  unfold atI at e ⊢
  rw [reps_length h]
  cases q : ixN ds.length i with
  | none => rw [q] at e; cases e
  | some j =>
    rw [q] at e
    exact reps_get h e
theorem keysOf_v {M : Gm} {F : Hp} : ∀ {ds : List D} {vs : List V} {ks : List Key}, reps M F ds vs → keysOf ds = some ks → vs = ks.map kV
  | [], vs, ks, h, e => by unfold reps at h; unfold keysOf at e; cases e; subst h; rfl
  | d :: ds, vs, ks, h, e => by
    unfold reps at h
    obtain ⟨v, r, rfl, h2, h3⟩ := h
    unfold keysOf at e
    split at e
    · rename_i k ks' e1 e2
      cases e
      rw [keyOf_v (M := M) (F := F) (H := F) (.inl h2) e1, keysOf_v h3 e2]; rfl
    · cases e
theorem prep_tupK {M : Gm} {F H : Hp} {v : V} {ds : List D} {ks : List Key} (s : Same F H) (h : prep M F H (.tup ds) v) (e : keysOf ds = some ks) : ∃ b, v = .ref b ∧ H b = some (.tup (ks.map kV)) := by
  rcases h with h | ⟨o, a, ev, e, h⟩
  · unfold rep at h
    obtain ⟨a, vs, h1, h2, h3⟩ := h
    have := keysOf_v h3 e
    subst this
    exact ⟨a, h1, s _ _ h2⟩
  · cases o <;> cases e
def gIx : D → D → Option R
  | .dT ks ds, .tup kds => (keysOf kds).bind fun k => (lookD ks ds k).map .imm
  | .lst xs, .int i => (atI xs i).map .imm
  | .tup xs, .int i => (atI xs i).map .imm
  | .ktp ns, .int i => (atI (ns.map D.int) i).map .imm
  | .scr xs, .int i => (atI xs i).map .imm
  | .str z, .int i => if z.length ≤ 16777216 then (atI z.cps.toList i).map (fun c => .imm (.str ⟨#[c]⟩)) else none
  | .dK ks ds, k => (keyOf k).bind fun k => (lookD ks ds k).map .imm
  | _, _ => none
def rIxD : R2 := fun x y H Q => ∃ a v, x = .ref a ∧ DGet H a y (some v) ∧ Q v H
theorem ix_dict {X : Cx} (hu : X.A.units + 1 < cLine) : IxR X rIxD := by
  intro value slice pins s σ H x y v u Q I rx ry h hs
  obtain ⟨a, z, rfl, g, q⟩ := h
  cases rx
  exact PyProof.Rows.tail_any (dict_typeIs I g) PySem.F.slot_dict_getitem.lookup (d_getItem hu I g ry fun w' s3 I3 rw' => ⟨z, H, I3, rw', q⟩) hs
def rIxAll (K : PySem.W.Frag) : R2 := fun x y H Q => rIx K x y H Q ∨ rIxD x y H Q
theorem ix_all {X : Cx} {M : Gm} (hK : X.K = M.K) (hu : X.A.units + 1 < cLine) : IxR X (rIxAll M.K) := by rw [← hK]; exact ix_seq.or (ix_dict hu)
theorem od_ix {M : Gm} : OpD M (rIxAll M.K) gIx := by
  intro c F H σ δ x y dx dy z Q ok px py e q
  unfold gIx at e
  split at e
  · rename_i ks ds kds
    obtain ⟨kk, e1, e2⟩ := Option.bind_eq_some_iff.mp e
    obtain ⟨d, e3, rfl⟩ := Option.map_eq_some_iff.mp e2
    obtain ⟨a, kvs, rfl, h2, h3, h4⟩ := prep_dT ok.same px
    obtain ⟨b, rfl, hb⟩ := prep_tupK ok.same py e1
    subst h3
    obtain ⟨v, k1, k2⟩ := (lookD_val kk h4).1 d e3
    refine .inr ⟨a, v, rfl, ?_, q _ F H (Same.refl _) ok k2⟩
    rw [← k1]
    exact .inr ⟨_, _, _, h2, rfl, hb, rfl⟩
  · rename_i xs i
    obtain ⟨d, e1, rfl⟩ := Option.map_eq_some_iff.mp e
    obtain ⟨a, vs, rfl, h2, h3⟩ := prep_lst ok.same px
    obtain ⟨v, k1, k2⟩ := atI_reps h3 e1
    exact .inl (.inl ⟨a, vs, i, v, rfl, prep_int py, SqL.of h2, k1, q _ F H (Same.refl _) ok k2⟩)
  · rename_i xs i
    obtain ⟨d, e1, rfl⟩ := Option.map_eq_some_iff.mp e
    obtain ⟨a, vs, rfl, h2, h3⟩ := prep_tup ok.same px
    obtain ⟨v, k1, k2⟩ := atI_reps h3 e1
    exact .inl (.inr (.inl ⟨a, vs, i, v, rfl, prep_int py, h2, k1, q _ F H (Same.refl _) ok k2⟩))
  · rename_i xs i
    obtain ⟨d, e1, rfl⟩ := Option.map_eq_some_iff.mp e
    obtain ⟨a, rfl, h2, h3⟩ := prep_ktp px
    obtain ⟨v, k1, k2⟩ := atI_reps h3 e1
    exact .inl (.inr (.inl ⟨a, _, i, v, rfl, prep_int py, h2, k1, q _ F H (Same.refl _) ok k2⟩))
  · rename_i xs i
    obtain ⟨d, e1, rfl⟩ := Option.map_eq_some_iff.mp e
    obtain ⟨a, vs, rfl, h2, h3⟩ := prep_scr ok.same px
    obtain ⟨v, k1, k2⟩ := atI_reps h3 e1
    exact .inl (.inl ⟨a, vs, i, v, rfl, prep_int py, h2, k1, q _ F H (Same.refl _) ok k2⟩)
  · rename_i zz i
    split at e
    · rename_i hl
      obtain ⟨cc, e1, rfl⟩ := Option.map_eq_some_iff.mp e
      exact .inl (.inr (.inr ⟨zz, i, cc, prep_str px, prep_int py, by rw [sizeLine_eq]; exact hl, e1, q _ F H (Same.refl _) ok rr_str⟩))
    · cases e
  · rename_i ks ds k
    obtain ⟨kk, e1, e2⟩ := Option.bind_eq_some_iff.mp e
    obtain ⟨d, e3, rfl⟩ := Option.map_eq_some_iff.mp e2
    obtain ⟨a, kvs, rfl, h2, h3, h4⟩ := prep_dK ok.same px
    subst h3
    obtain ⟨v, k1, k2⟩ := (lookD_val kk h4).1 d e3
    refine .inr ⟨a, v, rfl, ?_, q _ F H (Same.refl _) ok k2⟩
    rw [keyOf_v py e1, ← k1]
    exact .inl ⟨_, _, h2, rfl, rfl⟩
  · cases e
def flatD : D → Bool
  | .non => true
  | .bl _ => true
  | .int _ => true
  | .str _ => true
  | _ => false
def eqFl : D → D → Bool
  | .non, .non => true
  | .bl a, .bl b => a == b
  | .bl a, .int b => (if a then 1 else 0) == b
  | .int a, .bl b => a == (if b then 1 else 0)
  | .int a, .int b => a == b
  | .str a, .str b => a == b
  | _, _ => false
def inD (x : D) (xs : List D) : Bool := xs.any fun y => eqFl y x
def gIn : D → D → Option R
  | x, .lst ys => if flatD x && ys.all flatD then some (.imm (.bl (inD x ys))) else none
  | x, .tup ys => if flatD x && ys.all flatD then some (.imm (.bl (inD x ys))) else none
  | x, .dK ks ds => (keyOf x).map fun k => .imm (.bl (lookD ks ds k).isSome)
  | .tup kds, .dT ks ds => (keysOf kds).map fun k => .imm (.bl (lookD ks ds k).isSome)
  | _, _ => none
def gNotIn : D → D → Option R
  | x, .lst ys => if flatD x && ys.all flatD then some (.imm (.bl (!inD x ys))) else none
  | x, .tup ys => if flatD x && ys.all flatD then some (.imm (.bl (!inD x ys))) else none
  | x, .dK ks ds => (keyOf x).map fun k => .imm (.bl (!(lookD ks ds k).isSome))
  | .tup kds, .dT ks ds => (keysOf kds).map fun k => .imm (.bl (!(lookD ks ds k).isSome))
  | _, _ => none
def rInD (neg : Bool) : R2 := fun y x H Q => ∃ a o, x = .ref a ∧ DGet H a y o ∧ Q (.bl (if neg then !o.isSome else o.isSome)) H
theorem op_inD {X : Cx} (hu : X.A.units + 1 < cLine) : OpR X (compareOp .In) (rInD false) := by
  intro pins s σ H y x iv u Q I ry rx h
  obtain ⟨a, o, rfl, g, q⟩ := h
  obtain rfl : u = Value.ref a := rx
  exact d_in hu I g ry fun s3 I3 => ⟨.bl o.isSome, H, I3, rfl, q⟩
def rInAll (K : PySem.W.Frag) (neg : Bool) : R2 := fun x y H Q => rIn K neg x y H Q ∨ rInD neg x y H Q
theorem op_inAll {X : Cx} {M : Gm} (hK : X.K = M.K) (hu : X.A.units + 1 < cLine) : OpR X (compareOp .In) (rInAll M.K false) := by rw [← hK]; exact op_in_seq.or (op_inD hu)
def flV : D → V
  | .non => .non
  | .bl b => .bl b
  | .int i => .int i
  | .str x => .str x
  | _ => .non
theorem flat_v {M : Gm} {F : Hp} {d : D} {v : V} (f : flatD d = true) (h : rep M F d v) : v = flV d ∧ flatV v = true := by
  cases d <;> simp [flatD] at f <;> unfold rep at h <;> subst h <;> exact ⟨rfl, rfl⟩
theorem flats_v {M : Gm} {F : Hp} : ∀ {ds : List D} {vs : List V}, ds.all flatD = true → reps M F ds vs → vs = ds.map flV ∧ vs.all flatV = true
  | [], vs, _, h => by unfold reps at h; subst h; exact ⟨rfl, rfl⟩
  | d :: ds, vs, f, h => by
    unfold reps at h
    obtain ⟨v, r, rfl, h2, h3⟩ := h
    rw [List.all_cons, Bool.and_eq_true] at f
    obtain ⟨e1, e2⟩ := flat_v f.1 h2
    obtain ⟨e3, e4⟩ := flats_v f.2 h3
    exact ⟨by rw [e1, e3]; rfl, by rw [List.all_cons, e2, e4]; rfl⟩
theorem eqFl_v {d e : D} (f : flatD d = true) (f' : flatD e = true) : eqV (flV d) (flV e) = eqFl d e := by
  cases d <;> simp [flatD] at f <;> cases e <;> simp [flatD] at f' <;> rfl
theorem inD_v {x : D} : ∀ {ds : List D}, flatD x = true → ds.all flatD = true → inV (flV x) (ds.map flV) = inD x ds
  | [], _, _ => rfl
  | d :: ds, f, f' => by
    rw [List.all_cons, Bool.and_eq_true] at f'
    have ih := inD_v f f'.2
    unfold inV inD at ih ⊢
    rw [List.map_cons, List.any_cons, List.any_cons, eqFl_v f'.1 f, ih]
theorem flat_p {M : Gm} {F H : Hp} {d : D} {v : V} (f : flatD d = true) (h : prep M F H d v) : v = flV d ∧ flatV v = true := by
  rcases h with h | ⟨o, a, _, rfl, _⟩
  · exact flat_v f h
  · cases o <;> cases f
theorem od_in {M : Gm} (neg : Bool) {g : D → D → Option R} (hg : g = if neg then gNotIn else gIn) : OpD M (rInAll M.K neg) g := by
  intro c F H σ δ x y dx dy z Q ok px py e q
  have seq : ∀ {ys : List D} {vs : List V} {a : Addr}, y = .ref a → (SqL M.K H a vs ∨ SqT M.K H a vs) → reps M F ys vs → (flatD dx && ys.all flatD) = true → z = .imm (.bl (if neg then !inD dx ys else inD dx ys)) → rInAll M.K neg x y H Q := by
    intro ys vs a e1 e2 e3 e4 e5
    rw [Bool.and_eq_true] at e4
    obtain ⟨f1, f2⟩ := flat_p e4.1 px
    obtain ⟨f3, f4⟩ := flats_v e4.2 e3
    refine .inl ⟨a, vs, e1, e2, f2, f4, ?_⟩
    rw [f1, f3, inD_v e4.1 e4.2]
    rw [e5] at q
    exact q _ F H (Same.refl _) ok rr_bl
  have dict : ∀ {ks : List Key} {ds : List D} {k : Key}, prep M F H (.dK ks ds) y → keyOf dx = some k → z = .imm (.bl (if neg then !(lookD ks ds k).isSome else (lookD ks ds k).isSome)) → rInAll M.K neg x y H Q := by
    intro ks ds k py e1 e2
    obtain ⟨a, kvs, rfl, h2, h3, h4⟩ := prep_dK ok.same py
    subst h3
    have lk := lookD_val k h4
    refine .inr ⟨a, valV kvs k, rfl, ?_, ?_⟩
    · rw [keyOf_v px e1]; exact .inl ⟨_, _, h2, rfl, rfl⟩
    · rw [e2] at q
      have e : (valV kvs k).isSome = (lookD (kvs.map (·.1)) ds k).isSome := by
        cases l : lookD (kvs.map (·.1)) ds k with
        | none => rw [lk.2 l]; rfl
        | some d => obtain ⟨v, e, _⟩ := lk.1 d l; rw [e]; rfl
      rw [e]
      exact q _ F H (Same.refl _) ok rr_bl
  have dictT : ∀ {kds : List D} {ks : List (List Key)} {ds : List D} {k : List Key}, prep M F H (.dT ks ds) y → prep M F H (.tup kds) x → keysOf kds = some k → z = .imm (.bl (if neg then !(lookD ks ds k).isSome else (lookD ks ds k).isSome)) → rInAll M.K neg x y H Q := by
    intro kds ks ds k py px e1 e2
    obtain ⟨a, kvs, rfl, h2, h3, h4⟩ := prep_dT ok.same py
    obtain ⟨b, rfl, hb⟩ := prep_tupK ok.same px e1
    subst h3
    have lk := lookD_val k h4
    refine .inr ⟨a, valV kvs k, rfl, .inr ⟨_, _, _, h2, rfl, hb, rfl⟩, ?_⟩
    rw [e2] at q
    have e : (valV kvs k).isSome = (lookD (kvs.map (·.1)) ds k).isSome := by
      cases l : lookD (kvs.map (·.1)) ds k with
      | none => rw [lk.2 l]; rfl
      | some d => obtain ⟨v, e, _⟩ := lk.1 d l; rw [e]; rfl
    rw [e]
    exact q _ F H (Same.refl _) ok rr_bl
  subst hg
  cases neg with
  | false =>
    have e : gIn dx dy = some z := e
    unfold gIn at e
    split at e
    · split at e
      · rename_i ys hf
        cases e
        obtain ⟨a, vs, h1, h2, h3⟩ := prep_lst ok.same py
        exact seq h1 (.inl (SqL.of h2)) h3 hf rfl
      · cases e
    · split at e
      · rename_i ys hf
        cases e
        obtain ⟨a, vs, h1, h2, h3⟩ := prep_tup ok.same py
        exact seq h1 (.inr h2) h3 hf rfl
      · cases e
    · obtain ⟨k, e1, e2⟩ := Option.map_eq_some_iff.mp e
      exact dict py e1 e2.symm
    · obtain ⟨k, e1, e2⟩ := Option.map_eq_some_iff.mp e
      exact dictT py px e1 e2.symm
    · cases e
  | true =>
    have e : gNotIn dx dy = some z := e
    unfold gNotIn at e
    split at e
    · split at e
      · rename_i ys hf
        cases e
        obtain ⟨a, vs, h1, h2, h3⟩ := prep_lst ok.same py
        exact seq h1 (.inl (SqL.of h2)) h3 hf rfl
      · cases e
    · split at e
      · rename_i ys hf
        cases e
        obtain ⟨a, vs, h1, h2, h3⟩ := prep_tup ok.same py
        exact seq h1 (.inr h2) h3 hf rfl
      · cases e
    · obtain ⟨k, e1, e2⟩ := Option.map_eq_some_iff.mp e
      exact dict py e1 e2.symm
    · obtain ⟨k, e1, e2⟩ := Option.map_eq_some_iff.mp e
      exact dictT py px e1 e2.symm
    · cases e
end
end TS

set_option maxRecDepth 100000
set_option maxHeartbeats 4000000
namespace TS
open PySem L2
noncomputable section
abbrev RE (M : Gm) (W : WX) (t : TE) (f : FE) : Prop := ∀ (c : Cn M) F H σ δ Q, Ok c F H σ δ → Post c W F σ (ρR c σ) (f δ) Q → t σ H Q
def fTst (f : FE) : FT := fun δ => (f δ).bind fun r δ => match r with
  | .imm (.bl b) => .ok b δ
  | _ => .bad
section
variable {M : Gm} {c : Cn M} {W : WX} {X : Cx} {e a b : Expr} {pos : Pos}
theorem tst_of {t : TE} {f : FE} (h : RE M W t f) : ∀ (c : Cn M) F H σ δ Q, Ok c F H σ δ → Post c W F σ ρT (fTst f δ) Q → tTest t σ H Q := fun c F H σ δ Q ok post =>
  h c F H σ δ _ ok (Post.bind post fun r δ1 v F1 H1 _ s ok1 rr post => by
    split at post
    · rename_i b0 _
      have e : v = .bl b0 := by
        have z : rep M F1 (.bl b0) v := rr
        unfold rep at z; exact z
      subst e
      exact ⟨b0, rfl, post.ok ok1 rfl⟩
    · exact post.elim)
theorem dt_val {f : FE} (h : DE M W X e f) (he : ∀ whole, isTrue e X.env whole = (do let v ← whole; standAt e.pos; holding [v] (truthy v)) := by intro _; rfl) : DT M W X e (fTst f) := by
  obtain ⟨t, p, h⟩ := h
  exact ⟨_, pt_val p he, tst_of h⟩
theorem dt_op {r : R2} {g : D → D → Option R} {fa fb : FD} (mk : ∀ {ta tb : TE}, PE X a ta → PE X b tb → PT X e (tTest (tOp r ta tb))) (hd : OpD M r g) (ha : DI M W X a fa) (hb : DP M W X b fb) : DT M W X e (fTst (fBin g fa fb)) := by
  obtain ⟨ta, pa, ha⟩ := ha
  obtain ⟨tb, pb, hb⟩ := hb
  refine ⟨_, mk pa pb, tst_of fun c F H σ δ Q ok post => ha c F H σ δ _ ok (Post.bind post fun dx δ1 x F1 H1 _ s1 ok1 rx post => hb c F1 H1 σ δ1 _ ok1 (Post.bind post fun dy δ2 y F2 H2 _ s2 ok2 ry post => ?_))⟩
  exact bin_of hd ok2 (.inl (rep_mono s2 _ _ rx)) ry post
theorem dt_opV {i : Nat} {r : R2} {g : D → D → Option R} {fb : FD} (mk : ∀ {ta tb : TE}, PE X a ta → PE X b tb → PT X e (tTest (tOp r ta tb))) (hd : OpD M r g) (ha : PE X a (tVar i)) (hb : DP M W X b fb) : DT M W X e (fTst (fBinV g i fb)) := by
  obtain ⟨tb, pb, hb⟩ := hb
  refine ⟨_, mk ha pb, tst_of fun c F H σ δ Q ok post => ?_⟩
  unfold fBinV at post
  by_cases ht : there δ i = true
  · rw [if_pos ht] at post
    obtain ⟨v, e1⟩ := there_v ok ht
    refine ⟨v, e1, hb c F H σ δ _ ok (Post.bind post fun dy δ2 y F2 H2 _ s2 ok2 ry post => ?_)⟩
    exact vP_run ok2 e1 post fun dx _ px post => bin_of hd ok2 px ry post
  · rw [if_neg ht] at post
    exact post.elim
def fNot (f : FT) : FT := fun δ => (f δ).bind fun b δ => .ok (!b) δ
def fAnd (f g : FT) : FT := fun δ => (f δ).bind fun b δ => if b then g δ else .ok false δ
def fOr (f g : FT) : FT := fun δ => (f δ).bind fun b δ => if b then .ok true δ else g δ
theorem dt_not {f : FT} (h : DT M W X a f) : DT M W X (.UnaryOp .Not a pos) (fNot f) := by
  obtain ⟨t, p, h⟩ := h
  refine ⟨_, pt_not p, fun c F H σ δ Q ok post => h c F H σ δ _ ok (Post.bind post fun b δ1 k F1 H1 _ s ok1 e post => ?_)⟩
  cases (show b = k from e)
  exact post.ok ok1 rfl
theorem DW.pt {f : FT} (h : DW M W X e f) : DT M W X e f := by
  obtain ⟨t, p, h⟩ := h
  exact ⟨t, p.pt, h⟩
theorem dw_and1 {f : FT} (h : DT M W X a f) : DW M W X (.BoolOp .And [a] pos) f := by
  obtain ⟨t, p, h⟩ := h
  exact ⟨t, pw_and1 p, h⟩
theorem dw_or1 {f : FT} (h : DT M W X a f) : DW M W X (.BoolOp .Or [a] pos) f := by
  obtain ⟨t, p, h⟩ := h
  exact ⟨t, pw_or1 p, h⟩
theorem dw_and {f g : FT} {rest : List Expr} (h : DT M W X a f) (h' : DW M W X (.BoolOp .And (b :: rest) pos) g) : DW M W X (.BoolOp .And (a :: b :: rest) pos) (fAnd f g) := by
  obtain ⟨t, p, h⟩ := h
  obtain ⟨t', p', h'⟩ := h'
  refine ⟨_, pw_and p p', fun c F H σ δ Q ok post => h c F H σ δ _ ok (Post.bind post fun b δ1 k F1 H1 _ s ok1 e post => ?_)⟩
  cases (show b = k from e)
  cases b with
  | true => exact h' c F1 H1 σ δ1 Q ok1 post
  | false => exact post.ok ok1 rfl
theorem dw_or {f g : FT} {rest : List Expr} (h : DT M W X a f) (h' : DW M W X (.BoolOp .Or (b :: rest) pos) g) : DW M W X (.BoolOp .Or (a :: b :: rest) pos) (fOr f g) := by
  obtain ⟨t, p, h⟩ := h
  obtain ⟨t', p', h'⟩ := h'
  refine ⟨_, pw_or p p', fun c F H σ δ Q ok post => h c F H σ δ _ ok (Post.bind post fun b δ1 k F1 H1 _ s ok1 e post => ?_)⟩
  cases (show b = k from e)
  cases b with
  | false => exact h' c F1 H1 σ δ1 Q ok1 post
  | true => exact post.ok ok1 rfl
def fAndV (f : FD) (g : FE) : FE := fun δ => (f δ).bind fun d δ => match d with
  | .bl true => g δ
  | .bl false => .ok (.imm (.bl false)) δ
  | _ => .bad
def fOrV (f : FD) (g : FE) : FE := fun δ => (f δ).bind fun d δ => match d with
  | .bl true => .ok (.imm (.bl true)) δ
  | .bl false => g δ
  | _ => .bad
def fNotV (f : FD) : FD := fun δ => (f δ).bind fun d δ => match d with
  | .bl b => .ok (.bl (!b)) δ
  | _ => .bad
theorem de_one {op} {f : FE} (h : DE M W X a f) : DE M W X (.BoolOp op [a] pos) f := by
  obtain ⟨t, p, h⟩ := h
  exact ⟨t, pe_one p, h⟩
theorem de_and {f : FD} {g : FE} {rest : List Expr} (h : DI M W X a f) (h' : DE M W X (.BoolOp .And (b :: rest) pos) g) : DE M W X (.BoolOp .And (a :: b :: rest) pos) (fAndV f g) := by
  obtain ⟨t, p, h⟩ := h
  obtain ⟨t', p', h'⟩ := h'
  refine ⟨_, pe_and p p', fun c F H σ δ Q ok post => h c F H σ δ _ ok (Post.bind post fun d δ1 v F1 H1 _ s ok1 r post => ?_)⟩
  split at post
  · have e : v = .bl true := by unfold ρD rep at r; exact r
    subst e
    exact ⟨true, rfl, h' c F1 H1 σ δ1 Q ok1 post⟩
  · have e : v = .bl false := by unfold ρD rep at r; exact r
    subst e
    exact ⟨false, rfl, post.ok ok1 rr_bl⟩
  · exact post.elim
theorem di_not {f : FD} (h : DI M W X a f) : DI M W X (.UnaryOp .Not a pos) (fNotV f) := by
  obtain ⟨t, p, h⟩ := h
  refine ⟨_, pe_not p, fun c F H σ δ Q ok post => h c F H σ δ _ ok (Post.bind post fun d δ1 v F1 H1 _ s ok1 r post => ?_)⟩
  split at post
  · rename_i b0 _
    have e : v = .bl b0 := by unfold ρD rep at r; exact r
    subst e
    exact ⟨b0, rfl, post.ok ok1 (rep_bl' _)⟩
  · exact post.elim
def fIfE (f : FT) (g h : FE) : FE := fun δ => (f δ).bind fun b δ => if b then g δ else h δ
theorem de_if {f : FT} {g g' : FE} {t : Expr} (h : DT M W X t f) (ha : DE M W X a g) (hb : DE M W X b g') : DE M W X (.IfExp t a b pos) (fIfE f g g') := by
  obtain ⟨t, p, h⟩ := h
  obtain ⟨ta, pa, ha⟩ := ha
  obtain ⟨tb, pb, hb⟩ := hb
  refine ⟨_, pe_ifExp p pa pb, fun c F H σ δ Q ok post => h c F H σ δ _ ok (Post.bind post fun b δ1 k F1 H1 _ s ok1 e post => ?_)⟩
  cases (show b = k from e)
  cases b with
  | true => exact ha c F1 H1 σ δ1 Q ok1 post
  | false => exact hb c F1 H1 σ δ1 Q ok1 post
end
def aNil : FA := fun δ => .ok [] δ
def aCons (f : FD) (g : FA) : FA := fun δ => (f δ).bind fun d δ1 => (g δ1).bind fun ds δ2 => .ok (d :: ds) δ2
def aOne (f : FD) : FA := fun δ => (f δ).bind fun d δ1 => .ok [d] δ1
section
variable {M : Gm} {c : Cn M} {W : WX} {X : Cx} {e : Expr} {es : List Expr}
theorem da_nil : DA M W X [] aNil := ⟨_, pa_nil, fun c F H σ δ Q ok post => post.ok ok reps_nil⟩
theorem da_cons {f : FD} {g : FA} (h : DI M W X e f) (h' : DA M W X es g) (hs : starEach (e :: es) X.env = (false, eval e X.env) :: starEach es X.env := by rfl) : DA M W X (e :: es) (aCons f g) := by
  obtain ⟨t, p, h⟩ := h
  obtain ⟨t', p', h'⟩ := h'
  exact ⟨_, pa_cons p p' hs, fun c F H σ δ Q ok post => h c F H σ δ _ ok (Post.bind post fun d δ1 v F1 H1 _ s ok1 r post => h' c F1 H1 σ δ1 _ ok1 (Post.bind post fun ds δ2 vs F2 H2 _ s2 ok2 rs post => post.ok ok2 (reps_cons (rep_mono s2 _ _ r) rs)))⟩
theorem reps_paired {F H : Hp} : ∀ {ds : List D} {vs : List V}, reps M F ds vs → Paired (prep M F H) ds vs
  | [], vs, h => by unfold reps at h; subst h; exact .nil
  | d :: ds, vs, h => by
    unfold reps at h
    obtain ⟨v, r, rfl, h2, h3⟩ := h
    exact .cons (.inl h2) (reps_paired h3)
theorem DA.b {f : FA} (h : DA M W X es f) : DB M W X es f := by
  obtain ⟨t, p, h⟩ := h
  refine ⟨t, p, fun c F H σ δ Q ok post => h c F H σ δ Q ok ?_⟩
  cases q : f δ with
  | ok d δ1 => rw [q] at post; exact fun v F' H' s ok' r => post v F' H' s ok' (reps_paired r)
  | exc x δ1 => rw [q] at post; exact post
  | bad => rw [q] at post; exact post
theorem db_one {f : FD} (h : DP M W X e f) (hs : starEach (e :: []) X.env = (false, eval e X.env) :: starEach [] X.env := by rfl) : DB M W X [e] (aOne f) := by
  obtain ⟨t, p, h⟩ := h
  exact ⟨_, pa_cons p pa_nil hs, fun c F H σ δ Q ok post => h c F H σ δ _ ok (Post.bind post fun d δ1 v F1 H1 _ s ok1 r post => post.ok ok1 (.cons r .nil))⟩
end
abbrev RC := List V → Hp → VK → Prop
def CallD (M : Gm) (r : RC) (g : List D → Option R) : Prop := ∀ (c : Cn M) (F H : Hp) (σ : St) (δ : Sl) (xs : List V) (ds : List D) (z : R) (Q : VK), Ok c F H σ δ → Paired (prep M F H) ds xs → g ds = some z →
  (∀ v F' H', Same F F' → Ok c F' H' σ δ → repR c F' H' σ δ z v → Q v H') → r xs H Q
def fCal (g : List D → Option R) (fa : FA) : FE := fun δ => (fa δ).bind fun ds δ1 => match g ds with
  | some z => .ok z δ1
  | none => .bad
section
variable {M : Gm} {c : Cn M} {W : WX} {X : Cx} {e : Expr} {es : List Expr} {r : RC} {g : List D → Option R} {fa : FA}
theorem d_call (mk : ∀ {t : TA}, PA X es t → PE X e (tCB r t)) (hd : CallD M r g) (ha : DB M W X es fa) : DE M W X e (fCal g fa) := by
  obtain ⟨t, p, h⟩ := ha
  refine ⟨_, mk p, fun c F H σ δ Q ok post => h c F H σ δ _ ok (Post.bind post fun ds δ1 vs F1 H1 _ s ok1 rs post => ?_)⟩
  cases q : g ds with
  | none => rw [q] at post; exact post.elim
  | some z => rw [q] at post; exact hd c F1 H1 σ δ1 vs ds z Q ok1 rs q post
theorem CallR.or {f : Value} {r r' : RC} (h : CallR X f r) (h' : CallR X f r') : CallR X f (fun xs H Q => r xs H Q ∨ r' xs H Q) := by
  intro pins s σ H xs us Q I rs q
  rcases q with q | q
  · exact h pins s σ H xs us Q I rs q
  · exact h' pins s σ H xs us Q I rs q
def gcOr (g g' : List D → Option R) : List D → Option R := fun ds => match g ds with
  | some z => some z
  | none => g' ds
theorem CallD.or {r r' : RC} {g g' : List D → Option R} (h : CallD M r g) (h' : CallD M r' g') : CallD M (fun xs H Q => r xs H Q ∨ r' xs H Q) (gcOr g g') := by
  intro c F H σ δ xs ds z Q ok pxs e q
  unfold gcOr at e
  cases e1 : g ds with
  | some w => rw [e1] at e; cases e; exact .inl (h c F H σ δ xs ds _ Q ok pxs e1 q)
  | none => rw [e1] at e; exact .inr (h' c F H σ δ xs ds z Q ok pxs e q)
theorem p1 {F H : Hp} {d : D} {xs : List V} (h : Paired (prep M F H) [d] xs) : ∃ x, xs = [x] ∧ prep M F H d x := by
  cases h with
  | cons a b => cases b; exact ⟨_, rfl, a⟩
theorem p2 {F H : Hp} {d d' : D} {xs : List V} (h : Paired (prep M F H) [d, d'] xs) : ∃ x y, xs = [x, y] ∧ prep M F H d x ∧ prep M F H d' y := by
  cases h with
  | cons a b =>
    cases b with
    | cons a' b' => cases b'; exact ⟨_, _, rfl, a, a'⟩
def lenD : D → Option Nat
  | .lst xs => some xs.length
  | .tup xs => some xs.length
  | .ktp ns => some ns.length
  | .scr xs => some xs.length
  | .str z => if z.length ≤ 16777216 then some z.length else none
  | .dK ks ds => some ds.length
  | _ => none
def gLen : List D → Option R
  | [d] => (lenD d).map fun n => .imm (.int n)
  | _ => none
def rLenAll (K : PySem.W.Frag) : RC := fun xs H Q => (∃ x n, xs = [x] ∧ LenV K x H n ∧ Q (.int n) H) ∨ ∃ a kvs, xs = [V.ref a] ∧ Rd H a (.dK kvs) ∧ Q (.int kvs.length) H
theorem call_lenRd : CallR X (.builtin "len") (fun xs H Q => ∃ a kvs, xs = [V.ref a] ∧ Rd H a (.dK kvs) ∧ Q (.int kvs.length) H) := by
  intro pins s σ H xs us Q I r h
  obtain ⟨a, kvs, rfl, ha, q⟩ := h
  obtain ⟨u, rfl, ru⟩ := vals1 r
  cases ru
  exact d_len I ha fun t s' I' => ⟨.int kvs.length, H, I', ⟨t, rfl⟩, q⟩
theorem call_lenAll (hK : X.K = M.K) : CallR X (.builtin "len") (rLenAll M.K) := by rw [← hK]; exact CallR.or call_len call_lenRd
theorem cd_len : CallD M (rLenAll M.K) gLen := by
  intro c F H σ δ xs ds z Q ok pxs e q
  unfold gLen at e
  split at e
  · rename_i d
    obtain ⟨n, e1, rfl⟩ := Option.map_eq_some_iff.mp e
    obtain ⟨x, rfl, px⟩ := p1 pxs
    have fin := q (.int n) F H (Same.refl _) ok rr_int
    unfold lenD at e1
    split at e1
    · cases e1
      obtain ⟨a, vs, rfl, h2, h3⟩ := prep_lst ok.same px
      exact .inl ⟨_, _, rfl, .inl ⟨vs, SqL.of h2, (reps_length h3).symm⟩, fin⟩
    · cases e1
      obtain ⟨a, vs, rfl, h2, h3⟩ := prep_tup ok.same px
      exact .inl ⟨_, _, rfl, .inr ⟨vs, h2, (reps_length h3).symm⟩, fin⟩
    · cases e1
      obtain ⟨a, rfl, h2, h3⟩ := prep_ktp px
      exact .inl ⟨_, _, rfl, .inr ⟨_, h2, by rw [List.length_map]⟩, fin⟩
    · cases e1
      obtain ⟨a, vs, rfl, h2, h3⟩ := prep_scr ok.same px
      exact .inl ⟨_, _, rfl, .inl ⟨vs, h2, (reps_length h3).symm⟩, fin⟩
    · split at e1
      · rename_i hl
        cases e1
        have ex := prep_str px
        subst ex
        exact .inl ⟨_, _, rfl, ⟨by rw [sizeLine_eq]; exact hl, rfl⟩, fin⟩
      · cases e1
    · cases e1
      obtain ⟨a, kvs, rfl, h2, h3, h4⟩ := prep_dK ok.same px
      refine .inr ⟨a, kvs, rfl, h2, ?_⟩
      have := reps_length h4
      rw [List.length_map] at this
      rw [this]; exact fin
    · cases e1
  · cases e
def gAbs : List D → Option R
  | [.int i] => some (.imm (.int (if i < 0 then -i else i)))
  | _ => none
theorem cd_abs : CallD M (fun xs H Q => ∃ i, xs = [.int i] ∧ Q (.int (if i < 0 then -i else i)) H) gAbs := by
  intro c F H σ δ xs ds z Q ok pxs e q
  unfold gAbs at e
  split at e
  · cases e
    obtain ⟨x, rfl, px⟩ := p1 pxs
    cases prep_int px
    exact ⟨_, rfl, q _ F H (Same.refl _) ok rr_int⟩
  · cases e
def gMax2 : List D → Option R
  | [.int i, .int j] => some (.imm (.int (if j > i then j else i)))
  | _ => none
def gMin2 : List D → Option R
  | [.int i, .int j] => some (.imm (.int (if j < i then j else i)))
  | _ => none
theorem cd_max2 : CallD M (fun xs H Q => ∃ i j, xs = [.int i, .int j] ∧ Q (.int (if j > i then j else i)) H) gMax2 := by
  intro c F H σ δ xs ds z Q ok pxs e q
  unfold gMax2 at e
  split at e
  · cases e
    obtain ⟨x, y, rfl, px, py⟩ := p2 pxs
    cases prep_int px
    cases prep_int py
    exact ⟨_, _, rfl, q _ F H (Same.refl _) ok rr_int⟩
  · cases e
theorem cd_min2 : CallD M (fun xs H Q => ∃ i j, xs = [.int i, .int j] ∧ Q (.int (if j < i then j else i)) H) gMin2 := by
  intro c F H σ δ xs ds z Q ok pxs e q
  unfold gMin2 at e
  split at e
  · cases e
    obtain ⟨x, y, rfl, px, py⟩ := p2 pxs
    cases prep_int px
    cases prep_int py
    exact ⟨_, _, rfl, q _ F H (Same.refl _) ok rr_int⟩
  · cases e
def gInt : List D → Option R
  | [.int i] => some (.imm (.int i))
  | [.bl k] => some (.imm (.int (if k then 1 else 0)))
  | _ => none
theorem cd_int : CallD M (fun xs H Q => (∃ i, xs = [.int i] ∧ Q (.int i) H) ∨ ∃ k, xs = [.bl k] ∧ Q (.int (if k then 1 else 0)) H) gInt := by
  intro c F H σ δ xs ds z Q ok pxs e q
  unfold gInt at e
  split at e
  · cases e
    obtain ⟨x, rfl, px⟩ := p1 pxs
    cases prep_int px
    exact .inl ⟨_, rfl, q _ F H (Same.refl _) ok rr_int⟩
  · cases e
    obtain ⟨x, rfl, px⟩ := p1 pxs
    cases prep_bl px
    exact .inr ⟨_, rfl, q _ F H (Same.refl _) ok rr_int⟩
  · cases e
def gList : List D → Option R
  | [.lst xs] => some (.own (.l xs))
  | [.tup xs] => some (.own (.l xs))
  | _ => none
theorem cd_list {K : PySem.W.Frag} (hK : K = M.K) : CallD M (fun xs H Q => ∃ p ys, xs = [.ref p] ∧ (SqL K H p ys ∨ SqT K H p ys) ∧ ∀ l, H l = none → Q (.ref l) (upd H l (.lst ys))) gList := by
  intro c F H σ δ xs ds z Q ok pxs e q
  subst hK
  unfold gList at e
  split at e
  · cases e
    obtain ⟨x, rfl, px⟩ := p1 pxs
    obtain ⟨a, vs, rfl, h2, h3⟩ := prep_lst ok.same px
    refine ⟨a, vs, rfl, .inl (SqL.of h2), fun p hp => ?_⟩
    obtain ⟨o1, o2⟩ := new_list ok hp h3
    exact q _ F _ (Same.refl _) o1 o2
  · cases e
    obtain ⟨x, rfl, px⟩ := p1 pxs
    obtain ⟨a, vs, rfl, h2, h3⟩ := prep_tup ok.same px
    refine ⟨a, vs, rfl, .inr h2, fun p hp => ?_⟩
    obtain ⟨o1, o2⟩ := new_list ok hp h3
    exact q _ F _ (Same.refl _) o1 o2
  · cases e
theorem new_tup {F H : Hp} {σ : St} {δ : Sl} (ok : Ok c F H σ δ) {p : Addr} (hp : H p = none) {ds : List D} {vs : List V} (r : reps M F ds vs) : ∃ F', Same F F' ∧ Ok c F' (upd H p (.tup vs)) σ δ ∧ rep M F' (.tup ds) (.ref p) := by
  have ok1 : Ok c F (upd H p (.tup vs)) σ δ := ok.alloc hp
  have hF := ok.f hp
  have g : Same F (upd F p (.tup vs)) := fun b o e => by rw [upd_ne (ne_of_none e hF)]; exact e
  refine ⟨upd F p (.tup vs), g, ⟨fun b o e => ?_, ok.grow.trans g, fun b e1 e2 => ?_, ok1.kept, ok1.ioh, ok1.tb.frz upd_same rfl, ok.len, fun i r e => ?_, ok.dist⟩, ?_⟩
  · by_cases q : b = p
    · subst q; rw [upd_same] at e ⊢; exact e
    · rw [upd_ne q] at e ⊢; exact ok.same b o e
  · have q : b ≠ p := fun z => e1 (z ▸ ok.h0 hp)
    rw [upd_ne q]; exact ok.nofz b e1 e2
  · obtain ⟨v, e1, e2⟩ := ok1.slot i r e
    refine ⟨v, e1, ?_⟩
    cases r with
    | imm d => exact rep_mono g _ _ e2
    | own o =>
      obtain ⟨a', rfl, k1, k2, k3⟩ := e2
      have q : a' ≠ p := fun z => ok.fresh hp i _ e rfl (by rw [e1, z])
      exact ⟨a', rfl, by rw [upd_ne q]; exact k1, k2, obAt_mono g rfl k3⟩
    | brw o =>
      obtain ⟨a', rfl, k1, k2, k3⟩ := e2
      have q : a' ≠ p := fun z => ok.fresh hp i _ e rfl (by rw [e1, z])
      exact ⟨a', rfl, by rw [upd_ne q]; exact k1, k2, obAt_mono g rfl k3⟩
  · unfold rep
    exact ⟨p, vs, rfl, upd_same, reps_mono g _ _ r⟩
def intsD : List D → Option (List Int)
  | [] => some []
  | .int i :: r => (intsD r).map (i :: ·)
  | _ :: _ => none
def blsOf : List D → Option (List Bool)
  | [] => some []
  | .bl i :: r => (blsOf r).map (i :: ·)
  | _ :: _ => none
theorem intsD_v {M : Gm} {F : Hp} : ∀ {ds : List D} {vs : List V} {ns : List Int}, reps M F ds vs → intsD ds = some ns → vs = ns.map V.int
  | [], vs, ns, h, e => by unfold reps at h; unfold intsD at e; cases e; subst h; rfl
  | d :: ds, vs, ns, h, e => by
    unfold reps at h
    obtain ⟨v, r, rfl, h2, h3⟩ := h
    cases d <;> simp [intsD] at e
    obtain ⟨ms, e1, rfl⟩ := e
    unfold rep at h2
    subst h2
    rw [intsD_v h3 e1]; rfl
theorem blsOf_v {M : Gm} {F : Hp} : ∀ {ds : List D} {vs : List V} {ns : List Bool}, reps M F ds vs → blsOf ds = some ns → vs = ns.map V.bl
  | [], vs, ns, h, e => by unfold reps at h; unfold blsOf at e; cases e; subst h; rfl
  | d :: ds, vs, ns, h, e => by
    unfold reps at h
    obtain ⟨v, r, rfl, h2, h3⟩ := h
    cases d <;> simp [blsOf] at e
    obtain ⟨ms, e1, rfl⟩ := e
    unfold rep at h2
    subst h2
    rw [blsOf_v h3 e1]; rfl
def maxL : List Int → Int
  | [] => 0
  | [x] => x
  | x :: r => max x (maxL r)
def minL : List Int → Int
  | [] => 0
  | [x] => x
  | x :: r => min x (minL r)
theorem maxL_ok : ∀ {ns : List Int}, 0 < ns.length → maxL ns ∈ ns ∧ ∀ y ∈ ns, y ≤ maxL ns
  | [], h => by simp at h
  | [x], _ => by simp [maxL]
  | x :: y :: r, _ => by
    obtain ⟨h1, h2⟩ := maxL_ok (ns := y :: r) (by simp)
    unfold maxL
    constructor
    · rcases Int.le_total x (maxL (y :: r)) with h | h
      · rw [Int.max_eq_right h]; exact List.mem_cons_of_mem _ h1
      · rw [Int.max_eq_left h]; exact List.mem_cons_self
    · intro z hz
      rcases List.mem_cons.mp hz with rfl | hz
      · exact Int.le_max_left _ _
      · exact Int.le_trans (h2 z hz) (Int.le_max_right _ _)
theorem minL_ok : ∀ {ns : List Int}, 0 < ns.length → minL ns ∈ ns ∧ ∀ y ∈ ns, minL ns ≤ y
  | [], h => by simp at h
  | [x], _ => by simp [minL]
  | x :: y :: r, _ => by
    obtain ⟨h1, h2⟩ := minL_ok (ns := y :: r) (by simp)
    unfold minL
    constructor
    · rcases Int.le_total x (minL (y :: r)) with h | h
      · rw [Int.min_eq_left h]; exact List.mem_cons_self
      · rw [Int.min_eq_right h]; exact List.mem_cons_of_mem _ h1
    · intro z hz
      rcases List.mem_cons.mp hz with rfl | hz
      · exact Int.min_le_left _ _
      · exact Int.le_trans (Int.min_le_right _ _) (h2 z hz)
def gMaxL : List D → Option R
  | [.lst xs] => (intsD xs).bind fun ns => if 0 < ns.length then some (.imm (.int (maxL ns))) else none
  | _ => none
def gMinL : List D → Option R
  | [.lst xs] => (intsD xs).bind fun ns => if 0 < ns.length then some (.imm (.int (minL ns))) else none
  | _ => none
def gAll : List D → Option R
  | [.lst xs] => (blsOf xs).map fun bs => .imm (.bl (bs.all id))
  | _ => none
theorem cd_maxL {K : PySem.W.Frag} : CallD M (rMax K) gMaxL := by
  intro c F H σ δ xs ds z Q ok pxs e q
  unfold gMaxL at e
  split at e
  · obtain ⟨ns, e1, e2⟩ := Option.bind_eq_some_iff.mp e
    split at e2
    · rename_i hl
      cases e2
      obtain ⟨x, rfl, px⟩ := p1 pxs
      obtain ⟨a, vs, rfl, h2, h3⟩ := prep_lst ok.same px
      have ev := intsD_v h3 e1
      subst ev
      refine ⟨a, ns, rfl, SqL.of h2, hl, fun m hm hy => ?_⟩
      obtain ⟨k1, k2⟩ := maxL_ok hl
      have em : m = maxL ns := Int.le_antisymm (k2 m hm) (hy _ k1)
      rw [em]
      exact q _ F H (Same.refl _) ok rr_int
    · cases e2
  · cases e
theorem cd_minL {K : PySem.W.Frag} : CallD M (rMin K) gMinL := by
  intro c F H σ δ xs ds z Q ok pxs e q
  unfold gMinL at e
  split at e
  · obtain ⟨ns, e1, e2⟩ := Option.bind_eq_some_iff.mp e
    split at e2
    · rename_i hl
      cases e2
      obtain ⟨x, rfl, px⟩ := p1 pxs
      obtain ⟨a, vs, rfl, h2, h3⟩ := prep_lst ok.same px
      have ev := intsD_v h3 e1
      subst ev
      refine ⟨a, ns, rfl, SqL.of h2, hl, fun m hm hy => ?_⟩
      obtain ⟨k1, k2⟩ := minL_ok hl
      have em : m = minL ns := Int.le_antisymm (hy _ k1) (k2 m hm)
      rw [em]
      exact q _ F H (Same.refl _) ok rr_int
    · cases e2
  · cases e
theorem cd_all {K : PySem.W.Frag} : CallD M (rAll K) gAll := by
  intro c F H σ δ xs ds z Q ok pxs e q
  unfold gAll at e
  split at e
  · obtain ⟨ns, e1, rfl⟩ := Option.map_eq_some_iff.mp e
    obtain ⟨x, rfl, px⟩ := p1 pxs
    obtain ⟨a, vs, rfl, h2, h3⟩ := prep_lst ok.same px
    have ev := blsOf_v h3 e1
    subst ev
    exact ⟨a, ns, rfl, SqL.of h2, q _ F H (Same.refl _) ok rr_bl⟩
  · cases e
def gDivmod : List D → Option R
  | [.int i, .int j] => if decide (0 < j ∧ j.natAbs.log2 < 9000) then some (.imm (.tup [.int (i / j), .int (i % j)])) else none
  | _ => none
end
end
end TS

set_option maxRecDepth 100000
set_option maxHeartbeats 4000000
namespace TS
open PySem L2
noncomputable section
def fLst (fa : FA) : FE := fun δ => (fa δ).bind fun ds δ => if ds.length ≤ 16777216 then .ok (.own (.l ds)) δ else .bad
def fTup (fa : FA) : FD := fun δ => (fa δ).bind fun ds δ => if ds.length ≤ 16777216 then .ok (.tup ds) δ else .bad
section
variable {M : Gm} {c : Cn M} {W : WX} {X : Cx} {es : List Expr} {pos : Pos} {fa : FA}
theorem de_lst (h : DA M W X es fa) : DE M W X (.List es pos) (fLst fa) := by
  obtain ⟨t, p, h⟩ := h
  refine ⟨_, pe_lst p, fun c F H σ δ Q ok post => h c F H σ δ _ ok (Post.bind post fun ds δ1 vs F1 H1 _ s ok1 rs post => ?_)⟩
  split at post
  · rename_i hl
    refine ⟨by rw [reps_length rs, sizeLine_eq]; exact hl, fun q hq => ?_⟩
    obtain ⟨o1, o2⟩ := new_list ok1 hq rs
    exact post.ok o1 o2
  · exact post.elim
theorem di_tup {x1} (h : DA M W X es fa) : DI M W X (.Tuple es x1 pos) (fTup fa) := by
  obtain ⟨t, p, h⟩ := h
  refine ⟨_, pe_tup p, fun c F H σ δ Q ok post => h c F H σ δ _ ok (Post.bind post fun ds δ1 vs F1 H1 _ s ok1 rs post => ?_)⟩
  split at post
  · rename_i hl
    refine ⟨by rw [reps_length rs, sizeLine_eq]; exact hl, fun q hq => ?_⟩
    obtain ⟨F', g, o1, o2⟩ := new_tup ok1 hq rs
    exact post _ F' _ g o1 o2
  · exact post.elim
theorem call_divmodP {X : Cx} : CallR X (.builtin "divmod") (fun xs H Q => ∃ i j, xs = [.int i, .int j] ∧ CDivP i j ∧ ∀ p, H p = none → Q (.ref p) (upd H p (.tup [.int (i / j), .int (i % j)]))) := call_divmodW
theorem cd_divmod : CallD M (fun xs H Q => ∃ i j, xs = [.int i, .int j] ∧ CDivP i j ∧ ∀ p, H p = none → Q (.ref p) (upd H p (.tup [.int (i / j), .int (i % j)]))) gDivmod := by
  intro c F H σ δ xs ds z Q ok pxs e q
  unfold gDivmod at e
  split at e
  · rename_i i j
    split at e
    · rename_i hc
      cases e
      obtain ⟨h1, h2⟩ := of_decide_eq_true hc
      obtain ⟨x, y, rfl, px, py⟩ := p2 pxs
      cases prep_int px
      cases prep_int py
      refine ⟨_, _, rfl, ⟨h1, PyProof.noPylong_of_log2 h2⟩, fun p hp => ?_⟩
      obtain ⟨F', g, o1, o2⟩ := new_tup ok hp (ds := [.int (i / j), .int (i % j)]) (reps_cons (rep_int' _) (reps_cons (rep_int' _) reps_nil))
      exact q _ F' _ g o1 o2
    · cases e
  · cases e
end
abbrev FO := Sl → Res (Option Int)
abbrev ρO : Hp → Hp → Sl → Option Int → Option Int → Prop := fun _ _ _ a b => a = b
def DO (M : Gm) (W : WX) (X : Cx) (e : Option Expr) (f : FO) : Prop := ∃ t, PO X e t ∧ ∀ (c : Cn M) F H σ δ Q, Ok c F H σ δ → Post c W F σ ρO (f δ) Q → t σ H Q
def oNone : FO := fun δ => .ok none δ
def oSome (f : FD) : FO := fun δ => (f δ).bind fun d δ => match d with
  | .int i => .ok (some i) δ
  | _ => .bad
def cutD (xs : List D) (lo hi : Option Int) : List D := (xs.drop (HT.sIx xs.length 0 lo)).take (HT.sIx xs.length xs.length hi - HT.sIx xs.length 0 lo)
def gSl : D → Option Int → Option Int → Option R
  | .lst xs, lo, hi => some (.own (.l (cutD xs lo hi)))
  | .tup xs, lo, hi => if HT.sIx xs.length 0 lo = 0 ∧ HT.sIx xs.length xs.length hi = xs.length then none else some (.imm (.tup (cutD xs lo hi)))
  | _, _, _ => none
def fSl (fe : FD) (fl fh : FO) : FE := fun δ => (fe δ).bind fun d δ => (fl δ).bind fun lo δ => (fh δ).bind fun hi δ => match gSl d lo hi with
  | some r => .ok r δ
  | none => .bad
def fSlV (i : Nat) (fl fh : FO) : FE := fun δ => if there δ i then (fl δ).bind fun lo δ => (fh δ).bind fun hi δ => (vP i δ).bind fun d δ => match gSl d lo hi with
  | some r => .ok r δ
  | none => .bad
  else .bad
section
variable {M : Gm} {c : Cn M} {W : WX} {X : Cx} {e : Expr} {lo hi : Option Expr} {pos p2 : Pos}
theorem do_none : DO M W X none oNone := ⟨_, po_none, fun c F H σ δ Q ok post => post.ok ok rfl⟩
theorem do_some {f : FD} (h : DI M W X e f) : DO M W X (some e) (oSome f) := by
  obtain ⟨t, p, h⟩ := h
  refine ⟨_, po_some p, fun c F H σ δ Q ok post => h c F H σ δ _ ok (Post.bind post fun d δ1 v F1 H1 _ s ok1 r post => ?_)⟩
  split at post
  · rename_i i _
    have ev : v = .int i := by unfold ρD rep at r; exact r
    exact ⟨i, ev, post.ok ok1 rfl⟩
  · exact post.elim
theorem sl_of (hK : X.K = M.K) {F H : Hp} {σ : St} {δ : Sl} {x : V} {d : D} {l u : Option Int} {Q : VK} (ok : Ok c F H σ δ) (px : prep M F H d x)
    (post : Post c W F σ (ρR c σ) (match gSl d l u with | some r => .ok r δ | none => .bad) Q) : rSlL X.K x l u H Q ∨ rSlT X.K x l u H Q := by
  unfold gSl at post
  split at post
  · rename_i r e
    split at e
    · cases e
      rename_i xs
      obtain ⟨a, vs, rfl, h2, h3⟩ := prep_lst ok.same px
      refine .inl ⟨a, vs, rfl, SqL.of h2, fun p hp => ?_⟩
      have : reps M F (cutD xs l u) (cutV vs l u) := by
        unfold cutD cutV
        rw [reps_length h3]
        exact reps_take _ (reps_drop _ h3)
      obtain ⟨o1, o2⟩ := new_list ok hp this
      exact post.ok o1 o2
    · split at e
      · cases e
      · rename_i xs hn
        cases e
        obtain ⟨a, vs, rfl, h2, h3⟩ := prep_tup ok.same px
        refine .inr ⟨a, vs, rfl, by rw [hK]; exact h2, by rw [reps_length h3]; exact hn, fun p hp => ?_⟩
        have : reps M F (cutD xs l u) (cutV vs l u) := by
          unfold cutD cutV
          rw [reps_length h3]
          exact reps_take _ (reps_drop _ h3)
        obtain ⟨F', g, o1, o2⟩ := new_tup ok hp this
        exact post _ F' _ g o1 o2
    · cases e
  · exact post.elim
theorem de_sl {fe : FD} {fl fh : FO} (h : DI M W X e fe) (hl : DO M W X lo fl) (hh : DO M W X hi fh) (hK : X.K = M.K := by rfl) : DE M W X (.Subscript e (.Slice lo hi none p2) pos) (fSl fe fl fh) := by
  obtain ⟨t, p, h⟩ := h
  obtain ⟨tl, pl, hl⟩ := hl
  obtain ⟨th, ph, hh⟩ := hh
  refine ⟨_, pe_slice (SlR.or sl_list sl_tup) p pl ph, fun c F H σ δ Q ok post => h c F H σ δ _ ok (Post.bind post fun d δ1 v F1 H1 _ s1 ok1 r post => hl c F1 H1 σ δ1 _ ok1 (Post.bind post fun l δ2 l' F2 H2 _ s2 ok2 el post => hh c F2 H2 σ δ2 _ ok2 (Post.bind post fun u δ3 u' F3 H3 _ s3 ok3 eu post => ?_)))⟩
  cases (show l = l' from el)
  cases (show u = u' from eu)
  exact sl_of hK ok3 (.inl (rep_mono (s2.trans s3) _ _ r)) post
def rgD (a b : Int) : List D := (List.range (b - a).toNat).map fun i => D.int (a + (i : Nat))
theorem rgD_v {M : Gm} {F : Hp} (a b : Int) : reps M F (rgD a b) (rgV a b) := by
  unfold rgD rgV
  generalize List.range (b - a).toNat = l
  induction l with
  | nil => exact reps_nil
  | cons x r ih => exact reps_cons (rep_int' _) ih
def rgOkB (a b : Int) : Bool := gd (-4611686018427387904 ≤ a ∧ a < 4611686018427387904 ∧ -4611686018427387904 ≤ b ∧ b < 4611686018427387904 ∧ (b - a).toNat ≤ 16777216)
theorem rgOkB_ok {a b : Int} (h : rgOkB a b = true) : RgOk a b := by
  obtain ⟨h1, h2, h3, h4, h5⟩ := of_gd h
  exact ⟨by omega, by omega, by omega, by omega, h5⟩
def fLRg1 (f : FD) : FE := fun δ => (f δ).bind fun d δ => match d with
  | .int n => if rgOkB 0 n then .ok (.own (.l (rgD 0 n))) δ else .bad
  | _ => .bad
theorem de_lrg1 {a : Expr} {f : FD} {p q pos q2 : Pos} (hc : X.calm = true) (hg : Gl X "list") (hm : X.mg "list" = none) (hg2 : Gl X "range") (hm2 : X.mg "range" = none) (h : DI M W X a f)
    (na : starEach [.Call (.Name "range" q) [a] [] q2] X.env = (false, eval (.Call (.Name "range" q) [a] [] q2) X.env) :: starEach [] X.env := by rfl) (na2 : starEach [a] X.env = (false, eval a X.env) :: starEach [] X.env := by rfl) :
    DE M W X (.Call (.Name "list" p) [.Call (.Name "range" q) [a] [] q2] [] pos) (fLRg1 f) := by
  obtain ⟨t, pp, h⟩ := h
  refine ⟨_, pe_listRg hc hg hm (prg_1 hg2 hm2 pp na2) na, fun c F H σ δ Q ok post => h c F H σ δ _ ok (Post.bind post fun d δ1 v F1 H1 _ s1 ok1 r post => ?_)⟩
  split at post
  · rename_i n _
    split at post
    · rename_i hk
      have ev : v = .int n := by unfold ρD rep at r; exact r
      refine ⟨n, ev, rgOkB_ok hk, fun q hq => ?_⟩
      obtain ⟨o1, o2⟩ := new_list ok1 hq (rgD_v 0 n)
      exact post.ok o1 o2
    · exact post.elim
  · exact post.elim
end
abbrev RM := V → List V → Hp → VK → Prop
def MutD (M : Gm) (r : RM) (m : List D → List D → Option (D × List D)) : Prop := ∀ (F H : Hp) (a : Addr) (vs xs : List V) (ds as : List D) (z : D) (ds' : List D) (Q : VK), Same F H → F a = none → H a = some (.lst vs) → reps M F ds vs → reps M F as xs →
  m ds as = some (z, ds') → (∀ v vs', rep M F z v → reps M F ds' vs' → Q v (upd H a (.lst vs'))) → r (.ref a) xs H Q
def getL (δ : Sl) (i : Nat) : Option (List D) := match δ[i]? with
  | some (some (.own (.l ds))) => some ds
  | some (some (.brw (.l ds))) => some ds
  | _ => none
def fMut (i : Nat) (m : List D → List D → Option (D × List D)) (fa : FA) : FD := fun δ => match getL δ i with
  | none => .bad
  | some _ => (fa δ).bind fun as δ1 => match getL δ1 i with
    | none => .bad
    | some ds => match m ds as with
      | none => .bad
      | some (z, ds') => .ok z (match δ1[i]? with
        | some (some (.own _)) => δ1.set i (some (.own (.l ds')))
        | _ => δ1.set i (some (.brw (.l ds'))))
section
variable {M : Gm} {c : Cn M} {W : WX} {X : Cx}
theorem getL_at {F H : Hp} {σ : St} {δ : Sl} {i : Nat} {ds : List D} (ok : Ok c F H σ δ) (h : getL δ i = some ds) : ∃ a vs, σ[i]? = some (some (.ref a)) ∧ F a = none ∧ H a = some (.lst vs) ∧ reps M F ds vs ∧ (δ[i]? = some (some (.own (.l ds))) ∨ δ[i]? = some (some (.brw (.l ds)))) := by
  unfold getL at h
  split at h
  · rename_i ds0 q
    cases h
    obtain ⟨v, e1, a, rfl, h1, h2, vs, h3, h4⟩ := ok.slot i _ q
    exact ⟨a, vs, e1, h1, h3, h4, .inl q⟩
  · rename_i ds0 q
    cases h
    obtain ⟨v, e1, a, rfl, h1, h2, vs, h3, h4⟩ := ok.slot i _ q
    exact ⟨a, vs, e1, h1, h3, h4, .inr q⟩
  · cases h
theorem putL_ok {F H : Hp} {σ : St} {δ : Sl} {i : Nat} {ds ds' : List D} {a : Addr} {vs' : List V} (ok : Ok c F H σ δ) (ea : σ[i]? = some (some (.ref a))) (hd : δ[i]? = some (some (.own (.l ds))) ∨ δ[i]? = some (some (.brw (.l ds)))) (r : reps M F ds' vs') :
    Ok c F (upd H a (.lst vs')) σ (match δ[i]? with
        | some (some (.own _)) => δ.set i (some (.own (.l ds')))
        | _ => δ.set i (some (.brw (.l ds')))) := by
  rcases hd with q | q
  · rw [q]
    exact ok.write (ob := .l ds) (ob' := .l ds') q (.inl ⟨rfl, rfl⟩) ea ⟨vs', upd_same, r⟩
  · rw [q]
    exact ok.write (ob := .l ds) (ob' := .l ds') q (.inr ⟨rfl, rfl⟩) ea ⟨vs', upd_same, r⟩
theorem d_mut {e o : Expr} {es : List Expr} {i : Nat} {r : RM} {m : List D → List D → Option (D × List D)} {fa : FA} (mk : ∀ {t : TA}, PA X es t → PE X e (tBM X.K "list" r (tVar i) t)) (hd : MutD M r m) (ha : DA M W X es fa) : DI M W X e (fMut i m fa) := by
  obtain ⟨t, p, h⟩ := ha
  refine ⟨_, mk p, fun c F H σ δ Q ok post => ?_⟩
  unfold fMut at post
  split at post
  · exact post.elim
  · rename_i ds0 q0
    obtain ⟨a, vs, ea, _, hl, _, _⟩ := getL_at ok q0
    refine ⟨.ref a, ea, .inl ⟨rfl, vs, SqL.of hl⟩, h c F H σ δ _ ok (Post.bind post fun as δ1 xs F1 H1 _ s1 ok1 rs post => ?_)⟩
    split at post
    · exact post.elim
    · rename_i ds q1
      obtain ⟨a', vs', ea', hf', hl', hr', hs'⟩ := getL_at ok1 q1
      rw [ea] at ea'; cases ea'
      split at post
      · exact post.elim
      · rename_i z ds' q2
        exact hd F1 H1 a vs' xs ds as z ds' Q ok1.same hf' hl' hr' rs q2 fun v vs2 rv rv2 => post.ok (putL_ok ok1 ea hs' rv2) rv
def mAppend : List D → List D → Option (D × List D)
  | ds, [d] => if ds.length < 16777216 then some (.non, ds ++ [d]) else none
  | _, _ => none
theorem md_append : MutD M rAppend mAppend := by
  intro F H a vs xs ds as z ds' Q s hf hl hr ha e q
  unfold mAppend at e
  split at e
  · split at e
    · rename_i d hlen
      cases e
      obtain ⟨v, r, rfl, h2, h3⟩ := (show ∃ v r, xs = v :: r ∧ rep M F d v ∧ reps M F [] r by unfold reps at ha; exact ha)
      unfold reps at h3
      subst h3
      exact ⟨a, vs, v, rfl, rfl, hl, by rw [reps_length hr, sizeLine_eq]; exact hlen, q _ _ rep_non' (reps_append hr (reps_cons h2 reps_nil))⟩
    · cases e
  · cases e
def mPop : List D → List D → Option (D × List D)
  | ds, [] => (ds[ds.length - 1]?).map fun d => (d, ds.dropLast)
  | ds, [.int i] => if gd (0 ≤ i ∧ i < ds.length ∧ i < 9223372036854775808) then (ds[i.toNat]?).map fun d => (d, ds.eraseIdx i.toNat) else none
  | _, _ => none
theorem reps_erase {M : Gm} {F : Hp} : ∀ {ds : List D} {vs : List V} (i : Nat), reps M F ds vs → reps M F (ds.eraseIdx i) (vs.eraseIdx i)
  | [], vs, i, h => by unfold reps at h; subst h; simp [reps]
  | d :: ds, vs, 0, h => by
    unfold reps at h
    obtain ⟨v, r, rfl, h2, h3⟩ := h
    exact h3
  | d :: ds, vs, i + 1, h => by
    unfold reps at h
    obtain ⟨v, r, rfl, h2, h3⟩ := h
    exact reps_cons h2 (reps_erase i h3)
theorem reps_dropLast {M : Gm} {F : Hp} {ds : List D} {vs : List V} (h : reps M F ds vs) : reps M F ds.dropLast vs.dropLast := by
  rw [List.dropLast_eq_take, List.dropLast_eq_take, reps_length h]
  exact reps_take _ h
def rPopAll : RM := fun x vs H Q => rPop x vs H Q ∨ rPopAt x vs H Q
theorem mt_popAll : MtM X "list.pop" rPopAll := fun pins s σ H x xs v us Q I rx rs h => h.elim (mt_pop pins s σ H x xs v us Q I rx rs) (mt_popAt pins s σ H x xs v us Q I rx rs)
theorem md_pop : MutD M rPopAll mPop := by
  intro F H a vs xs ds as z ds' Q s hf hl hr ha e q
  unfold mPop at e
  split at e
  · obtain ⟨d, e1, e2⟩ := Option.map_eq_some_iff.mp e
    cases e2
    unfold reps at ha
    subst ha
    obtain ⟨v, e3, e4⟩ := reps_get hr e1
    exact .inl ⟨a, vs, v, rfl, rfl, hl, by rw [reps_length hr]; exact e3, q _ _ e4 (reps_dropLast hr)⟩
  · rename_i i
    split at e
    · rename_i hc
      obtain ⟨h0, h1, h2⟩ := of_gd hc
      obtain ⟨d, e1, e2⟩ := Option.map_eq_some_iff.mp e
      cases e2
      obtain ⟨v, r, rfl, k2, k3⟩ := (show ∃ v r, xs = v :: r ∧ rep M F (.int i) v ∧ reps M F [] r by unfold reps at ha; exact ha)
      unfold reps at k3
      subst k3
      unfold rep at k2
      subst k2
      obtain ⟨w, e3, e4⟩ := reps_get hr e1
      refine .inr ⟨a, vs, i, i.toNat, w, rfl, rfl, hl, by omega, by omega, ?_, e3, q _ _ e4 (reps_erase _ hr)⟩
      rw [reps_length hr]
      exact seqIndex_of h0 h1
    · cases e
  · cases e
end
end
end TS

set_option maxRecDepth 100000
set_option maxHeartbeats 4000000
namespace TS
open PySem L2
noncomputable section
structure Room (k : Nat) (A : Around) : Prop where
  lo : L2.Room k A
  gu : A.guards = some []
theorem Room.mono {j k : Nat} {A : Around} (r : Room k A) (h : j ≤ k) : Room j A := ⟨L2.Room.mono r.lo h, r.gu⟩
theorem Room.deeper {k : Nat} {A : Around} (r : Room (k + 1) A) (env : Env) : Room k (A.deeper env) := ⟨L2.Room.deeper r.lo env, r.gu⟩
theorem Room.in1 {k : Nat} {A : Around} (r : Room (k + 1) A) : Room k A.in1 := ⟨L2.Room.in1 r.lo, r.gu⟩
theorem Room.make {k : Nat} {A : Around} (r : Room (k + 1) A) (C : Addr) (us : List Value) (kw : List (Str × Value)) : Room k (A.under (.builtin "type.__call__" ⟨.ref C :: us, kw⟩)) := by
  refine ⟨L2.Room.make r.lo C us kw, ?_⟩
  have e : (Code.builtin "type.__call__" ⟨.ref C :: us, kw⟩).isGuard = false := by
    show guardIds.contains "type.__call__" = false
    decide +kernel
  simp [Around.under, Code.guards, e, pushGuards, r.gu]
theorem Room.hd {k : Nat} {A : Around} (r : Room k A) : A.handled = none := r.lo.hd
theorem Room.depth {k : Nat} {A : Around} (r : Room k A) : A.depth < recursionLimit := L2.Room.depth r.lo
theorem Room.units {k : Nat} {A : Around} (r : Room k A) : A.units + 64 < cLine := L2.Room.units r.lo
theorem Room.units0 {k : Nat} {A : Around} (r : Room k A) : A.units < cLine := L2.Room.units0 r.lo
theorem hu_of {A : Around} {k : Nat} (hr : Room k A) : A.units + 1 < cLine := L2.hu_of hr.lo
def FnR (P : Program) (w : World) (K : PySem.W.Frag) (mg : Str → Option Value) (base : Heap) (CX : CXT) (k : Nat) (f : Addr) (sp : Sp) : Prop :=
  ∀ (A : Around) (outer : List Env) (s : Shared) (H : Hp) (us : List Value) (vs : List V) (Q : VK) (E : XK), Room k A → Env0 P w K mg base A outer s H → Vals vs us → sp vs H Q E → codeAny (model P w) A (.call (.ref f) ⟨us, []⟩) (CR CX outer P w H s Q E) s
structure FnOk (P : Program) (w : World) (K : PySem.W.Frag) (mg : Str → Option Value) (base : Heap) (CX : CXT) (k : Nat) (f : Addr) (fd : FuncData) (ps : List Str) (sp : Sp) : Prop where
  len : ∀ vs H Q E, sp vs H Q E → vs.length = ps.length
  run : ∀ (A : Around) (outer : List Env) (s : Shared) (H : Hp) (args : Args) (us : List Value) (vs : List V) (Q : VK) (E : XK), Room k A → Env0 P w K mg base A outer s H → BindsTo s fd args (ps.zip us) → Vals vs us → sp vs H Q E → codeAny (model P w) A (.call (.ref f) args) (CR CX outer P w H s Q E) s
section
variable {P : Program} {w : World} {K : PySem.W.Frag} {mg : Str → Option Value} {base : Heap} {CX : CXT} {j k : Nat} {f : Addr} {fd : FuncData} {ps : List Str} {sp sp' : Sp}
theorem FnR.mono (F : FnR P w K mg base CX j f sp) (h : j ≤ k) : FnR P w K mg base CX k f sp := fun A outer s H us vs Q E hr e0 => F A outer s H us vs Q E (Room.mono hr h) e0
theorem FnR.imp (F : FnR P w K mg base CX k f sp) (h : ∀ vs H Q E, sp' vs H Q E → sp vs H Q E) : FnR P w K mg base CX k f sp' := fun A outer s H us vs Q E hr e0 rv hs => F A outer s H us vs Q E hr e0 rv (h vs H Q E hs)
theorem FnOk.mono (F : FnOk P w K mg base CX j f fd ps sp) (h : j ≤ k) : FnOk P w K mg base CX k f fd ps sp where
  len := F.len
  run := fun A outer s H args us vs Q E hr => F.run A outer s H args us vs Q E (Room.mono hr h)
theorem FnOk.raw {ds : List Value} {dvs : List V} (F : FnOk P w K mg base CX k f fd ps sp) (hb : Binds K fd ps ds) (hd : Vals dvs ds) : FnR P w K mg base CX k f (fun vs H Q E => sp (vs ++ dvs) H Q E) := by
  intro A outer s H us vs Q E hr e0 rv hs
  have rr := rv.append hd
  have lr : (us ++ ds).length = ps.length := rr.length.symm.trans (F.len _ _ _ _ hs)
  have kin : K.In s.heap := e0.mod.kin.keeps fun b o e => (e0.bs b o e).1
  exact F.run A outer s H ⟨us, []⟩ (us ++ ds) (vs ++ dvs) Q E hr e0 (hb s us kin lr) rr hs
def CodeAt (K : PySem.W.Frag) (f : Addr) (x qual : Str) (params : Arguments) (body : List Stmt) (scope : Scope) (cdv : Value) : Prop := ∃ (oc : Value) (od : Option Addr) (dV kV doc pm ct : Value) (an : Option Addr) (osl : Array (Option Value)), K.lookup f = some ⟨oc, od, .func (PySem.W.fnOf x qual params body scope dV kV doc pm an cdv ct), osl⟩
theorem FnOk.ofC {x qual : Str} {params : Arguments} {body : List Stmt} {scope : Scope} {dvs : List V} {kws : List (Str × V)} {N : List Str} (F : FunD K x qual params body scope dvs kws f fd) (S : FnScope N ps scope) (len : ∀ vs H Q E, sp vs H Q E → vs.length = ps.length)
    (hb : ∀ (cdv : Value), CodeAt K f x qual params body scope cdv → ∀ (A : Around) (outer : List Env) (s : Shared) (H : Hp) (vs : List V) (Q : VK) (E : XK), Room k (A.deeper (PyProof.Rows.envOfC qual scope s.heap.objs.size f cdv)) → sp vs H Q E →
      ∃ t, PSs (cxOf CX P w K mg base N qual scope f cdv A outer s H E) body t ∧ t { rt := Q, nx := fun _ H' => Q .non H' } (start N vs) H) : FnOk P w K mg base CX (k + 1) f fd ps sp := by
  obtain ⟨oc, od, dV, kV, doc, pm, an, cdv, ct, osl, rfl, lk, hcd, _, _⟩ := F.ex
  refine ⟨len, ?_⟩
  intro A outer s H args us vs Q E hr e0 hbn rv hs
  have kin : K.In s.heap := e0.mod.kin.keeps fun b o e => (e0.bs b o e).1
  have nl : s.heap.NoLimit := e0.mod.nolimit.keeps fun b o e => (e0.bs b o e).1
  have kinds : ∀ y ∈ ps.zip us, scope.names.lookup y.1 = some .local ∨ (scope.names.lookup y.1 = some .cell ∧ ((cellsFrom (s.heap.objs.size + 1) scope.names []).lookup y.1).isSome = true) := by
    rintro ⟨n, v⟩ hy
    have := S.par n (List.of_mem_zip hy).1
    exact this.elim Or.inl fun q => Or.inr ⟨q, PySem.W.cellsFrom_some _ _ _ (Or.inl q)⟩
  refine codeAny_call_function hr.depth (kin _ _ lk) rfl S.co S.gen rfl (PySem.W.codeRec_of kin hcd) (hbn _ _ _ _ (PySem.wpAny_newFunctionEnv_cells S.kind kinds ?_))
  rintro env rfl s1 x1
  refine ⟨nl.keeps x1.toInCall.keep, codeAny_func ?_⟩
  obtain ⟨t, pt, ht⟩ := hb cdv ⟨oc, od, dV, kV, doc, pm, ct, an, osl, lk⟩ A outer s H vs Q E (Room.deeper hr _) hs
  have I1 := inv_start (CX := CX) (E := E) S hr.hd e0 (len _ _ _ _ hs) rv x1
  refine wpAny_mono (pt.run [] s1 _ H _ I1 ht) (fun fl s2 z => ?_) fun _ _ z => z
  cases fl with
  | ret u => obtain ⟨v, σ2, H2, J, ru, q⟩ := z; exact ⟨v, H2, J.os, J.bare, J.base, J.hok, ru, q⟩
  | next => obtain ⟨σ2, H2, J, q⟩ := z; exact ⟨V.non, H2, J.os, J.bare, J.base, J.hok, rfl, q⟩
  | brk => obtain ⟨_, _, _, q⟩ := z; exact q.elim
  | cont => obtain ⟨_, _, _, q⟩ := z; exact q.elim
theorem FnOk.of {x qual : Str} {params : Arguments} {body : List Stmt} {scope : Scope} {dvs : List V} {kws : List (Str × V)} {N : List Str} (F : FunD K x qual params body scope dvs kws f fd) (S : FnScope N ps scope) (len : ∀ vs H Q E, sp vs H Q E → vs.length = ps.length)
    (hb : ∀ (cdv : Value) (A : Around) (outer : List Env) (s : Shared) (H : Hp) (vs : List V) (Q : VK) (E : XK), Room k (A.deeper (PyProof.Rows.envOfC qual scope s.heap.objs.size f cdv)) → sp vs H Q E →
      ∃ t, PSs (cxOf CX P w K mg base N qual scope f cdv A outer s H E) body t ∧ t { rt := Q, nx := fun _ H' => Q .non H' } (start N vs) H) : FnOk P w K mg base CX (k + 1) f fd ps sp := FnOk.ofC F S len fun cdv _ => hb cdv
theorem FnR.star {name qual : Str} {params : Arguments} {body : List Stmt} {scope : Scope} {dV kV doc pm cdv ct oc : Value} {an od : Option Addr} {osl : Array (Option Value)} {N : List Str} {pv : Str} (lk : K.lookup f = some ⟨oc, od, .func (PySem.W.fnOf name qual params body scope dV kV doc pm an cdv ct), osl⟩) (hcd : PySem.W.codeIn K cdv qual = true)
    (S : FnScope N (ps ++ [pv]) scope) (hCX : StX.CXUp CX)
    (hbi : ∀ us rest : List Value, us.length = ps.length → bindArgs (PySem.W.fnOf name qual params body scope dV kV doc pm an cdv ct) ⟨us ++ rest, []⟩ = (newTuple rest >>= fun t => pure (ps.zip us ++ [(pv, t)])))
    (hb : ∀ (A : Around) (outer : List Env) (s : Shared) (H : Hp) (vs : List V) (Q : VK) (E : XK), Room k (A.deeper (PyProof.Rows.envOfC qual scope s.heap.objs.size f cdv)) → sp vs H Q E →
      ∃ t, PSs (cxOf CX P w K mg base N qual scope f cdv A outer s H E) body t ∧ t { rt := Q, nx := fun _ H' => Q .non H' } (start N vs) H) :
    FnR P w K mg base CX (k + 1) f (fun vs H Q E => ∃ ws rest, vs = ws ++ rest ∧ ws.length = ps.length ∧ rest.length ≤ sizeLine ∧ ∀ p, H p = Option.none → sp (ws ++ [V.ref p]) (upd H p (.tup rest)) Q E) := by
  rintro A outer s H us _ Q E hr e0 rv ⟨ws, rest, rfl, hl, hz, hq⟩
  obtain ⟨u1, u2, rfl, r1, r2⟩ := StX.vals_split rv
  have l1 : u1.length = ps.length := r1.length.symm.trans hl
  have l2 : u2.length ≤ sizeLine := by have := r2.length; omega
  have hn : H s.heap.objs.size = Option.none := e0.hok.fresh (Nat.le_refl _)
  have kin : K.In s.heap := e0.mod.kin.keeps fun b o e => (e0.bs b o e).1
  refine codeAny_call_function hr.depth (kin _ _ lk) rfl S.co S.gen rfl (PySem.W.codeRec_of kin hcd) ?_
  rw [hbi u1 u2 l1]
  refine wpAny_bind (wpAny_newTuple (wpAny_pure ?_) l2)
  let ob : Obj := { cls := .type "tuple", data := .seq u2.toArray }
  have nw : ObjOk P w (upd H s.heap.objs.size (.tup rest)) (s.heap.push ob) s.heap.objs.size (.tup rest) := ⟨hz, u2, r2, ⟨_, Heap.get?_push_size _ rfl, rfl, _, rfl⟩⟩
  have e2 := StX.env0_laid (o := ob) e0 nw
  have un := StX.un_laid (fs := frs outer) (s := s) (o := ob) (u := .tup rest) hn
  have lz : (ws ++ [V.ref s.heap.objs.size]).length = (ps ++ [pv]).length := by simp [hl]
  have rz : Vals (ws ++ [V.ref s.heap.objs.size]) (u1 ++ [Value.ref s.heap.objs.size]) := r1.append (.cons rfl .nil)
  have ez : ps.zip u1 ++ [(pv, Value.ref s.heap.objs.size)] = (ps ++ [pv]).zip (u1 ++ [Value.ref s.heap.objs.size]) := by rw [List.zip_append l1.symm]; rfl
  rw [ez]
  have nl : (s.heap.push ob).NoLimit := e0.mod.nolimit.keeps fun b o e => (e2.bs b o e).1
  have kinds : ∀ y ∈ (ps ++ [pv]).zip (u1 ++ [Value.ref s.heap.objs.size]), scope.names.lookup y.1 = some .local ∨ (scope.names.lookup y.1 = some .cell ∧ ((cellsFrom ((s.heap.push ob).objs.size + 1) scope.names []).lookup y.1).isSome = true) := by
    rintro ⟨n, v⟩ hy
    have := S.par n (List.of_mem_zip hy).1
    exact this.elim Or.inl fun q => Or.inr ⟨q, PySem.W.cellsFrom_some _ _ _ (Or.inl q)⟩
  refine PySem.wpAny_newFunctionEnv_cells (s := { s with heap := s.heap.push ob }) S.kind kinds ?_
  rintro env rfl s1 x1
  refine ⟨nl.keeps x1.toInCall.keep, codeAny_func ?_⟩
  obtain ⟨t, pt, ht⟩ := hb A outer { s with heap := s.heap.push ob } _ _ Q E (Room.deeper hr _) (hq _ hn)
  have I1 := inv_start (CX := CX) (E := E) S hr.hd e2 lz rz x1
  refine wpAny_mono (pt.run [] s1 _ _ _ I1 ht) (fun fl s2 z => ?_) fun e s2 z => ?_
  · cases fl with
    | ret u => obtain ⟨v, σ2, H2, J, ru, q⟩ := z; exact ⟨v, H2, J.os, J.bare, un.trans J.base, J.hok, ru, q⟩
    | next => obtain ⟨σ2, H2, J, q⟩ := z; exact ⟨V.non, H2, J.os, J.bare, un.trans J.base, J.hok, rfl, q⟩
    | brk => obtain ⟨_, _, _, q⟩ := z; exact q.elim
    | cont => obtain ⟨_, _, _, q⟩ := z; exact q.elim
  · have up : ∀ e' s', CX outer (upd H s.heap.objs.size (.tup rest)) { s with heap := s.heap.push ob } E e' s' → CX outer H s E e' s' := fun e' s' => hCX outer s H _ _ E e' s' un (fun b o q => Heap.get?_push_of_some _ q) rfl
    exact wpAny_mono z (fun _ s3 y => up e s3 y) fun e' s3 y => up e' s3 y
end
abbrev CXX (X : Cx) : CXT := L2.CX X.prog X.w
section
variable {X : Cx} {W : WX} {pins : List (Addr × Obj)} {σ : St} {H : Hp} {s : Shared}
theorem run_fnRS {k : Nat} {f : Addr} {sp : Sp} {Q : VK} {us : List Value} {vs : List V} (F : FnR X.prog X.w X.K X.mg X.base (CXX X) k f sp) (hr : Room k X.A) (tk : Takes X W) (I : Inv X pins σ H s) (r : Vals vs us) (h : sp vs H Q (WE W σ)) :
    codeAny (model X.prog X.w) X.A (.call (.ref f) ⟨us, []⟩) (fun r s' => match r with | .ok (.ret v) => EP X pins σ Q v s' | .ok _ => False | .error e => X.xe e s') s := by
  refine codeAny_mono (F X.A X.stack s H us vs Q (WE W σ) hr I.env0 r h) fun r s' hq => ?_
  cases r with
  | error e => exact passAt tk σ pins H s e s' I hq
  | ok fl =>
    cases fl with
    | ret u => exact I.after hq
    | next => exact False.elim hq
    | brk => exact False.elim hq
    | cont => exact False.elim hq
theorem run_makeRS {k : Nat} {f C : Addr} {sp : Sp} {Q : VK} {us : List Value} {vs : List V} (M : Mk X.K C f) (F : FnR X.prog X.w X.K X.mg X.base (CXX X) k f sp) (hr : Room (k + 1) X.A) (tk : Takes X W) (I : Inv X pins σ H s) (r : Vals vs us)
    (h : ∀ x dx, H x = Option.none → H dx = Option.none → dx ≠ x → sp (V.ref x :: vs) (upd (upd H dx (.own x)) x (.ins C dx [])) (fun v H2 => v = .non ∧ Q (.ref x) H2) (WE W σ)) :
    wpAny (model X.prog X.w) X.A (call (.ref C) us) (EP X pins σ Q) X.xe s := by
  have hq := h (s.heap.objs.size + 1) s.heap.objs.size (I.hok.fresh (Nat.le_succ _)) (I.hok.fresh (Nat.le_refl _)) (Nat.ne_of_lt (Nat.lt_succ_self _))
  have I2 := Inv.made (C := C) I
  have r2 : Vals (V.ref (s.heap.objs.size + 1) :: vs) (Value.ref (s.heap.objs.size + 1) :: us) := .cons rfl r
  refine wpAny_call (make_map (f := f) I.kIn M.makes M.init (beq_iff_eq.mp M.fn) (codeAny_mono (F _ X.stack _ _ (Value.ref (s.heap.objs.size + 1) :: us) _ _ (WE W σ) (hr.make C us []) (I2.env0.make C us []) r2 hq) fun r s' hq' => ?_))
  cases r with
  | error e => exact passAt tk σ pins _ _ e s' I2 hq'
  | ok fl =>
    cases fl with
    | ret u =>
      obtain ⟨v, H', I3, rv, ev, q3⟩ := I2.after hq'
      subst ev
      exact ⟨rv, ⟨V.ref (s.heap.objs.size + 1), H', I3, rfl, q3⟩⟩
    | next => exact False.elim hq'
    | brk => exact False.elim hq'
    | cont => exact False.elim hq'
end
section
variable {X : Cx} {W : WX} {k : Nat} {f C : Addr} {sp : Sp} {x m : Str} {e o : Expr} {es : List Expr} {ta : TE} {t : TA} {p pos apos : Pos}
def tOwn (W : WX) (sp : Sp) (t : TA) : TE := fun σ H Q => t σ H fun vs H1 => sp vs H1 Q (WE W σ)
theorem pe_own (F : FnR X.prog X.w X.K X.mg X.base (CXX X) k f sp) (hr : Room k X.A) (tk : Takes X W) (hg : Gl X x) (hm : X.mg x = some (.ref f)) (hk : PySem.W.keepIn X.K (.ref f) = true) (ha : PA X (e :: es) t)
    (hdb : (x == ("__debug__" : Str)) = false := by decide) (he : starEach (e :: es) X.env = (false, eval e X.env) :: starEach es X.env := by rfl) (hpl : (backTo pos (starEach es X.env)).any (·.1) = false := by rfl) :
    PE X (.Call (.Name x p) (e :: es) [] pos) (tOwn W sp t) := by
  refine ⟨fun pins s σ H Q I h => ?_⟩
  refine wpAny_Call_Name_kw (ld_glob I hg hm ?_ hdb)
  refine PySem.W.callWith_K (h₀ := X.base) I.ok.mod.kin hk (thn (ha.run pos pins s σ H _ I h) fun us s1 ⟨vs, H1, I1, r, q⟩ => ⟨I1.kIn, ?_⟩) he hpl
  exact wpAny_call (run_fnRS F hr tk I1 r q)
def tMakeS (W : WX) (C : Addr) (sp : Sp) (t : TA) : TE := fun σ H Q => t σ H fun vs H1 => ∀ x dx, H1 x = Option.none → H1 dx = Option.none → dx ≠ x →
  sp (V.ref x :: vs) (upd (upd H1 dx (.own x)) x (.ins C dx [])) (fun v H2 => v = .non ∧ Q (.ref x) H2) (WE W σ)
theorem pe_makeS (M : Mk X.K C f) (F : FnR X.prog X.w X.K X.mg X.base (CXX X) k f sp) (hr : Room (k + 1) X.A) (tk : Takes X W) (hg : Gl X x) (hm : X.mg x = some (.ref C)) (ha : PA X (e :: es) t) (hdb : (x == ("__debug__" : Str)) = false := by decide)
    (he : starEach (e :: es) X.env = (false, eval e X.env) :: starEach es X.env := by rfl) (hpl : (backTo pos (starEach es X.env)).any (·.1) = false := by rfl) : PE X (.Call (.Name x p) (e :: es) [] pos) (tMakeS W C sp t) := by
  refine ⟨fun pins s σ H Q I h => ?_⟩
  refine wpAny_Call_Name_kw (ld_glob I hg hm ?_ hdb)
  refine PySem.W.callWith_K (h₀ := X.base) I.ok.mod.kin M.kp (thn (ha.run pos pins s σ H _ I h) fun us s1 ⟨vs, H1, I1, r, q⟩ => ⟨I1.kIn, ?_⟩) he hpl
  exact run_makeRS M F hr tk I1 r q
def tMethD (W : WX) (ok : Addr → Sp → Prop) (m : Str) (ta : TE) (t : TA) : TE := fun σ H Q => ta σ H fun x H1 => ∃ a C dx fs sp, x = .ref a ∧ H1 a = some (.ins C dx fs) ∧ ok C sp ∧ fs.lookup m = none ∧ t σ H1 fun vs H2 => sp (x :: vs) H2 Q (WE W σ)
structure MethOk (X : Cx) (k : Nat) (m : Str) (ok : Addr → Sp → Prop) : Prop where
  at_ : ∀ C sp, ok C sp → ∃ g, Cls X.K C ∧ Meth X.K C m g ∧ FnR X.prog X.w X.K X.mg X.base (CXX X) k g sp
theorem pe_methD {ok : Addr → Sp → Prop} {pl : Sem Bool} (he : PE X o ta) (T : MethOk X k m ok) (hr : Room k X.A) (tk : Takes X W) (ha : PA X (e :: es) t)
    (hst : starEach (e :: es) X.env = (false, eval e X.env) :: starEach es X.env := by rfl) (hpl : (backTo pos (starEach es X.env)).any (·.1) = false := by rfl)
    (ht : eval (.Call (.Attribute o m apos) (e :: es) [] pos) X.env = (do
      let ov ← eval o X.env
      standAt apos.atName
      let (f, first) ← holding [ov] (getMethod ov m pl)
      callWith pos f first (backTo pos (starEach (e :: es) X.env)) (backToKw pos (keywordEach [] X.env))) := by rfl) :
    PE X (.Call (.Attribute o m apos) (e :: es) [] pos) (tMethD W ok m ta t) := by
  refine ⟨fun pins s σ H Q I h => ?_⟩
  refine PySem.W.methodCall_KW (pl := pl) (thn (he.run pins s σ H _ I h) fun u s1 ⟨x, H1, I1, rx, a, C, dx, fs, sp, ex, ea, hok, l, q⟩ => ?_) ht
  obtain ⟨g, c, hm, F⟩ := T.at_ C sp hok
  subst ex
  obtain rfl : u = Value.ref a := rx
  refine getmeth_ok I1 ea c hm l ?_
  refine PySem.W.callWith_K (first := [.ref a]) (h₀ := X.base) I.ok.mod.kin hm.kp (thn (ha.run pos pins s1 σ H1 _ I1 q) fun us s2 ⟨vs, H2, I2, r, q2⟩ => ⟨I2.kIn, ?_⟩) hst hpl
  exact wpAny_call (run_fnRS (us := .ref a :: us) (vs := .ref a :: vs) F hr tk I2 (.cons rfl r) q2)
end
section
variable {M : Gm} {c : Cn M} {F F' H H' : Hp} {σ : St} {δ δ' : Sl}
theorem Ok.stpTmp (ok : Ok c F H σ δ) {x : Addr} (hx : c.H0 x = none) (hns : ∀ (i : Nat) (r : R), δ[i]? = some (some r) → r.mu = true → σ[i]? ≠ some (some (V.ref x))) (st : Stp M F H F' H' (some x)) : Ok c F' H' σ δ := by
  have hio : c.io ≠ some x := fun z => c.iob x z hx
  have kp : ∀ b o, b ≠ x → H b = some o → NT o → H' b = some o := fun b o hb e n => st.kept b o e n (fun z => hb (Option.some.inj z).symm)
  refine ⟨st.same, ok.grow.trans st.grow, fun b e1 e2 => ?_, fun b o e1 e2 => ?_, fun b e1 => ?_, st.tb, ok.len, fun i r e => ?_, ok.dist⟩
  · obtain ⟨u, k1, k2⟩ := ok.hn e1
    exact st.nofz b u k1 k2 (ok.nofz b e1 e2)
  · exact kp b o (fun z => by rw [z, hx] at e1; cases e1) (ok.kept b o e1 e2) (c.nt b o e1)
  · have hb : b ≠ x := fun z => hio (z ▸ e1)
    obtain ⟨o, q1, q2⟩ := ok.ioh b e1
    exact ⟨o, kp b o hb q1 q2, q2⟩
  · obtain ⟨v, s1, s2⟩ := ok.slot i r e
    refine ⟨v, s1, ?_⟩
    cases r with
    | imm d => exact rep_mono st.grow _ _ s2
    | own o =>
      obtain ⟨b, rfl, k1, k2, k3⟩ := s2
      obtain ⟨u, hu, hn⟩ := obAt_nt k3
      have hb : b ≠ x := fun z => hns i _ e rfl (by rw [s1, z])
      exact ⟨b, rfl, st.nofz b u hu hn k1, k2, obAt_mono st.grow ((kp b u hb hu hn).trans hu.symm) k3⟩
    | brw o =>
      obtain ⟨b, rfl, k1, k2, k3⟩ := s2
      obtain ⟨u, hu, hn⟩ := obAt_nt k3
      have hb : b ≠ x := fun z => hns i _ e rfl (by rw [s1, z])
      exact ⟨b, rfl, st.nofz b u hu hn k1, k2, obAt_mono st.grow ((kp b u hb hu hn).trans hu.symm) k3⟩
theorem Ok.resR' (ok : Ok c F H σ δ) (hm : ∀ (j : Nat) (r : R), δ'[j]? = some (some r) → r.mu = true → ∃ r0, δ[j]? = some (some r0) ∧ r0.mu = true) {r : R} {v : V} (h : resAt M H F' H' r v) : repR c F' H' σ δ' r v := by
  cases r with
  | imm d => exact h
  | own o =>
    obtain ⟨a, rfl, h1, h2, h3⟩ := h
    refine ⟨a, rfl, h1, ok.h1 h2, h3, fun i r e m => ?_⟩
    obtain ⟨r0, e0, m0⟩ := hm i r e m
    exact ok.fresh1 h2 i r0 e0 m0
  | brw o => exact h
theorem set_mu {i : Nat} {r r' : R} (e : δ[i]? = some (some r)) (h : r.mu = true) : ∀ (j : Nat) (q : R), (δ.set i (some r'))[j]? = some (some q) → q.mu = true → ∃ r0, δ[j]? = some (some r0) ∧ r0.mu = true := fun j q e1 m => by
  rcases getElem?_set_some e1 with ⟨rfl, _, _⟩ | ⟨_, e2⟩
  · exact ⟨r, e, h⟩
  · exact ⟨q, e2, m⟩
end
def outE (r : FR) (δ : Sl) : Res R := match r with
  | .ok r _ => .ok r δ
  | .exc x _ => .exc x δ
  | .bad => .bad
def fOwn (f : Fm) (fa : FA) : FE := fun δ => (fa δ).bind fun ds δ1 => outE (f none ds) δ1
def fOwnIo (f : Fm) (i : Nat) (fa : FA) : FE := fun δ => match δ[i]? with
  | some (some r0) => if r0.mu then (fa δ).bind fun ds δ1 => match δ1[i]? with
      | some (some (.own o)) => (match f (some o) ds with
        | .ok r (some o') => .ok r (δ1.set i (some (.own o')))
        | .exc x (some o') => .exc x (δ1.set i (some (.own o')))
        | _ => .bad)
      | some (some (.brw o)) => (match f (some o) ds with
        | .ok r (some o') => .ok r (δ1.set i (some (.brw o')))
        | .exc x (some o') => .exc x (δ1.set i (some (.brw o')))
        | _ => .bad)
      | _ => .bad
    else .bad
  | _ => .bad
def fOwnT (f : Fm) (fe : FE) : FE := fun δ => (fe δ).bind fun r δ1 => match r with
  | .own o => outE (f (some o) []) δ1
  | _ => .bad
def fMake (n : Nat) (f : Fm) (fa : FA) : FE := fun δ => (fa δ).bind fun ds δ1 => match f (some (.o n [])) ds with
  | .ok (.imm .non) (some (.o n' vs)) => if n' = n then .ok (.own (.o n vs)) δ1 else .bad
  | .exc x _ => .exc x δ1
  | _ => .bad
def fMakeL (n i : Nat) (f : Fm) (fa : FA) : FE := fun δ => match δ[i]? with
  | some (some (.imm (.cls n'))) => if n' = n then fMake n f fa δ else .bad
  | _ => .bad
def fMeth (tab : Nat → Option Fm) (fo : FD) (fa : FA) : FE := fun δ => (fo δ).bind fun d δ1 => match d with
  | .obj n vs => (match tab n with
    | some f => (fa δ1).bind fun ds δ2 => outE (f none (.obj n vs :: ds)) δ2
    | none => .bad)
  | _ => .bad
section
variable {M : Gm} {c : Cn M} {W : WX} {X : Cx} {e : Expr} {es : List Expr} {fa : FA} {f : Fm}
theorem own_of {F H : Hp} {σ : St} {δ : Sl} {vs : List V} {ds : List D} {Q : VK} (ok : Ok c F H σ δ) (rs : reps M F ds vs) (post : Post c W F σ (ρR c σ) (outE (f none ds) δ) Q) : spD M f vs H Q (WE W σ) := by
  refine ⟨F, none, 0, vs, ds, rfl, ok.same, ok.tb, rs, trivial, ?_⟩
  unfold outE at post
  cases q : f none ds with
  | ok r io => rw [q] at post; exact fun v F' H' st ra _ => post v F' H' st.grow (ok.stp st) (ok.resR st ra)
  | exc x io => rw [q] at post; exact fun cls d F' H' st xa _ => post cls d F' H' st.grow (ok.stp st) xa
  | bad => rw [q] at post; exact post
theorem make_of {n : Nat} {C : Addr} {F1 H1 : Hp} {σ : St} {δ1 : Sl} {vs : List V} {ds : List D} {Q : VK} (ok1 : Ok c F1 H1 σ δ1) (hG : M.G n = some C) (rs : reps M F1 ds vs)
    (post : Post c W F1 σ (ρR c σ) (match f (some (.o n [])) ds with
      | .ok (.imm .non) (some (.o n' vs)) => if n' = n then .ok (.own (.o n vs)) δ1 else .bad
      | .exc x _ => .exc x δ1
      | _ => .bad) Q) {x dx : Addr} (hx : H1 x = none) (hdx : H1 dx = none) (hne : dx ≠ x) :
    spD M f (V.ref x :: vs) (upd (upd H1 dx (.own x)) x (.ins C dx [])) (fun v H2 => v = .non ∧ Q (.ref x) H2) (WE W σ) := by
  have ok2 : Ok c F1 (upd H1 dx (.own x)) σ δ1 := ok1.alloc hdx
  have hx2 : (upd H1 dx (.own x)) x = none := by rw [upd_ne (Ne.symm hne)]; exact hx
  have ok3 : Ok c F1 (upd (upd H1 dx (.own x)) x (.ins C dx [])) σ δ1 := ok2.alloc hx2
  refine ⟨F1, some (.o n []), x, vs, ds, rfl, ok3.same, ok3.tb, rs, ⟨ok1.f hx, C, dx, [], hG, upd_same, rfl, reps_nil⟩, ?_⟩
  have h0 := ok1.h0 hx
  have hns := ok1.fresh hx
  cases q : f (some (.o n [])) ds with
  | bad => rw [q] at post; exact post
  | exc xx io => rw [q] at post; exact fun cls d F' H' st xa _ => post cls d F' H' st.grow (ok3.stpTmp h0 hns st) xa
  | ok r io =>
    rw [q] at post
    intro v F' H' st ra ia
    split at post
    · rename_i n' vs' e1
      cases e1
      split at post
      · rename_i hn
        subst hn
        have ev : v = .non := by
          have z : rep M F' .non v := ra
          unfold rep at z; exact z
        refine ⟨ev, post _ F' H' st.grow (ok3.stpTmp h0 hns st) ⟨x, rfl, ia.1, h0, ia.2, hns⟩⟩
      · exact post.elim
    · rename_i e1
      cases e1
    · exact post.elim
theorem d_own (mk : ∀ {t : TA}, PA X es t → PE X e (tOwn W (spD M f) t)) (ha : DA M W X es fa) : DE M W X e (fOwn f fa) := by
  obtain ⟨t, p, h⟩ := ha
  exact ⟨_, mk p, fun c F H σ δ Q ok post => h c F H σ δ _ ok (Post.bind post fun ds δ1 vs F1 H1 _ s ok1 rs post => own_of ok1 rs post)⟩
theorem d_ownIo {e0 : Expr} {i : Nat} (mk : ∀ {t : TA}, PA X (e0 :: es) t → PE X e (tOwn W (spD M f) t)) (h0 : PE X e0 (tVar i)) (ha : DA M W X es fa) (hs : starEach (e0 :: es) X.env = (false, eval e0 X.env) :: starEach es X.env := by rfl) : DE M W X e (fOwnIo f i fa) := by
  obtain ⟨t, p, h⟩ := ha
  refine ⟨_, mk (pa_cons h0 p hs), fun c F H σ δ Q ok post => ?_⟩
  unfold fOwnIo at post
  split at post
  · rename_i r0 q0
    split at post
    · rename_i hm0
      obtain ⟨a, ob0, ea, _, _, _⟩ := ok.mus q0 hm0
      refine ⟨.ref a, ea, h c F H σ δ _ ok (Post.bind post fun ds δ1 vs F1 H1 _ s1 ok1 rs post => ?_)⟩
      have fin : ∀ (r r1 : R) (ob : OB) (mkr : OB → R), δ1[i]? = some (some r1) → r1 = mkr ob → (∀ o, (mkr o).mu = true) → (mkr = R.own ∨ mkr = R.brw) →
          Post c W F1 σ (ρR c σ) (match f (some ob) ds with | .ok r (some o') => .ok r (δ1.set i (some (mkr o'))) | .exc x (some o') => .exc x (δ1.set i (some (mkr o'))) | _ => .bad) Q → spD M f (V.ref a :: vs) H1 Q (WE W σ) := by
        intro r r1 ob mkr q1 e1 hm hk post
        subst e1
        obtain ⟨a', ob1, ea', hf1, hob1, hk1⟩ := ok1.mus q1 (hm ob)
        rw [ea] at ea'; cases ea'
        have eob : ob1 = ob := by
          rcases hk with rfl | rfl
          · rcases hk1 with ⟨z, _⟩ | ⟨z, _⟩ <;> cases z; rfl
          · rcases hk1 with ⟨z, _⟩ | ⟨z, _⟩ <;> cases z; rfl
        subst eob
        have rel : ∀ o', (mkr ob1 = R.own ob1 ∧ mkr o' = R.own o') ∨ (mkr ob1 = R.brw ob1 ∧ mkr o' = R.brw o') := fun o' => by
          rcases hk with rfl | rfl
          · exact .inl ⟨rfl, rfl⟩
          · exact .inr ⟨rfl, rfl⟩
        refine ⟨F1, some ob1, a, vs, ds, rfl, ok1.same, ok1.tb, rs, ⟨hf1, hob1⟩, ?_⟩
        cases q : f (some ob1) ds with
        | bad => rw [q] at post; exact post
        | ok r io =>
          rw [q] at post
          cases io with
          | none => exact post.elim
          | some o' =>
            intro v F' H' st ra ia
            exact post v F' H' st.grow (ok1.stpIo q1 (rel o') ea st ia) (ok1.resR' (set_mu q1 (hm _)) ra)
        | exc x io =>
          rw [q] at post
          cases io with
          | none => exact post.elim
          | some o' =>
            intro cls d F' H' st xa ia
            exact post cls d F' H' st.grow (ok1.stpIo q1 (rel o') ea st ia) xa
      split at post
      · rename_i o q1
        exact fin (.imm .non) _ o R.own q1 rfl (fun _ => rfl) (.inl rfl) post
      · rename_i o q1
        exact fin (.imm .non) _ o R.brw q1 rfl (fun _ => rfl) (.inr rfl) post
      · exact post.elim
    · exact post.elim
  · exact post.elim
theorem d_ownT {e0 : Expr} {fe : FE} (mk : ∀ {t : TA}, PA X [e0] t → PE X e (tOwn W (spD M f) t)) (h0 : DE M W X e0 fe) (hs : starEach (e0 :: []) X.env = (false, eval e0 X.env) :: starEach [] X.env := by rfl) : DE M W X e (fOwnT f fe) := by
  obtain ⟨t, p, h⟩ := h0
  refine ⟨_, mk (pa_cons p pa_nil hs), fun c F H σ δ Q ok post => h c F H σ δ _ ok (Post.bind post fun r δ1 v F1 H1 _ s1 ok1 rr post => ?_)⟩
  cases r with
  | imm d => exact post.elim
  | brw o => exact post.elim
  | own o =>
    obtain ⟨a, rfl, h1, h2, h3, h4⟩ := rr
    refine ⟨F1, some o, a, [], [], rfl, ok1.same, ok1.tb, reps_nil, ⟨h1, h3⟩, ?_⟩
    change Post c W F1 σ (ρR c σ) (outE (f (some o) []) δ1) Q at post
    unfold outE at post
    cases q : f (some o) [] with
    | ok r io => rw [q] at post; exact fun v F' H' st ra _ => post v F' H' st.grow (ok1.stpTmp h2 h4 st) (ok1.resR' (fun j r e m => ⟨r, e, m⟩) ra)
    | exc x io => rw [q] at post; exact fun cls d F' H' st xa _ => post cls d F' H' st.grow (ok1.stpTmp h2 h4 st) xa
    | bad => rw [q] at post; exact post
theorem d_make {n : Nat} {C : Addr} (mk : ∀ {t : TA}, PA X es t → PE X e (tMakeS W C (spD M f) t)) (hG : M.G n = some C) (ha : DA M W X es fa) : DE M W X e (fMake n f fa) := by
  obtain ⟨t, p, h⟩ := ha
  refine ⟨_, mk p, fun c F H σ δ Q ok post => h c F H σ δ _ ok (Post.bind post fun ds δ1 vs F1 H1 _ s1 ok1 rs post => fun x dx hx hdx hne => ?_)⟩
  exact make_of ok1 hG rs post hx hdx hne
theorem lookup_none {α : Type} : ∀ {fs : List (Str × α)} {m : Str}, m ∉ fs.map (·.1) → fs.lookup m = none
  | [], m, _ => rfl
  | (k, v) :: r, m, h => by
    have h1 : m ≠ k := fun z => h (by simp [z])
    have h2 : m ∉ r.map (·.1) := fun z => h (by simp [z])
    have e : (m == k) = false := by simpa using h1
    simp only [List.lookup, e]
    exact lookup_none h2
def okM (M : Gm) (tab : Nat → Option Fm) : Addr → Sp → Prop := fun C sp => ∃ n f, tab n = some f ∧ M.G n = some C ∧ sp = spD M f
theorem d_meth {o : Expr} {m : Str} {tab : Nat → Option Fm} {fo : FD} (mk : ∀ {ta : TE} {t : TA}, PE X o ta → PA X es t → PE X e (tMethD W (okM M tab) m ta t)) (hn : ∀ n f, tab n = some f → m ∉ M.nm n) (ho : DI M W X o fo) (ha : DA M W X es fa) : DE M W X e (fMeth tab fo fa) := by
  obtain ⟨ta, pa, ho⟩ := ho
  obtain ⟨t, p, h⟩ := ha
  refine ⟨_, mk pa p, fun c F H σ δ Q ok post => ho c F H σ δ _ ok (Post.bind post fun d δ1 v F1 H1 _ s1 ok1 r post => ?_)⟩
  split at post
  · rename_i n vs _
    split at post
    · rename_i f hf
      have r0 := r
      unfold ρD rep at r
      obtain ⟨a, C, dx, fs, rfl, h1, h2, h3, h4⟩ := r
      refine ⟨a, C, dx, fs, spD M f, rfl, ok1.same _ _ h2, ⟨n, f, hf, h1, rfl⟩, lookup_none (fun z => hn n f hf (List.mem_of_mem_take (h3 ▸ z))), h c F1 H1 σ δ1 _ ok1 (Post.bind post fun ds δ2 ws F2 H2 _ s2 ok2 rs post => ?_)⟩
      exact own_of ok2 (reps_cons (rep_mono s2 _ _ r0) rs) post
    · exact post.elim
  · exact post.elim
theorem methOk_of {k : Nat} {m : Str} {tab : Nat → Option Fm} {M : Gm} (h : ∀ n f, tab n = some f → ∃ C g, M.G n = some C ∧ Cls X.K C ∧ Meth X.K C m g ∧ FnR X.prog X.w X.K X.mg X.base (CXX X) k g (spD M f)) : MethOk X k m (okM M tab) := ⟨fun C sp ⟨n, f, h1, h2, h3⟩ => by
  obtain ⟨C', g, k1, k2, k3, k4⟩ := h n f h1
  rw [h2] at k1; cases k1
  subst h3
  exact ⟨g, k2, k3, k4⟩⟩
theorem lookup_at {α : Type} : ∀ {fs : List (Str × α)} {j : Nat} {f : Str} {v : α}, (fs.map (·.1))[j]? = some f → f ∉ (fs.map (·.1)).take j → (fs.map (·.2))[j]? = some v → fs.lookup f = some v
  | [], j, f, v, h, _, _ => by simp at h
  | (k, w) :: r, 0, f, v, h, _, hv => by
    simp at h hv
    subst h hv
    simp [List.lookup]
  | (k, w) :: r, j + 1, f, v, h, hn, hv => by
    simp at h hv
    simp only [List.map_cons, List.take_succ_cons, List.mem_cons, not_or] at hn
    have e : (f == k) = false := by simpa using hn.1
    simp only [List.lookup, e]
    exact lookup_at (by simpa using h) hn.2 (by simpa using hv)
def fFld (ix : Nat → Option Nat) (fo : FD) : FD := fun δ => (fo δ).bind fun d δ1 => match d with
  | .obj n vs => (match ix n with
    | some j => (match vs[j]? with
      | some d => .ok d δ1
      | none => .bad)
    | none => .bad)
  | _ => .bad
def FldT (M : Gm) (f : Str) (ix : Nat → Option Nat) : Prop := ∀ n j, ix n = some j → (∀ C, M.G n = some C → Cls M.K C ∧ NoAttr M.K C f) ∧ (M.nm n)[j]? = some f ∧ f ∉ (M.nm n).take j
theorem fld_look {M : Gm} {f : Str} {ix : Nat → Option Nat} (T : FldT M f ix) {F : Hp} {n j : Nat} {vs : List D} {fs : List (Str × V)} {d : D} (hj : ix n = some j) (h3 : fs.map (·.1) = (M.nm n).take vs.length) (h4 : reps M F vs (fs.map (·.2))) (hd : vs[j]? = some d) : ∃ v, fs.lookup f = some v ∧ rep M F d v := by
  obtain ⟨_, k1, k2⟩ := T n j hj
  obtain ⟨v, e1, e2⟩ := reps_get h4 hd
  have hl : j < vs.length := (List.getElem?_eq_some_iff.mp hd).1
  refine ⟨v, lookup_at (j := j) ?_ ?_ e1, e2⟩
  · rw [h3, List.getElem?_take_of_lt hl]; exact k1
  · rw [h3, List.take_take, Nat.min_eq_left (Nat.le_of_lt hl)]; exact k2
theorem di_fld {o : Expr} {f : Str} {pos : Pos} {ix : Nat → Option Nat} {fo : FD} (T : FldT M f ix) (ho : DP M W X o fo) (hK : X.K = M.K := by rfl) (hb : attributeBase o f X.env (eval o X.env) = eval o X.env := by rfl) : DI M W X (.Attribute o f pos) (fFld ix fo) := by
  obtain ⟨ta, pa, ho⟩ := ho
  refine ⟨_, pe_fld pa hb, fun c F H σ δ Q ok post => ho c F H σ δ _ ok (Post.bind post fun d δ1 v F1 H1 _ s1 ok1 r post => ?_)⟩
  split at post
  · rename_i n vs _
    split at post
    · rename_i j hj
      split at post
      · rename_i d hd
        obtain ⟨a, C, dx, fs, rfl, h1, h2, h3, h4⟩ := prep_obj ok1.same r
        obtain ⟨w, e1, e2⟩ := fld_look T hj h3 h4 hd
        obtain ⟨k1, k2⟩ := (T n j hj).1 C h1
        exact ⟨a, C, dx, fs, w, rfl, h2, by rw [hK]; exact k1, by rw [hK]; exact k2, e1, post.ok ok1 e2⟩
      · exact post.elim
    · exact post.elim
  · exact post.elim
def fProp (tab : Nat → Option Fm) (fo : FD) : FD := fun δ => (fo δ).bind fun d δ1 => match d with
  | .obj n vs => (match tab n with
    | some f => (match f none [.obj n vs] with
      | .ok (.imm d) _ => .ok d δ1
      | _ => .bad)
    | none => .bad)
  | _ => .bad
def tPropD (ok : Addr → Sp → Prop) (ta : TE) : TE := fun σ H Q => ta σ H fun x H1 => ∃ a C dx fs sp, x = .ref a ∧ H1 a = some (.ins C dx fs) ∧ ok C sp ∧ sp [.ref a] H1 Q E0
structure PropOk (X : Cx) (k : Nat) (f : Str) (ok : Addr → Sp → Prop) : Prop where
  at_ : ∀ C sp, ok C sp → ∃ p g, Cls X.K C ∧ PropOf X.K C f p g ∧ FnR X.prog X.w X.K X.mg X.base (CXX X) k g sp
theorem prop_run {k : Nat} {f : Str} {C p g a dx : Addr} {fs : List (Str × V)} {sp : Sp} {pins : List (Addr × Obj)} {σ : St} {H : Hp} {s : Shared} {Q : VK} {b : Bool} (I : Inv X pins σ H s) (ea : H a = some (.ins C dx fs)) (c : Cls X.K C) (hp : PropOf X.K C f p g)
    (F : FnR X.prog X.w X.K X.mg X.base (CXX X) k g sp) (hr : Room (k + 1) X.A) (h : sp [.ref a] H Q E0) : wpAny (model X.prog X.w) X.A (getAttr (.ref a) f b) (EP X pins σ Q) X.xe s := by
  obtain ⟨mA, O, _, _, _, _⟩ := ins_get I.hok ea
  obtain ⟨od, J, _⟩ := O.look
  obtain ⟨rest, hrec⟩ := hp.rec_
  obtain ⟨cd, ecd, _⟩ := PySem.W.any_some c.hd
  have I1 := I.tok (s.toks + 1)
  have pg := PySem.W.plainGet_of (c.get f)
  have run := F X.A.in1 X.stack { s with toks := s.toks + 1 } H [.ref a] [.ref a] Q E0 (Room.in1 hr) I1.env0.in1 (.cons rfl .nil) h
  refine PySem.W.get_bind I.kIn J pg.1 (PySem.W.findObj_data (by rw [ecd]; rfl) hp.at_ hp.get hp.tak) pg.2 (wpAny_call (PySem.W.prop_get (s := { s with toks := s.toks + 1 }) I.kIn hrec (codeAny_mono run fun r s' z => ?_)))
  cases r with
  | error er => exact False.elim ((passL : Passes _ X.nox _) pins σ H { s with toks := s.toks + 1 } er s' (I1.wish _) z)
  | ok fl =>
    cases fl with
    | ret u =>
      obtain ⟨v, H', I3, ru, q⟩ := I1.after z
      show wpAny _ _ (handedOut u) _ _ _
      rw [PySem.W.handedOut_of (handed_of ru)]
      exact wpAny_pure ⟨v, H', I3, ru, q⟩
    | next => exact z.elim
    | brk => exact z.elim
    | cont => exact z.elim
theorem pe_propD {o : Expr} {f : Str} {pos : Pos} {k : Nat} {ta : TE} {ok : Addr → Sp → Prop} (he : PE X o ta) (T : PropOk X k f ok) (hr : Room (k + 1) X.A) (hab : attributeBase o f X.env (eval o X.env) = eval o X.env := by rfl) : PE X (.Attribute o f pos) (tPropD ok ta) := by
  refine ⟨fun pins s σ H Q I h => ?_⟩
  refine attr_of hab (thn (he.run pins s σ H _ I h) fun u s1 ⟨x, H1, I1, rx, a, C, dx, fs, sp, ex, ea, hok, q⟩ => ?_)
  obtain ⟨p, g, c, hp, F⟩ := T.at_ C sp hok
  subst ex
  obtain rfl : u = Value.ref a := rx
  exact prop_run I1 ea c hp F hr q
end
end
end TS

set_option maxRecDepth 100000
set_option maxHeartbeats 4000000
namespace TS
open PySem L2
noncomputable section
section
variable {M : Gm} {c : Cn M} {W : WX} {X : Cx}
theorem propOk_of {k : Nat} {m : Str} {tab : Nat → Option Fm} {M : Gm} (h : ∀ n f, tab n = some f → ∃ C p g, M.G n = some C ∧ Cls X.K C ∧ PropOf X.K C m p g ∧ FnR X.prog X.w X.K X.mg X.base (CXX X) k g (spD M f)) : PropOk X k m (okM M tab) := ⟨fun C sp ⟨n, f, h1, h2, h3⟩ => by
  obtain ⟨C', p, g, k1, k2, k3, k4⟩ := h n f h1
  rw [h2] at k1; cases k1
  subst h3
  exact ⟨p, g, k2, k3, k4⟩⟩
theorem di_prop {o : Expr} {f : Str} {pos : Pos} {k : Nat} {tab : Nat → Option Fm} {fo : FD} (T : PropOk X k f (okM M tab)) (hr : Room (k + 1) X.A) (ho : DI M W X o fo) (hb : attributeBase o f X.env (eval o X.env) = eval o X.env := by rfl) : DI M W X (.Attribute o f pos) (fProp tab fo) := by
  obtain ⟨ta, pa, ho⟩ := ho
  refine ⟨_, pe_propD pa T hr hb, fun c F H σ δ Q ok post => ho c F H σ δ _ ok (Post.bind post fun d δ1 v F1 H1 _ s1 ok1 r post => ?_)⟩
  split at post
  · rename_i n vs _
    split at post
    · rename_i f hf
      split at post
      · rename_i d io hd
        have r0 := r
        unfold ρD rep at r
        obtain ⟨a, C, dx, fs, rfl, h1, h2, h3, h4⟩ := r
        refine ⟨a, C, dx, fs, spD M f, rfl, ok1.same _ _ h2, ⟨n, f, hf, h1, rfl⟩, F1, none, 0, [.ref a], [.obj n vs], rfl, ok1.same, ok1.tb, reps_cons r0 reps_nil, trivial, ?_⟩
        rw [hd]
        exact fun v F' H' st ra _ => post v F' H' st.grow (ok1.stp st) ra
      · exact post.elim
    · exact post.elim
  · exact post.elim
theorem di_cval {o : Expr} {f : Str} {pos : Pos} {C : Addr} {mc u : Value} {v : V} {d : D} (ho : PE X o (tC (.ref C))) (r : ClX.CRead X.K C mc) (k : ClX.CVal X.K C mc f v u) (hd : ∀ F, rep M F d v) (hb : attributeBase o f X.env (eval o X.env) = eval o X.env := by rfl) : DI M W X (.Attribute o f pos) (kD d) :=
  ⟨_, ClX.pe_cval ho hb, fun c F H σ δ Q ok post => ⟨C, mc, v, u, rfl, r, k, post.ok ok (hd F)⟩⟩
section
variable {X : Cx} {pins : List (Addr × Obj)} {σ : St} {H : Hp} {s : Shared} {k : Nat} {C p g : Addr} {mc : Value} {sp : Sp} {o e : Expr} {es : List Expr} {m : Str} {pos apos : Pos} {ta : TE} {t : TA} {pl : Sem Bool}
end
def fCMeth (n : Nat) (f : Fm) (fa : FA) : FE := fun δ => (fa δ).bind fun ds δ1 => outE (f none (.cls n :: ds)) δ1
end
def PostS (c : Cn M) (W : WX) (F : Hp) (r : SR) (E : Ends) : Prop := match r with
  | .nx δ' => ∀ F' H' σ', Same F F' → Ok c F' H' σ' δ' → E.nx σ' H'
  | .rt r δ' => ∀ v F' H' σ', Same F F' → Ok c F' H' σ' δ' → repR c F' H' σ' δ' r v → E.rt v H'
  | .bk δ' => ∀ F' H' σ', Same F F' → Ok c F' H' σ' δ' → E.bk σ' H'
  | .ct δ' => ∀ F' H' σ', Same F F' → Ok c F' H' σ' δ' → E.ct σ' H'
  | .exc x δ' => ∀ cls d F' H' σ', Same F F' → Ok c F' H' σ' δ' → xAt M F' x cls d H' → W cls d σ' H'
  | .bad => False
def DS (M : Gm) (W : WX) (X : Cx) (s : Stmt) (g : FS) : Prop := ∃ t, PS X s t ∧ ∀ (c : Cn M) F H σ δ E, Ok c F H σ δ → PostS c W F (g δ) E → t E σ H
def DSs (M : Gm) (W : WX) (X : Cx) (s : List Stmt) (g : FS) : Prop := ∃ t, PSs X s t ∧ ∀ (c : Cn M) F H σ δ E, Ok c F H σ δ → PostS c W F (g δ) E → t E σ H
def SR.bind (m : SR) (k : Sl → SR) : SR := match m with
  | .nx δ => k δ
  | r => r
@[simp] theorem SR.bind_nx (δ : Sl) (k : Sl → SR) : (SR.nx δ).bind k = k δ := rfl
@[simp] theorem SR.bind_rt (r : R) (δ : Sl) (k : Sl → SR) : (SR.rt r δ).bind k = .rt r δ := rfl
@[simp] theorem SR.bind_exc (r : XD) (δ : Sl) (k : Sl → SR) : (SR.exc r δ).bind k = .exc r δ := rfl
section
variable {M : Gm} {c : Cn M} {W : WX} {X : Cx} {F F1 H H1 : Hp} {σ : St} {δ : Sl}
theorem PostS.shift {r : SR} {E : Ends} (h : PostS c W F r E) (g : Same F F1) : PostS c W F1 r E := by
  cases r with
  | nx δ' => exact fun F' H' σ' s => h F' H' σ' (g.trans s)
  | rt r δ' => exact fun v F' H' σ' s => h v F' H' σ' (g.trans s)
  | bk δ' => exact fun F' H' σ' s => h F' H' σ' (g.trans s)
  | ct δ' => exact fun F' H' σ' s => h F' H' σ' (g.trans s)
  | exc x δ' => exact fun cls d F' H' σ' s => h cls d F' H' σ' (g.trans s)
  | bad => exact h
theorem PostS.bind {m : SR} {k : Sl → SR} {E : Ends} {N : St → Hp → Prop} (h : PostS c W F (m.bind k) E) (f : ∀ δ1 F1 H1 σ1, m = .nx δ1 → Same F F1 → Ok c F1 H1 σ1 δ1 → PostS c W F1 (k δ1) E → N σ1 H1) : PostS c W F m { E with nx := N } := by
  cases m with
  | nx δ' => exact fun F' H' σ' s ok => f δ' F' H' σ' rfl s ok (PostS.shift h s)
  | rt r δ' => exact h
  | bk δ' => exact h
  | ct δ' => exact h
  | exc x δ' => exact h
  | bad => exact h
theorem PostS.ofE {α β : Type} {ρ : Hp → Hp → Sl → α → β → Prop} {m : Res α} {k : α → Sl → SR} {E : Ends} {T : β → Hp → Prop} (h : PostS c W F (m.bindS k) E)
    (f : ∀ a δ1 v F1 H1, m = .ok a δ1 → Same F F1 → Ok c F1 H1 σ δ1 → ρ F1 H1 δ1 a v → PostS c W F1 (k a δ1) E → T v H1) : Post c W F σ ρ m T := by
  cases m with
  | ok a δ' => exact fun v F' H' s ok r => f a δ' v F' H' rfl s ok r (PostS.shift h s)
  | exc x δ' => exact fun cls d F' H' s ok r => h cls d F' H' σ s ok r
  | bad => exact h
def sSeq (f g : FS) : FS := fun δ => (f δ).bind g
def sNil : FS := fun δ => .nx δ
theorem dss_nil : DSs M W X [] sNil := ⟨_, pss_nil, fun c F H σ δ E ok post => post F H σ (Same.refl _) ok⟩
theorem dss_cons {s : Stmt} {ss : List Stmt} {f g : FS} (h : DS M W X s f) (h' : DSs M W X ss g) : DSs M W X (s :: ss) (sSeq f g) := by
  obtain ⟨t, p, h⟩ := h
  obtain ⟨t', p', h'⟩ := h'
  exact ⟨_, pss_cons p p', fun c F H σ δ E ok post => h c F H σ δ _ ok (PostS.bind post fun δ1 F1 H1 σ1 _ s1 ok1 post => h' c F1 H1 σ1 δ1 E ok1 post)⟩
theorem dss_one {s : Stmt} {f : FS} (h : DS M W X s f) : DSs M W X [s] f := by
  obtain ⟨t, p, h⟩ := h
  exact ⟨_, pss_one p, h⟩
def sRet (f : FE) : FS := fun δ => (f δ).bindS fun r δ1 => .rt r δ1
theorem ds_ret {e : Expr} {pos : Pos} {f : FE} (h : DE M W X e f) : DS M W X (.Return (some e) pos) (sRet f) := by
  obtain ⟨t, p, h⟩ := h
  exact ⟨_, ps_ret p, fun c F H σ δ E ok post => h c F H σ δ _ ok (PostS.ofE post fun r δ1 v F1 H1 _ s ok1 rr post => post v F1 H1 σ (Same.refl _) ok1 rr)⟩
def sExpr (f : FE) : FS := fun δ => (f δ).bindS fun _ δ1 => .nx δ1
theorem ds_expr {e : Expr} {pos : Pos} {f : FE} (h : DE M W X e f) (hs : swapsWith e none pos.line X.env = pure false := by rfl) : DS M W X (.Expr e pos) (sExpr f) := by
  obtain ⟨t, p, h⟩ := h
  exact ⟨_, ps_expr p hs, fun c F H σ δ E ok post => h c F H σ δ _ ok (PostS.ofE post fun r δ1 v F1 H1 _ s ok1 rr post => post F1 H1 σ (Same.refl _) ok1)⟩
def sIf (t : FT) (f g : FS) : FS := fun δ => (t δ).bindS fun b δ1 => if b then f δ1 else g δ1
theorem ds_if {e : Expr} {ss ss' : List Stmt} {pos : Pos} {t : FT} {f g : FS} (h : DT M W X e t) (ha : DSs M W X ss f) (hb : DSs M W X ss' g) : DS M W X (.If e ss ss' pos) (sIf t f g) := by
  obtain ⟨t, p, h⟩ := h
  obtain ⟨ta, pa, ha⟩ := ha
  obtain ⟨tb, pb, hb⟩ := hb
  refine ⟨_, ps_if p pa pb, fun c F H σ δ E ok post => h c F H σ δ _ ok (PostS.ofE post fun b δ1 k F1 H1 _ s ok1 e post => ?_)⟩
  cases (show b = k from e)
  cases b with
  | true => exact ha c F1 H1 σ δ1 E ok1 post
  | false => exact hb c F1 H1 σ δ1 E ok1 post
def sNev : FS := fun _ => .bad
def DG (M : Gm) (W : WX) (X : Cx) (tg : Expr) (h : R → Sl → SR) : Prop := ∃ g, PG X tg g ∧ ∀ (c : Cn M) F H σ δ v r (Q : St → Hp → Prop), Ok c F H σ δ → repR c F H σ δ r v → PostS c W F (h r δ) ⟨Q, fun _ _ => False, fun _ _ => False, fun _ _ => False⟩ → g v σ H Q
def tName (i : Nat) : R → Sl → SR := fun r δ => match r with
  | .brw _ => .bad
  | r => .nx (δ.set i (some r))
theorem dg_name {tg : Expr} {i : Nat} (h : PG X tg (gName i)) : DG M W X tg (tName i) := by
  refine ⟨_, h, fun c F H σ δ v r Q ok rr post => ?_⟩
  unfold tName at post
  cases r with
  | imm d => exact post F H _ (Same.refl _) (ok.setI i rr)
  | own o => exact post F H _ (Same.refl _) (ok.setO i rr)
  | brw o => exact post.elim
def DGs (M : Gm) (W : WX) (X : Cx) (ts : List Expr) (h : List D → Sl → SR) : Prop := ∃ g, PGs X ts g ∧ ∀ (c : Cn M) F H σ δ vs ds (Q : St → Hp → Prop), Ok c F H σ δ → reps M F ds vs → PostS c W F (h ds δ) ⟨Q, fun _ _ => False, fun _ _ => False, fun _ _ => False⟩ → g vs σ H Q
def tsNil : List D → Sl → SR := fun ds δ => match ds with
  | [] => .nx δ
  | _ => .bad
def tsCons (h : R → Sl → SR) (hs : List D → Sl → SR) : List D → Sl → SR := fun ds δ => match ds with
  | d :: ds => (h (.imm d) δ).bind (hs ds)
  | [] => .bad
theorem dgs_nil : DGs M W X [] tsNil := ⟨_, pgs_nil, fun c F H σ δ vs ds Q ok rs post => by
  unfold tsNil at post
  split at post
  · unfold reps at rs
    exact ⟨rs, post F H σ (Same.refl _) ok⟩
  · exact post.elim⟩
theorem dgs_cons {e : Expr} {es : List Expr} {h : R → Sl → SR} {hs : List D → Sl → SR} (h1 : DG M W X e h) (h2 : DGs M W X es hs) (hq : (assignEach (e :: es) X.env).map (·.2) = assign e X.env :: (assignEach es X.env).map (·.2) := by rfl) : DGs M W X (e :: es) (tsCons h hs) := by
  obtain ⟨g, p, h1⟩ := h1
  obtain ⟨g', p', h2⟩ := h2
  refine ⟨_, pgs_cons p p' hq, fun c F H σ δ vs ds Q ok rs post => ?_⟩
  unfold tsCons at post
  split at post
  · rename_i d ds
    unfold reps at rs
    obtain ⟨v, r, rfl, k1, k2⟩ := rs
    exact ⟨v, r, rfl, h1 c F H σ δ v (.imm d) _ ok k1 (PostS.bind post fun δ1 F1 H1 σ1 _ s1 ok1 post => h2 c F1 H1 σ1 δ1 r ds Q ok1 (reps_mono s1 _ _ k2) post)⟩
  · exact post.elim
def tTup (n : Nat) (hs : List D → Sl → SR) : R → Sl → SR := fun r δ => match r with
  | .imm (.tup ds) => if ds.length = n then hs ds δ else .bad
  | .imm (.ktp ns) => if ns.length = n then hs (ns.map D.int) δ else .bad
  | _ => .bad
theorem dg_tup {es : List Expr} {k n : Nat} {pos : Pos} {hs : List D → Sl → SR} (hc : X.calm = true) (h : DGs M W X es hs) (hK : X.K = M.K := by rfl) (hn : (assignEach es X.env).length = n := by rfl) (hst : (assignEach es X.env).findIdx? (·.1) = none := by rfl) : DG M W X (.Tuple es k pos) (tTup n hs) := by
  obtain ⟨g, p, h⟩ := h
  refine ⟨_, pg_tup hc p hn hst, fun c F H σ δ v r Q ok rr post => ?_⟩
  unfold tTup at post
  split at post
  · split at post
    · rename_i ds hl
      have z : rep M F (.tup ds) v := rr
      unfold rep at z
      obtain ⟨a, vs, rfl, h2, h3⟩ := z
      exact ⟨a, vs, rfl, by rw [hK]; exact SqT.of (ok.same _ _ h2), by rw [reps_length h3]; exact hl, h c F H σ δ vs ds Q ok h3 post⟩
    · exact post.elim
  · split at post
    · rename_i ns hl
      have z : rep M F (.ktp ns) v := rr
      unfold rep at z
      obtain ⟨a, rfl, h2⟩ := z
      exact ⟨a, _, rfl, by rw [hK]; exact ktup_sq h2, by rw [List.length_map]; exact hl, h c F H σ δ _ _ Q ok (reps_kt ns) post⟩
    · exact post.elim
  · exact post.elim
def rSetAll : V → V → V → Hp → (Hp → Prop) → Prop := fun o i v H Q => rSetL o i v H Q ∨ ∃ a H', o = .ref a ∧ DPut H a i v H' ∧ Q H'
theorem set_all (hu : X.A.units + 1 < cLine) : PSet X rSetAll := by
  intro pins s σ H o i v ov iv u Q I ro ri rv h
  rcases h with h | ⟨a, H', rfl, g, q⟩
  · exact set_list pins s σ H o i v ov iv u Q I ro ri rv h
  · obtain rfl : ov = Value.ref a := ro
    exact d_setItem hu I g ri rv fun s4 I4 => ⟨H', I4, q⟩
def repD {κ : Type} [DecidableEq κ] (k : κ) (d : D) : List κ → List D → List D
  | k' :: ks, d' :: ds => (if k' = k then d else d') :: repD k d ks ds
  | _, ds => ds
def putD {κ : Type} [DecidableEq κ] (ks : List κ) (ds : List D) (k : κ) (d : D) : List κ × List D := if (ks.any fun k' => decide (k' = k)) = true then (ks, repD k d ks ds) else (ks ++ [k], ds ++ [d])
theorem putD_v {M : Gm} {F : Hp} {κ : Type} [DecidableEq κ] {v : V} {d : D} (hv : rep M F d v) (k : κ) {kvs : List (κ × V)} {ds : List D} (h : reps M F ds (kvs.map (·.2))) : (putK kvs k v).map (·.1) = (putD (kvs.map (·.1)) ds k d).1 ∧ reps M F (putD (kvs.map (·.1)) ds k d).2 ((putK kvs k v).map (·.2)) := by
  unfold putK putD
  have e : ((kvs.map (·.1)).any fun k' => decide (k' = k)) = kvs.any fun kv => decide (kv.1 = k) := by rw [List.any_map]; rfl
  rw [e]
  by_cases hc : (kvs.any fun kv => decide (kv.1 = k)) = true
  · rw [if_pos hc, if_pos hc]
    clear hc e
    constructor
    · rw [List.map_map]
      refine List.map_congr_left fun p _ => ?_
      simp only [Function.comp]
      split <;> rfl
    · show reps M F (repD k d (kvs.map (·.1)) ds) _
      induction kvs generalizing ds with
      | nil =>
        unfold reps at h
        cases ds with
        | nil => simp [repD, reps]
        | cons d' ds => obtain ⟨_, _, z, _⟩ := h; cases z
      | cons p r ih =>
        cases ds with
        | nil => unfold reps at h; cases h
        | cons d' ds =>
          rw [List.map_cons, reps_cons_iff] at h
          simp only [List.map_cons, repD]
          refine reps_cons ?_ (ih h.2)
          by_cases z : p.1 = k
          · rw [if_pos z, if_pos z]; exact hv
          · rw [if_neg z, if_neg z]; exact h.1
  · rw [if_neg hc, if_neg hc]
    exact ⟨by simp, by rw [List.map_append]; exact reps_append h (reps_cons hv reps_nil)⟩
def setOB : OB → D → D → Option OB
  | .l ds, .int i, d => (ixN ds.length i).map fun j => .l (ds.set j d)
  | .dK ks ds, k, d => (keyOf k).bind fun k => if ds.length < 16777216 then some (.dK (putD ks ds k d).1 (putD ks ds k d).2) else none
  | .dT ks ds, .tup kds, d => (keysOf kds).bind fun k => if ds.length < 16777216 then some (.dT (putD ks ds k d).1 (putD ks ds k d).2) else none
  | _, _, _ => none
def tSub (x : Nat) (fi : FD) : R → Sl → SR := fun r δ => match r with
  | .imm d => (match δ[x]? with
    | some (some r0) => if r0.mu then (fi δ).bindS fun i δ1 => match δ1[x]? with
      | some (some (.own o)) => (match setOB o i d with
        | some o' => .nx (δ1.set x (some (.own o')))
        | none => .bad)
      | some (some (.brw o)) => (match setOB o i d with
        | some o' => .nx (δ1.set x (some (.brw o')))
        | none => .bad)
      | _ => .bad
      else .bad
    | _ => .bad)
  | _ => .bad
theorem setOB_ok {F H : Hp} {ob ob' : OB} {a : Addr} {vi vd : V} {di d : D} {Q : Hp → Prop} (s : Same F H) (hob : obAt M F H ob a) (ri : rep M F di vi) (rd : rep M F d vd) (e : setOB ob di d = some ob') (q : ∀ o, obAt M F (upd H a o) ob' a → Q (upd H a o)) : rSetAll (.ref a) vi vd H Q := by
  unfold setOB at e
  split at e
  · rename_i ds i
    obtain ⟨j, e1, rfl⟩ := Option.map_eq_some_iff.mp e
    obtain ⟨vs, h1, h2⟩ := hob
    unfold rep at ri
    refine .inl ⟨a, vs, i, j, rfl, ri, h1, by rw [reps_length h2]; exact e1, q _ ⟨_, upd_same, reps_set j h2 rd⟩⟩
  · rename_i ks ds k
    obtain ⟨kk, e1, e2⟩ := Option.bind_eq_some_iff.mp e
    split at e2
    · rename_i hl
      cases e2
      obtain ⟨kvs, h1, h2, h3⟩ := hob
      subst h2
      obtain ⟨p1, p2⟩ := putD_v rd kk h3
      have ek := keyOf_v (M := M) (H := H) (.inl ri) e1
      subst ek
      refine .inr ⟨a, _, rfl, DPut.k h1 ?_, q _ ⟨_, upd_same, p1, p2⟩⟩
      have z := reps_length h3
      rw [List.length_map] at z
      rw [z, sizeLine_eq]; exact hl
    · cases e2
  · rename_i ks ds kds
    obtain ⟨kk, e1, e2⟩ := Option.bind_eq_some_iff.mp e
    split at e2
    · rename_i hl
      cases e2
      obtain ⟨kvs, h1, h2, h3⟩ := hob
      subst h2
      obtain ⟨p1, p2⟩ := putD_v rd kk h3
      obtain ⟨b, rfl, hb⟩ := prep_tupK s (.inl ri) e1
      refine .inr ⟨a, _, rfl, DPut.t h1 hb ?_, q _ ⟨_, upd_same, p1, p2⟩⟩
      have z := reps_length h3
      rw [List.length_map] at z
      rw [z, sizeLine_eq]; exact hl
    · cases e2
  · cases e
theorem dg_sub {o ie : Expr} {x : Nat} {pos : Pos} {fi : FD} (ho : PE X o (tVar x)) (hi : DI M W X ie fi) (hu : X.A.units + 1 < cLine)
    (ha : ∀ v, assign (.Subscript o ie pos) X.env v = (do
      let ov ← holding [v] (eval o X.env)
      let iv ← holding [v, ov] (eval ie X.env)
      standAt pos
      holding [v, ov, iv] (setItem ov iv v)
      release [v, ov, iv] []) := by intro _; rfl) : DG M W X (.Subscript o ie pos) (tSub x fi) := by
  obtain ⟨ti, pi, hi⟩ := hi
  refine ⟨_, pg_sub ho pi (set_all hu) ha, fun c F H σ δ v r Q ok rr post => ?_⟩
  unfold tSub at post
  cases r with
  | own o => exact post.elim
  | brw o => exact post.elim
  | imm d =>
    simp only at post
    split at post
    · rename_i r0 q0
      split at post
      · rename_i hm
        obtain ⟨a, ob0, ea, _, _, _⟩ := ok.mus q0 hm
        refine ⟨.ref a, ea, hi c F H σ δ _ ok (PostS.ofE post fun di δ1 vi F1 H1 _ s1 ok1 ri post => ?_)⟩
        split at post
        · rename_i ob q1
          split at post
          · rename_i ob' e1
            obtain ⟨a', ob1, ea', hf, hob, hk⟩ := ok1.mus q1 rfl
            rw [ea] at ea'; cases ea'
            rcases hk with ⟨z, _⟩ | ⟨z, _⟩ <;> cases z
            refine setOB_ok ok1.same hob ri (rep_mono s1 _ _ rr) e1 fun o' hob' => post F1 _ σ (Same.refl _) (ok1.write q1 (.inl ⟨rfl, rfl⟩) ea hob')
          · exact post.elim
        · rename_i ob q1
          split at post
          · rename_i ob' e1
            obtain ⟨a', ob1, ea', hf, hob, hk⟩ := ok1.mus q1 rfl
            rw [ea] at ea'; cases ea'
            rcases hk with ⟨z, _⟩ | ⟨z, _⟩ <;> cases z
            refine setOB_ok ok1.same hob ri (rep_mono s1 _ _ rr) e1 fun o' hob' => post F1 _ σ (Same.refl _) (ok1.write q1 (.inr ⟨rfl, rfl⟩) ea hob')
          · exact post.elim
        · exact post.elim
      · exact post.elim
    · exact post.elim
def sAsg (f : FE) (h : R → Sl → SR) : FS := fun δ => (f δ).bindS h
theorem asg_of {t : TE} {g : TG} {f : FE} {h : R → Sl → SR} (he : RE M W t f) (hg : ∀ (c : Cn M) F H σ δ v r (Q : St → Hp → Prop), Ok c F H σ δ → repR c F H σ δ r v → PostS c W F (h r δ) ⟨Q, fun _ _ => False, fun _ _ => False, fun _ _ => False⟩ → g v σ H Q)
    (hn : ∀ r δ, (∃ δ', h r δ = .nx δ') ∨ (∃ x δ', h r δ = .exc x δ') ∨ h r δ = .bad) : ∀ (c : Cn M) F H σ δ E, Ok c F H σ δ → PostS c W F (sAsg f h δ) E → tAsg t g E σ H := fun c F H σ δ E ok post =>
  he c F H σ δ _ ok (PostS.ofE post fun r δ1 v F1 H1 _ s ok1 rr post => hg c F1 H1 σ δ1 v r _ ok1 rr (by
    rcases hn r δ1 with ⟨δ', e⟩ | ⟨x, δ', e⟩ | e
    · rw [e] at post ⊢; exact post
    · rw [e] at post ⊢; exact post
    · rw [e] at post ⊢; exact post))
def Tgt (h : R → Sl → SR) : Prop := ∀ r δ, (∃ δ', h r δ = .nx δ') ∨ (∃ x δ', h r δ = .exc x δ') ∨ h r δ = .bad
def Tgs (h : List D → Sl → SR) : Prop := ∀ r δ, (∃ δ', h r δ = .nx δ') ∨ (∃ x δ', h r δ = .exc x δ') ∨ h r δ = .bad
theorem tgt_name (i : Nat) : Tgt (tName i) := fun r δ => by
  unfold tName
  cases r with
  | imm d => exact .inl ⟨_, rfl⟩
  | own d => exact .inl ⟨_, rfl⟩
  | brw d => exact .inr (.inr rfl)
theorem tgs_nil : Tgs tsNil := fun r δ => by
  unfold tsNil
  cases r with
  | nil => exact .inl ⟨_, rfl⟩
  | cons d ds => exact .inr (.inr rfl)
theorem tgs_cons {h : R → Sl → SR} {hs : List D → Sl → SR} (h1 : Tgt h) (h2 : Tgs hs) : Tgs (tsCons h hs) := fun r δ => by
  unfold tsCons
  cases r with
  | nil => exact .inr (.inr rfl)
  | cons d ds =>
    simp only
    rcases h1 (.imm d) δ with ⟨δ', e⟩ | ⟨x, δ', e⟩ | e
    · rw [e]; exact h2 ds δ'
    · rw [e]; exact .inr (.inl ⟨x, δ', rfl⟩)
    · rw [e]; exact .inr (.inr rfl)
theorem tgt_tup {n : Nat} {hs : List D → Sl → SR} (h : Tgs hs) : Tgt (tTup n hs) := fun r δ => by
  unfold tTup
  split
  · split
    · exact h _ _
    · exact .inr (.inr rfl)
  · split
    · exact h _ _
    · exact .inr (.inr rfl)
  · exact .inr (.inr rfl)
theorem tgt_sub {x : Nat} {fi : FD} : Tgt (tSub x fi) := fun r δ => by
  unfold tSub
  split
  · split
    · split
      · cases fi δ with
        | bad => exact .inr (.inr rfl)
        | exc x δ' => exact .inr (.inl ⟨x, δ', rfl⟩)
        | ok d δ1 =>
          simp only [Res.bindS_ok]
          split
          · split
            · exact .inl ⟨_, rfl⟩
            · exact .inr (.inr rfl)
          · split
            · exact .inl ⟨_, rfl⟩
            · exact .inr (.inr rfl)
          · exact .inr (.inr rfl)
      · exact .inr (.inr rfl)
    · exact .inr (.inr rfl)
  · exact .inr (.inr rfl)
theorem ds_asg {tg e : Expr} {pos : Pos} {f : FE} {h : R → Sl → SR} (he : DE M W X e f) (hg : DG M W X tg h) (hn : Tgt h) (hs : swapsWithSole [tg] e pos.line X.env = pure false := by rfl) (hw : swappedStores [tg] e X.env = pure none := by rfl)
    (h1 : (assignEach [tg] X.env).map (·.2) = [assign tg X.env] := by rfl) : DS M W X (.Assign [tg] e pos) (sAsg f h) := by
  obtain ⟨t, p, he⟩ := he
  obtain ⟨g, pg, hg⟩ := hg
  exact ⟨_, ps_asg p pg hs hw h1, asg_of he hg hn⟩
theorem ds_set {i : Nat} {x : Str} {e : Expr} {pos pos' : Pos} {f : FE} (hN : X.N.Nodup) (hi : X.N[i]? = some x) (hx : Loc X.env.scope x) (he : DE M W X e f) (hs : swapsWith e (some (.Name x pos')) pos.line X.env = pure false := by rfl) (hf : X.fn x = true ∨ X.env.scope.names.lookup x = some .local := by first | exact .inl rfl | exact .inr rfl | assumption) :
    DS M W X (.Assign [.Name x pos'] e pos) (sAsg f (tName i)) := by
  obtain ⟨t, p, he⟩ := he
  refine ⟨_, ps_set hN hi hx p hs hf, asg_of he (fun c F H σ δ v r Q ok rr post => ?_) (tgt_name i)⟩
  unfold tName at post
  cases r with
  | imm d => exact post F H _ (Same.refl _) (ok.setI i rr)
  | own o => exact post F H _ (Same.refl _) (ok.setO i rr)
  | brw o => exact post.elim
def Cn.guard (c : Cn M) (a : Addr) (o : HO) (hn : NT o) : Cn M := ⟨c.F0, fun b => if b = a then some o else c.H0 b, c.io, fun b h => by
  by_cases e : b = a
  · simp [e]
  · simp only [if_neg e]; exact c.iob b h, fun b u h => by
  by_cases e : b = a
  · simp only [if_pos e] at h; cases h; exact hn
  · simp only [if_neg e] at h; exact c.nt b u h⟩
theorem Ok.guard {a : Addr} {o : HO} (ok : Ok c F H σ δ) (hF : F a = none) (h0 : c.H0 a = none) (ho : H a = some o) (hn : NT o) (hns : ∀ (i : Nat) (r : R), δ[i]? = some (some r) → r.mu = true → σ[i]? ≠ some (some (V.ref a))) : Ok (c.guard a o hn) F H σ δ := by
  have hio : c.io ≠ some a := fun z => c.iob a z h0
  have g0 : ∀ b, b ≠ a → (c.guard a o hn).H0 b = c.H0 b := fun b hb => if_neg hb
  refine ⟨ok.same, ok.grow, fun b e1 e2 => ?_, fun b u e1 e2 => ?_, ok.ioh, ok.tb, ok.len, fun i r e => ?_, ok.dist⟩
  · by_cases z : b = a
    · rw [z]; exact hF
    · rw [g0 b z] at e1; exact ok.nofz b e1 e2
  · by_cases z : b = a
    · subst z
      have : (c.guard b o hn).H0 b = some o := if_pos rfl
      rw [this] at e1; cases e1
      exact ho
    · rw [g0 b z] at e1; exact ok.kept b u e1 e2
  · obtain ⟨v, e1, e2⟩ := ok.slot i r e
    refine ⟨v, e1, ?_⟩
    cases r with
    | imm d => exact e2
    | own ob =>
      obtain ⟨b, rfl, k1, k2, k3⟩ := e2
      have z : b ≠ a := fun z => hns i _ e rfl (by rw [e1, z])
      exact ⟨b, rfl, k1, by rw [g0 b z]; exact k2, k3⟩
    | brw ob => exact e2
theorem Ok.unguard {a : Addr} {o : HO} {hn : NT o} (ok : Ok (c.guard a o hn) F H σ δ) (h0 : c.H0 a = none) : Ok c F H σ δ ∧ (c.F0 a = none → F a = none) ∧ H a = some o ∧ (∀ (i : Nat) (r : R), δ[i]? = some (some r) → r.mu = true → σ[i]? ≠ some (some (V.ref a))) := by
  have hio : c.io ≠ some a := fun z => c.iob a z h0
  have g0 : ∀ b, b ≠ a → (c.guard a o hn).H0 b = c.H0 b := fun b hb => if_neg hb
  have ga : (c.guard a o hn).H0 a = some o := if_pos rfl
  have ne : ∀ b, c.H0 b ≠ none → b ≠ a := fun b h z => h (z ▸ h0)
  refine ⟨⟨ok.same, ok.grow, fun b e1 e2 => ok.nofz b (by rw [g0 b (ne b e1)]; exact e1) e2, fun b u e1 e2 => ok.kept b u (by rw [g0 b (ne b (by rw [e1]; exact fun z => by cases z))]; exact e1) e2, ok.ioh, ok.tb, ok.len, fun i r e => ?_, ok.dist⟩, fun hF => ok.nofz a (by rw [ga]; exact fun z => by cases z) hF, ok.kept a o ga hio, fun i r e m z => ?_⟩
  · obtain ⟨v, e1, e2⟩ := ok.slot i r e
    refine ⟨v, e1, ?_⟩
    cases r with
    | imm d => exact e2
    | own ob =>
      obtain ⟨b, rfl, k1, k2, k3⟩ := e2
      have z : b ≠ a := fun z => by rw [z, ga] at k2; cases k2
      exact ⟨b, rfl, k1, by rw [← g0 b z]; exact k2, k3⟩
    | brw ob => exact e2
  · obtain ⟨b, ob, e1, e2, e3, e4⟩ := ok.mus e m
    rw [e1] at z; cases z
    rcases e4 with ⟨_, k⟩ | ⟨_, k⟩
    · rw [ga] at k; cases k
    · exact hio k
def sPar (i j : Nat) (f g : FE) : FS := fun δ => (f δ).bindS fun r δ1 => match r with
  | .brw _ => .bad
  | r => (g δ1).bindS fun r' δ2 => match r' with
    | .brw _ => .bad
    | r' => .nx ((δ2.set i (some r)).set j (some r'))
theorem repR_setI {d : D} {v w : V} {r : R} {i : Nat} (h : repR c F H σ δ r w) : repR c F H (σ.set i (some v)) (δ.set i (some (.imm d))) r w := by
  cases r with
  | imm d' => exact h
  | brw o => exact h
  | own o =>
    obtain ⟨a, rfl, h1, h2, h3, h4⟩ := h
    refine ⟨a, rfl, h1, h2, h3, fun k r e m => ?_⟩
    rcases getElem?_set_some e with ⟨_, z, _⟩ | ⟨hn, e⟩
    · cases z; cases m
    · rw [List.getElem?_set_ne hn]; exact h4 k r e m
theorem ds_par {i j : Nat} {x y : Str} {a b : Expr} {f g : FE} {px py pt pos : Pos} {kt k2 pt2} (hc : X.calm = true) (hN : X.N.Nodup) (hi : X.N[i]? = some x) (hj : X.N[j]? = some y) (hij : i ≠ j)
    (hx : X.env.scope.names.lookup x = some .local) (hy : X.env.scope.names.lookup y = some .local) (ha : DE M W X a f) (hb : DE M W X b g)
    (hw : swappedStores [.Tuple [.Name x px, .Name y py] kt pt] (.Tuple [a, b] k2 pt2) X.env = pure (some [x, y]))
    (hs : swapsWithSole [.Tuple [.Name x px, .Name y py] kt pt] (.Tuple [a, b] k2 pt2) pos.line X.env = pure false := by rfl)
    (h1 : starEach (a :: [b]) X.env = (false, eval a X.env) :: starEach [b] X.env := by rfl) (h2 : starEach (b :: []) X.env = (false, eval b X.env) :: starEach [] X.env := by rfl) :
    DS M W X (.Assign [.Tuple [.Name x px, .Name y py] kt pt] (.Tuple [a, b] k2 pt2) pos) (sPar i j f g) := by
  obtain ⟨t, p, ha⟩ := ha
  obtain ⟨t', p', hb⟩ := hb
  refine ⟨_, ps_par hc hN hi hj hij hx hy (pa_cons p (pa_cons p' pa_nil h2) h1) hw hs, fun c F H σ δ E ok post => ha c F H σ δ _ ok (PostS.ofE post fun r δ1 v F1 H1 _ s1 ok1 rr post => ?_)⟩
  cases r with
  | brw o => exact post.elim
  | imm d =>
    refine hb c F1 H1 σ δ1 _ ok1 (PostS.ofE post fun r' δ2 w F2 H2 _ s2 ok2 rr' post => ⟨v, w, rfl, ?_⟩)
    have rv : rep M F2 d v := rep_mono s2 _ _ rr
    cases r' with
    | brw o => exact post.elim
    | imm d' => exact post F2 H2 _ (Same.refl _) ((ok2.setI i rv).setI j rr')
    | own o' => exact post F2 H2 _ (Same.refl _) ((ok2.setI i rv).setO j (repR_setI rr'))
  | own o =>
    obtain ⟨a, rfl, k1, k2, k3, k4⟩ := rr
    obtain ⟨u, hu, hn⟩ := obAt_nt k3
    have okg := ok1.guard k1 k2 hu hn k4
    have f0 : c.F0 a = none := by
      cases z : c.F0 a with
      | none => rfl
      | some q => rw [ok1.grow a q z] at k1; cases k1
    have un : ∀ {F2 H2 : Hp} {δ2 : Sl}, Same F1 F2 → Ok (c.guard a u hn) F2 H2 σ δ2 → Ok c F2 H2 σ δ2 ∧ repR c F2 H2 σ δ2 (.own o) (.ref a) := fun {F2 H2 δ2} g ok2 => by
      obtain ⟨q1, q2, q3, q4⟩ := ok2.unguard k2
      exact ⟨q1, a, rfl, q2 f0, k2, obAt_mono g (q3.trans hu.symm) k3, q4⟩
    refine hb (c.guard a u hn) F1 H1 σ δ1 _ okg ?_
    cases q : g δ1 with
    | bad => rw [q] at post; exact post
    | exc x δ2 => rw [q] at post; exact fun cls d F2 H2 g ok2 xa => post cls d F2 H2 σ g (un g ok2).1 xa
    | ok r' δ2 =>
      rw [q] at post
      intro w F2 H2 s2 ok2 rr'
      refine ⟨.ref a, w, rfl, ?_⟩
      obtain ⟨ok3, ro⟩ := un s2 ok2
      cases r' with
      | brw o => exact post.elim
      | imm d' => exact post F2 H2 _ s2 ((ok3.setO i ro).setI j rr')
      | own o' =>
        obtain ⟨b, rfl, l1, l2, l3, l4⟩ := rr'
        have hba : b ≠ a := fun z => by
          have : (c.guard a u hn).H0 a = some u := if_pos rfl
          rw [z, this] at l2; cases l2
        have l2' : c.H0 b = none := by
          have : (c.guard a u hn).H0 b = c.H0 b := if_neg hba
          rw [← this]; exact l2
        refine post F2 H2 _ s2 ((ok3.setO i ro).setO j ⟨b, rfl, l1, l2', l3, fun k r e m => ?_⟩)
        rcases getElem?_set_some e with ⟨rfl, z, hl⟩ | ⟨hn, e⟩
        · rw [List.getElem?_set_self (by rw [ok3.len]; exact hl)]
          intro z; cases z; exact hba rfl
        · rw [List.getElem?_set_ne hn]; exact l4 k r e m
end
end
end TS

set_option maxRecDepth 100000
set_option maxHeartbeats 4000000
namespace TS
open PySem L2
noncomputable section
def ovH (F fr : Hp) : Hp := fun b => match F b with
  | some o => some o
  | none => fr b
def Yl (M : Gm) (F H : Hp) (x : V) (H' : Hp) (d : D) : Prop := ∃ fr : Hp, (∀ b o, fr b = some o → (∃ ws, o = HO.tup ws) ∧ H' b = some o) ∧ Same H H' ∧ rep M (ovH F fr) d x
theorem ovH_grow {F fr : Hp} : Same F (ovH F fr) := fun b o e => by unfold ovH; rw [e]
theorem Yl.same {M : Gm} {F H : Hp} {x : V} {H' : Hp} {d : D} (e : H' = H) (r : rep M F d x) : Yl M F H x H' d :=
  ⟨fun _ => none, (fun _ _ z => by cases z), by rw [e]; exact Same.refl _, rep_mono ovH_grow _ _ r⟩
theorem Yl.new {M : Gm} {F H : Hp} {x : V} {H' : Hp} {d : D} (s : Same F H) {p : Addr} {ws : List V} {es : List D} (k1 : H p = none) (k2 : x = V.ref p) (k3 : H' = upd H p (.tup ws)) (k4 : d = .tup es) (r : reps M F es ws) : Yl M F H x H' d := by
  subst k2 k3 k4
  refine ⟨fun b => if b = p then some (.tup ws) else none, fun b o e => ?_, fun b o e => by rw [upd_ne (ne_of_none e k1)]; exact e, ?_⟩
  · dsimp only at e
    by_cases z : b = p
    · subst z; rw [if_pos rfl] at e; cases e; exact ⟨⟨_, rfl⟩, upd_same⟩
    · rw [if_neg z] at e; cases e
  · unfold rep
    refine ⟨p, ws, rfl, ?_, reps_mono ovH_grow _ _ r⟩
    unfold ovH
    rw [s.free k1]
    simp
theorem Yl.stp {M : Gm} {F F2 H : Hp} {x : V} {H' : Hp} {d : D} (y : Yl M F H x H' d) (g : Same F F2) (s : Same F2 H) (tb : Tb M F2 H) : ∃ F3, Stp M F2 H F3 H' none ∧ rep M F3 d x := by
  obtain ⟨fr, h1, h2, h3⟩ := y
  have sm : Same (ovH F2 fr) H' := fun b o e => by
    unfold ovH at e
    split at e
    · rename_i o' e'; cases e; exact h2 _ _ (s _ _ e')
    · exact (h1 b o e).2
  refine ⟨ovH F2 fr, ⟨ovH_grow, fun b o e n z => ?_, fun b o e n _ => h2 b o e, sm, ?_⟩, rep_mono (fun b o e => ?_) _ _ h3⟩
  · unfold ovH
    rw [z]
    cases q : fr b with
    | none => rfl
    | some o' =>
      obtain ⟨⟨ws, rfl⟩, q2⟩ := h1 b o' q
      rw [h2 b o e] at q2; cases q2; cases n
  · refine (tb.keep (fun b o e _ => h2 b o e) (fun b o e n z => z) tb.nt).keep (fun b o e _ => e) (fun b o e n z => ?_) fun b ps e => ?_
    · unfold ovH
      rw [z]
      cases q : fr b with
      | none => rfl
      | some o' =>
        obtain ⟨⟨ws, rfl⟩, q2⟩ := h1 b o' q
        rw [e] at q2; cases q2; exact absurd rfl n
    · unfold ovH at e
      split at e
      · rename_i o' e'; cases e; exact tb.nt b ps e'
      · obtain ⟨⟨ws, z⟩, _⟩ := h1 b _ e; cases z
  · unfold ovH at e ⊢
    split at e
    · rename_i o' e'; cases e; rw [g _ _ e']
    · cases q : F2 b with
      | none => exact e
      | some o2 =>
        have := h2 _ _ (s _ _ q)
        rw [(h1 b o e).2] at this
        cases this; rfl
def Walks (M : Gm) (J : It) (F : Hp) (ds : List D) : Prop := ∀ (i : Nat) (H : Hp), Same F H →
  (∀ d, ds[i]? = some d → J.go i H ∧ ∀ x H', J.yld i H x H' → Yl M F H x H' d) ∧ (ds[i]? = none → J.stop i H)
abbrev ρI (M : Gm) : Hp → Hp → Sl → List D → It → Prop := fun F _ _ ds J => Walks M J F ds
def DIt (M : Gm) (W : WX) (X : Cx) (tg e : Expr) (f : FA) : Prop := ∃ wi, PI X tg e wi ∧ ∀ (c : Cn M) F H σ δ (Q : It → Hp → Prop), Ok c F H σ δ → Post c W F σ (ρI M) (f δ) Q → wi σ H Q
section
variable {M : Gm} {c : Cn M} {W : WX} {X : Cx} {tg e : Expr} {F F1 H H1 : Hp} {σ : St} {δ : Sl}
theorem walks_list {a : Addr} {vs : List V} {ds : List D} (hK : X.K = M.K) (hF : F a = some (.lst vs)) (r : reps M F ds vs) : Walks M (Itl X.K a) F ds := fun i H s => by
  have hq : SqL X.K H a vs := SqL.of (s _ _ hF)
  refine ⟨fun d hd => ?_, fun hn => ⟨vs, hq, by rw [reps_length r]; exact List.getElem?_eq_none_iff.mp hn⟩⟩
  obtain ⟨v, e1, e2⟩ := reps_get r hd
  refine ⟨⟨vs, v, hq, e1⟩, fun x H' y => Yl.same y.1 ?_⟩
  have := y.2 vs hq
  rw [e1] at this; cases this
  exact e2
theorem walks_tup {a : Addr} {vs : List V} {ds : List D} (hK : X.K = M.K) (hF : SqT M.K F a vs) (r : reps M F ds vs) : Walks M (Itt X.K a) F ds := fun i H s => by
  have hq : SqT X.K H a vs := by rw [hK]; exact Same.seqT s hF
  refine ⟨fun d hd => ?_, fun hn => ⟨vs, hq, by rw [reps_length r]; exact List.getElem?_eq_none_iff.mp hn⟩⟩
  obtain ⟨v, e1, e2⟩ := reps_get r hd
  refine ⟨⟨vs, v, hq, e1⟩, fun x H' y => Yl.same y.1 ?_⟩
  have := y.2 vs hq
  rw [e1] at this; cases this
  exact e2
theorem rgD_get {lo : Int} {n i : Nat} : ((List.range n).map fun i => D.int (lo + (i : Nat)))[i]? = if i < n then some (.int (lo + (i : Nat))) else none := by
  rw [List.getElem?_map]
  by_cases h : i < n
  · rw [if_pos h, List.getElem?_range h]; rfl
  · rw [if_neg h, List.getElem?_eq_none (by simpa using h)]; rfl
theorem walks_range (lo : Int) (n : Nat) : Walks M (Itr lo n) F ((List.range n).map fun i => D.int (lo + (i : Nat))) := fun i H s => by
  rw [rgD_get]
  refine ⟨fun d hd => ?_, fun hn => ?_⟩
  · by_cases h : i < n
    · rw [if_pos h] at hd
      cases hd
      refine ⟨h, fun x H' y => Yl.same y.1 ?_⟩
      rw [y.2]; exact rep_int' _
    · rw [if_neg h] at hd; cases hd
  · by_cases h : i < n
    · rw [if_pos h] at hn; cases hn
    · exact Nat.le_of_not_lt h
def enumD (k : Nat) : List D → List D
  | [] => []
  | d :: ds => .tup [.int k, d] :: enumD (k + 1) ds
theorem enumD_get : ∀ (ds : List D) (k i : Nat), (enumD k ds)[i]? = (ds[i]?).map fun d => .tup [.int ((k + i : Nat) : Int), d]
  | [], k, i => by simp [enumD]
  | d :: ds, k, 0 => by simp [enumD]
  | d :: ds, k, i + 1 => by
    simp only [enumD, List.getElem?_cons_succ]
    rw [enumD_get ds (k + 1) i]
    have : k + 1 + i = k + (i + 1) := by omega
    rw [this]
theorem walks_enum {a : Addr} {vs : List V} {ds : List D} (hK : X.K = M.K) (hF : F a = some (.lst vs)) (r : reps M F ds vs) : Walks M (Ite X.K a) F (enumD 0 ds) := fun i H s => by
  have hq : SqL X.K H a vs := SqL.of (s _ _ hF)
  rw [enumD_get]
  refine ⟨fun d hd => ?_, fun hn => ⟨vs, hq, ?_⟩⟩
  · obtain ⟨d0, hd0, rfl⟩ := Option.map_eq_some_iff.mp hd
    obtain ⟨v, e1, e2⟩ := reps_get r hd0
    refine ⟨⟨vs, v, hq, e1⟩, fun x H' y => ?_⟩
    obtain ⟨T, x0, k1, k2, k3, k4⟩ := y
    have := k4 vs hq
    rw [e1] at this; cases this
    exact Yl.new s k2 k1 k3 rfl (reps_cons (by rw [Nat.zero_add]; exact rep_int' _) (reps_cons e2 reps_nil))
  · rw [reps_length r]
    exact List.getElem?_eq_none_iff.mp (by simpa using hn)
def itSeq (f : FD) : FA := fun δ => (f δ).bind fun d δ => match d with
  | .lst ds => .ok ds δ
  | _ => .bad
def itTup (f : FD) : FA := fun δ => (f δ).bind fun d δ => match d with
  | .tup ds => .ok ds δ
  | .ktp ns => .ok (ns.map D.int) δ
  | _ => .bad
def itRg1 (f : FD) : FA := fun δ => (f δ).bind fun d δ => match d with
  | .int n => if gd (-4611686018427387904 ≤ n ∧ n < 4611686018427387904) then .ok (rgD 0 n) δ else .bad
  | _ => .bad
def itRg2 (f g : FD) : FA := fun δ => (f δ).bind fun d δ => (g δ).bind fun d' δ => match d, d' with
  | .int m, .int n => if gd (-4611686018427387904 ≤ m ∧ m < 4611686018427387904 ∧ -4611686018427387904 ≤ n ∧ n < 4611686018427387904) then .ok (rgD m n) δ else .bad
  | _, _ => .bad
def itEnum (f : FD) : FA := fun δ => (f δ).bind fun d δ => match d with
  | .lst ds => .ok (enumD 0 ds) δ
  | _ => .bad
theorem dit_list {f : FD} (h : DI M W X e f) (hK : X.K = M.K := by rfl) : DIt M W X tg e (itSeq f) := by
  obtain ⟨t, p, h⟩ := h
  refine ⟨_, pi_list p, fun c F H σ δ Q ok post => h c F H σ δ _ ok (Post.bind post fun d δ1 v F1 H1 _ s1 ok1 r post => ?_)⟩
  split at post
  · unfold ρD rep at r
    obtain ⟨a, vs, rfl, h2, h3⟩ := r
    exact ⟨a, rfl, ⟨vs, SqL.of (ok1.same _ _ h2)⟩, post.ok ok1 (walks_list hK h2 h3)⟩
  · exact post.elim
theorem dit_tup {f : FD} (h : DI M W X e f) (hK : X.K = M.K := by rfl) : DIt M W X tg e (itTup f) := by
  obtain ⟨t, p, h⟩ := h
  refine ⟨_, pi_tup p, fun c F H σ δ Q ok post => h c F H σ δ _ ok (Post.bind post fun d δ1 v F1 H1 _ s1 ok1 r post => ?_)⟩
  split at post
  · unfold ρD rep at r
    obtain ⟨a, vs, rfl, h2, h3⟩ := r
    exact ⟨a, rfl, ⟨vs, by rw [hK]; exact SqT.of (ok1.same _ _ h2)⟩, post.ok ok1 (walks_tup hK (SqT.of h2) h3)⟩
  · unfold ρD rep at r
    obtain ⟨a, rfl, h2⟩ := r
    exact ⟨a, rfl, ⟨_, by rw [hK]; exact ktup_sq h2⟩, post.ok ok1 (walks_tup hK (ktup_sq h2) (reps_kt _))⟩
  · exact post.elim
theorem dit_rg1 {a : Expr} {f : FD} {p pos : Pos} (hg : Gl X "range") (hm : X.mg "range" = none) (h : DI M W X a f) (hs : starEach [a] X.env = [(false, eval a X.env)] := by rfl) (hs2 : starEach (a :: []) X.env = (false, eval a X.env) :: starEach [] X.env := by rfl) : DIt M W X tg (.Call (.Name "range" p) [a] [] pos) (itRg1 f) := by
  obtain ⟨t, pp, h⟩ := h
  refine ⟨_, pi_range1 hg hm (pa_cons pp pa_nil hs2) hs, fun c F H σ δ Q ok post => h c F H σ δ _ ok (Post.bind post fun d δ1 v F1 H1 _ s1 ok1 r post => ?_)⟩
  split at post
  · rename_i n _
    split at post
    · rename_i hc
      obtain ⟨h1, h2⟩ := of_gd hc
      unfold ρD rep at r
      subst r
      refine ⟨n, rfl, by omega, by omega, post.ok ok1 ?_⟩
      have := walks_range (M := M) (F := F1) 0 n.toNat
      unfold rgD
      rw [Int.sub_zero]
      exact this
    · exact post.elim
  · exact post.elim
theorem dit_rg2 {a b : Expr} {f g : FD} {p pos : Pos} (hg : Gl X "range") (hm : X.mg "range" = none) (h : DI M W X a f) (h' : DI M W X b g) (hs : starEach [a, b] X.env = [(false, eval a X.env), (false, eval b X.env)] := by rfl) (hs2 : starEach [b] X.env = [(false, eval b X.env)] := by rfl)
    (hs3 : starEach (a :: [b]) X.env = (false, eval a X.env) :: starEach [b] X.env := by rfl) (hs4 : starEach (b :: []) X.env = (false, eval b X.env) :: starEach [] X.env := by rfl) : DIt M W X tg (.Call (.Name "range" p) [a, b] [] pos) (itRg2 f g) := by
  obtain ⟨t, pp, h⟩ := h
  obtain ⟨t', pp', h'⟩ := h'
  refine ⟨_, pi_range2 hg hm (pa_cons pp (pa_cons pp' pa_nil hs4) hs3) hs hs2, fun c F H σ δ Q ok post => h c F H σ δ _ ok (Post.bind post fun d δ1 v F1 H1 _ s1 ok1 r post => h' c F1 H1 σ δ1 _ ok1 (Post.bind post fun d' δ2 v' F2 H2 _ s2 ok2 r' post => ?_))⟩
  obtain ⟨m, rfl⟩ : ∃ m, d = .int m := by cases d <;> first | exact ⟨_, rfl⟩ | exact post.elim
  obtain ⟨n, rfl⟩ : ∃ n, d' = .int n := by cases d' <;> first | exact ⟨_, rfl⟩ | exact post.elim
  simp only at post
  split at post
  · rename_i hc
    obtain ⟨h1, h2, h3, h4⟩ := of_gd hc
    unfold ρD rep at r r'
    subst r
    subst r'
    exact ⟨m, n, rfl, ⟨by omega, by omega, by omega, by omega⟩, post.ok ok2 (walks_range (M := M) (F := F2) m (n - m).toNat)⟩
  · exact post.elim
theorem dit_enum {a : Expr} {f : FD} {p pos tpos : Pos} {elts : List Expr} {kk : Nat} (hg : Gl X "enumerate") (hm : X.mg "enumerate" = none) (h : DI M W X a f) (hK : X.K = M.K := by rfl) (hs : starEach [a] X.env = [(false, eval a X.env)] := by rfl) (hs2 : starEach (a :: []) X.env = (false, eval a X.env) :: starEach [] X.env := by rfl) :
    DIt M W X (.Tuple elts kk tpos) (.Call (.Name "enumerate" p) [a] [] pos) (itEnum f) := by
  obtain ⟨t, pp, h⟩ := h
  refine ⟨_, pi_enum hg hm (pa_cons pp pa_nil hs2) hs, fun c F H σ δ Q ok post => h c F H σ δ _ ok (Post.bind post fun d δ1 v F1 H1 _ s1 ok1 r post => ?_)⟩
  split at post
  · unfold ρD rep at r
    obtain ⟨a, vs, rfl, h2, h3⟩ := r
    exact ⟨a, vs, rfl, SqL.of (ok1.same _ _ h2), post.ok ok1 (walks_enum hK h2 h3)⟩
  · exact post.elim
def forL (tg : R → Sl → SR) (body : FS) : List D → FS
  | [], δ => .nx δ
  | d :: ds, δ => match (tg (.imm d) δ).bind body with
    | .nx δ' => forL tg body ds δ'
    | .ct δ' => forL tg body ds δ'
    | .bk δ' => .nx δ'
    | r => r
def sFor (fi : FA) (tg : R → Sl → SR) (body : FS) : FS := fun δ => (fi δ).bindS fun ds δ1 => forL tg body ds δ1
theorem Walks.turn {J : It} {F0 : Hp} {ds : List D} (w : Walks M J F0 ds) (g : Same F0 F) (ok : Ok c F H σ δ) {i : Nat} {d : D} (hd : ds[i]? = some d) : J.go i H ∧ ∀ x H', J.yld i H x H' → ∃ F', Same F F' ∧ Ok c F' H' σ δ ∧ rep M F' d x := by
  obtain ⟨h1, h2⟩ := (w i H (g.trans ok.same)).1 d hd
  refine ⟨h1, fun x H' y => ?_⟩
  obtain ⟨F3, st, r⟩ := (h2 x H' y).stp g ok.same ok.tb
  exact ⟨F3, st.grow, ok.stp st, r⟩
theorem ds_for {iter : Expr} {ss : List Stmt} {pos : Pos} {fi : FA} {ft : R → Sl → SR} {body : FS} (hp : PassesOwn (model X.prog X.w) X.A X.env X.xe) (hc : X.calm = true) (hi : DIt M W X tg iter fi) (hg : DG M W X tg ft) (hn : Tgt ft) (hb : DSs M W X ss body)
    (hs : ∀ x, foldedSetIterable iter X.env x = pure x := by intro _; rfl) : DS M W X (.For tg iter ss [] pos) (sFor fi ft body) := by
  obtain ⟨wi, pi, hi⟩ := hi
  obtain ⟨g, pg, hg⟩ := hg
  obtain ⟨tb, pb, hb⟩ := hb
  refine ⟨_, ps_for hp hc pi pg pb hs, fun c F H σ δ E ok post => hi c F H σ δ _ ok (PostS.ofE post fun ds δ1 J F1 H1 _ s1 ok1 wk post => ?_)⟩
  refine ⟨fun i m σ H => i ≤ ds.length ∧ m = ds.length - i ∧ ∃ F' δ', Same F1 F' ∧ Ok c F' H σ δ' ∧ PostS c W F' (forL ft body (ds.drop i) δ') E, ⟨ds.length, Nat.zero_le _, rfl, F1, δ1, Same.refl _, ok1, post⟩, ?_⟩
  rintro i m σ2 H2 ⟨hi, rfl, F2, δ2, g2, ok2, post⟩
  by_cases hl : i < ds.length
  · right
    have hd : ds[i]? = some ds[i] := List.getElem?_eq_getElem hl
    obtain ⟨k1, k2⟩ := Walks.turn wk g2 ok2 hd
    refine ⟨k1, fun σ' H' => ∃ F' δ', Same F1 F' ∧ Ok c F' H' σ' δ' ∧ PostS c W F' (forL ft body (ds.drop (i + 1)) δ') E, fun σ' H' h => ⟨ds.length - (i + 1), by omega, by omega, rfl, h⟩, fun x H' y => ?_⟩
    obtain ⟨F3, g3, ok3, r3⟩ := k2 x H' y
    rw [List.drop_eq_getElem_cons hl] at post
    unfold forL at post
    refine hg c F3 H' σ2 δ2 x (.imm ds[i]) _ ok3 r3 ?_
    have post := PostS.shift post g3
    rcases hn (.imm ds[i]) δ2 with ⟨δ3, e3⟩ | ⟨xx, δ3, e3⟩ | e3
    · rw [e3] at post ⊢
      simp only [SR.bind_nx] at post
      intro F4 H4 σ4 g4 ok4
      refine hb c F4 H4 σ4 δ3 _ ok4 ?_
      have post := PostS.shift post g4
      have gg : Same F1 F4 := (g2.trans g3).trans g4
      cases q : body δ3 with
      | nx δ5 => rw [q] at post; exact fun F5 H5 σ5 g5 ok5 => ⟨F5, δ5, gg.trans g5, ok5, PostS.shift post g5⟩
      | ct δ5 => rw [q] at post; exact fun F5 H5 σ5 g5 ok5 => ⟨F5, δ5, gg.trans g5, ok5, PostS.shift post g5⟩
      | bk δ5 => rw [q] at post; exact post
      | rt r δ5 => rw [q] at post; exact post
      | exc x δ5 => rw [q] at post; exact post
      | bad => rw [q] at post; exact post
    · rw [e3] at post ⊢; exact post
    · rw [e3] at post; exact post.elim
  · left
    have hi' : i = ds.length := by omega
    subst hi'
    refine ⟨(wk _ H2 (g2.trans ok2.same)).2 (List.getElem?_eq_none (Nat.le_refl _)), ?_⟩
    rw [List.drop_length] at post
    exact post F2 H2 σ2 (Same.refl _) ok2
def whileL (t : FT) (body : FS) : Nat → FS
  | 0, _ => .bad
  | n + 1, δ => (t δ).bindS fun b δ1 => if b then (match body δ1 with
    | .nx δ' => whileL t body n δ'
    | .ct δ' => whileL t body n δ'
    | .bk δ' => .nx δ'
    | r => r) else .nx δ1
def sWhile (μ : Sl → Nat) (t : FT) (body : FS) : FS := fun δ => whileL t body (μ δ) δ
theorem ds_while {cnd : Expr} {ss : List Stmt} {pos : Pos} {t : FT} {body : FS} (μ : Sl → Nat) (hp : PassesOwn (model X.prog X.w) X.A X.env X.xe) (hc : DT M W X cnd t) (hb : DSs M W X ss body) : DS M W X (.While cnd ss [] pos) (sWhile μ t body) := by
  obtain ⟨tc, pc, hc⟩ := hc
  obtain ⟨tb, pb, hb⟩ := hb
  refine ⟨_, ps_while hp pc pb, fun c F H σ δ E ok post => ?_⟩
  refine ⟨fun m σ H => ∃ F' δ', Same F F' ∧ Ok c F' H σ δ' ∧ PostS c W F' (whileL t body m δ') E, ⟨μ δ, F, δ, Same.refl _, ok, post⟩, ?_⟩
  rintro m σ2 H2 ⟨F2, δ2, g2, ok2, post⟩
  cases m with
  | zero => exact post.elim
  | succ n =>
    unfold whileL at post
    refine hc c F2 H2 σ2 δ2 _ ok2 (PostS.ofE post fun b δ3 k F3 H3 _ g3 ok3 e post => ?_)
    cases (show b = k from e)
    cases b with
    | false => exact post F3 H3 σ2 (Same.refl _) ok3
    | true =>
      refine ⟨fun σ' H' => ∃ F' δ', Same F F' ∧ Ok c F' H' σ' δ' ∧ PostS c W F' (whileL t body n δ') E, fun σ' H' h => ⟨n, Nat.lt_succ_self n, h⟩, hb c F3 H3 σ2 δ3 _ ok3 ?_⟩
      have gg : Same F F3 := g2.trans g3
      cases q : body δ3 with
      | nx δ5 => simp only [q, if_true] at post; exact fun F5 H5 σ5 g5 ok5 => ⟨F5, δ5, gg.trans g5, ok5, PostS.shift post g5⟩
      | ct δ5 => simp only [q, if_true] at post; exact fun F5 H5 σ5 g5 ok5 => ⟨F5, δ5, gg.trans g5, ok5, PostS.shift post g5⟩
      | bk δ5 => simp only [q, if_true] at post; exact post
      | rt r δ5 => simp only [q, if_true] at post; exact post
      | exc x δ5 => simp only [q, if_true] at post; exact post
      | bad => simp only [q, if_true] at post; exact post
end
end
end TS

set_option maxRecDepth 100000
set_option maxHeartbeats 4000000
namespace TS
open PySem L2
noncomputable section
abbrev W0 : WX := fun _ _ _ _ => False
def canD (M : Gm) (W : WX) (f : FD) : TE := fun σ H Q => ∃ (c : Cn M) (F : Hp) (δ : Sl), Ok c F H σ δ ∧ Post c W F σ (ρD c) (f δ) Q
def canT (M : Gm) (W : WX) (f : FT) : TT := fun σ H Q => ∃ (c : Cn M) (F : Hp) (δ : Sl), Ok c F H σ δ ∧ Post c W F σ ρT (f δ) Q
section
variable {M : Gm} {c : Cn M} {W : WX} {X : Cx} {tg e : Expr} {F F1 H H1 : Hp} {σ : St} {δ : Sl}
theorem DI.can {f : FD} (h : DI M W X e f) : PE X e (canD M W f) := by
  obtain ⟨t, p, h⟩ := h
  exact ⟨fun pins s σ H Q I ⟨c, F, δ, ok, post⟩ => p.run pins s σ H Q I (h c F H σ δ Q ok post)⟩
theorem DT.can {f : FT} (h : DT M W X e f) : PT X e (canT M W f) := by
  obtain ⟨t, p, h⟩ := h
  exact ⟨fun pins s σ H Q I ⟨c, F, δ, ok, post⟩ => p.run pins s σ H Q I (h c F H σ δ Q ok post)⟩
def wipeD (δ : Sl) : List Nat → Sl
  | [] => δ
  | v :: vs => (wipeD δ vs).set v none
theorem Ok.clr (ok : Ok c F H σ δ) (i : Nat) : Ok c F H (σ.set i none) (δ.set i none) where
  same := ok.same
  grow := ok.grow
  nofz := ok.nofz
  kept := ok.kept
  ioh := ok.ioh
  tb := ok.tb
  len := by simp [ok.len]
  slot := fun j r e => by
    rcases getElem?_set_some e with ⟨_, z, _⟩ | ⟨hn, e⟩
    · cases z
    · rw [List.getElem?_set_ne hn]; exact ok.slot j r e
  dist := fun j k r1 r2 w hjk e1 e2 m1 m2 s1 s2 => by
    rcases getElem?_set_some e1 with ⟨_, z, _⟩ | ⟨hn, e1⟩
    · cases z
    · rcases getElem?_set_some e2 with ⟨_, z, _⟩ | ⟨hn2, e2⟩
      · cases z
      · rw [List.getElem?_set_ne hn] at s1
        rw [List.getElem?_set_ne hn2] at s2
        exact ok.dist j k r1 r2 w hjk e1 e2 m1 m2 s1 s2
theorem Ok.wipe (ok : Ok c F H σ δ) : ∀ vs : List Nat, Ok c F H (L2.wipe σ vs) (wipeD δ vs)
  | [] => ok
  | v :: vs => (Ok.wipe ok vs).clr v
theorem Ok.unwipe {vs : List Nat} (ok : Ok c F H (L2.wipe σ vs) δ) : Ok c F H σ δ where
  same := ok.same
  grow := ok.grow
  nofz := ok.nofz
  kept := ok.kept
  ioh := ok.ioh
  tb := ok.tb
  len := by rw [← ok.len, wipe_length]
  slot := fun j r e => by
    obtain ⟨v, e1, e2⟩ := ok.slot j r e
    exact ⟨v, (wipe_some e1).1, e2⟩
  dist := fun j k r1 r2 w hjk e1 e2 m1 m2 s1 s2 => by
    obtain ⟨v, k1, _⟩ := ok.slot j r1 e1
    obtain ⟨v', k2, _⟩ := ok.slot k r2 e2
    have z1 := (wipe_some k1).1
    have z2 := (wipe_some k2).1
    rw [s1] at z1; cases z1
    rw [s2] at z2; cases z2
    exact ok.dist j k r1 r2 w hjk e1 e2 m1 m2 k1 k2
theorem Ok.poke (ok : Ok c F H σ δ) {p : Addr} {o : HO} (hp : ∀ u, H p = some u → NT u) (hF : F p = none) (h0 : c.H0 p = none) (hns : ∀ (i : Nat) (r : R), δ[i]? = some (some r) → r.mu = true → σ[i]? ≠ some (some (V.ref p))) : Ok c F (upd H p o) σ δ where
  same := fun b u e => by
    have : b ≠ p := fun z => by rw [z, hF] at e; cases e
    rw [upd_ne this]; exact ok.same b u e
  grow := ok.grow
  nofz := ok.nofz
  kept := fun b u e hi => by
    have : b ≠ p := fun z => by rw [z, h0] at e; cases e
    rw [upd_ne this]; exact ok.kept b u e hi
  ioh := fun a e => by
    have q : a ≠ p := fun z => c.iob a e (z ▸ h0)
    rw [upd_ne q]; exact ok.ioh a e
  tb := ok.tb.keep (fun b u e z => by rw [upd_ne (fun (y : b = p) => z (hp u (by rw [← y]; exact e)))]; exact e) (fun _ _ _ _ q => q) ok.tb.nt
  len := ok.len
  slot := fun i r e => by
    obtain ⟨v, e1, e2⟩ := ok.slot i r e
    refine ⟨v, e1, ?_⟩
    cases r with
    | imm d => exact e2
    | own ob =>
      obtain ⟨a, rfl, h1, h2, h3⟩ := e2
      have : a ≠ p := fun z => hns i _ e rfl (by rw [e1, z])
      exact ⟨a, rfl, h1, h2, obAt_mono (Same.refl _) (upd_ne this) h3⟩
    | brw ob =>
      obtain ⟨a, rfl, h1, h2, h3⟩ := e2
      have : a ≠ p := fun z => hns i _ e rfl (by rw [e1, z])
      exact ⟨a, rfl, h1, h2, obAt_mono (Same.refl _) (upd_ne this) h3⟩
  dist := ok.dist
theorem f0_none (ok : Ok c F H σ δ) {a : Addr} (h : F a = none) : c.F0 a = none := by
  cases z : c.F0 a with
  | none => rfl
  | some q => rw [ok.grow a q z] at h; cases h
def noX {α : Type} (r : Res α) : Res α := match r with
  | .exc _ _ => .bad
  | r => r
def lcL (setT : D → Sl → Option Sl) (vs : List Nat) (ft : FT) (fe : FD) : List D → List D → Sl → Res (List D)
  | [], acc, δ => .ok acc δ
  | d :: ds, acc, δ => match setT d δ with
    | none => .bad
    | some δ0 => (noX (ft δ0)).bind fun b δ1 => if b then (noX (fe δ1)).bind fun y δ2 => if acc.length < 16777216 then lcL setT vs ft fe ds (acc ++ [y]) (wipeD δ2 vs) else .bad else lcL setT vs ft fe ds acc (wipeD δ1 vs)
def freeS (δ : Sl) (i : Nat) : Bool := match δ[i]? with
  | some none => true
  | some (some (.imm _)) => true
  | _ => false
def restD (δ1 : Sl) : List Nat → Sl → Sl
  | [], δ => δ
  | v :: vs, δ => restD δ1 vs (δ.set v ((δ1[v]?).join))
def fLc (setT : D → Sl → Option Sl) (vs : List Nat) (fi : FA) (ft : FT) (fe : FD) : FE := fun δ => (fi δ).bind fun ds δ1 => if vs.all (freeS δ1) then
    (lcL setT vs ft fe ds [] (wipeD δ1 vs)).bind fun acc δ2 => .ok (.own (.l acc)) (restD δ1 vs δ2) else .bad
def SetT (M : Gm) (vs : List Nat) (g : TG) (setT : D → Sl → Option Sl) : Prop := ∀ (c : Cn M) (F H : Hp) (σ : St) (δ δ' : Sl) (x : V) (d : D) (k : St → Hp → Prop), Ok c F H σ δ → rep M F d x → setT d δ = some δ' → L2.wipe σ vs = σ →
  (∀ σ2, Ok c F H σ2 δ' → L2.wipe σ2 vs = σ → k σ2 H) → g x σ H k
theorem restD_ok {δ1 : Sl} (ok1 : Ok c F1 H1 σ δ1) (g : Same F1 F) : ∀ (vs : List Nat) {δ : Sl}, vs.all (freeS δ1) = true → Ok c F H σ δ → Ok c F H σ (restD δ1 vs δ) ∧ (∀ (i : Nat) (r : R), (restD δ1 vs δ)[i]? = some (some r) → r.mu = true → ∃ r0, δ[i]? = some (some r0) ∧ r0.mu = true)
  | [], δ, _, ok => ⟨ok, fun i r e m => ⟨r, e, m⟩⟩
  | v :: vs, δ, hf, ok => by
    rw [List.all_cons, Bool.and_eq_true] at hf
    have key : Ok c F H σ (δ.set v ((δ1[v]?).join)) ∧ (∀ (i : Nat) (r : R), (δ.set v ((δ1[v]?).join))[i]? = some (some r) → r.mu = true → ∃ r0, δ[i]? = some (some r0) ∧ r0.mu = true) := by
      have h := hf.1
      unfold freeS at h
      split at h
      · rename_i q
        rw [q]
        refine ⟨ok.drop v, fun i r e m => ?_⟩
        rcases getElem?_set_some e with ⟨_, z, _⟩ | ⟨_, e⟩
        · cases z
        · exact ⟨r, e, m⟩
      · rename_i d q
        rw [q]
        obtain ⟨w, e1, e2⟩ := ok1.slot v _ q
        refine ⟨ok.setSame e1 (rep_mono g _ _ e2), fun i r e m => ?_⟩
        rcases getElem?_set_some e with ⟨_, z, _⟩ | ⟨_, e⟩
        · have z' : (R.imm d) = r := by simpa using z
          subst z'; cases m
        · exact ⟨r, e, m⟩
      · cases h
    obtain ⟨k1, k2⟩ := restD_ok ok1 g vs hf.2 key.1
    refine ⟨k1, fun i r e m => ?_⟩
    obtain ⟨r0, e0, m0⟩ := k2 i r e m
    exact key.2 i r0 e0 m0
theorem wipe_idem (σ : St) : ∀ vs : List Nat, L2.wipe (L2.wipe σ vs) vs = L2.wipe σ vs := fun vs => by
  apply List.ext_getElem?
  intro j
  by_cases hj : j ∈ vs
  · have key : ∀ (τ : St) (us : List Nat), j ∈ us → (L2.wipe τ us)[j]? = if j < τ.length then some none else none := by
      intro τ us
      induction us with
      | nil => intro h; cases h
      | cons u us ih =>
        intro h
        unfold L2.wipe
        by_cases e : u = j
        · subst e
          by_cases hl : u < τ.length
          · rw [List.getElem?_set_self (by rw [wipe_length]; exact hl), if_pos hl]
          · rw [if_neg hl, List.getElem?_eq_none (by rw [List.length_set, wipe_length]; omega)]
        · rw [List.getElem?_set_ne e]
          rcases List.mem_cons.mp h with z | z
          · exact absurd z.symm e
          · exact ih z
    rw [key _ _ hj, key _ _ hj, wipe_length]
  · rw [wipe_out hj]
theorem lc_read {wi : TI} {g : TG} {fi : FA} {ft : FT} {fe : FD} {setT : D → Sl → Option Sl} {vs : List Nat} (hi : ∀ (c : Cn M) F H σ δ (Q : It → Hp → Prop), Ok c F H σ δ → Post c W F σ (ρI M) (fi δ) Q → wi σ H Q) (hg : SetT M vs g setT) :
    RE M W (tLc wi g (canT M W0 ft) (canD M W0 fe) vs) (fLc setT vs fi ft fe) := fun c F H σ δ Q ok post => by
  refine hi c F H σ δ _ ok (Post.bind post fun ds δ1 J F1 H1 _ s1 ok1 wk post => fun D hD => ?_)
  split at post
  · rename_i hfree
    have okA : Ok c F1 (upd H1 D (.lst [])) σ δ1 := ok1.alloc hD
    have okW : Ok c F1 (upd H1 D (.lst [])) (L2.wipe σ vs) (wipeD δ1 vs) := okA.wipe vs
    have h0 : c.H0 D = none := ok1.h0 hD
    refine ⟨fun k m H => k ≤ ds.length ∧ m = ds.length - k ∧ ∃ F' δ' acc as, Same F1 F' ∧ Ok c F' H (L2.wipe σ vs) δ' ∧ F' D = none ∧ H D = some (.lst as) ∧ reps M F' acc as ∧
        (∀ (i : Nat) (r : R), δ'[i]? = some (some r) → r.mu = true → (L2.wipe σ vs)[i]? ≠ some (some (V.ref D))) ∧
        Post c W F' σ (ρR c σ) ((lcL setT vs ft fe (ds.drop k) acc δ').bind fun acc δ2 => .ok (.own (.l acc)) (restD δ1 vs δ2)) Q,
      ⟨ds.length, Nat.zero_le _, rfl, F1, wipeD δ1 vs, [], [], Same.refl _, okW, ok1.f hD, upd_same, reps_nil, ?_, post⟩, ?_⟩
    · intro i r e m z
      obtain ⟨v, k1, k2⟩ := okW.slot i r e
      rw [k1] at z; cases z
      have k3 := (wipe_some k1).1
      -- the slot's object stood before D
      cases r with
      | imm d => cases m
      | own o =>
        obtain ⟨a, ea, q1, q2, q3⟩ := k2
        cases ea
        have ok1w := (ok1.wipe vs).slot i _ e
        obtain ⟨v', z1, a', ea', w1, w2, w3⟩ := ok1w
        rw [k1] at z1; cases z1; cases ea'
        obtain ⟨u, hu⟩ := obAt_some w3
        rw [hD] at hu; cases hu
      | brw o =>
        obtain ⟨a, ea, q1, q2, q3⟩ := k2
        cases ea
        have ok1w := (ok1.wipe vs).slot i _ e
        obtain ⟨v', z1, a', ea', w1, w2, w3⟩ := ok1w
        rw [k1] at z1; cases z1; cases ea'
        obtain ⟨u, hu⟩ := obAt_some w3
        rw [hD] at hu; cases hu
    rintro k m H2 ⟨hk, rfl, F2, δ2, acc, as, g2, ok2, f2, d2, r2, n2, post⟩
    by_cases hl : k < ds.length
    · right
      have hd : ds[k]? = some ds[k] := List.getElem?_eq_getElem hl
      -- the list is held aside while the item comes and while the block runs
      have okg := ok2.guard f2 h0 d2 rfl n2
      obtain ⟨k1, k2⟩ := Walks.turn wk g2 okg hd
      rw [List.drop_eq_getElem_cons hl] at post
      unfold lcL at post
      refine ⟨k1, fun H' => ∃ F' δ' acc as, Same F1 F' ∧ Ok c F' H' (L2.wipe σ vs) δ' ∧ F' D = none ∧ H' D = some (.lst as) ∧ reps M F' acc as ∧
        (∀ (i : Nat) (r : R), δ'[i]? = some (some r) → r.mu = true → (L2.wipe σ vs)[i]? ≠ some (some (V.ref D))) ∧
        Post c W F' σ (ρR c σ) ((lcL setT vs ft fe (ds.drop (k + 1)) acc δ').bind fun acc δ2 => .ok (.own (.l acc)) (restD δ1 vs δ2)) Q, fun H' h => ⟨ds.length - (k + 1), by omega, by omega, rfl, h⟩, fun x H' y => ?_⟩
      obtain ⟨F3, g3, ok3, r3⟩ := k2 x H' y
      split at post
      · exact post.elim
      · rename_i δ0 e0
        refine hg (c.guard D (.lst as) rfl) F3 H' (L2.wipe σ vs) δ2 δ0 x ds[k] _ ok3 r3 e0 (wipe_idem σ vs) fun σ2 okS hw => ⟨hw, ?_⟩
        refine ⟨c.guard D (.lst as) rfl, F3, δ0, okS, ?_⟩
        cases q : ft δ0 with
        | bad => rw [q] at post; exact post.elim
        | exc x δ => rw [q] at post; exact post.elim
        | ok b δ4 =>
          rw [q] at post
          intro b' F4 H4 g4 ok4 eb
          cases (show b = b' from eb)
          have post : Post c W F2 σ (ρR c σ) ((if b then (noX (fe δ4)).bind fun y δ2 => if acc.length < 16777216 then lcL setT vs ft fe (ds.drop (k + 1)) (acc ++ [y]) (wipeD δ2 vs) else .bad else lcL setT vs ft fe (ds.drop (k + 1)) acc (wipeD δ4 vs)).bind fun acc δ2 => .ok (.own (.l acc)) (restD δ1 vs δ2)) Q := post
          cases b with
          | false =>
            obtain ⟨q1, q2, q3, q4⟩ := ok4.unguard h0
            have qw := q1.wipe vs
            rw [hw] at qw
            refine ⟨F4, wipeD δ4 vs, acc, as, (g2.trans g3).trans g4, qw, q2 (f0_none ok2 f2), q3, reps_mono (g3.trans g4) _ _ r2, fun i r e m z => ?_, Post.shift post (g3.trans g4)⟩
            obtain ⟨v, z1, z2⟩ := qw.slot i r e
            rw [z1] at z; cases z
            rw [← hw] at z1
            have z3 := (wipe_some z1)
            have e' : δ4[i]? = some (some r) := by
              have key : ∀ (us : List Nat), i ∉ us → (wipeD δ4 us)[i]? = δ4[i]? := by
                intro us
                induction us with
                | nil => intro _; rfl
                | cons u us ih =>
                  intro h
                  simp only [List.mem_cons, not_or] at h
                  unfold wipeD
                  rw [List.getElem?_set_ne (Ne.symm h.1)]
                  exact ih h.2
              rw [key vs z3.2] at e
              exact e
            exact q4 i r e' m z3.1
          | true =>
            refine ⟨c.guard D (.lst as) rfl, F4, δ4, ok4, ?_⟩
            cases q5 : fe δ4 with
            | bad => rw [q5] at post; exact post.elim
            | exc x δ => rw [q5] at post; exact post.elim
            | ok yd δ5 =>
              rw [q5] at post
              intro y F5 H5 g5 ok5 ry
              have post : Post c W F2 σ (ρR c σ) ((if acc.length < 16777216 then lcL setT vs ft fe (ds.drop (k + 1)) (acc ++ [yd]) (wipeD δ5 vs) else .bad).bind fun acc δ2 => .ok (.own (.l acc)) (restD δ1 vs δ2)) Q := post
              obtain ⟨q1, q2, q3, q4⟩ := ok5.unguard h0
              split at post
              · rename_i hlen
                have r5 : reps M F5 acc as := reps_mono ((g3.trans g4).trans g5) _ _ r2
                have f5 := q2 (f0_none ok2 f2)
                refine ⟨as, q3, by rw [reps_length r5, sizeLine_eq]; exact hlen, ?_⟩
                have qp : Ok c F5 (upd H5 D (.lst (as ++ [y]))) σ2 δ5 := q1.poke (fun u e => by rw [q3] at e; cases e; rfl) f5 h0 q4
                have qw := qp.wipe vs
                rw [hw] at qw
                refine ⟨F5, wipeD δ5 vs, acc ++ [yd], as ++ [y], ((g2.trans g3).trans g4).trans g5, qw, f5, upd_same, reps_append r5 (reps_cons ry reps_nil), fun i r e m z => ?_, Post.shift post ((g3.trans g4).trans g5)⟩
                obtain ⟨v, z1, z2⟩ := qw.slot i r e
                rw [z1] at z; cases z
                rw [← hw] at z1
                have z3 := (wipe_some z1)
                have e' : δ5[i]? = some (some r) := by
                  have key : ∀ (us : List Nat), i ∉ us → (wipeD δ5 us)[i]? = δ5[i]? := by
                    intro us
                    induction us with
                    | nil => intro _; rfl
                    | cons u us ih =>
                      intro h
                      simp only [List.mem_cons, not_or] at h
                      unfold wipeD
                      rw [List.getElem?_set_ne (Ne.symm h.1)]
                      exact ih h.2
                  rw [key vs z3.2] at e
                  exact e
                exact q4 i r e' m z3.1
              · exact post.elim
    · left
      have hk' : k = ds.length := by omega
      subst hk'
      refine ⟨(wk _ H2 (g2.trans ok2.same)).2 (List.getElem?_eq_none (Nat.le_refl _)), ?_⟩
      rw [List.drop_length] at post
      unfold lcL at post
      simp only [Res.bind_ok] at post
      have ok3 : Ok c F2 H2 σ δ2 := ok2.unwipe
      obtain ⟨ok4, m4⟩ := restD_ok ok1 g2 vs hfree ok3
      refine post.ok ok4 ⟨D, rfl, f2, h0, ⟨as, d2, r2⟩, fun i r e m z => ?_⟩
      obtain ⟨r0, e0, m0⟩ := m4 i r e m
      obtain ⟨v, z1, z2⟩ := ok2.slot i r0 e0
      have z3 := (wipe_some z1).1
      rw [z] at z3; cases z3
      exact n2 i r0 e0 m0 z1
  · exact post.elim
def stName (i : Nat) : D → Sl → Option Sl := fun d δ => some (δ.set i (some (.imm d)))
theorem st_name (i : Nat) : SetT M [i] (gName i) (stName i) := fun c F H σ δ δ' x d k ok r e hw q => by
  cases e
  refine q _ (ok.setI i r) ?_
  show (σ.set i (some x)).set i none = σ
  rw [List.set_set]
  exact hw
abbrev blkX (X : Cx) (scope : Scope) : Shared → Hp → Addr → List (Str × Addr) → List Addr → Cx := fun s H C cl fp => X.blk s H scope (compEnvC scope cl C X.env) fp
theorem de_lc {elt iter : Expr} {ifs : List Expr} {scope : Scope} {own : List (Str × Nat)} {pos : Pos} {g : TG} {fi : FA} {ft : FT} {fe : FD} {setT : D → Sl → Option Sl} {vs : List Nat} (hvs : own.map (·.2) = vs) (hc : X.calm = true) (hN : X.N.Nodup) (hi : DIt M W X tg iter fi) (ok : BlkOk X.N X.env.scope scope own)
    (hS : SetT M vs g setT) (hg : ∀ s H C cl fp, PG (blkX X scope s H C cl fp) tg g) (ht : ∀ s H C cl fp, PTs (blkX X scope s H C cl fp) ifs (canT M W0 ft)) (he : ∀ s H C cl fp, DI M W0 (blkX X scope s H C cl fp) elt fe) (hs : ∀ x, foldedSetIterable iter X.env x = pure x := by intro _; rfl) :
    DE M W X (.ListComp elt [⟨tg, iter, ifs, 0⟩] scope pos) (fLc setT vs fi ft fe) := by
  obtain ⟨wi, pi, hi⟩ := hi
  subst hvs
  exact ⟨_, pe_lc hc hN pi ok hg ht (fun s H C cl fp => (he s H C cl fp).can) hs, lc_read hi hS⟩
def tTrue : FT := fun δ => .ok true δ
theorem pts_no {X : Cx} : PTs X [] (canT M W0 tTrue) := ⟨fun pins s σ H Q I ⟨c, F, δ, ok, post⟩ => pts_nil.run pins s σ H Q I (post.ok ok rfl)⟩
theorem ds_setLc {i : Nat} {y : Str} {py : Pos} {elt iter : Expr} {ifs : List Expr} {scope : Scope} {own : List (Str × Nat)} {pos spos : Pos} {g : TG} {fi : FA} {ft : FT} {fe : FD} {setT : D → Sl → Option Sl} {vs : List Nat} (hvs : own.map (·.2) = vs) (hc : X.calm = true) (hN : X.N.Nodup) (hy : X.N[i]? = some y) (hyl : X.env.scope.names.lookup y = some .local)
    (hsw : swapsWith (.ListComp elt [⟨tg, iter, ifs, 0⟩] scope pos) (some (.Name y py)) spos.line X.env = pure true) (hi : DIt M W X tg iter fi) (ok : BlkOk X.N X.env.scope scope own)
    (hS : SetT M vs g setT) (hg : ∀ s H C cl fp, PG (blkX X scope s H C cl fp) tg g) (ht : ∀ s H C cl fp, PTs (blkX X scope s H C cl fp) ifs (canT M W0 ft)) (he : ∀ s H C cl fp, DI M W0 (blkX X scope s H C cl fp) elt fe) (hs : ∀ x, foldedSetIterable iter X.env x = pure x := by intro _; rfl) :
    DS M W X (.Assign [.Name y py] (.ListComp elt [⟨tg, iter, ifs, 0⟩] scope pos) spos) (sAsg (fLc setT vs fi ft fe) (tName i)) := by
  obtain ⟨wi, pi, hi⟩ := hi
  subst hvs
  refine ⟨_, ps_setLc hc hN hy hyl hsw pi ok hg ht (fun s H C cl fp => (he s H C cl fp).can) hs, asg_of (lc_read hi hS) (fun c F H σ δ v r Q ok rr post => ?_) (tgt_name i)⟩
  unfold tName at post
  cases r with
  | imm d => exact post F H _ (Same.refl _) (ok.setI i rr)
  | own o => exact post F H _ (Same.refl _) (ok.setO i rr)
  | brw o => exact post.elim
def ioN : Option OB → Nat
  | none => 0
  | some _ => 1
def ioS : Option OB → Sl
  | none => []
  | some o => [some (R.brw o)]
def ini (n : Nat) (io : Option OB) (ds : List D) : Sl := ioS io ++ ds.map (fun d => some (R.imm d)) ++ List.replicate (n - (ioN io + ds.length)) none
def ioOut (io : Option OB) (δ : Sl) : Option (Option OB) := match io with
  | none => some none
  | some _ => match δ[0]? with
    | some (some (R.brw o)) => some (some o)
    | _ => none
def outR (io : Option OB) : SR → FR
  | .rt r δ => (match ioOut io δ with
    | some io' => .ok r io'
    | none => .bad)
  | .nx δ => (match ioOut io δ with
    | some io' => .ok (.imm .non) io'
    | none => .bad)
  | .exc x δ => (match ioOut io δ with
    | some io' => .exc x io'
    | none => .bad)
  | _ => .bad
def mir (n np : Nat) (g : FS) : Fm := fun io ds => if ioN io + ds.length = np ∧ np ≤ n then outR io (g (ini n io ds)) else .bad
end
end
end TS

set_option maxRecDepth 100000
set_option maxHeartbeats 4000000
namespace TS
open PySem L2
noncomputable section
section
variable {M : Gm} {P : Program} {w : World} {mg : Str → Option Value} {base : Heap}
theorem ini_get_none {n : Nat} {ds : List D} {i : Nat} {r : R} (h : (ini n none ds)[i]? = some (some r)) : ∃ d, ds[i]? = some d ∧ r = .imm d := by
  unfold ini ioS at h
  simp only [List.nil_append] at h
  by_cases hl : i < ds.length
  · rw [List.getElem?_append_left (by simpa using hl), List.getElem?_map, List.getElem?_eq_getElem hl] at h
    simp only [Option.map_some, Option.some.injEq] at h
    exact ⟨ds[i], List.getElem?_eq_getElem hl, h.symm⟩
  · rw [List.getElem?_append_right (by simpa using hl)] at h
    rw [List.getElem?_replicate] at h
    split at h
    · cases h
    · cases h
theorem ini_get_some {n : Nat} {o : OB} {ds : List D} {i : Nat} {r : R} (h : (ini n (some o) ds)[i]? = some (some r)) : (i = 0 ∧ r = .brw o) ∨ ∃ j d, i = j + 1 ∧ ds[j]? = some d ∧ r = .imm d := by
  unfold ini ioS at h
  cases i with
  | zero =>
    simp only [List.cons_append, List.getElem?_cons_zero, Option.some.injEq] at h
    exact .inl ⟨rfl, h.symm⟩
  | succ j =>
    simp only [List.cons_append, List.nil_append, List.getElem?_cons_succ] at h
    right
    by_cases hl : j < ds.length
    · rw [List.getElem?_append_left (by simpa using hl), List.getElem?_map, List.getElem?_eq_getElem hl] at h
      simp only [Option.map_some, Option.some.injEq] at h
      exact ⟨j, ds[j], rfl, List.getElem?_eq_getElem hl, h.symm⟩
    · rw [List.getElem?_append_right (by simpa using hl), List.getElem?_replicate] at h
      split at h
      · cases h
      · cases h
theorem ini_len {n : Nat} {io : Option OB} {ds : List D} (h : ioN io + ds.length ≤ n) : (ini n io ds).length = n := by
  unfold ini
  cases io with
  | none => simp [ioS, ioN] at h ⊢; omega
  | some o => simp [ioS, ioN] at h ⊢; omega
theorem mir_ok {n np : Nat} {g : FS} {vs : List V} {H : Hp} {Q : VK} {E : XK} (h : spD M (mir n np g) vs H Q E) : vs.length = np := by
  obtain ⟨F, io, a, ws, ds, rfl, s, tb, rs, ia, h⟩ := h
  unfold mir at h
  by_cases hn : ioN io + ds.length = np ∧ np ≤ n
  · rw [List.length_append, reps_length rs]
    cases io <;> simp [ioV, ioN] at hn ⊢ <;> omega
  · rw [if_neg hn] at h
    exact h.elim
def cnOf (F H : Hp) (io : Option OB) (a : Addr) (ha : ∀ b, (io.map fun _ => a) = some b → ∃ u, H b = some u ∧ NT u) : Cn M := ⟨F, str0 H, io.map fun _ => a, fun b e z => by
  obtain ⟨u, h1, h2⟩ := ha b e
  exact str0_none z u h1 h2, fun _ _ h => (str0_nt h).2⟩
theorem body_ok {N : List Str} {np : Nat} {g : FS} {t : TS} {vs : List V} {H : Hp} {Q : VK} {E : XK} (hN : np ≤ N.length) (h : spD M (mir N.length np g) vs H Q E)
    (ht : ∀ (c : Cn M) F H σ δ D, Ok c F H σ δ → PostS c (fun cls d _ H => E cls d H) F (g δ) D → t D σ H) : t { nx := fun _ H' => Q .non H', rt := Q } (start N vs) H := by
  have hv := mir_ok h
  obtain ⟨F, io, a, ws, ds, rfl, s, tb, rs, ia, h⟩ := h
  have hio : ∀ b, (io.map fun _ => a) = some b → ∃ u, H b = some u ∧ NT u := fun b e => by
    cases io with
    | none => cases e
    | some o =>
      cases e
      exact obAt_nt ia.2
  unfold mir at h
  have hcond : ioN io + ds.length = np ∧ np ≤ N.length := by
    refine ⟨?_, hN⟩
    rw [List.length_append, reps_length rs] at hv
    cases io <;> simp [ioV, ioN] at hv ⊢ <;> omega
  rw [if_pos hcond] at h
  have hle : ioN io + ds.length ≤ N.length := by rw [hcond.1]; exact hcond.2
  have ok : Ok (cnOf (M := M) F H io a hio) F H (start N (ioV io a ++ ws)) (ini N.length io ds) := by
    refine ⟨s, Same.refl _, fun _ _ z => z, fun _ _ z _ => (str0_nt z).1, hio, tb, ?_, fun i r e => ?_, fun i j r r' v hij e1 e2 m1 m2 _ _ => ?_⟩
    · rw [ini_len hle]
      unfold L2.start
      rw [List.length_append, List.length_map, List.length_replicate]
      rw [hv]; omega
    · cases io with
      | none =>
        obtain ⟨d, hd, rfl⟩ := ini_get_none e
        obtain ⟨v, e1, e2⟩ := reps_get rs hd
        refine ⟨v, ?_, e2⟩
        unfold L2.start
        have hl : i < ws.length := (List.getElem?_eq_some_iff.mp e1).1
        simp only [ioV, List.nil_append]
        rw [List.getElem?_append_left (by simpa using hl), List.getElem?_map, e1]; rfl
      | some o =>
        rcases ini_get_some e with ⟨rfl, rfl⟩ | ⟨j, d, rfl, hd, rfl⟩
        · exact ⟨.ref a, rfl, a, rfl, ia.1, rfl, ia.2⟩
        · obtain ⟨v, e1, e2⟩ := reps_get rs hd
          refine ⟨v, ?_, e2⟩
          unfold L2.start
          have hl : j < ws.length := (List.getElem?_eq_some_iff.mp e1).1
          simp only [ioV, List.cons_append, List.nil_append, List.map_cons, List.getElem?_cons_succ]
          rw [List.getElem?_append_left (by simpa using hl), List.getElem?_map, e1]; rfl
    · cases io with
      | none => obtain ⟨d, _, rfl⟩ := ini_get_none e1; cases m1
      | some o =>
        rcases ini_get_some e1 with ⟨rfl, rfl⟩ | ⟨j1, d, rfl, hd, rfl⟩
        · rcases ini_get_some e2 with ⟨rfl, rfl⟩ | ⟨j1, d, rfl, hd, rfl⟩
          · exact hij rfl
          · cases m2
        · cases m1
  have stp : ∀ {F' H' : Hp} {σ' : St} {δ' : Sl}, Ok (cnOf (M := M) F H io a hio) F' H' σ' δ' → Stp M F H F' H' (io.map fun _ => a) := fun o => ⟨o.grow, fun b u e n z => o.nofz b (by show str0 H b ≠ none; rw [str0_of e n]; exact fun z => by cases z) z, fun b u e n i => o.kept b u (str0_of e n) i, o.same, o.tb⟩
  have iout : ∀ {F' H' : Hp} {σ' : St} {δ' : Sl} {io' : Option OB}, Ok (cnOf (M := M) F H io a hio) F' H' σ' δ' → ioOut io δ' = some io' → ioAt M F' H' io' a := fun {F' H' σ' δ' io'} o e => by
    unfold ioOut at e
    cases io with
    | none => cases e; trivial
    | some ob =>
      simp only at e
      split at e
      · rename_i o' q
        cases e
        obtain ⟨v, k1, b, rfl, k2, k3, k4⟩ := o.slot 0 _ q
        have : a = b := Option.some.inj k3
        subst this
        exact ⟨k2, k4⟩
      · cases e
  refine ht _ F H _ _ _ ok ?_
  cases q : g (ini N.length io ds) with
  | bad => rw [q] at h; exact h.elim
  | bk δ => rw [q] at h; exact h.elim
  | ct δ => rw [q] at h; exact h.elim
  | nx δ =>
    rw [q] at h
    unfold outR at h
    intro F' H' σ' g' ok'
    cases e : ioOut io δ with
    | none => simp only [e] at h
    | some io' =>
      simp only [e] at h
      exact h .non F' H' (stp ok') (rep_non' (M := M) (F := F')) (iout ok' e)
  | rt r δ =>
    rw [q] at h
    unfold outR at h
    intro v F' H' σ' g' ok' rr
    cases e : ioOut io δ with
    | none => simp only [e] at h
    | some io' =>
      simp only [e] at h
      refine h v F' H' (stp ok') ?_ (iout ok' e)
      cases r with
      | imm d => exact rr
      | own o =>
        obtain ⟨b, rfl, k1, k2, k3, _⟩ := rr
        exact ⟨b, rfl, k1, str0_none k2, k3⟩
      | brw o => exact rr
  | exc x δ =>
    rw [q] at h
    unfold outR at h
    intro cls d F' H' σ' g' ok' xa
    cases e : ioOut io δ with
    | none => simp only [e] at h
    | some io' =>
      simp only [e] at h
      exact h cls d F' H' (stp ok') xa (iout ok' e)
theorem funD_mir {x qual : Str} {params : Arguments} {body : List Stmt} {scope : Scope} {dvs : List V} {kws : List (Str × V)} {f : Addr} {fd : FuncData} {N ps : List Str} {k : Nat} {g : FS} (F : FunD M.K x qual params body scope dvs kws f fd) (S : FnScope N ps scope) (hN : ps.length ≤ N.length)
    (hb : ∀ (cdv : Value) (A : Around) (outer : List Env) (s : Shared) (H : Hp) (E : XK), Room k (A.deeper (PyProof.Rows.envOfC qual scope s.heap.objs.size f cdv)) →
      Takes (cxOf (L2.CX P w) P w M.K mg base N qual scope f cdv A outer s H E) (fun cls d _ H => E cls d H) →
      PassesOwn (model P w) (A.deeper (PyProof.Rows.envOfC qual scope s.heap.objs.size f cdv)) (PyProof.Rows.envOfC qual scope s.heap.objs.size f cdv) (cxOf (L2.CX P w) P w M.K mg base N qual scope f cdv A outer s H E).xe →
      DSs M (fun cls d _ H => E cls d H) (cxOf (L2.CX P w) P w M.K mg base N qual scope f cdv A outer s H E) body g) :
    FnOk P w M.K mg base (L2.CX P w) (k + 1) f fd ps (spD M (mir N.length ps.length g)) := by
  refine FnOk.of F S (fun vs H Q E h => mir_ok h) (fun cdv A outer s H vs Q E hr h => ?_)
  obtain ⟨t, p, ht⟩ := hb cdv A outer s H E hr (takes_of rfl rfl rfl rfl) (passes_of rfl)
  exact ⟨t, p, body_ok hN h ht⟩
end
end
end TS

set_option maxRecDepth 100000
set_option maxHeartbeats 4000000
namespace TS
open PySem L2
noncomputable section
structure DefE where
  at_ : PySem.W.Frag → Addr
  name : Str
  qual : Str
  params : Arguments
  body : List Stmt
  scope : Scope
  dfl : List He.Dv := []
  sup : Bool := false
def fnE (sup : Bool) (K : PySem.W.Frag) (a : Addr) : He.FnW := match K.lookup a with
  | some ⟨_, _, .func fd, _⟩ => some (fd.name, fd.qualname, fd.params, fd.body, fd.scope, fd.globals, if sup then [] else fd.closure, fd.builtins)
  | _ => none
def DefE.val (d : DefE) : He.FnW := some (d.name, d.qual, d.params, .stmts d.body, d.scope, mainGlobals, [], builtinsNs)
def DefE.dvs (K : PySem.W.Frag) (d : DefE) : List V := d.dfl.map (He.Dv.v K)
def DefE.ok (K : PySem.W.Frag) (d : DefE) : Bool := PySem.W.keepIn K (.ref (d.at_ K)) && (match K.lookup (d.at_ K) with
  | some ⟨_, _, .func fd, _⟩ => PySem.W.codeIn K fd.code d.qual && He.dflB K fd.defaults (d.dvs K)
  | _ => false)
theorem DefE.funD {K : PySem.W.Frag} {d : DefE} (e : fnE false K (d.at_ K) = d.val) (c : d.ok K = true) : ∃ fd, FunD K d.name d.qual d.params d.body d.scope (d.dvs K) [] (d.at_ K) fd := by
  obtain ⟨kp, c2⟩ := He.ba c
  unfold fnE at e
  cases q : K.lookup (d.at_ K) with
  | none =>
    rw [q] at c2
    cases c2
  | some o =>
    obtain ⟨oc, od, dt, osl⟩ := o
    rw [q] at c2 e
    cases dt with
    | func fd =>
      obtain ⟨n1, n2, n3, n4, n5, n6, n7, n8, n9, n10, n11, n12, n13, n14, n15⟩ := fd
      have e2 : (some (n1, n2, n3, n4, n5, n6, n7, n15) : He.FnW) = some (d.name, d.qual, d.params, .stmts d.body, d.scope, mainGlobals, [], builtinsNs) := e
      simp only [Option.some.injEq, Prod.mk.injEq] at e2
      obtain ⟨h1, h2, h3, h4, h5, h6, h7, h8⟩ := e2
      subst h1 h2 h3 h4 h5 h6 h7 h8
      have c3 : (PySem.W.codeIn K n13 d.qual && He.dflB K n8 (d.dvs K)) = true := c2
      obtain ⟨k1, k3⟩ := He.ba c3
      exact ⟨_, ⟨oc, od, n8, n9, n10, n11, n12, n13, n14, osl, rfl, q, k1, He.dflB_ok k3, .inl rfl⟩, kp⟩
    | _ => cases c2
abbrev gA (x : Str) : PySem.W.Frag → Addr := fun K => He.ga K x
abbrev mA (x m : Str) : PySem.W.Frag → Addr := fun K => He.ma K (He.ga K x) m
def dA (x m : Str) : PySem.W.Frag → Addr := fun K => He.ma K (He.ga K x) m
def uA (T : String) (x m : Str) : PySem.W.Frag → Addr := fun K => match PySem.W.recIn K (dA x m K) T with
  | some (.ref g :: _) => g
  | _ => 0
def refOf : Value → Addr
  | .ref c => c
  | _ => 0
def isRef : Value → Bool
  | .ref _ => true
  | _ => false
def cdA (f : PySem.W.Frag → Addr) (K : PySem.W.Frag) : Addr := match K.lookup (f K) with
  | some ⟨_, _, .func fd, _⟩ => refOf fd.code
  | _ => 0
def fnRef (f : PySem.W.Frag → Addr) (K : PySem.W.Frag) : Bool := match K.lookup (f K) with
  | some ⟨_, _, .func fd, _⟩ => isRef fd.code
  | _ => false
def clO (f : PySem.W.Frag → Addr) (K : PySem.W.Frag) : Option Addr := match K.lookup (f K) with
  | some ⟨_, _, .func fd, _⟩ => (match fd.closure with
    | [(x, cc)] => if x = ("__class__" : Str) then some cc else none
    | _ => none)
  | _ => none
def clA (f : PySem.W.Frag → Addr) (K : PySem.W.Frag) : Addr := (clO f K).getD 0
def cellOf (o : Option Obj) (d : Addr) : Bool := match o with
  | some ⟨_, _, .cell (some (.ref e)), _⟩ => decide (e = d)
  | _ => false
def fileOf (o : Option Obj) (z : Str) : Bool := match o with
  | some ⟨_, _, .fields vs, _⟩ => (match (vs[2]? : Option Value) with
    | some (Value.str y _) => decide (y = z)
    | _ => false)
  | _ => false
inductive Fx where
  | he (f : He.Fa)
  | prop (x f : Str)
  | cmet (x m : Str)
  | cread (x : Str)
  | cint (x f : Str) (i : Int)
  | kit (x y : Str) (b : Bool)
  | kitT (t : String) (y : Str) (b : Bool)
  | kitC (x : Str) (t : String) (b : Bool)
  | ity (x : Str)
  | neb (x : Str)
  | nfT (x : Str) (t : String)
  | nfC (x y : Str)
  | sfx (x : Str)
  | exc (x : Str) (B : String)
  | exm (x y : Str) (b : Bool)
  | smd
  | dgt
  | gtup (x : Str) (ns : List Int)
  | sup (x y : Str) (z : Str)
  | same (x y m : Str)
def intOf : Value → Option Int
  | .int i _ => some i
  | _ => none
def bmOf : String → List Value := fun B => [.type B, .type "Exception", .type "BaseException", .type "object"]
def headRef : Option (List Value) → Addr → Bool
  | some (.ref g :: _), a => decide (g = a)
  | _, _ => false
def tyT : Value := .type "type"
def Fx.ok (K : PySem.W.Frag) : Fx → Bool
  | .he f => f.ok K
  | .prop x f => He.eqO (PySem.W.findIn K (.ref (He.ga K x)) f) (some (some (.ref (dA x f K)))) && (He.eqO (PySem.W.specialIn K (.ref (dA x f K)) "__get__") (some (some (.builtin "property.__get__"))) && (decide (PySem.W.takesIn K (.ref (dA x f K)) = some true) && headRef (PySem.W.recIn K (dA x f K) "property") (uA "property" x f K)))
  | .cmet x m => (match PySem.W.findCls K (.ref (He.ga K x)) tyT m with
    | some (.get (.builtin b) (.ref p) .none (.ref C)) => decide (b = "classmethod.__get__") && (decide (p = dA x m K) && decide (C = He.ga K x))
    | _ => false) && (headRef (PySem.W.recIn K (dA x m K) "classmethod") (uA "classmethod" x m K) && PySem.W.fnIn K (uA "classmethod" x m K))
  | .cread x => PySem.W.readsIn K (He.ga K x) tyT && He.eqO (PySem.W.specialIn K (.ref (He.ga K x)) "__getattribute__") (some (some (.builtin "type.__getattribute__")))
  | .cint x f i => (match PySem.W.findCls K (.ref (He.ga K x)) tyT f with
    | some (.val (.int j _)) => decide (j = i)
    | _ => false)
  | .kit x y b => decide (PySem.W.kitOne K (.ref (He.ga K x)) (.ref (He.ga K y)) = some b)
  | .kitT t y b => decide (PySem.W.kitOne K (.type t) (.ref (He.ga K y)) = some b)
  | .kitC x t b => decide (PySem.W.kitOne K (.ref (He.ga K x)) (.type t) = some b)
  | .ity x => He.eqO (PySem.W.findIn K (.ref (He.ga K x)) "__class__") (some (some (.builtin "object.__class__"))) && (He.eqO (PySem.W.specialIn K (.builtin "object.__class__") "__get__") (some (some (.builtin "getset_descriptor.__get__"))) && (decide (PySem.W.takesIn K (.builtin "object.__class__") = some true) && decide (PySem.W.mroIn K (He.ga K x) (.type "object") = some true)))
  | .neb x => He.eqO (PySem.W.findIn K (.ref (He.ga K x)) "__ne__") (some (some (.builtin "object.__ne__")))
  | .nfT x t => PySem.W.notFirst K (He.ga K x) (.type t)
  | .nfC x y => PySem.W.notFirst K (He.ga K x) (.ref (He.ga K y))
  | .sfx x => PySem.W.selfFirst K (He.ga K x)
  | .exc x B => PySem.W.excInitIn K (He.ga K x) (bmOf B) (B ++ ".__new__") && (PySem.W.excOver K (He.ga K x) (bmOf B) && (PySem.W.hasDictIn K (He.ga K x) && (He.eqO (PySem.W.findIn K (.ref (He.ga K x)) "__setattr__") (some (some (.builtin "object.__setattr__"))) && (decide (PySem.W.subIn K (.ref (He.ga K x)) (.type "BaseException") = some true) && (decide (PySem.W.typeIn K (.ref (He.ga K x)) = some (.type "type")) && (PySem.W.keepIn K (.ref (He.ga K x)) &&
    (He.eqO (PySem.W.findIn K (.ref (He.ga K x)) "__init__") (some (some (.ref (He.ma K (He.ga K x) "__init__")))) && (decide (PySem.W.typeIn K (.ref (He.ma K (He.ga K x) "__init__")) = some (.type "function")) && (He.eqO (PySem.W.findIn K (.ref (He.ga K x)) "__getattribute__") (some (some (.builtin "BaseException.__getattribute__"))) && (He.eqO (PySem.W.findIn K (.ref (He.ga K x)) "__getattr__") (some none) &&
    (He.eqO (PySem.W.findIn K (.ref (He.ga K x)) "__class__") (some (some (.builtin "object.__class__"))) && (He.eqO (PySem.W.specialIn K (.builtin "object.__class__") "__get__") (some (some (.builtin "getset_descriptor.__get__"))) && (decide (PySem.W.takesIn K (.builtin "object.__class__") = some true) && decide (PySem.W.mroIn K (He.ga K x) (.type "object") = some true))))))))))))))
  | .sup x y z => (clO (mA x "__init__") K).isSome && (fnRef (mA x "__init__") K && (cellOf (K.lookup (clA (mA x "__init__") K)) (He.ga K x) && (fileOf (K.lookup (cdA (mA x "__init__") K)) z && ((PySem.W.clsIn K (He.ga K x)).isSome && (decide (PySem.W.mroIn K (He.ga K x) (.ref (He.ga K x)) = some true) && (He.eqO (PySem.W.ks_superIn K (He.ga K x) (He.ga K x) "__init__") (some (some (.ref (He.ma K (He.ga K y) "__init__")))) && (decide (PySem.W.typeIn K (.ref (He.ma K (He.ga K y) "__init__")) = some (.type "function")) && (PySem.W.fnIn K (He.ma K (He.ga K y) "__init__") && He.eqO (PySem.W.nsIn K cStatics "thirdparty.any") (some none)))))))))
  | .same x y m => decide (He.ma K (He.ga K x) m = He.ma K (He.ga K y) m)
  | .dgt => PySem.W.nsOkIn K cStatics && He.eqO (PySem.W.nsIn K cStatics "sys.int_max_str_digits") (some none)
  | .smd => (match K.lookup sysModules with
    | some ⟨.type c, _, _, _⟩ => decide (c = "dict")
    | _ => false)
  | .exm x y b => decide (PySem.W.exmOne K (.ref (He.ga K x)) (.ref (He.ga K y)) = some b)
  | .gtup x ns => (match K.lookup (He.ga K x) with
    | some ⟨.type c, _, .seq its _, _⟩ => decide (c = "tuple") && (decide (its.size ≤ 100) && decide (its.toList.map intOf = ns.map some))
    | _ => false)
section
variable {K : PySem.W.Frag}
theorem headRef_ok {o : Option (List Value)} {a : Addr} (h : headRef o a = true) : ∃ rest, o = some (.ref a :: rest) := by
  unfold headRef at h
  split at h
  · have e := of_decide_eq_true h
    subst e
    exact ⟨_, rfl⟩
  · cases h
theorem prop_ok {x f : Str} (c : (Fx.prop x f).ok K = true) : PropOf K (He.ga K x) f (dA x f K) (uA "property" x f K) := by
  obtain ⟨c1, c⟩ := He.ba c
  obtain ⟨c2, c⟩ := He.ba c
  obtain ⟨c3, c4⟩ := He.ba c
  exact ⟨He.eqO_ok c1, He.eqO_ok c2, of_decide_eq_true c3, headRef_ok c4⟩
theorem cread_ok {x : Str} (c : (Fx.cread x).ok K = true) : ClX.CRead K (He.ga K x) tyT := by
  obtain ⟨c1, c2⟩ := He.ba c
  exact ⟨c1, He.eqO_ok c2⟩
theorem cint_ok {x f : Str} {i : Int} (c : (Fx.cint x f i).ok K = true) : ∃ u, ClX.CVal K (He.ga K x) tyT f (.int i) u := by
  have c : (match PySem.W.findCls K (.ref (He.ga K x)) tyT f with
    | some (.val (.int j _)) => decide (j = i)
    | _ => false) = true := c
  split at c
  · rename_i j t e
    have ej := of_decide_eq_true c
    subst ej
    exact ⟨_, e, t, rfl⟩
  · cases c
theorem kit_ok {x y : Str} {b : Bool} (c : (Fx.kit x y b).ok K = true) : PySem.W.kitOne K (.ref (He.ga K x)) (.ref (He.ga K y)) = some b := of_decide_eq_true c
theorem kitC_ok {x : Str} {t : String} {b : Bool} (c : (Fx.kitC x t b).ok K = true) : PySem.W.kitOne K (.ref (He.ga K x)) (.type t) = some b := of_decide_eq_true c
end
def obsS (fa : List Fx) (fn : List DefE) (K : PySem.W.Frag) : He.AlD := ((fa.all fun f => f.ok K) && fn.all fun d => d.ok K, fn.map fun d => fnE d.sup K (d.at_ K))
def valS (fn : List DefE) : He.AlD := (true, fn.map DefE.val)
def SaysS (fa : List Fx) (fn : List DefE) (K : PySem.W.Frag) : Prop := obsS fa fn K = valS fn
def asS (_ : Addr → Option Obj) (n : Nat) : List Addr := List.range n
def obsSG (n : Nat) (fa : List Fx) (fn : List DefE) (g : Addr → Option Obj) : He.AlD := obsS fa fn (He.frG g (asS g n))
def hookS (n : Nat) (fa : List Fx) (fn : List DefE) : PySem.W.Hook where
  α := He.AlD
  obs := fun s => obsSG n fa fn s.heap.get?
  val := fun _ => valS fn
  says := fun _ h => ∃ K : PySem.W.Frag, K.In h ∧ SaysS fa fn K
  of := fun _ _ e => ⟨_, He.frG_in, e⟩
  keeps := fun _ _ _ ⟨K, hK, c⟩ k => ⟨K, PySem.W.Frag.In.keeps hK k, c⟩
theorem obsSG_eq {n : Nat} {fa : List Fx} {fn : List DefE} {g : Addr → Option Obj} {s : Shared} (h : ∀ a, g a = s.heap.get? a) : obsSG n fa fn g = (hookS n fa fn).obs s := by
  have e : g = s.heap.get? := funext h
  rw [e] <;> rfl
section
variable {fa : List Fx} {fn : List DefE} {K : PySem.W.Frag}
theorem SaysS.fact (c : SaysS fa fn K) (i : Nat) {f : Fx} (h : fa[i]? = some f := by rfl) : f.ok K = true := by
  have c1 := (He.ba (show ((fa.all fun f => f.ok K) && fn.all fun d => d.ok K) = true from congrArg (fun z : He.AlD => z.1) c)).1
  exact List.all_eq_true.mp c1 f (List.mem_of_getElem? h)
theorem SaysS.def_ (c : SaysS fa fn K) (i : Nat) {d : DefE} (h : fn[i]? = some d := by rfl) (hs : d.sup = false := by rfl) : ∃ fd, FunD K d.name d.qual d.params d.body d.scope (d.dvs K) [] (d.at_ K) fd := by
  have c2 := (He.ba (show ((fa.all fun f => f.ok K) && fn.all fun d => d.ok K) = true from congrArg (fun z : He.AlD => z.1) c)).2
  have e : fn.map (fun d => fnE d.sup K (d.at_ K)) = fn.map DefE.val := congrArg (fun z : He.AlD => z.2) c
  have e2 : (fn.map fun d => fnE d.sup K (d.at_ K))[i]? = (fn.map DefE.val)[i]? := by rw [e]
  rw [List.getElem?_map, List.getElem?_map, h] at e2
  have e3 : fnE d.sup K (d.at_ K) = d.val := Option.some.inj e2
  rw [hs] at e3
  exact DefE.funD e3 (List.all_eq_true.mp c2 d (List.mem_of_getElem? h))
end
abbrev Mk2 := (PySem.W.Frag → Addr) × Str
section
variable {fa : List Fx} {fn : List DefE} {tn : List Mk2} {K : PySem.W.Frag} {h : Heap}
end
end
end TS

set_option maxHeartbeats 0
namespace K54
open PySem L2 TS
def top (i : Nat) : Stmt := PySem.Challenge.pw_threeswaps_k54_renaming_faults.main.body.getD i (.Pass ⟨0, 0, 0, 0⟩)
def dE (p : PySem.W.Frag → Addr) (nm q : Str) (s : Stmt) (dfl : List He.Dv) : DefE := ⟨p, nm, q, defArgs s, defBody s, defScope s, dfl, false⟩
def d__law_draw : DefE := dE (gA "_law_draw") "_law_draw" "_law_draw" (top 28) []
def d__law_shuffled : DefE := dE (gA "_law_shuffled") "_law_shuffled" "_law_shuffled" (top 30) []
def d__law_great : DefE := dE (gA "_law_great") "_law_great" "_law_great" (top 31) []
def d__law_table : DefE := dE (gA "_law_table") "_law_table" "_law_table" (top 32) []
def d_least_table : DefE := dE (gA "least_table") "least_table" "least_table" (top 17) []
def d_InvalidTable___init__ : DefE := dE (mA "InvalidTable" "__init__") "__init__" "InvalidTable.__init__" (inClass (top 4) 0) []
def d_TooLong___init__ : DefE := dE (mA "TooLong" "__init__") "__init__" "TooLong.__init__" (inClass (top 7) 0) []
def d_is_integer : DefE := dE (gA "is_integer") "is_integer" "is_integer" (top 10) []
def d_checked_table : DefE := dE (gA "checked_table") "checked_table" "checked_table" (top 16) []
def d_sources_of : DefE := dE (gA "sources_of") "sources_of" "sources_of" (top 22) []
def d_Plan___init__ : DefE := dE (mA "Plan" "__init__") "__init__" "Plan.__init__" (inClass (top 23) 1) []
def d_Plan___repr__ : DefE := dE (mA "Plan" "__repr__") "__repr__" "Plan.__repr__" (inClass (top 23) 19) []
def d_InvalidInteger___init__ : DefE := dE (mA "InvalidInteger" "__init__") "__init__" "InvalidInteger.__init__" (inClass (top 3) 0) []
def d_require_integer : DefE := dE (gA "require_integer") "require_integer" "require_integer" (top 11) [.non]
def d_divisor_of_two : DefE := dE (gA "divisor_of_two") "divisor_of_two" "divisor_of_two" (top 12) []
def d_common_multiple : DefE := dE (gA "common_multiple") "common_multiple" "common_multiple" (top 13) []
def d_Plan_period : DefE := dE (uA "property" "Plan" "period") "period" "Plan.period" (inClass (top 23) 5) []
def d_moved : DefE := dE (gA "moved") "moved" "moved" (top 20) []
def d_Plan_at : DefE := dE (mA "Plan" "at") "at" "Plan.at" (inClass (top 23) 8) []
def d_renaming_fault : DefE := dE (gA "renaming_fault") "renaming_fault" "renaming_fault" (top 25) []
def d__law_common : DefE := dE (gA "_law_common") "_law_common" "_law_common" (top 34) []
def d__law_multiple : DefE := dE (gA "_law_multiple") "_law_multiple" "_law_multiple" (top 38) []
def d__law_at : DefE := dE (gA "_law_at") "_law_at" "_law_at" (top 33) []
def d__law_due : DefE := dE (gA "_law_due") "_law_due" "_law_due" (top 39) []
def d__law_asked : DefE := dE (gA "_law_asked") "_law_asked" "_law_asked" (top 40) []
def d__law_bound_right : DefE := dE (gA "_law_bound_right") "_law_bound_right" "_law_bound_right" (top 43) []
def d__law_pot : DefE := dE (gA "_law_pot") "_law_pot" "_law_pot" (top 27) []
def d__law_renamed : DefE := dE (gA "_law_renamed") "_law_renamed" "_law_renamed" (top 35) []
def d__law_inverse : DefE := dE (gA "_law_inverse") "_law_inverse" "_law_inverse" (top 36) []
def d__law_kin : DefE := dE (gA "_law_kin") "_law_kin" "_law_kin" (top 37) []
def d__law_choice : DefE := dE (gA "_law_choice") "_law_choice" "_law_choice" (top 29) []
def d__law_exchange : DefE := dE (gA "_law_exchange") "_law_exchange" "_law_exchange" (top 41) []
def d_TooMany___init__ : DefE := dE (mA "TooMany" "__init__") "__init__" "TooMany.__init__" (inClass (top 8) 0) []
def d__law_long_right : DefE := dE (gA "_law_long_right") "_law_long_right" "_law_long_right" (top 42) []
def d__law_right : DefE := dE (gA "_law_right") "_law_right" "_law_right" (top 44) []
def d_law : DefE := dE (gA "law") "law" "law" (top 45) []
def fn : List DefE := ([d__law_draw, d__law_shuffled, d__law_great, d__law_table, d_least_table, d_InvalidTable___init__, d_TooLong___init__, d_is_integer, d_checked_table, d_sources_of, d_Plan___init__, d_Plan___repr__, d_InvalidInteger___init__, d_require_integer, d_divisor_of_two, d_common_multiple, d_Plan_period, d_moved, d_Plan_at, d_renaming_fault, d__law_common, d__law_multiple, d__law_at, d__law_due, d__law_asked, d__law_bound_right, d__law_pot, d__law_renamed, d__law_inverse, d__law_kin, d__law_choice, d__law_exchange, d_TooMany___init__, d__law_long_right, d__law_right, d_law] : List DefE)
def fa : List Fx := ([.he (.free "list"), .he (.free "divmod"), .he (.free "int"), .he (.glo "_law_draw"), .he (.free "len"), .he (.glo "_law_shuffled"), .he (.free "range"), .he (.glo "_law_great"), .he (.glo "_law_table"), .he (.cls "Plan"), .he (.noat "Plan" "own_offsets"), .he (.glo "least_table"), .he (.free "tuple"), .he (.free "isinstance"), .exc "InvalidTable" "ValueError", .he (.noat "InvalidTable" "problem"), .he (.noat "InvalidTable" "position"), .he (.noat "InvalidTable" "earlier"), .he (.glo "InvalidTable"), .cread "Move", .cint "Move" "MAX_PERIOD" 2520, .he (.glo "Move"), .exc "TooLong" "ArithmeticError", .he (.noat "TooLong" "multiple"), .he (.glo "TooLong"), .he (.free "enumerate"), .he (.free "bool"), .he (.glo "is_integer"), .he (.glo "checked_table"), .cread "Plan", .cint "Plan" "SIGN" 1, .he (.glo "Plan"), .he (.noat "Plan" "own_sources"), .he (.glo "sources_of"), .he (.mkr "Plan"), .he (.meth "Plan" "__repr__"), .smd, .he (.free "repr"), .exc "InvalidInteger" "ValueError", .he (.noat "InvalidInteger" "value"), .he (.glo "InvalidInteger"), .he (.glo "require_integer"), .he (.free "abs"), .he (.glo "divisor_of_two"), .he (.glo "common_multiple"), .prop "Plan" "period", .cint "Plan" "MAX_PERIOD" 2520, .he (.glo "moved"), .he (.meth "Plan" "at"), .he (.glo "renaming_fault"), .he (.glo "_law_common"), .he (.glo "_law_multiple"), .he (.glo "_law_at"), .he (.glo "_law_due"), .he (.glo "_law_asked"), .he (.glo "_law_bound_right"), .he (.free "max"), .he (.glo "_law_pot"), .he (.free "min"), .he (.glo "_law_renamed"), .he (.glo "_law_inverse"), .he (.glo "_law_kin"), .he (.glo "_law_choice"), .he (.glo "_law_exchange"), .exc "TooMany" "ArithmeticError", .he (.noat "TooMany" "many"), .exm "InvalidInteger" "TooLong" false, .exm "InvalidTable" "TooLong" false, .exm "TooLong" "TooLong" true, .exm "TooMany" "TooLong" false, .kitC "InvalidInteger" "ArithmeticError" false, .kitC "InvalidTable" "ArithmeticError" false, .kitC "TooLong" "ArithmeticError" true, .kitC "TooMany" "ArithmeticError" true, .he (.free "ArithmeticError"), .kit "InvalidInteger" "LimitError" false, .kit "InvalidTable" "LimitError" false, .kit "TooLong" "LimitError" true, .kit "TooMany" "LimitError" true, .he (.glo "LimitError"), .kit "InvalidInteger" "ThreeswapsError" true, .kit "InvalidTable" "ThreeswapsError" true, .kit "TooLong" "TooMany" false, .kit "TooLong" "AbsentError" false, .kit "TooLong" "ThreeswapsError" false, .kit "TooMany" "TooMany" true, .kit "TooMany" "AbsentError" false, .kit "TooMany" "ThreeswapsError" false, .he (.glo "TooMany"), .he (.glo "AbsentError"), .he (.glo "ThreeswapsError"), .he (.glo "_law_long_right"), .he (.glo "_law_right"), .he (.free "all"), .he (.glo "law")] : List Fx)
abbrev R : PySem.W.OpenRow := PySem.W.OpenLaw.row PySem.Challenge.rw_threeswaps_k54_renaming_faults
abbrev hk : PySem.W.Hook := hookS 2000 fa fn
def ob (s : PySem.W.SharedT) : He.AlD := obsSG 2000 fa fn (HandSHeadRun.getT s)
theorem ob_eq (s : PySem.W.SharedT) : ob s = hk.obs s.abs := obsSG_eq (HandSHeadRun.getT_eq s)
def loose : List PySem.Str := (["_wall", "__name__", "ThreeswapsError", "InvalidInteger", "InvalidTable", "AbsentError", "LimitError", "TooLong", "TooMany", "is_integer", "require_integer", "divisor_of_two"] : List PySem.Str) ++ ((["common_multiple", "Move", "checked_table", "least_table", "table_text", "joint_multiple", "moved", "joined_table", "sources_of", "Plan", "renaming_fault", "_law_pot"] : List PySem.Str) ++ ((["_law_draw", "_law_choice", "_law_shuffled", "_law_great", "_law_table", "_law_at", "_law_common", "_law_renamed", "_law_inverse", "_law_kin", "_law_multiple", "_law_due"] : List PySem.Str) ++ ((["_law_asked", "_law_exchange", "_law_long_right", "_law_bound_right", "_law_right"] : List PySem.Str))))
end K54

set_option maxHeartbeats 0
namespace K54
open PySem L2 TS
def obK (s : PySem.W.SharedT) : PySem.W.Frag := He.frG (HandSHeadRun.getT s) (asS (HandSHeadRun.getT s) 2000)
theorem map3 {α β γ δ : Type} {x : Option α} {f : α → β} {g : α → γ} {c : α → δ} {a : β} {b : γ} {d : δ} (h1 : x.map f = some a) (h2 : x.map g = some b) (h3 : x.map c = some d) : x.map (fun s => (f s, g s, c s)) = some (a, b, d) := by
  cases x with
  | none => cases h1
  | some s =>
    have h1 := Option.some.inj h1
    have h2 := Option.some.inj h2
    have h3 := Option.some.inj h3
    show some (f s, g s, c s) = _
    rw [h1, h2, h3]
theorem run_a (w : World) : ∀ os : OsState, (HandSHeadRun.endF (HandSHeadRun.stepQ (HandSHeadRun.denQ HandSHeadRun.tabQ) R.prog w) 12000 R.prog w os).map (fun s => HandSHeadRun.looksF R.prog (PySem.W.boot_heap w.params) s.abs) = some (true) := by
  intro os
  kernel_rfl
theorem run_b (w : World) : ∀ os : OsState, (HandSHeadRun.endF (HandSHeadRun.stepQ (HandSHeadRun.denQ HandSHeadRun.tabQ) R.prog w) 12000 R.prog w os).map (fun s => HandSHeadRun.seenQ (PySem.W.view R.prog [45]) loose (importedModules R.prog.main.body) (fun s => PySem.W.xlAt (PySem.W.view R.prog [45]) [] s && PySem.W.recOk R.toRowW.records s) s.abs) = some (PySem.W.openGood (PySem.W.view R.prog [45]) loose) := by
  intro os
  kernel_rfl
theorem run_c1 (w : World) : ∀ os : OsState, (HandSHeadRun.endF (HandSHeadRun.stepQ (HandSHeadRun.denQ HandSHeadRun.tabQ) R.prog w) 12000 R.prog w os).map (fun s => (fa.take 80).all fun f => f.ok (obK s)) = some (true) := by
  intro os
  kernel_rfl
theorem run_c2 (w : World) : ∀ os : OsState, (HandSHeadRun.endF (HandSHeadRun.stepQ (HandSHeadRun.denQ HandSHeadRun.tabQ) R.prog w) 12000 R.prog w os).map (fun s => (fa.drop 80).all fun f => f.ok (obK s)) = some (true) := by
  intro os
  kernel_rfl
theorem run_c3 (w : World) : ∀ os : OsState, (HandSHeadRun.endF (HandSHeadRun.stepQ (HandSHeadRun.denQ HandSHeadRun.tabQ) R.prog w) 12000 R.prog w os).map (fun s => (fn.take 40).all fun d => d.ok (obK s)) = some (true) := by
  intro os
  kernel_rfl
theorem run_c5 (w : World) : ∀ os : OsState, (HandSHeadRun.endF (HandSHeadRun.stepQ (HandSHeadRun.denQ HandSHeadRun.tabQ) R.prog w) 12000 R.prog w os).map (fun s => ((fn.drop 40).all fun d => d.ok (obK s))) = some (true) := by
  intro os
  kernel_rfl
theorem run_c4 (w : World) : ∀ os : OsState, (HandSHeadRun.endF (HandSHeadRun.stepQ (HandSHeadRun.denQ HandSHeadRun.tabQ) R.prog w) 12000 R.prog w os).map (fun s => (ob s).2) = some (fn.map DefE.val) := by
  intro os
  kernel_rfl
theorem all_cut {α : Type} (xs : List α) (p : α → Bool) (n : Nat) (h1 : (xs.take n).all p = true) (h2 : (xs.drop n).all p = true) : xs.all p = true := by
  rw [← List.take_append_drop n xs, List.all_append, h1, h2]
  rfl
theorem ob_cut {s : PySem.W.SharedT} {v : List He.FnW} (h1 : ((fa.take 80).all fun f => f.ok (obK s)) = true) (h2 : ((fa.drop 80).all fun f => f.ok (obK s)) = true) (h3 : ((fn.take 40).all fun d => d.ok (obK s)) = true) (h5 : (((fn.drop 40).all fun d => d.ok (obK s))) = true) (h4 : (ob s).2 = v) : ob s = (true, v) := by
  have e : (ob s).1 = ((fa.all fun f => f.ok (obK s)) && (fn.all fun d => d.ok (obK s))) := rfl
  rw [all_cut fa (fun f => f.ok (obK s)) 80 h1 h2, all_cut fn (fun d => d.ok (obK s)) 40 h3 h5] at e
  exact Prod.ext e h4
theorem run_c (w : World) (os : OsState) : (HandSHeadRun.endF (HandSHeadRun.stepQ (HandSHeadRun.denQ HandSHeadRun.tabQ) R.prog w) 12000 R.prog w os).map (fun s => ob s) = some (hk.val w) := by
  have h1 := run_c1 w os
  have h2 := run_c2 w os
  have h3 := run_c3 w os
  have h4 := run_c4 w os
  have h5 := run_c5 w os
  generalize HandSHeadRun.endF (HandSHeadRun.stepQ (HandSHeadRun.denQ HandSHeadRun.tabQ) R.prog w) 12000 R.prog w os = x at *
  cases x with
  | none => cases h1
  | some s => exact congrArg some (ob_cut (Option.some.inj h1) (Option.some.inj h2) (Option.some.inj h3) (Option.some.inj h5) (Option.some.inj h4))
theorem run (w : World) : HandSHeadRun.RunEq R (PySem.W.view R.prog [45]) hk ob 12000 loose w := by
  intro os
  exact map3 (run_a w os) (run_b w os) (run_c w os)
end K54

set_option maxRecDepth 100000
set_option maxHeartbeats 4000000
namespace PySem.W
section
variable {prog : Program} {w : World} {A : Around} {E : Value → Shared → Prop} {s : Shared} {K : Frag} {x C L f : Addr} {h₀ : Heap} {m : Str → Option Value} {ox : Obj} {od : Option Obj} {name : Str} {b tb : Value}
end
end PySem.W
namespace TS
open PySem L2
noncomputable section
abbrev Tg := String ⊕ Nat
def tagD : D → Option Tg
  | .non => some (.inl "NoneType")
  | .bl _ => some (.inl "bool")
  | .int _ => some (.inl "int")
  | .str _ => some (.inl "str")
  | .lst _ => some (.inl "list")
  | .tup _ => some (.inl "tuple")
  | .ktp _ => some (.inl "tuple")
  | .dK _ _ => some (.inl "dict")
  | .dT _ _ => none
  | .obj n _ => some (.inr n)
  | _ => none
def TgV (M : Gm) : Tg → Value → Prop
  | .inl s, v => v = .type s
  | .inr n, v => ∃ C, M.G n = some C ∧ v = .ref C
structure InsTy (K : PySem.W.Frag) (C : Addr) : Prop where
  cl : Cls K C
  ha : PySem.W.findIn K (.ref C) "__class__" = some (some (.builtin "object.__class__"))
  hn : PySem.W.specialIn K (.builtin "object.__class__") "__get__" = some (some (.builtin "getset_descriptor.__get__"))
  htk : PySem.W.takesIn K (.builtin "object.__class__") = some true
  hm : PySem.W.mroIn K C (.type "object") = some true
section
variable {M : Gm} {F H : Hp}
theorem tyx_of {d : D} {v : V} {t : Tg} (s : Same F H) (h : prep M F H d v) (e : tagD d = some t) (hI : ∀ n C, t = .inr n → M.G n = some C → InsTy M.K C) : ∃ tv, TgV M t tv ∧ TyX M.K H v tv := by
  cases d with
  | non => cases e; rw [prep_non h]; exact ⟨_, rfl, .base .non⟩
  | bl b => cases e; rw [prep_bl h]; exact ⟨_, rfl, .base (.bl b)⟩
  | int b => cases e; rw [prep_int h]; exact ⟨_, rfl, .base (.int b)⟩
  | str b => cases e; rw [prep_str h]; exact ⟨_, rfl, .base (.str b)⟩
  | lst ds =>
    cases e
    obtain ⟨a, vs, rfl, h2, _⟩ := prep_lst s h
    exact ⟨_, rfl, .base (.lst h2)⟩
  | tup ds =>
    cases e
    obtain ⟨a, vs, rfl, h2, _⟩ := prep_tup s h
    rcases h2 with (h2 | ⟨o, h2⟩) | ⟨o, its, n, h2, h3, _⟩
    · exact ⟨_, rfl, .base (.tup h2)⟩
    · exact ⟨_, rfl, .fTuple h2⟩
    · exact ⟨_, rfl, .kTuple h2 h3⟩
  | dK ks ds =>
    cases e
    obtain ⟨a, vs, rfl, h2, _⟩ := prep_dK s h
    rcases h2 with h2 | ⟨o, h2⟩
    · exact ⟨_, rfl, .base (.dK h2)⟩
    · exact ⟨_, rfl, .fDict h2⟩
  | dT ks ds => cases e
  | obj n ds =>
    cases e
    obtain ⟨a, C, dx, fs, rfl, h1, h2, _⟩ := prep_obj s h
    obtain ⟨k1, k2, k3, k4, k5⟩ := hI n C rfl h1
    exact ⟨_, ⟨C, h1, rfl⟩, .base (.ins h2 k1 k2 k3 k4 k5)⟩
  | scr ds => cases e
  | cls n => cases e
  | lam => cases e
  | ktp ns =>
    cases e
    obtain ⟨a, rfl, h2, _⟩ := prep_ktp (H := H) h
    rcases h2 with (h2 | ⟨o, h2⟩) | ⟨o, its, n, h2, h3, _⟩
    · exact ⟨_, rfl, .base (.tup h2)⟩
    · exact ⟨_, rfl, .fTuple h2⟩
    · exact ⟨_, rfl, .kTuple h2 h3⟩
end
def IsT (M : Gm) (us : List Value) (tab : Tg → Option Bool) : Prop := ∀ t b tv, tab t = some b → TgV M t tv → PySem.W.kitAny M.K tv us = some b ∧ ∀ n C, t = .inr n → M.G n = some C → InsTy M.K C
def fIsi (tab : Tg → Option Bool) (fe : FD) : FD := fun δ => (fe δ).bind fun d δ => match tagD d with
  | some t => (match tab t with
    | some b => .ok (.bl b) δ
    | none => .bad)
  | none => .bad
section
variable {M : Gm} {c : Cn M} {W : WX} {X : Cx} {a c1 : Expr} {tab : Tg → Option Bool} {fe : FD} {p pos : Pos}
theorem kitAny_one {K : PySem.W.Frag} {t u : Value} {b : Bool} (h : PySem.W.kitAny K t [u] = some b) : PySem.W.kitOne K t u = some b := by
  unfold PySem.W.kitAny at h
  cases q : PySem.W.kitOne K t u with
  | none => rw [q] at h; cases h
  | some k =>
    rw [q] at h
    cases k with
    | true => exact h
    | false => exact h
theorem di_isi {v : V} {u : Value} (hg : Gl X "isinstance") (hm : X.mg "isinstance" = none) (ha : DP M W X a fe) (hc : PE X c1 (tC v)) (hv : ClsV v u) (T : IsT M [u] tab) (hK : X.K = M.K := by rfl)
    (hs : starEach [a, c1] X.env = (false, eval a X.env) :: starEach [c1] X.env := by rfl) (hs2 : starEach [c1] X.env = (false, eval c1 X.env) :: starEach [] X.env := by rfl)
    (mk : ∀ {t : TA}, PA X [a, c1] t → PE X (.Call (.Name "isinstance" p) [a, c1] [] pos) (tCB (rIsi X.K) t)) :
    DI M W X (.Call (.Name "isinstance" p) [a, c1] [] pos) (fIsi tab fe) := by
  obtain ⟨t, pp, h⟩ := ha
  refine ⟨_, mk (pa_cons pp (pa_cons hc pa_nil hs2) hs), fun c F H σ δ Q ok post => h c F H σ δ _ ok (Post.bind post fun d δ1 x F1 H1 _ s1 ok1 r post => ?_)⟩
  split at post
  · rename_i t e1
    split at post
    · rename_i b e2
      obtain ⟨tv, k1, k2⟩ := tyx_of ok1.same r e1 (fun n C h1 h2 => by
        have : ∃ tv, TgV M t tv := ⟨.ref C, by subst h1; exact ⟨C, h2, rfl⟩⟩
        obtain ⟨tv, h3⟩ := this
        exact (T t b tv e2 h3).2 n C h1 h2)
      have k3 := kitAny_one (T t b tv e2 k1).1
      exact ⟨x, v, tv, u, b, rfl, hv, by rw [hK]; exact k2, by rw [hK]; exact k3, post.ok ok1 (rep_bl' _)⟩
    · exact post.elim
  · exact post.elim
theorem di_isiT {es : List Expr} {kt : Nat} {tp : Pos} {vs : List V} {us : List Value} {ct : TA} (ha : DP M W X a fe) (hc : PA X es ct) (hct : ∀ σ H (Q : List V → Hp → Prop), Q vs H → ct σ H Q) (hv : Paired ClsV vs us) (hl : vs.length ≤ 100) (T : IsT M us tab) (hK : X.K = M.K := by rfl)
    (hs : starEach [a, .Tuple es kt tp] X.env = (false, eval a X.env) :: starEach [.Tuple es kt tp] X.env := by rfl) (hs2 : starEach [.Tuple es kt tp] X.env = (false, eval (.Tuple es kt tp) X.env) :: starEach [] X.env := by rfl)
    (mk : ∀ {t : TA}, PA X [a, .Tuple es kt tp] t → PE X (.Call (.Name "isinstance" p) [a, .Tuple es kt tp] [] pos) (tCB (rIsiT X.K) t)) :
    DI M W X (.Call (.Name "isinstance" p) [a, .Tuple es kt tp] [] pos) (fIsi tab fe) := by
  obtain ⟨t, pp, h⟩ := ha
  refine ⟨_, mk (pa_cons pp (pa_cons (pe_tup hc) pa_nil hs2) hs), fun c F H σ δ Q ok post => h c F H σ δ _ ok (Post.bind post fun d δ1 x F1 H1 _ s1 ok1 r post => ?_)⟩
  split at post
  · rename_i t e1
    split at post
    · rename_i b e2
      have hI : ∀ n C, t = .inr n → M.G n = some C → InsTy M.K C := fun n C h1 h2 => (T t b (.ref C) e2 (by subst h1; exact ⟨C, h2, rfl⟩)).2 n C h1 h2
      refine hct _ _ _ ⟨Nat.le_trans hl (by rw [sizeLine_eq]; decide), fun q hq => ?_⟩
      have ok2 : Ok c F1 (upd H1 q (.tup vs)) σ δ1 := ok1.alloc hq
      have r2 : prep M F1 (upd H1 q (.tup vs)) d x := by
        rcases r with r | ⟨o, a', e3, e4, e5⟩
        · exact .inl r
        · obtain ⟨u', hu'⟩ := obAt_some e5
          exact .inr ⟨o, a', e3, e4, obAt_mono (Same.refl _) (upd_ne (ne_of_none hu' hq)) e5⟩
      obtain ⟨tv, k1, k2⟩ := tyx_of ok2.same r2 e1 hI
      exact ⟨x, q, vs, tv, us, b, rfl, upd_same, hv, by rw [hK]; exact k2, by rw [hK]; exact (T t b tv e2 k1).1, post.ok ok2 (rep_bl' _)⟩
    · exact post.elim
  · exact post.elim
end
end
end TS

set_option maxRecDepth 100000
set_option maxHeartbeats 4000000
namespace TS
open PySem L2
noncomputable section
def OpDI (M : Gm) (r : R2) (g : D → D → Option R) : Prop := ∀ (c : Cn M) (F H : Hp) (σ : St) (δ : Sl) (x y : V) (dx dy : D) (z : R) (Q : VK), Ok c F H σ δ → rep M F dx x → rep M F dy y → g dx dy = some z →
  (∀ v F' H', Same F F' → Ok c F' H' σ δ → repR c F' H' σ δ z v → Q v H') → r x y H Q
section
variable {M : Gm} {c : Cn M} {W : WX} {X : Cx} {a b : Expr} {pos : Pos} {fa fb : FD} {r r' : R2} {g g' : D → D → Option R}
theorem OpD.I (h : OpD M r g) : OpDI M r g := fun c F H σ δ x y dx dy z Q ok px py e q => h c F H σ δ x y dx dy z Q ok (.inl px) (.inl py) e q
theorem OpDI.or (h : OpDI M r g) (h' : OpDI M r' g') : OpDI M (fun x y H Q => r x y H Q ∨ r' x y H Q) (gOr g g') := by
  intro c F H σ δ x y dx dy z Q ok px py e q
  unfold gOr at e
  cases e1 : g dx dy with
  | some w => rw [e1] at e; cases e; exact .inl (h c F H σ δ x y dx dy _ Q ok px py e1 q)
  | none => rw [e1] at e; exact .inr (h' c F H σ δ x y dx dy z Q ok px py e q)
end
def E00 : XK := fun _ _ _ => False
section
variable {X : Cx} {pins : List (Addr × Obj)} {σ : St} {H : Hp} {s : Shared}
theorem takes0 : Takes X W0 := fun u s' ⟨a, B, sI, pins, σ, H, cls, d, e, I, nb, up, sky, na, os, ag, w⟩ => w.elim
end
def fUnI (g : Int → Int) (fe : FD) : FD := fun δ => (fe δ).bind fun d δ => match d with
  | .int i => .ok (.int (g i)) δ
  | _ => .bad
section
variable {M : Gm} {c : Cn M} {W : WX} {X : Cx} {a b : Expr} {pos : Pos} {fa fb : FD}
theorem di_neg (ha : DI M W X a fa) : DI M W X (.UnaryOp .USub a pos) (fUnI (fun i => -i) fa) := by
  obtain ⟨t, p, h⟩ := ha
  refine ⟨_, pe_un un_neg p, fun c F H σ δ Q ok post => h c F H σ δ _ ok (Post.bind post fun d δ1 v F1 H1 _ s1 ok1 r post => ?_)⟩
  split at post
  · rename_i i _
    have ev : v = .int i := by unfold ρD rep at r; exact r
    exact ⟨i, ev, post.ok ok1 (rep_int' _)⟩
  · exact post.elim
theorem de_dnew : DE M W X (.Dict [] [] pos) (fun δ => .ok (.own (.dK [] [])) δ) :=
  ⟨_, pe_dnewK, fun c F H σ δ Q ok post => fun p hp => post.ok (ok.alloc hp) (ok.made hp ⟨[], upd_same, rfl, reps_nil⟩)⟩
end
def setF (vs : List D) (j : Nat) (d : D) : Option (List D) := if vs.length = j then some (vs ++ [d]) else if j < vs.length then some (vs.set j d) else none
theorem putF_new {f : Str} {v : V} : ∀ {fs : List (Str × V)}, f ∉ fs.map (·.1) → putF f v fs = fs ++ [(f, v)]
  | [], _ => rfl
  | (g, x) :: r, h => by
    simp only [List.map_cons, List.mem_cons, not_or] at h
    simp only [putF, if_neg (Ne.symm h.1), List.cons_append]
    rw [putF_new h.2]
theorem putF_at {f : Str} {v : V} : ∀ {fs : List (Str × V)} {j : Nat}, (fs.map (·.1))[j]? = some f → f ∉ (fs.map (·.1)).take j → putF f v fs = fs.set j (f, v)
  | [], j, h, _ => by simp at h
  | (g, x) :: r, 0, h, _ => by
    simp at h
    subst h
    simp [putF]
  | (g, x) :: r, j + 1, h, hn => by
    simp at h
    simp only [List.map_cons, List.take_succ_cons, List.mem_cons, not_or] at hn
    simp only [putF, if_neg (Ne.symm hn.1), List.set_cons_succ]
    rw [putF_at (by simpa using h) hn.2]
theorem setF_ok {M : Gm} {F : Hp} {n j : Nat} {f : Str} {vs vs' : List D} {d : D} {v : V} {fs : List (Str × V)} (hj : (M.nm n)[j]? = some f) (hn : f ∉ (M.nm n).take j) (h3 : fs.map (·.1) = (M.nm n).take vs.length) (h4 : reps M F vs (fs.map (·.2))) (rv : rep M F d v) (e : setF vs j d = some vs') :
    (putF f v fs).map (·.1) = (M.nm n).take vs'.length ∧ reps M F vs' ((putF f v fs).map (·.2)) := by
  have hjl : j < (M.nm n).length := (List.getElem?_eq_some_iff.mp hj).1
  unfold setF at e
  split at e
  · rename_i hl
    cases e
    rw [putF_new (by rw [h3, hl]; exact hn)]
    constructor
    · rw [List.map_append, h3, List.length_append, hl]
      show (M.nm n).take j ++ [f] = (M.nm n).take (j + 1)
      rw [List.take_succ, hj]; rfl
    · rw [List.map_append]; exact reps_append h4 (reps_cons rv reps_nil)
  · split at e
    · rename_i hl hlt
      cases e
      rw [putF_at (j := j) (by rw [h3, List.getElem?_take_of_lt hlt]; exact hj) (by rw [h3, List.take_take, Nat.min_eq_left (Nat.le_of_lt hlt)]; exact hn)]
      constructor
      · rw [List.map_set, List.length_set, h3]
        apply List.ext_getElem?
        intro i
        by_cases hi : j = i
        · subst hi
          rw [List.getElem?_set_self (by rw [List.length_take]; omega), List.getElem?_take_of_lt hlt, hj]
        · rw [List.getElem?_set_ne hi]
      · rw [List.map_set]; exact reps_set j h4 rv
    · cases e
def sFldS (i : Nat) (ix : Nat → Option Nat) (fe : FD) : FS := fun δ => (fe δ).bindS fun d δ1 => match δ1[i]? with
  | some (some (.own (.o n vs))) => (match ix n with
    | some j => (match setF vs j d with
      | some vs' => .nx (δ1.set i (some (.own (.o n vs'))))
      | none => .bad)
    | none => .bad)
  | some (some (.brw (.o n vs))) => (match ix n with
    | some j => (match setF vs j d with
      | some vs' => .nx (δ1.set i (some (.brw (.o n vs'))))
      | none => .bad)
    | none => .bad)
  | _ => .bad
section
variable {M : Gm} {c : Cn M} {W : WX} {X : Cx}
theorem ds_fld {o e : Expr} {i : Nat} {f : Str} {ix : Nat → Option Nat} {fe : FD} {pos pos' : Pos} (T : FldT M f ix) (hlen : ∀ n, (M.nm n).length < 1000) (ho : PE X o (tVar i)) (he : DI M W X e fe) (hK : X.K = M.K := by rfl) (hs : swapsWith e (some (.Attribute o f pos')) pos.line X.env = pure false := by rfl) :
    DS M W X (.Assign [.Attribute o f pos'] e pos) (sFldS i ix fe) := by
  obtain ⟨t, p, h⟩ := he
  refine ⟨_, ps_fld ho p hs, fun c F H σ δ E ok post => h c F H σ δ _ ok (PostS.ofE post fun d δ1 v F1 H1 _ s1 ok1 r post => ?_)⟩
  have key : ∀ (mkr : OB → R) (n : Nat) (vs : List D), (mkr = R.own ∨ mkr = R.brw) → δ1[i]? = some (some (mkr (.o n vs))) →
      PostS c W F1 (match ix n with | some j => (match setF vs j d with | some vs' => .nx (δ1.set i (some (mkr (.o n vs')))) | none => .bad) | none => .bad) E → ∃ v0, σ[i]? = some (some v0) ∧ ∃ a C dx fs, v0 = V.ref a ∧ H1 a = some (.ins C dx fs) ∧ Cls X.K C ∧ NoAttr X.K C f ∧ fs.length < 1000 ∧ E.nx σ (upd H1 a (.ins C dx (putF f v fs))) := by
    intro mkr n vs hk q post
    split at post
    · rename_i j hj
      split at post
      · rename_i vs' hv
        have hm : (mkr (.o n vs)).mu = true := by rcases hk with rfl | rfl <;> rfl
        obtain ⟨a, ob, ea, hf, hob, hkk⟩ := ok1.mus q hm
        have eob : ob = .o n vs := by
          rcases hk with rfl | rfl
          · rcases hkk with ⟨z, _⟩ | ⟨z, _⟩ <;> cases z; rfl
          · rcases hkk with ⟨z, _⟩ | ⟨z, _⟩ <;> cases z; rfl
        subst eob
        obtain ⟨C, dx, fs, h1, h2, h3, h4⟩ := hob
        obtain ⟨k1, k2, k3⟩ := T n j hj
        obtain ⟨p1, p2⟩ := setF_ok k2 k3 h3 h4 r hv
        refine ⟨.ref a, ea, a, C, dx, fs, rfl, h2, by rw [hK]; exact (k1 C h1).1, by rw [hK]; exact (k1 C h1).2, ?_, ?_⟩
        · have := congrArg List.length h3
          rw [List.length_map, List.length_take] at this
          have := hlen n
          omega
        · have rel : (mkr (.o n vs) = .own (.o n vs) ∧ mkr (.o n vs') = .own (.o n vs')) ∨ (mkr (.o n vs) = .brw (.o n vs) ∧ mkr (.o n vs') = .brw (.o n vs')) := by
            rcases hk with rfl | rfl
            · exact .inl ⟨rfl, rfl⟩
            · exact .inr ⟨rfl, rfl⟩
          exact post F1 _ σ (Same.refl _) (ok1.write q rel ea ⟨C, dx, _, h1, upd_same, p1, p2⟩)
      · exact post.elim
    · exact post.elim
  split at post
  · rename_i n vs q
    exact key R.own n vs (.inl rfl) q post
  · rename_i n vs q
    exact key R.brw n vs (.inr rfl) q post
  · exact post.elim
end
section
variable {M : Gm} {P : Program} {w : World} {mg : Str → Option Value} {base : Heap} {k : Nat} {f : Addr} {fm : Fm}
def fmDfl (fm : Fm) (dd : List D) : Fm := fun io ds => fm io (ds ++ dd)
theorem fnR_dfl {dd : List D} {dvs : List V} (hr : ∀ F, reps M F dd dvs) (F : FnR P w M.K mg base (L2.CX P w) k f (fun vs H Q E => spD M fm (vs ++ dvs) H Q E)) : FnR P w M.K mg base (L2.CX P w) k f (spD M (fmDfl fm dd)) :=
  F.imp fun vs H Q E h => by
    obtain ⟨F0, io, a, ws, ds, rfl, s, tb, rs, ia, h⟩ := h
    exact ⟨F0, io, a, ws ++ dvs, ds ++ dd, by rw [List.append_assoc], s, tb, reps_append rs (hr F0), ia, h⟩
theorem fnR_raw {fd : FuncData} {ps : List Str} (F : FnOk P w M.K mg base (L2.CX P w) k f fd ps (spD M fm)) (hb : Binds M.K fd ps []) : FnR P w M.K mg base (L2.CX P w) k f (spD M fm) :=
  (F.raw (dvs := []) hb .nil).imp fun vs H Q E h => by rw [List.append_nil]; exact h
def fmStar (np : Nat) (fm : Fm) : Fm := fun io ds => match io with
  | none => if decide (np ≤ ds.length ∧ ds.length ≤ 16777216) then fm none (ds.take np ++ [.tup (ds.drop np)]) else .bad
  | some _ => .bad
theorem star_imp {np : Nat} {vs : List V} {H : Hp} {Q : VK} {E : XK} (h : spD M (fmStar np fm) vs H Q E) : ∃ ws rest, vs = ws ++ rest ∧ ws.length = np ∧ rest.length ≤ sizeLine ∧ ∀ p, H p = Option.none → spD M fm (ws ++ [V.ref p]) (upd H p (.tup rest)) Q E := by
  obtain ⟨F, io, a, ws, ds, rfl, s, tb, rs, ia, h⟩ := h
  unfold fmStar at h
  cases io with
  | some o => exact h.elim
  | none =>
    by_cases hc : np ≤ ds.length ∧ ds.length ≤ 16777216
    · simp only [decide_eq_true hc, if_true] at h
      have hl := reps_length rs
      refine ⟨ws.take np, ws.drop np, by simp [ioV], by rw [List.length_take, hl]; omega, by rw [List.length_drop, hl, sizeLine_eq]; omega, fun p hp => ?_⟩
      have hF : F p = none := s.free hp
      have g : Same F (upd F p (.tup (ws.drop np))) := fun b o e => by rw [upd_ne (ne_of_none e hF)]; exact e
      have hs2 : Same (upd F p (.tup (ws.drop np))) (upd H p (.tup (ws.drop np))) := fun b o e => by
        by_cases q : b = p
        · subst q; rw [upd_same] at e ⊢; exact e
        · rw [upd_ne q] at e ⊢; exact s b o e
      refine ⟨upd F p (.tup (ws.drop np)), none, a, _, ds.take np ++ [.tup (ds.drop np)], rfl, hs2, (tb.alloc hp).frz upd_same rfl, reps_append (reps_mono g _ _ (reps_take np rs)) (reps_cons ?_ reps_nil), trivial, ?_⟩
      · unfold rep
        exact ⟨p, _, rfl, upd_same, reps_mono g _ _ (reps_drop np rs)⟩
      · have stp : ∀ {F' H' : Hp}, Stp M (upd F p (.tup (ws.drop np))) (upd H p (.tup (ws.drop np))) F' H' none → Stp M F H F' H' none := fun {F' H'} st => by
          refine ⟨g.trans st.grow, fun b o e1 n e2 => ?_, fun b o e1 n e2 => ?_, st.same, st.tb⟩
          · have q : b ≠ p := fun z => by rw [z, hp] at e1; cases e1
            exact st.nofz b o (by rw [upd_ne q]; exact e1) n (by rw [upd_ne q]; exact e2)
          · have q : b ≠ p := fun z => by rw [z, hp] at e1; cases e1
            exact st.kept b o (by rw [upd_ne q]; exact e1) n (fun z => by cases z)
        cases q : fm none (ds.take np ++ [.tup (ds.drop np)]) with
        | bad => rw [q] at h; exact h
        | exc x io' => rw [q] at h; exact fun cls d F' H' st xa ia => h cls d F' H' (stp st) xa ia
        | ok r io' =>
          rw [q] at h
          intro v F' H' st ra ia
          refine h v F' H' (stp st) ?_ ia
          cases r with
          | imm d => exact ra
          | brw o => exact ra
          | own o =>
            obtain ⟨b, rfl, k1, k2, k3⟩ := ra
            refine ⟨b, rfl, k1, fun u hu => ?_, k3⟩
            have z : b ≠ p := fun z => by rw [z, hp] at hu; cases hu
            exact k2 u (by rw [upd_ne z]; exact hu)
    · simp only [decide_eq_false hc] at h
      exact h.elim
theorem funD_star {x qual : Str} {params : Arguments} {body : List Stmt} {scope : Scope} {kws : List (Str × V)} {fd : FuncData} {N ps : List Str} {pv : Str} {g : FS} (F : FunD M.K x qual params body scope [] kws f fd) (S : FnScope N (ps ++ [pv]) scope) (hN : (ps ++ [pv]).length ≤ N.length)
    (hbi : ∀ (kV doc pm : Value) (an : Option Addr) (cdv ct : Value) (us rest : List Value), us.length = ps.length → bindArgs (PySem.W.fnOf x qual params body scope .none kV doc pm an cdv ct) ⟨us ++ rest, []⟩ = (newTuple rest >>= fun t => pure (ps.zip us ++ [(pv, t)])))
    (hb : ∀ (cdv : Value) (A : Around) (outer : List Env) (s : Shared) (H : Hp) (E : XK), Room k (A.deeper (PyProof.Rows.envOfC qual scope s.heap.objs.size f cdv)) →
      Takes (cxOf (L2.CX P w) P w M.K mg base N qual scope f cdv A outer s H E) (fun cls d _ H => E cls d H) →
      PassesOwn (model P w) (A.deeper (PyProof.Rows.envOfC qual scope s.heap.objs.size f cdv)) (PyProof.Rows.envOfC qual scope s.heap.objs.size f cdv) (cxOf (L2.CX P w) P w M.K mg base N qual scope f cdv A outer s H E).xe →
      DSs M (fun cls d _ H => E cls d H) (cxOf (L2.CX P w) P w M.K mg base N qual scope f cdv A outer s H E) body g) :
    FnR P w M.K mg base (L2.CX P w) (k + 1) f (spD M (fmStar ps.length (mir N.length (ps ++ [pv]).length g))) := by
  obtain ⟨oc, od, dV, kV, doc, pm, an, cdv, ct, osl, rfl, lk, hcd, hD, _⟩ := F.ex
  obtain rfl : dV = .none := by
    rcases hD with ⟨_, e⟩ | ⟨e, _⟩
    · exact e
    · exact absurd rfl e
  refine (FnR.star (sp := spD M (mir N.length (ps ++ [pv]).length g)) lk hcd S StX.cxUp (hbi kV doc pm an cdv ct) (fun A outer s H vs Q E hr h => ?_)).imp fun vs H Q E h => star_imp h
  obtain ⟨t, p, ht⟩ := hb cdv A outer s H E hr (takes_of rfl rfl rfl rfl) (passes_of rfl)
  exact ⟨t, p, body_ok hN h ht⟩
end
end
end TS

set_option maxRecDepth 100000
set_option maxHeartbeats 4000000
namespace TS
open PySem L2
noncomputable section
def FnK (P : Program) (w : World) (K : PySem.W.Frag) (mg : Str → Option Value) (base : Heap) (CX : CXT) (k : Nat) (f : Addr) (n : Nat) (ks : List Str) (sp : Sp) : Prop :=
  ∀ (A : Around) (outer : List Env) (s : Shared) (H : Hp) (us ws : List Value) (vs zs : List V) (Q : VK) (E : XK), Room k A → Env0 P w K mg base A outer s H → vs.length = n → zs.length = ks.length → Vals vs us → Vals zs ws → sp (vs ++ zs) H Q E →
    codeAny (model P w) A (.call (.ref f) ⟨us, ks.zip ws⟩) (CR CX outer P w H s Q E) s
section
variable {P : Program} {w : World} {K : PySem.W.Frag} {mg : Str → Option Value} {base : Heap} {CX : CXT} {j k n : Nat} {ks : List Str} {f : Addr} {sp sp' : Sp}
theorem FnK.mono (F : FnK P w K mg base CX j f n ks sp) (h : j ≤ k) : FnK P w K mg base CX k f n ks sp := fun A outer s H us ws vs zs Q E hr => F A outer s H us ws vs zs Q E (hr.mono h)
theorem FnOk.kw {fd : FuncData} {ps : List Str} {g : List Value → List Value → List Value} {gV : List V → List V → List V} (F : FnOk P w K mg base CX k f fd ps sp) (hb : KBn K fd ps n ks g gV)
    (hi : ∀ vs zs H Q E, vs.length = n → zs.length = ks.length → sp' (vs ++ zs) H Q E → sp (gV vs zs) H Q E) : FnK P w K mg base CX k f n ks sp' := by
  intro A outer s H us ws vs zs Q E hr e0 l1 l2 r rz h
  exact F.run A outer s H ⟨us, ks.zip ws⟩ (g us ws) (gV vs zs) Q E hr e0 (hb.to s us ws (e0.mod.kin.keeps fun b o e => (e0.bs b o e).1) (r.length.symm.trans l1) (rz.length.symm.trans l2)) (hb.rel r rz) (hi vs zs H Q E l1 l2 h)
end
section
variable {M : Gm} {P : Program} {w : World} {mg : Str → Option Value} {base : Heap} {k n : Nat} {ks : List Str} {f : Addr} {fm : Fm}
end
section
variable {X : Cx} {W : WX} {pins : List (Addr × Obj)} {σ : St} {H : Hp} {s : Shared}
theorem run_fnK {k n : Nat} {ks : List Str} {f : Addr} {sp : Sp} {Q : VK} {us ws : List Value} {vs zs : List V} (F : FnK X.prog X.w X.K X.mg X.base (CXX X) k f n ks sp) (hr : Room k X.A) (tk : Takes X W) (I : Inv X pins σ H s) (l1 : vs.length = n) (l2 : zs.length = ks.length) (r : Vals vs us) (rz : Vals zs ws) (h : sp (vs ++ zs) H Q (WE W σ)) :
    wpAny (model X.prog X.w) X.A (call (.ref f) us (ks.zip ws)) (EP X pins σ Q) X.xe s := by
  refine wpAny_call (codeAny_mono (F X.A X.stack s H us ws vs zs Q (WE W σ) hr I.env0 l1 l2 r rz h) fun r s' hq => ?_)
  cases r with
  | error e => exact passAt tk σ pins H s e s' I hq
  | ok fl =>
    cases fl with
    | ret u => exact I.after hq
    | next => exact False.elim hq
    | brk => exact False.elim hq
    | cont => exact False.elim hq
end
def tOwnK (W : WX) (n m : Nat) (sp : Sp) (t tk : TA) : TE := fun σ H Q => t σ H fun vs H1 => tk σ H1 fun zs H2 => vs.length = n ∧ zs.length = m ∧ sp (vs ++ zs) H2 Q (WE W σ)
section
variable {X : Cx} {W : WX} {k n : Nat} {ks : List Str} {kws : List Keyword} {f C : Addr} {sp : Sp} {x m : Str} {e o : Expr} {es : List Expr} {ta : TE} {t tkw : TA} {p pos apos : Pos}
theorem pe_ownK0 (F : FnK X.prog X.w X.K X.mg X.base (CXX X) k f 0 ks sp) (hr : Room k X.A) (tk : Takes X W) (hg : Gl X x) (hm : X.mg x = some (.ref f)) (hk : PySem.W.keepIn X.K (.ref f) = true) (hkw : PK X kws tkw)
    (hall : (backToKw pos (keywordEach kws X.env)).all (·.1.isSome) = true := by rfl) (hks : (backToKw pos (keywordEach kws X.env)).filterMap (·.1) = ks := by rfl)
    (hdb : (x == ("__debug__" : Str)) = false := by decide) (hpl : ((backTo pos (starEach [] X.env)).any (·.1) || (backToKw pos (keywordEach kws X.env)).any (·.1.isNone)) = false := by rfl) :
    PE X (.Call (.Name x p) [] kws pos) (tOwnK W 0 ks.length sp tNil tkw) := by
  refine ⟨fun pins s σ H Q I h => ?_⟩
  refine wpAny_Call_Name_kw (ld_glob I hg hm ?_ hdb)
  refine PySem.W.callWith_KW0 (h₀ := X.base) I.ok.mod.kin hk hall ?_ hpl
  refine thn (hkw.run pos pins s σ H _ I h) fun ws s2 ⟨zs, H2, I2, rz, l1, l2, q2⟩ => ⟨I2.kIn, ?_⟩
  rw [hks]
  exact run_fnK (us := []) (vs := []) F hr tk I2 l1 l2 .nil rz q2
end
def DKw (M : Gm) (W : WX) (X : Cx) (kws : List Keyword) (f : FA) : Prop := ∃ t, PK X kws t ∧ ∀ (c : Cn M) F H σ δ Q, Ok c F H σ δ → Post c W F σ (ρA c) (f δ) Q → t σ H Q
def fOwnK (f : Fm) (n m : Nat) (fa fk : FA) : FE := fun δ => (fa δ).bind fun ds δ1 => (fk δ1).bind fun es δ2 => if ds.length = n ∧ es.length = m then outE (f none (ds ++ es)) δ2 else .bad
section
variable {M : Gm} {c : Cn M} {W : WX} {X : Cx} {e : Expr} {es : List Expr} {kws : List Keyword} {fa fk : FA} {f : Fm} {n m : Nat}
theorem dk_nil : DKw M W X [] aNil := ⟨_, pk_nil, fun c F H σ δ Q ok post => post.ok ok reps_nil⟩
theorem dk_cons {fe : FD} {nm : Option Str} {kpos : Pos} (he : DI M W X e fe) (hr : DKw M W X kws fk) : DKw M W X (⟨nm, e, kpos⟩ :: kws) (aCons fe fk) := by
  obtain ⟨t, p, h⟩ := he
  obtain ⟨t', p', h'⟩ := hr
  refine ⟨_, pk_cons p p', fun c F H σ δ Q ok post => h c F H σ δ _ ok (Post.bind post fun d δ1 v F1 H1 _ s1 ok1 r post => h' c F1 H1 σ δ1 _ ok1 (Post.bind post fun ds δ2 vs F2 H2 _ s2 ok2 rs post => ?_))⟩
  exact post.ok ok2 (reps_cons (rep_mono s2 _ _ r) rs)
end
end
end TS

set_option maxRecDepth 100000
set_option maxHeartbeats 4000000
namespace TS
open PySem L2
noncomputable section
def gAdd : D → D → Option R := gOr (gI (fun _ _ => true) fun i j => i + j) (gOr gCat gCatS)
def gMul : D → D → Option R := gOr (gI CMulB fun i j => i * j) gRep
abbrev gSub : D → D → Option R := gI (fun _ _ => true) fun i j => i - j
def gFdiv : D → D → Option R := gOr (gI CDivB fun i j => i / j) (gI CDivNB fun i j => i.fdiv j)
abbrev gMod : D → D → Option R := gI CModB fun i j => i % j
abbrev gPow : D → D → Option R := gI CPowB fun i j => i ^ j.toNat
abbrev gLt : D → D → Option R := gB fun i j => decide (i < j)
abbrev gLe : D → D → Option R := gB fun i j => decide (i ≤ j)
abbrev gGt : D → D → Option R := gB fun i j => decide (j < i)
abbrev gGe : D → D → Option R := gB fun i j => decide (j ≤ i)
def rAddAll : R2 := fun x y H Q => rI0 (fun i j => .int (i + j)) x y H Q ∨ (rCat x y H Q ∨ (∃ i j, x = .str i ∧ y = .str j ∧ i.length + j.length ≤ sizeLine ∧ Q (.str (i ++ j)) H))
def rMulAll : R2 := fun x y H Q => rI CMulW (fun i j => .int (i * j)) x y H Q ∨ rRep x y H Q
section
variable {M : Gm} {c : Cn M} {W : WX} {X : Cx} {a b : Expr} {pos p : Pos} {fa fb : FD} {i : Nat}
theorem op_addAll : OpR X (binaryOp .Add) rAddAll := OpR.or op_add (OpR.or op_cat op_add_str)
theorem op_mulAll : OpR X (binaryOp .Mult) rMulAll := OpR.or op_mulW op_rep
theorem od_addAll : OpD M rAddAll gAdd := OpD.or od_I0 (OpD.or od_cat od_catS)
theorem od_mulAll : OpD M rMulAll gMul := OpD.or od_mul od_rep
theorem x_add (ha : DI M W X a fa) (hb : DP M W X b fb) : DE M W X (.BinOp a .Add b pos) (fBin gAdd fa fb) := d_op (fun h h' => pe_op op_addAll h h') od_addAll ha hb
theorem x_mul (ha : DI M W X a fa) (hb : DP M W X b fb) : DE M W X (.BinOp a .Mult b pos) (fBin gMul fa fb) := d_op (fun h h' => pe_op op_mulAll h h') od_mulAll ha hb
theorem x_sub (ha : DI M W X a fa) (hb : DP M W X b fb) : DE M W X (.BinOp a .Sub b pos) (fBin gSub fa fb) := d_op (fun h h' => pe_op op_sub h h') od_sub ha hb
theorem op_fdivNeg : OpR X (binaryOp .FloorDiv) (rI (fun _ j => j < 0 ∧ j.natAbs.log2 < 9000) fun i j => .int (i.fdiv j)) := opI fun i j _ _ _ _ _ hc q => PyProof.Rows.floordiv_int (by have := hc.1; omega) q (.inl (PyProof.noPylong_of_log2 hc.2))
theorem x_fdiv (ha : DI M W X a fa) (hb : DP M W X b fb) : DE M W X (.BinOp a .FloorDiv b pos) (fBin gFdiv fa fb) := d_op (fun h h' => pe_op (OpR.or op_fdivW op_fdivNeg) h h') (OpD.or od_fdiv od_fdivN) ha hb
theorem x_mod (ha : DI M W X a fa) (hb : DP M W X b fb) : DE M W X (.BinOp a .Mod b pos) (fBin gMod fa fb) := d_op (fun h h' => pe_op op_mod h h') od_mod ha hb
theorem x_pow (ha : DI M W X a fa) (hb : DP M W X b fb) : DE M W X (.BinOp a .Pow b pos) (fBin gPow fa fb) := d_op (fun h h' => pe_op op_pow h h') od_pow ha hb
theorem x_gt (ha : DI M W X a fa) (hb : DP M W X b fb) : DE M W X (.Compare a [.Gt] [b] pos) (fBin gGt fa fb) := d_op (fun h h' => pe_cmpR op_gt h h' (nomark _)) od_B ha hb
theorem t_lt (ha : DI M W X a fa) (hb : DP M W X b fb) : DT M W X (.Compare a [.Lt] [b] pos) (fTst (fBin gLt fa fb)) := dt_op (fun h h' => pt_cmpR op_lt h h' (nomark _)) od_B ha hb
theorem t_gt (ha : DI M W X a fa) (hb : DP M W X b fb) : DT M W X (.Compare a [.Gt] [b] pos) (fTst (fBin gGt fa fb)) := dt_op (fun h h' => pt_cmpR op_gt h h' (nomark _)) od_B ha hb
theorem t_notN (ha : DI M W X a fa) (hb : DP M W X b fb) : DT M W X (.Compare a [.IsNot] [b] pos) (fTst (fBin gNotN fa fb)) := dt_op (fun h h' => pt_cmpR op_notN h h' (nomark _)) od_notN ha hb
theorem op_eqM {k : Nat} (hK : X.K = M.K) (hr : Room k X.A) : OpR X (compareOp .Eq) (rEqD M.K) := by rw [← hK]; exact op_eqD hr.units
theorem op_neM {k : Nat} (hK : X.K = M.K) (hr : Room k X.A) : OpR X (compareOp .NotEq) (rNeD M.K) := by rw [← hK]; exact op_neD hr.units
theorem x_eq {k : Nat} (hr : Room k X.A) (ha : DI M W X a fa) (hb : DP M W X b fb) (hK : X.K = M.K := by rfl) : DE M W X (.Compare a [.Eq] [b] pos) (fBin gEq fa fb) := d_op (fun h h' => pe_cmpR (op_eqM hK hr) h h' (nomark _)) od_eq ha hb
theorem t_eq {k : Nat} (hr : Room k X.A) (ha : DI M W X a fa) (hb : DP M W X b fb) (hK : X.K = M.K := by rfl) : DT M W X (.Compare a [.Eq] [b] pos) (fTst (fBin gEq fa fb)) := dt_op (fun h h' => pt_cmpR (op_eqM hK hr) h h' (nomark _)) od_eq ha hb
theorem t_ne {k : Nat} (hr : Room k X.A) (ha : DI M W X a fa) (hb : DP M W X b fb) (hK : X.K = M.K := by rfl) : DT M W X (.Compare a [.NotEq] [b] pos) (fTst (fBin gNe fa fb)) := dt_op (fun h h' => pt_cmpR (op_neM hK hr) h h' (nomark _)) od_ne ha hb
theorem t_neV {k : Nat} (hr : Room k X.A) (ha : PE X a (tVar i)) (hb : DP M W X b fb) (hK : X.K = M.K := by rfl) : DT M W X (.Compare a [.NotEq] [b] pos) (fTst (fBinV gNe i fb)) := dt_opV (fun h h' => pt_cmpR (op_neM hK hr) h h' (nomark _)) od_ne ha hb
theorem t_in {k : Nat} (hr : Room k X.A) (ha : DI M W X a fa) (hb : DP M W X b fb) (hm : behindInMarks .In b = false := by rfl) (hK : X.K = M.K := by rfl) : DT M W X (.Compare a [.In] [b] pos) (fTst (fBin gIn fa fb)) := dt_op (fun h h' => pt_cmpR (op_inAll hK (hu_of hr)) h h' hm) (od_in false rfl) ha hb
theorem x_ix {k : Nat} (hr : Room k X.A) (ha : DI M W X a fa) (hb : DP M W X b fb) (hs : PlainIx b := by intro _ _; rfl) (hK : X.K = M.K := by rfl) : DE M W X (.Subscript a b pos) (fBin gIx fa fb) := d_op (fun h h' => pe_ix (ix_all hK (hu_of hr)) h h' hs) od_ix ha hb
theorem x_ixV {k : Nat} (hr : Room k X.A) (ha : PE X a (tVar i)) (hb : DP M W X b fb) (hs : PlainIx b := by intro _ _; rfl) (hK : X.K = M.K := by rfl) : DE M W X (.Subscript a b pos) (fBinV gIx i fb) := d_opV (fun h h' => pe_ix (ix_all hK (hu_of hr)) h h' hs) od_ix ha hb
end
section
variable {M : Gm} {c : Cn M} {W : WX} {X : Cx} {e a : Expr} {es : List Expr} {pos p : Pos} {fa : FA} {x : Str}
theorem e_b {id : String} {r : RC} {g : List D → Option R} (hc : CallR X (.builtin id) r) (hd : CallD M r g) (hv : bootBuiltins x = some (.builtin id)) (hg : Gl X x) (hm : X.mg x = none) (ha : DB M W X (e :: es) fa) (hn : x ≠ "__name__" := by decide) (hdb : (x == ("__debug__" : Str)) = false := by decide)
    (he : starEach (e :: es) X.env = (false, eval e X.env) :: starEach es X.env := by rfl) (hpl : (backTo pos (starEach es X.env)).any (·.1) = false := by rfl) : DE M W X (.Call (.Name x p) (e :: es) [] pos) (fCal g fa) := d_call (fun h => pe_callB hc hg hm hv h hn hdb he hpl) hd ha
theorem e_t {T : String} {r : RC} {g : List D → Option R} (hc : CallR X (.type T) r) (hd : CallD M r g) (hv : bootBuiltins x = some (.type T)) (hg : Gl X x) (hm : X.mg x = none) (ha : DB M W X (e :: es) fa) (hn : x ≠ "__name__" := by decide) (hdb : (x == ("__debug__" : Str)) = false := by decide)
    (he : starEach (e :: es) X.env = (false, eval e X.env) :: starEach es X.env := by rfl) (hpl : (backTo pos (starEach es X.env)).any (·.1) = false := by rfl) : DE M W X (.Call (.Name x p) (e :: es) [] pos) (fCal g fa) := d_call (fun h => pe_callTy hc hg hm hv h hn hdb he hpl) hd ha
theorem bt_len : bootBuiltins "len" = some (.builtin "len") := by decide +kernel
theorem bt_abs : bootBuiltins "abs" = some (.builtin "abs") := by decide +kernel
theorem bt_max : bootBuiltins "max" = some (.builtin "max") := by decide +kernel
theorem bt_min : bootBuiltins "min" = some (.builtin "min") := by decide +kernel
theorem bt_all : bootBuiltins "all" = some (.builtin "all") := by decide +kernel
theorem bt_divmod : bootBuiltins "divmod" = some (.builtin "divmod") := by decide +kernel
theorem bt_repr : bootBuiltins "repr" = some (.builtin "repr") := by decide +kernel
theorem bt_isinstance : bootBuiltins "isinstance" = some (.builtin "isinstance") := by decide +kernel
theorem bt_int : bootBuiltins "int" = some (.type "int") := by decide +kernel
theorem bt_list : bootBuiltins "list" = some (.type "list") := by decide +kernel
theorem bt_tuple : bootBuiltins "tuple" = some (.type "tuple") := by decide +kernel
theorem bt_bool : bootBuiltins "bool" = some (.type "bool") := by decide +kernel
variable (hg : Gl X x) (hm : X.mg x = none)
def gMax : List D → Option R := gcOr gMax2 gMaxL
def gMin : List D → Option R := gcOr gMin2 gMinL
theorem b_len (hg : Gl X "len") (hm : X.mg "len" = none) (ha : DB M W X [e] fa) (hK : X.K = M.K := by rfl) (he : starEach (e :: []) X.env = (false, eval e X.env) :: starEach [] X.env := by rfl) (hpl : (backTo pos (starEach [] X.env)).any (·.1) = false := by rfl) : DE M W X (.Call (.Name "len" p) [e] [] pos) (fCal gLen fa) := e_b (call_lenAll hK) cd_len bt_len hg hm ha (by decide) (by decide) he hpl
theorem b_abs (hg : Gl X "abs") (hm : X.mg "abs" = none) (ha : DB M W X [e] fa) (he : starEach (e :: []) X.env = (false, eval e X.env) :: starEach [] X.env := by rfl) (hpl : (backTo pos (starEach [] X.env)).any (·.1) = false := by rfl) : DE M W X (.Call (.Name "abs" p) [e] [] pos) (fCal gAbs fa) := e_b call_abs cd_abs bt_abs hg hm ha (by decide) (by decide) he hpl
theorem b_max (hc : X.calm = true) (hg : Gl X "max") (hm : X.mg "max" = none) (ha : DB M W X (e :: es) fa) (he : starEach (e :: es) X.env = (false, eval e X.env) :: starEach es X.env := by rfl) (hpl : (backTo pos (starEach es X.env)).any (·.1) = false := by rfl) : DE M W X (.Call (.Name "max" p) (e :: es) [] pos) (fCal gMax fa) := e_b (CallR.or (call_max2 hc) (cr_max hc)) (CallD.or cd_max2 cd_maxL) bt_max hg hm ha (by decide) (by decide) he hpl
theorem b_min (hc : X.calm = true) (hg : Gl X "min") (hm : X.mg "min" = none) (ha : DB M W X (e :: es) fa) (he : starEach (e :: es) X.env = (false, eval e X.env) :: starEach es X.env := by rfl) (hpl : (backTo pos (starEach es X.env)).any (·.1) = false := by rfl) : DE M W X (.Call (.Name "min" p) (e :: es) [] pos) (fCal gMin fa) := e_b (CallR.or (call_min2 hc) (cr_min hc)) (CallD.or cd_min2 cd_minL) bt_min hg hm ha (by decide) (by decide) he hpl
theorem b_all (hc : X.calm = true) (hg : Gl X "all") (hm : X.mg "all" = none) (ha : DB M W X [e] fa) (he : starEach (e :: []) X.env = (false, eval e X.env) :: starEach [] X.env := by rfl) (hpl : (backTo pos (starEach [] X.env)).any (·.1) = false := by rfl) : DE M W X (.Call (.Name "all" p) [e] [] pos) (fCal gAll fa) := e_b (cr_all hc) cd_all bt_all hg hm ha (by decide) (by decide) he hpl
theorem b_divmod (hg : Gl X "divmod") (hm : X.mg "divmod" = none) (ha : DB M W X (e :: es) fa) (he : starEach (e :: es) X.env = (false, eval e X.env) :: starEach es X.env := by rfl) (hpl : (backTo pos (starEach es X.env)).any (·.1) = false := by rfl) : DE M W X (.Call (.Name "divmod" p) (e :: es) [] pos) (fCal gDivmod fa) := e_b call_divmodP cd_divmod bt_divmod hg hm ha (by decide) (by decide) he hpl
theorem b_int (hg : Gl X "int") (hm : X.mg "int" = none) (ha : DB M W X [e] fa) (he : starEach (e :: []) X.env = (false, eval e X.env) :: starEach [] X.env := by rfl) (hpl : (backTo pos (starEach [] X.env)).any (·.1) = false := by rfl) : DE M W X (.Call (.Name "int" p) [e] [] pos) (fCal gInt fa) := e_t call_int1 cd_int bt_int hg hm ha (by decide) (by decide) he hpl
theorem b_list (hg : Gl X "list") (hm : X.mg "list" = none) (ha : DB M W X [e] fa) (hK : X.K = M.K := by rfl) (he : starEach (e :: []) X.env = (false, eval e X.env) :: starEach [] X.env := by rfl) (hpl : (backTo pos (starEach [] X.env)).any (·.1) = false := by rfl) : DE M W X (.Call (.Name "list" p) [e] [] pos) (fCal gList fa) := e_t call_list_of (cd_list hK) bt_list hg hm ha (by decide) (by decide) he hpl
theorem k_ty {T : String} (hv : bootBuiltins x = some (.type T)) (hg : Gl X x) (hm : X.mg x = none) (hn : x ≠ "__name__" := by decide) (hdb : (x == ("__debug__" : Str)) = false := by decide) : PE X (.Name x pos) (tC (.ty T)) :=
  ⟨fun pins s σ H Q I h => ld_blt I hg hm hv ⟨.ty T, H, I, rfl, h⟩ hn hdb⟩
theorem b_isi {fe : FD} {c1 : Expr} {v : V} {u : Value} {tab : Tg → Option Bool} (hg : Gl X "isinstance") (hm : X.mg "isinstance" = none) (ha : DP M W X a fe) (hc : PE X c1 (tC v)) (hv : ClsV v u) (T : IsT M [u] tab) (hK : X.K = M.K := by rfl)
    (hs : starEach [a, c1] X.env = (false, eval a X.env) :: starEach [c1] X.env := by rfl) (hs2 : starEach [c1] X.env = (false, eval c1 X.env) :: starEach [] X.env := by rfl) (hpl : (backTo pos (starEach [c1] X.env)).any (·.1) = false := by rfl) :
    DI M W X (.Call (.Name "isinstance" p) [a, c1] [] pos) (fIsi tab fe) := di_isi hg hm ha hc hv T hK hs hs2 (fun h => pe_callB call_isi hg hm bt_isinstance h (by decide) (by decide) hs hpl)
theorem b_isiT {fe : FD} {es : List Expr} {kt : Nat} {tp : Pos} {vs : List V} {us : List Value} {ct : TA} {tab : Tg → Option Bool} (hg : Gl X "isinstance") (hm : X.mg "isinstance" = none) (ha : DP M W X a fe) (hc : PA X es ct) (hct : ∀ σ H (Q : List V → Hp → Prop), Q vs H → ct σ H Q) (hv : Paired ClsV vs us) (hl : vs.length ≤ 100) (T : IsT M us tab) (hK : X.K = M.K := by rfl)
    (hs : starEach [a, .Tuple es kt tp] X.env = (false, eval a X.env) :: starEach [.Tuple es kt tp] X.env := by rfl) (hs2 : starEach [.Tuple es kt tp] X.env = (false, eval (.Tuple es kt tp) X.env) :: starEach [] X.env := by rfl) (hpl : (backTo pos (starEach [.Tuple es kt tp] X.env)).any (·.1) = false := by rfl) :
    DI M W X (.Call (.Name "isinstance" p) [a, .Tuple es kt tp] [] pos) (fIsi tab fe) := di_isiT ha hc hct hv hl T hK hs hs2 (fun h => pe_callB call_isiT hg hm bt_isinstance h (by decide) (by decide) hs hpl)
end
section
variable {M : Gm} {c : Cn M} {W : WX} {X : Cx} {o e : Expr} {es : List Expr} {apos cpos : Pos} {fa : FA} {i : Nat}
theorem m_append (ho : PE X o (tVar i)) (ha : DA M W X (e :: es) fa) (hb : attributeBase o "append" X.env (eval o X.env) = eval o X.env := by rfl) (hfew : ((backTo cpos (starEach (e :: es) X.env)).all (fun x => !x.1) && (backToKw cpos (keywordEach [] X.env)).all (fun x => x.1.isSome) && decide ((e :: es).length + ([] : List Keyword).length + (if ([] : List Keyword).isEmpty then 0 else 1) < 30)) = true := by rfl) (hl : (apos.endLine == cpos.line) = true := by rfl)
    (he : starEach (e :: es) X.env = (false, eval e X.env) :: starEach es X.env := by rfl) (hpl : (backTo cpos (starEach es X.env)).any (·.1) = false := by rfl) : DI M W X (.Call (.Attribute o "append" apos) (e :: es) [] cpos) (fMut i mAppend fa) :=
  d_mut (o := o) (fun h => pe_bm PySem.F.plainAttrs_list PySem.F.slot_list_append PySem.F.type_list_append mt_append ho h hb hfew hl he hpl) md_append ha
theorem m_pop (ho : PE X o (tVar i)) (ha : DA M W X (e :: es) fa) (hb : attributeBase o "pop" X.env (eval o X.env) = eval o X.env := by rfl) (hfew : ((backTo cpos (starEach (e :: es) X.env)).all (fun x => !x.1) && (backToKw cpos (keywordEach [] X.env)).all (fun x => x.1.isSome) && decide ((e :: es).length + ([] : List Keyword).length + (if ([] : List Keyword).isEmpty then 0 else 1) < 30)) = true := by rfl) (hl : (apos.endLine == cpos.line) = true := by rfl)
    (he : starEach (e :: es) X.env = (false, eval e X.env) :: starEach es X.env := by rfl) (hpl : (backTo cpos (starEach es X.env)).any (·.1) = false := by rfl) : DI M W X (.Call (.Attribute o "pop" apos) (e :: es) [] cpos) (fMut i mPop fa) :=
  d_mut (o := o) (fun h => pe_bm PySem.F.plainAttrs_list PySem.F.slot_list_pop PySem.F.type_list_pop mt_popAll ho h hb hfew hl he hpl) md_pop ha
end
section
variable {M : Gm} {c : Cn M} {W : WX} {X : Cx} {e o : Expr} {f : Fm}
def fOwnK0 (f : Fm) (m : Nat) (fk : FA) : FE := fun δ => (fk δ).bind fun es δ2 => if es.length = m then outE (f none es) δ2 else .bad
theorem d_ownK0 {kws : List Keyword} {fk : FA} {m : Nat} (mk : ∀ {tk : TA}, PK X kws tk → PE X e (tOwnK W 0 m (spD M f) tNil tk)) (hk : DKw M W X kws fk) : DE M W X e (fOwnK0 f m fk) := by
  obtain ⟨t', p', h'⟩ := hk
  refine ⟨_, mk p', fun c F H σ δ Q ok post => h' c F H σ δ _ ok (Post.bind post fun es δ2 zs F2 H2 _ s2 ok2 rz post => ?_)⟩
  split at post
  · rename_i hl
    exact ⟨rfl, by rw [reps_length rz]; exact hl, own_of ok2 rz post⟩
  · exact post.elim
theorem reps_ints {M : Gm} {F : Hp} : ∀ (ns : List Int), reps M F (ns.map D.int) (ns.map V.int)
  | [] => reps_nil
  | n :: ns => reps_cons (rep_int' _) (reps_ints ns)
end
def kitAnyB (t : String) : List String → Option Bool
  | [] => some false
  | u :: us => match kitB t u with
    | some true => some true
    | some false => kitAnyB t us
    | none => none
def tabTy (us : List String) (own : Nat → Option Bool) : Tg → Option Bool
  | .inl t => kitAnyB t us
  | .inr n => own n
theorem kitAnyB_ok {K : PySem.W.Frag} {t : String} : ∀ {us : List String} {b : Bool}, kitAnyB t us = some b → PySem.W.kitAny K (.type t) (us.map Value.type) = some b
  | [], b, h => h
  | u :: us, b, h => by
    unfold kitAnyB at h
    split at h
    · rename_i e
      cases h
      exact kitAny_cons (kit_ty e) (fun z => by cases z) (fun _ => rfl)
    · rename_i e
      exact kitAny_cons (kit_ty e) (fun _ => kitAnyB_ok h) (fun z => by cases z)
    · cases h
theorem isT_ty {M : Gm} {us : List String} {own : Nat → Option Bool} (h : ∀ n b C, own n = some b → M.G n = some C → PySem.W.kitAny M.K (.ref C) (us.map Value.type) = some b ∧ InsTy M.K C) : IsT M (us.map Value.type) (tabTy us own) := by
  intro t b tv h1 h2
  cases t with
  | inl t =>
    obtain rfl : tv = .type t := h2
    exact ⟨kitAnyB_ok h1, fun n C z => by cases z⟩
  | inr n =>
    obtain ⟨C, e1, rfl⟩ := h2
    refine ⟨(h n b C h1 e1).1, fun n' C' z e2 => ?_⟩
    cases z
    rw [e1] at e2; cases e2
    exact (h n b C h1 e1).2
theorem isT_own0 {M : Gm} {us : List String} : IsT M (us.map Value.type) (tabTy us fun _ => none) := isT_ty fun n b C z => by cases z
def muI (i : Nat) : Sl → Nat := fun δ => match δ[i]? with
  | some (some (.imm (.int n))) => n.natAbs + 2
  | _ => 0
def muL (i : Nat) : Sl → Nat := fun δ => match δ[i]? with
  | some (some (.own (.l ds))) => ds.length + 2
  | _ => 0
end
end TS

set_option maxRecDepth 100000
set_option maxHeartbeats 4000000
namespace TS
open PySem L2
noncomputable section
def shOk (p : PyData) : Bool := gd (p.showable = true ∧ p.hasDict = false ∧ p.depth ≤ 32 ∧ p.shown.length ≤ sizeLine)
def gRepr : List D → Option R
  | [d] => (match toP d with
    | some p => if shOk p then some (.imm (.str p.shown)) else none
    | none => none)
  | _ => none
def rRepr (K : PySem.W.Frag) : RC := fun xs H Q => ∃ x p, xs = [x] ∧ Dp K H x p ∧ shOk p = true ∧ Q (.str p.shown) H
section
variable {X : Cx} {M : Gm} {W : WX} {e : Expr} {es : List Expr} {fa : FA} {p pos : Pos}
theorem call_reprD {k : Nat} (hr : Room k X.A) : CallR X (.builtin "repr") (rRepr X.K) := by
  rintro pins s σ H xs us Q I r ⟨x, p, rfl, hd, hs, q⟩
  obtain ⟨u, rfl, ru⟩ := vals1 r
  obtain ⟨h1, h2, h3, h4⟩ := of_gd hs
  obtain ⟨as, rd⟩ := Dp.reads I p x u hd ru
  have hu := hr.units
  cases hd with
  | non => cases ru; exact PySem.P.repr_of_none ⟨.str _, H, I.tok _, ⟨_, rfl⟩, q⟩
  | bl b => cases ru; exact PySem.P.repr_of_bool ⟨.str _, H, I.tok _, ⟨_, rfl⟩, q⟩
  | int i => obtain ⟨t, rfl⟩ := ru; exact PySem.P.repr_of_int (of_decide_eq_true h1) ⟨.str _, H, I.tok _, ⟨_, rfl⟩, q⟩
  | str y => obtain ⟨t, rfl⟩ := ru; exact PySem.P.repr_of_str ⟨.str _, H, I.tok _, ⟨_, rfl⟩, q⟩ h4
  | lst h h' =>
    cases ru
    exact repr_of_reads' rd h1 (PyData.noDict_hsm h2) hr.gu (by omega) (fun _ _ e => e) (fun h' u tk kp => ⟨.str _, H, I.kept kp, ⟨_, rfl⟩, q⟩) h4
  | tup h h' =>
    cases ru
    exact repr_of_reads' rd h1 (PyData.noDict_hsm h2) hr.gu (by omega) (fun _ _ e => e) (fun h' u tk kp => ⟨.str _, H, I.kept kp, ⟨_, rfl⟩, q⟩) h4
theorem cd_repr : CallD M (rRepr M.K) gRepr := by
  intro c F H σ δ xs ds z Q ok pxs e q
  unfold gRepr at e
  split at e
  · split at e
    · rename_i d p hp
      split at e
      · rename_i hs
        cases e
        obtain ⟨x, rfl, px⟩ := p1 pxs
        exact ⟨x, p, rfl, prep_dp ok.same px hp, hs, q _ F H (Same.refl _) ok rr_str⟩
      · cases e
    · cases e
  · cases e
theorem b_reprD {k : Nat} (hr : Room k X.A) (hg : Gl X "repr") (hm : X.mg "repr" = none) (ha : DB M W X [e] fa) (hK : X.K = M.K := by rfl) (he : starEach (e :: []) X.env = (false, eval e X.env) :: starEach [] X.env := by rfl) (hpl : (backTo pos (starEach [] X.env)).any (·.1) = false := by rfl) : DE M W X (.Call (.Name "repr" p) [e] [] pos) (fCal gRepr fa) := e_b (hK ▸ call_reprD hr) cd_repr bt_repr hg hm ha (by decide) (by decide) he hpl
end
end
end TS

set_option maxRecDepth 100000
set_option maxHeartbeats 4000000
namespace TS
open PySem L2
noncomputable section
def tLst (n : Nat) (hs : List D → Sl → SR) : R → Sl → SR := fun r δ => match r with
  | .imm (.lst ds) => if ds.length = n then hs ds δ else .bad
  | .own (.l ds) => if ds.length = n then hs ds δ else .bad
  | _ => .bad
section
variable {M : Gm} {W : WX} {X : Cx}
end
section
variable {X : Cx} {W : WX} {k n : Nat} {ks : List Str} {m : Str} {o e : Expr} {es : List Expr} {kws : List Keyword} {ta : TE} {t tkw : TA} {pos apos : Pos}
end
section
variable {M : Gm} {W : WX} {X : Cx} {e o : Expr} {es : List Expr} {kws : List Keyword} {fa fk : FA} {n l : Nat}
def fMethK (tab : Nat → Option Fm) (n l : Nat) (fo : FD) (fa fk : FA) : FE := fun δ => (fo δ).bind fun d δ1 => match d with
  | .obj c vs => (match tab c with
    | some f => (fa δ1).bind fun ds δ2 => (fk δ2).bind fun es δ3 => if ds.length = n ∧ es.length = l then outE (f none (.obj c vs :: (ds ++ es))) δ3 else .bad
    | none => .bad)
  | _ => .bad
end
end
end TS

set_option maxRecDepth 100000
set_option maxHeartbeats 4000000
namespace TS
open PySem L2
noncomputable section
section
variable {X : Cx} {W : WX} {k : Nat} {a b : Expr} {ta tb : TE} {pos : Pos}
end
def outO (r : FR) (δ : Sl) : Res R := match r with
  | .ok (.own o) _ => .ok (.own o) δ
  | .exc x _ => .exc x δ
  | _ => .bad
def fBinO (tab : Nat → Option Fm) (fa fb : FD) : FE := fun δ => (fa δ).bind fun x δ1 => (fb δ1).bind fun y δ2 => match x, y with
  | .obj n vs, .obj m ws => if n = m then (match tab n with
    | some f => outO (f none [.obj n vs, .obj m ws]) δ2
    | none => .bad) else .bad
  | _, _ => .bad
section
variable {M : Gm} {W : WX} {X : Cx} {a b e : Expr} {fa fb : FD}
end
def sPar3 (i j l : Nat) (fa : FA) : FS := fun δ => (fa δ).bindS fun ds δ1 => match ds with
  | [a, b, c] => .nx (((δ1.set i (some (.imm a))).set j (some (.imm b))).set l (some (.imm c)))
  | _ => .bad
section
variable {M : Gm} {W : WX} {X : Cx} {fa : FA}
end
end
end TS

set_option maxRecDepth 100000
set_option maxHeartbeats 4000000
namespace TS
open PySem L2
noncomputable section
def flatR : R → Bool
  | .imm .non => true
  | .imm (.bl _) => true
  | .imm (.int _) => true
  | .imm (.str _) => true
  | _ => false
def outP (r : FR) (δ : Sl) : Res R := match r with
  | .ok r _ => if flatR r then .ok r δ else .bad
  | _ => .bad
def fOwnP (f : Fm) (fa : FA) : FE := fun δ => (fa δ).bind fun ds δ1 => if ds.any D.dic then .bad else outP (f none ds) δ1
section
variable {M : Gm} {c : Cn M} {F H : Hp} {σ : St} {δ : Sl}
end
section
variable {M : Gm} {W : WX} {X : Cx} {e : Expr} {es : List Expr} {fa : FA} {f : Fm}
end
end
end TS

set_option maxRecDepth 100000
set_option maxHeartbeats 4000000
namespace TS
open PySem L2
noncomputable section
section
variable {M : Gm} {W : WX} {X : Cx} {e : Expr} {es : List Expr} {fa : FA} {p pos : Pos}
end
def pick {α : Type} (n : Nat) (ix : List Nat) (d : α) (us ws : List α) : List α := us ++ ix.map fun j => ws.getD j d
def fmIx (n : Nat) (ix : List Nat) (fm : Fm) : Fm := fun io ds => match io with
  | none => fm none (ds.take n ++ ix.map fun j => (ds.drop n).getD j .non)
  | some _ => .bad
section
variable {M : Gm} {F H : Hp}
theorem vals_getD {zs : List V} {ws : List Value} (h : Vals zs ws) (j : Nat) : RelV (zs.getD j .non) (ws.getD j .none) := by
  induction h generalizing j with
  | nil => exact rfl
  | cons h1 h2 ih =>
    cases j with
    | zero => exact h1
    | succ j => exact ih j
theorem vals_ix {zs : List V} {ws : List Value} (h : Vals zs ws) : ∀ ix : List Nat, Vals (ix.map fun j => zs.getD j .non) (ix.map fun j => ws.getD j .none)
  | [] => .nil
  | j :: ix => .cons (vals_getD h j) (vals_ix h ix)
theorem reps_getD : ∀ {ds : List D} {vs : List V}, reps M F ds vs → ∀ j : Nat, rep M F (ds.getD j .non) (vs.getD j .non)
  | [], vs, h, j => by unfold reps at h; subst h; simp [rep]
  | d :: ds, vs, h, j => by
    unfold reps at h
    obtain ⟨v, r, rfl, h1, h2⟩ := h
    cases j with
    | zero => exact h1
    | succ j => exact reps_getD h2 j
theorem reps_ix {ds : List D} {vs : List V} (h : reps M F ds vs) : ∀ ix : List Nat, reps M F (ix.map fun j => ds.getD j .non) (ix.map fun j => vs.getD j .non)
  | [] => reps_nil
  | j :: ix => reps_cons (reps_getD h j) (reps_ix h ix)
end
section
variable {M : Gm} {P : Program} {w : World} {mg : Str → Option Value} {base : Heap} {k n : Nat} {ks ps : List Str} {f : Addr} {fm : Fm} {fd : FuncData} {ix : List Nat}
theorem fnK_ix (F : FnOk P w M.K mg base (L2.CX P w) k f fd ps (spD M fm)) (hb : KBn M.K fd ps n ks (pick n ix .none) (pick n ix .non)) : FnK P w M.K mg base (L2.CX P w) k f n ks (spD M (fmIx n ix fm)) :=
  FnOk.kw F hb fun vs zs H Q E l1 l2 h => by
    obtain ⟨F0, io, a, ws, ds, e, s, tb, rs, ia, h⟩ := h
    cases io with
    | none =>
      have e : vs ++ zs = ws := e
      subst e
      have hl := reps_length rs
      have r1 : reps M F0 (ds.take n) vs := by
        have := reps_take n rs
        rw [List.take_left' l1] at this
        exact this
      have r2 : reps M F0 (ds.drop n) zs := by
        have := reps_drop n rs
        rw [List.drop_left' l1] at this
        exact this
      exact ⟨F0, none, a, _, _, rfl, s, tb, reps_append r1 (reps_ix r2 ix), ia, h⟩
    | some o => exact h.elim
end
end
end TS

set_option maxRecDepth 100000
set_option maxHeartbeats 4000000
namespace TS
open PySem PySem.Spec L2
noncomputable section
section
variable {X : Cx} {tg : Expr}
end
section
variable {M : Gm} {W : WX} {X : Cx} {tg e : Expr}
end
end
end TS

set_option maxRecDepth 100000
set_option maxHeartbeats 4000000
namespace TS
open PySem L2 PyProof.Rows
open AutoSeq1 (wpAny_loadPart')
noncomputable section
theorem enumT_new (tu : Addr) (its : Array Value) (cn : Nat) (dd : Option Addr) (ss : Array (Option Value)) :
    Meets (Builtin.«enumerate.__new__» ⟨[.type "enumerate", .ref tu], []⟩) (fun _ Rr sh => sh.heap.get? tu = some { cls := .type "tuple", dict := dd, data := .seq its cn, slots := ss } ∧
      Rr (.ok (.ret (.ref (sh.heap.push { cls := .type "tuple_iterator", data := .fields #[.ref tu, .int 0 0] }).objs.size)))
        { sh with heap := (sh.heap.push { cls := .type "tuple_iterator", data := .fields #[.ref tu, .int 0 0] }).push { cls := .type "enumerate", data := .fields #[.none, .bool false, .ref sh.heap.objs.size, rawInt 0, .none, .none] } }) :=
  .of_wp fun prog w A Rr sh z => by
    obtain ⟨hp, g, d, tk, os⟩ := sh
    obtain ⟨hl, z⟩ := z
    have sub := sub_enumerate
    have hL : Heap.IsTuple (Shared.heap ⟨hp, g, d, tk, os⟩) tu its := ⟨_, hl, rfl, _, rfl⟩
    wp_walk using wpAny_loadPart' hl
    refine wpAny_stack_any fun st => wpAny_pure ?_
    split
    · rename_i c _ _ _ _ _
      cases (c == Value.type "enumerate") <;> (wp_walk using wpAny_loadPart' hl, wpAny_pyIter_tuple hL; exact ⟨_, rfl, z⟩)
    · wp_walk using wpAny_loadPart' hl, wpAny_pyIter_tuple hL
      exact ⟨_, rfl, z⟩
theorem call_enumT {P : Program} {w : World} {A : Around} {Ex : Value → Shared → Prop} {sh : Shared} {tu : Addr} {its : Array Value} {Q : Value → Shared → Prop} (hL : sh.heap.IsTuple tu its)
    (z : ∀ h2, IsEnum h2 (sh.heap.objs.size + 1) sh.heap.objs.size 0 .none → h2.IsTupleIter sh.heap.objs.size tu 0 → h2.objs.size = sh.heap.objs.size + 2 →
      (∀ b o, sh.heap.get? b = some o → h2.get? b = some o) → Q (.ref (sh.heap.objs.size + 1)) { sh with heap := h2 }) :
    wpAny (model P w) A (call (.type "enumerate") [.ref tu]) Q Ex sh := by
  obtain ⟨⟨cc, dd, dt, ss⟩, hl, hc, n, hd⟩ := hL
  replace hc : cc = .type "tuple" := hc
  replace hd : dt = .seq its n := hd
  subst hc hd
  refine callType_new F.called_enumerate (by decide) (F.typeCall_enumerate_1 _) (F.newCall_enumerate_1 _) (fun ob => F.args_object_init_2 ob _) F.entry_enumerate_new (enumT_new tu its n dd ss) ⟨hl, ?_⟩
  have hz : (sh.heap.push { cls := .type "tuple_iterator", data := .fields #[.ref tu, .int 0 0] }).objs.size = sh.heap.objs.size + 1 := Heap.size_push ..
  show _ ∧ _
  rw [hz]
  have he : IsEnum ((sh.heap.push { cls := .type "tuple_iterator", data := .fields #[.ref tu, .int 0 0] }).push
      { cls := .type "enumerate", data := .fields #[.none, .bool false, .ref sh.heap.objs.size, rawInt 0, .none, .none] }) (sh.heap.objs.size + 1) sh.heap.objs.size 0 .none := by
    have q := Heap.get?_push_size (sh.heap.push { cls := .type "tuple_iterator", data := .fields #[.ref tu, .int 0 0] })
      (o := { cls := .type "enumerate", data := .fields #[.none, .bool false, .ref sh.heap.objs.size, rawInt 0, .none, .none] }) rfl
    rw [hz] at q
    exact q
  exact ⟨⟨_, he, rfl⟩, z _ he ⟨_, Heap.get?_push_of_some _ (Heap.get?_push_size _ rfl), rfl, rfl⟩ (by rw [Heap.size_push, hz]) fun b o q => Heap.get?_push_of_some _ (Heap.get?_push_of_some _ q)⟩
def IteT (K : PySem.W.Frag) (a : Addr) : It :=
  ⟨fun i H => ∃ (xs : List V) (x : V), SqT K H a xs ∧ xs[i]? = some x, fun i H v H' => ∃ T x, v = .ref T ∧ H T = none ∧ H' = upd H T (.tup [.int (i : Nat), x]) ∧ ∀ xs, SqT K H a xs → xs[i]? = some x, fun i H => ∃ xs : List V, SqT K H a xs ∧ xs.length ≤ i⟩
theorem turn_enumT {P : Program} {w : World} {K : PySem.W.Frag} {elts : List Expr} {kk : Nat} {tpos : Pos} (a e it : Addr) :
    Turn P w K (.Tuple elts kk tpos) (IteT K a) [e, it] e (fun i h => (∃ old, IsEnum h e it ((i : Nat) : Int) old) ∧ h.IsTupleIter it a i ∧ e ≠ it) where
  mem := by simp
  obj := fun i h st b hb => by
    obtain ⟨⟨old, he⟩, ⟨o, ho, hc, hd⟩, _⟩ := st
    rcases (show b = e ∨ b = it by simpa using hb) with z | z
    · subst z; exact ⟨_, he, fun v q => nomatch q⟩
    · subst z; exact ⟨o, ho, fun v q => by rw [hd] at q; cases q⟩
  keep := fun i h h' st k => let ⟨⟨old, he⟩, hi, hn⟩ := st; ⟨⟨old, k e (by simp) _ he⟩, hi.at (fun o q => k it (by simp) o q), hn⟩
  item := by
    intro X hP hw hK hc i pins s σ H E I hf st hg
    subst hP hw hK
    obtain ⟨⟨old, he⟩, hit, hn⟩ := st
    obtain ⟨xs, x, hq, hx⟩ := hg
    obtain ⟨its, rv, p, hz⟩ := I.tuple hq
    have p' : s.heap.IsTuple a its.toArray := p
    have ae : a ≠ e := fun z => by
      obtain ⟨o, ho, hcl, _⟩ := p'
      rw [z] at ho
      have he' := Option.some.inj (he.symm.trans ho)
      rw [← he'] at hcl
      exact (show ¬ (Value.type "enumerate" = Value.type "tuple") by decide) hcl
    have ai : a ≠ it := fun z => by
      obtain ⟨o, ho, hcl, _⟩ := p'
      obtain ⟨o2, ho2, hcl2, _⟩ := hit
      rw [z, ho2] at ho
      cases ho
      rw [hcl2] at hcl
      exact absurd hcl (by decide)
    have hil : i < its.toArray.size := by
      have := rv.length
      have := (List.getElem?_eq_some_iff.mp hx).1
      simp; omega
    have hel : e < s.heap.objs.size := Heap.lt_size he
    have hitl : it < s.heap.objs.size := by obtain ⟨_, q, _⟩ := hit; exact Heap.lt_size q
    refine wpAny_pyNext_enum_itemD (Draws.tuple (show X.A.in1.handled = none from I.ok.hd hc) it a ai its.toArray) he ⟨hit, p'⟩ hil hn (by simp [hn, Ne.symm ae]) fun u h2 tk hu ho st2 hT hsz hk => ?_
    obtain ⟨hit2, hp2⟩ := st2
    obtain ⟨u', hu', ru⟩ := rv.get hx
    have eu : u' = u := by
      have : its.toArray[i]? = some u' := by simpa using hu'
      rw [this] at hu
      exact Option.some.inj hu
    subst eu
    refine ⟨_, rfl, wpAny_letOwnedTupleGo_enum (s := { s with heap := h2, toks := tk + 1 }) ho fun h3 he3 sb => ?_⟩
    have hT3 : h3.get? s.heap.objs.size = some { cls := .type "tuple", data := .seq #[.int i tk, u'] } := (sb.2 _ (Nat.ne_of_gt hel)).trans hT
    have nw : ObjOk X.prog X.w (upd H s.heap.objs.size (.tup [.int (i : Nat), x])) h3 s.heap.objs.size (.tup [.int (i : Nat), x]) :=
      ⟨by show 2 ≤ sizeLine; decide, [.int i tk, u'], .cons ⟨_, rfl⟩ (.cons ru .nil), ⟨_, hT3, rfl, _, rfl⟩⟩
    have I2 : Inv X pins σ (upd H s.heap.objs.size (.tup [.int (i : Nat), x])) { s with heap := h3, toks := tk + 1 } :=
      I.turnedNew (ch := [e, it]) (fun b ob hb q => (sb.2 b (fun z => hb (by simp [z]))).trans (hk b ob (fun z => hb (by simp [z])) (fun z => hb (by simp [z])) q)) hf (Nat.le_refl _) nw
    refine ⟨.ref s.heap.objs.size, _, I2, rfl, ⟨_, x, rfl, I.hok.fresh (Nat.le_refl _), rfl, fun ys hy => by rw [I.tuple_inj hy hq]; exact hx⟩, ⟨⟨u', ?_⟩, hit2.at fun o q => (sb.2 it (Ne.symm hn)).trans q, hn⟩, fun b hb => ?_⟩
    · rw [show ((i + 1 : Nat) : Int) = (i : Int) + 1 by omega]; exact he3
    · have hb' : b < s.heap.objs.size := by
        rcases (show b = e ∨ b = it by simpa using hb) with z | z
        · rw [z]; exact hel
        · rw [z]; exact hitl
      rw [upd_ne (Nat.ne_of_lt hb')]
      exact (hf b hb).1
  done := by
    intro X hP hw hK hc i pins s σ H E I hf st hg
    subst hP hw hK
    obtain ⟨⟨old, he⟩, hit, hn⟩ := st
    obtain ⟨xs, hq, hx⟩ := hg
    obtain ⟨its, rv, p, hz⟩ := I.tuple hq
    have p' : s.heap.IsTuple a its.toArray := p
    obtain ⟨f0, f1, f2, f3, f4, f5⟩ := hf it (by simp)
    have hl := rv.length
    have hne : its.toArray[i]? = none := by simp; omega
    have D : Draws X.prog X.w X.A.in1 it [it, a] i (fun _ _ => True) (fun j h => j = i ∧ h.IsTupleIter it a i ∧ h.IsTuple a its.toArray) :=
      ⟨fun _ _ st => let ⟨_, ⟨o, ho, _⟩, _⟩ := st; ⟨o, ho⟩, fun _ _ _ st hk => ⟨st.1, st.2.1.at fun o q => hk it (by simp) o q, st.2.2.at fun o q => hk a (by simp) o q⟩, fun j _ _ _ hj st _ => absurd st.1 (Nat.ne_of_lt hj),
        fun _ _ _ st hE => wpAny_nextOf_tuple_end (show X.A.in1.handled = none from I.ok.hd hc) st.2.1 st.2.2 hne hE⟩
    exact wpAny_pyNext_enum_endD D he ⟨rfl, hit, p'⟩ fun h2 eb => ⟨rfl, I.turned (t' := s.toks) (fun b o hb q => eb b o hb q) f0 f1 f3 f4 f5⟩
  self := fun A i s Q E st h => let ⟨⟨_, he⟩, _⟩ := st; wpAny_pyIter_enum he h
def iEnumLT (K : PySem.W.Frag) (ta : TA) : TI := fun σ H Rr => ta σ H fun vs H1 => (∃ a xs, vs = [.ref a] ∧ SqL K H1 a xs ∧ Rr (Ite K a) H1) ∨ (∃ a xs, vs = [.ref a] ∧ SqT K H1 a xs ∧ Rr (IteT K a) H1)
theorem pi_enumLT {X : Cx} {e : Expr} {ta : TA} {p pos tpos : Pos} {elts : List Expr} {kk : Nat} (hg : Gl X "enumerate") (hm : X.mg "enumerate" = none) (ha : PA X [e] ta) (hs : starEach [e] X.env = [(false, eval e X.env)] := by rfl) :
    PI X (.Tuple elts kk tpos) (.Call (.Name "enumerate" p) [e] [] pos) (iEnumLT X.K ta) := by
  refine ⟨fun pins s σ H Rr I h => ?_⟩
  refine Call_ (ld_blt I hg hm boot_enumerate (PyProof.Rows.callWith_type1 (thn (ha.run pos pins s σ H _ I h) fun us s1 ⟨vs, H1, I1, r1, q1⟩ => ?_) hs rfl))
  rcases q1 with ⟨a, xs, ex, hq, q⟩ | ⟨a, xs, ex, hq, q⟩ <;> subst ex <;> obtain _ | ⟨r, rr⟩ := r1 <;> cases rr <;> cases r
  · obtain ⟨its, rv, p', hz⟩ := I1.list hq
    refine call_enumerate_list p'.isList fun h' he hit hsz hk => wpAny_pyIter_enum he ?_
    have I2 : Inv X pins σ H1 { s1 with heap := h' } := I1.kept (t' := s1.toks) hk
    refine ⟨s1.heap.objs.size + 1, [s1.heap.objs.size + 1, s1.heap.objs.size], _, _, H1, rfl, I2, turn_enum a (s1.heap.objs.size + 1) s1.heap.objs.size, ⟨⟨.none, he⟩, hit, Nat.succ_ne_self _⟩, fun b hb => ?_, q⟩
    have hle : s1.heap.objs.size ≤ b := by
      rcases (show b = s1.heap.objs.size + 1 ∨ b = s1.heap.objs.size by simpa using hb) with z | z
      · rw [z]; exact Nat.le_add_right _ _
      · rw [z]; exact Nat.le_refl _
    exact I1.fpOk hle (I1.hok.fresh hle)
  · obtain ⟨its, rv, p', hz⟩ := I1.tuple hq
    refine call_enumT (show s1.heap.IsTuple a its.toArray from p') fun h' he hit hsz hk => wpAny_pyIter_enum he ?_
    have I2 : Inv X pins σ H1 { s1 with heap := h' } := I1.kept (t' := s1.toks) hk
    refine ⟨s1.heap.objs.size + 1, [s1.heap.objs.size + 1, s1.heap.objs.size], _, _, H1, rfl, I2, turn_enumT a (s1.heap.objs.size + 1) s1.heap.objs.size, ⟨⟨.none, he⟩, hit, Nat.succ_ne_self _⟩, fun b hb => ?_, q⟩
    have hle : s1.heap.objs.size ≤ b := by
      rcases (show b = s1.heap.objs.size + 1 ∨ b = s1.heap.objs.size by simpa using hb) with z | z
      · rw [z]; exact Nat.le_add_right _ _
      · rw [z]; exact Nat.le_refl _
    exact I1.fpOk hle (I1.hok.fresh hle)
section
variable {M : Gm} {c : Cn M} {W : WX} {X : Cx} {tg e : Expr} {F F1 H H1 : Hp} {σ : L2.St} {δ : Sl}
theorem walks_enumT {a : Addr} {vs : List V} {ds : List D} (hK : X.K = M.K) (hF : SqT M.K F a vs) (r : reps M F ds vs) : Walks M (IteT X.K a) F (enumD 0 ds) := fun i H s => by
  have hq : SqT X.K H a vs := by rw [hK]; exact Same.seqT s hF
  rw [enumD_get]
  refine ⟨fun d hd => ?_, fun hn => ⟨vs, hq, ?_⟩⟩
  · obtain ⟨d0, hd0, rfl⟩ := Option.map_eq_some_iff.mp hd
    obtain ⟨v, e1, e2⟩ := reps_get r hd0
    refine ⟨⟨vs, v, hq, e1⟩, fun x H' y => ?_⟩
    obtain ⟨T, x0, k1, k2, k3, k4⟩ := y
    have := k4 vs hq
    rw [e1] at this; cases this
    exact Yl.new s k2 k1 k3 rfl (reps_cons (by rw [Nat.zero_add]; exact rep_int' _) (reps_cons e2 reps_nil))
  · rw [reps_length r]
    exact List.getElem?_eq_none_iff.mp (by simpa using hn)
def itEnumLT (f : FD) : FA := fun δ => (f δ).bind fun d δ => match d with
  | .lst ds => .ok (enumD 0 ds) δ
  | .tup ds => .ok (enumD 0 ds) δ
  | _ => .bad
theorem dit_enumLT {a : Expr} {f : FD} {p pos tpos : Pos} {elts : List Expr} {kk : Nat} (hg : Gl X "enumerate") (hm : X.mg "enumerate" = none) (h : DI M W X a f) (hK : X.K = M.K := by rfl) (hs : starEach [a] X.env = [(false, eval a X.env)] := by rfl) (hs2 : starEach (a :: []) X.env = (false, eval a X.env) :: starEach [] X.env := by rfl) :
    DIt M W X (.Tuple elts kk tpos) (.Call (.Name "enumerate" p) [a] [] pos) (itEnumLT f) := by
  obtain ⟨t, pp, h⟩ := h
  refine ⟨_, pi_enumLT hg hm (pa_cons pp pa_nil hs2) hs, fun c F H σ δ Q ok post => h c F H σ δ _ ok (Post.bind post fun d δ1 v F1 H1 _ s1 ok1 r post => ?_)⟩
  split at post
  · unfold ρD rep at r
    obtain ⟨a, vs, rfl, h2, h3⟩ := r
    exact .inl ⟨a, vs, rfl, SqL.of (ok1.same _ _ h2), post.ok ok1 (walks_enum hK h2 h3)⟩
  · unfold ρD rep at r
    obtain ⟨a, vs, rfl, h2, h3⟩ := r
    exact .inr ⟨a, vs, rfl, by rw [hK]; exact SqT.of (ok1.same _ _ h2), post.ok ok1 (walks_enumT hK (SqT.of h2) h3)⟩
  · exact post.elim
end
end
end TS

set_option maxRecDepth 100000
set_option maxHeartbeats 4000000
namespace TS
open PySem L2 PySem.W PySem.Calls PyProof.Rows
noncomputable section
inductive Bas : String → Prop
  | ve : Bas "ValueError"
  | ar : Bas "ArithmeticError"
  | lk : Bas "LookupError"
theorem Bas.base {B : String} (b : Bas B) : ExcBaseFacts B (B ++ ".__new__") (B ++ ".__init__") (bmOf B) := by
  cases b
  · exact F.excBase_ValueError
  · exact F.excBase_ArithmeticError
  · exact F.excBase_LookupError
theorem Bas.store {B : String} (b : Bas B) : StoreFacts B (bmOf B) "object.__setattr__" "object" := by
  cases b
  · exact F.store_ValueError
  · exact F.store_ArithmeticError
  · exact F.store_LookupError
structure OxC (K : PySem.W.Frag) (C : Addr) : Prop where
  bas : ∃ B, Bas B ∧ excInitIn K C (bmOf B) (B ++ ".__new__") = true ∧ excOver K C (bmOf B) = true
  hd : ∃ cd, clsIn K C = some cd ∧ cd.hasDict = true
  sa : findIn K (.ref C) "__setattr__" = some (some (.builtin "object.__setattr__"))
  exC : subIn K (.ref C) (.type "BaseException") = some true
  tyC : typeIn K (.ref C) = some (.type "type")
  kC : keepIn K (.ref C) = true
section
open Builtin Builtin.ObjectAttr
variable {prog : Program} {w : World} {A : Around} {R : Result → Shared → Prop} {hp : Heap} {g : Array GenState} {d : Drawn} {t : Nat} {os : OsState} {K : PySem.W.Frag} {name : Str} {tk : Tok} {v : Value} {x C dx : Addr} {fv : Array Value}
theorem ox_new (T : OxC K C) (X : K.In hp) (hx : hp.get? x = some { cls := .ref C, data := .fields fv }) (ha : findIn K (.ref C) name = some none)
    (hq : ∀ h2 tk2 dx, (∀ b o, b ≠ x → hp.get? b = some o → h2.get? b = some o) → hp.objs.size ≤ dx → dx ≠ x → h2.get? x = some { cls := .ref C, dict := some dx, data := .fields fv } →
      h2.Ns1 dx (fun y => if y = name then some v else none) → R (.ok (.ret .none)) ⟨h2, g, d, tk2, os⟩) :
    codeAny (model prog w) A (.call (.builtin "object.__setattr__") ⟨[.ref x, .str name tk, v], []⟩) R ⟨hp, g, d, t, os⟩ := by
  obtain ⟨B, hB, _, ov⟩ := T.bas
  obtain ⟨cd, hcd, hh⟩ := T.hd
  have J : InstAt hp x { cls := .ref C, data := .fields fv } C none := ⟨hx, rfl, rfl, trivial⟩
  have hxs : x ≠ hp.objs.size := Nat.ne_of_lt (Heap.lt_size hx)
  have hcls : Looks (model prog w) hp (classData C) cd := looks_clsIn X hcd
  refine osa_openX (s := ⟨hp, g, d, t, os⟩) hB.store X J ov (r := none) (by unfold takerIn; rw [ha]; rfl) fun bb => ?_
  show wpAny _ _ (storeInOwnDict (.ref x) (.ref C) (.str name tk) name v bb) _ _ _
  obtain ⟨nm, bs, mro, ns, qn, hd, sn, sb, ab, col, del⟩ := cd
  dsimp only at hh
  subst hh
  unfold storeInOwnDict ownDictForStores
  repeat (first | with_reducible refine HandSPX.store_in_new ?_ ?_ | with_reducible refine wpAny_loadPart_at hx ?_ | with_reducible refine hcls.at ?_ | wp_step)
  · exact ⟨_, #[], _, (Heap.get?_update_ne _ _ _ _ hxs.symm).trans (Heap.get?_push_at rfl rfl), rfl, fun e he => absurd he (by simp), fun _ => rfl⟩
  · intro h2 tk2 hn2 hs
    have hx2 : (hp.push { cls := .type "dict", data := .dict #[] }).get? x = some { cls := .ref C, data := .fields fv } := Heap.get?_push_of_some _ hx
    refine hq h2 tk2 hp.objs.size (fun b o hb ho => ?_) (Nat.le_refl _) hxs.symm ?_ hn2
    · exact (hs.2 b (Nat.ne_of_lt (Heap.lt_size ho))).trans ((Heap.get?_update_ne _ _ _ _ hb).trans (Heap.get?_push_of_some _ ho))
    · exact (hs.2 x hxs).trans (Heap.get?_update_self _ hx2 rfl)
theorem ox_old {m0 : Str → Option Value} {nl : List Str} (T : OxC K C) (X : K.In hp) (hx : hp.get? x = some { cls := .ref C, dict := some dx, data := .fields fv }) (hns : hp.Ns1 dx m0) (hw : Within m0 nl) (hz : nl.length ≤ 1000) (ha : findIn K (.ref C) name = some none)
    (hq : ∀ h2 tk2, (∀ b o, b ≠ dx → hp.get? b = some o → h2.get? b = some o) → h2.Ns1 dx (fun y => if y = name then some v else m0 y) → R (.ok (.ret .none)) ⟨h2, g, d, tk2, os⟩) :
    codeAny (model prog w) A (.call (.builtin "object.__setattr__") ⟨[.ref x, .str name tk, v], []⟩) R ⟨hp, g, d, t, os⟩ := by
  obtain ⟨B, hB, _, ov⟩ := T.bas
  obtain ⟨cd, hcd, hh⟩ := T.hd
  obtain ⟨oD, esD, epD, hoD, hdD, _⟩ := hns.count hw
  have J : InstAt hp x { cls := .ref C, dict := some dx, data := .fields fv } C (some oD) := ⟨hx, rfl, rfl, hoD⟩
  have hcls : Looks (model prog w) hp (classData C) cd := looks_clsIn X hcd
  refine osa_openX (s := ⟨hp, g, d, t, os⟩) hB.store X J ov (r := none) (by unfold takerIn; rw [ha]; rfl) fun bb => ?_
  show wpAny _ _ (storeInOwnDict (.ref x) (.ref C) (.str name tk) name v bb) _ _ _
  obtain ⟨nm, bs, mro, ns, qn, hd, sn, sb, ab, col, del⟩ := cd
  dsimp only at hh
  subst hh
  unfold storeInOwnDict ownDictForStores
  repeat (first | with_reducible refine OEX.store_in_old hns hw hz ?_ | with_reducible refine wpAny_loadPart_at hx ?_ | with_reducible refine hcls.at ?_ | wp_step)
  intro h2 tk2 hn2 hs
  exact hq h2 tk2 (fun b o hb ho => (hs.2 b hb).trans ho) hn2
end
section
variable {X : Cx} {pins : List (Addr × Obj)} {σ : L2.St} {H : Hp} {s : Shared} {a C dx : Addr} {f : Str} {y : V} {u : Value} {fs : List (Str × V)} {Q : Unit → Shared → Prop} {E : Value → Shared → Prop} {A : Around}
theorem gst_new (T : OxC X.K C) (I : Inv X pins σ H s) (ea : H a = some (exo a C none)) (hno : findIn X.K (.ref C) f = some none) (ry : RelV y u)
    (h : ∀ dx s2, H dx = none → dx ≠ a → Inv X pins σ (upd (upd H dx (exd dx [(f, y)])) a (exo a C (some dx))) s2 → Q () s2) : wpAny (model X.prog X.w) A (setAttr (.ref a) f u) Q E s := by
  obtain ⟨t1, ho⟩ := exo_at I.hok ea
  obtain ⟨hp, g, d, t, os⟩ := s
  refine set_plain I.kIn (ox := { cls := .ref C, dict := none, data := .fields #[.ref t1, .none, .none, .none, .bool false, .none] }) (od := none) ⟨ho, rfl, rfl, trivial⟩ T.sa ?_
  refine ox_new T I.kIn ho hno (fun h2 tk2 dx k dn dne hx hn => ?_)
  have fr : H dx = none := I.hok.fresh dn
  have nd : ∀ {b : Addr} {o : Obj}, hp.get? b = some o → b ≠ dx := fun {b o} q => Nat.ne_of_lt (Nat.lt_of_lt_of_le (Heap.lt_size q) dn)
  have na : ∀ {b : Addr}, H b = none → b ≠ a := fun {b} n z => by
    rw [z, ea] at n
    cases n
  have U : Un X.fs [] H (upd (upd H dx (exd dx [(f, y)])) a (exo a C (some dx))) hp h2 :=
    { keep := fun b o q n _ _ => k b o (na n) q
      slot := fun b o q n _ _ => ⟨o.slots, k b o (na n) q⟩
      free := fun b o q n _ => (upd_ne (na n)).trans ((upd_ne (nd q)).trans n)
      there := fun b o q _ => by
        by_cases hb : b = a
        · exact ⟨_, by rw [hb]; exact hx⟩
        · exact ⟨o, k b o hb q⟩
      tups := fun b xs q => (upd_ne (at_ne ea q exo_tup)).trans ((upd_ne (ne_of_none q fr)).trans q)
      frzs := fun b o v q => (upd_ne (at_ne ea q exo_frz)).trans ((upd_ne (ne_of_none q fr)).trans q)
      tbls := fun b ps q => ⟨#[], ((upd_ne (at_ne ea q exo_tbl)).trans ((upd_ne (ne_of_none q fr)).trans q)).trans (by simp)⟩ }
  refine h dx _ fr dne (I.un (t' := tk2) U fun b o q => ?_)
  by_cases hb : b = a
  · subst hb
    rw [upd_same] at q
    cases q
    exact exo_ok hx
  · rw [upd_ne hb] at q
    by_cases hd : b = dx
    · subst hd
      rw [upd_same] at q
      cases q
      exact exd_ok hn (relO_put (fs := []) ry fun g => True.intro)
    · rw [upd_ne hd] at q
      refine (I.hok b o q).stay (fun c v hc z => k c v ?_ z) (fun c hc => ?_) (fun c xs hc => ?_)
      · rcases hc with hc | hc
        · rw [hc]; exact hb
        · exact at_ne ea hc exo_own
      · exact (upd_ne (at_ne ea hc exo_own)).trans ((upd_ne (ne_of_none hc fr)).trans hc)
      · exact (upd_ne (at_ne ea hc exo_tup)).trans ((upd_ne (ne_of_none hc fr)).trans hc)
theorem gst_old (T : OxC X.K C) (I : Inv X pins σ H s) (ea : H a = some (exo a C (some dx))) (ed : H dx = some (exd dx fs)) (hl : fs.length ≤ 900) (hno : findIn X.K (.ref C) f = some none) (ry : RelV y u)
    (h : ∀ s2, Inv X pins σ (upd H dx (exd dx ((f, y) :: fs))) s2 → Q () s2) : wpAny (model X.prog X.w) A (setAttr (.ref a) f u) Q E s := by
  obtain ⟨t1, ho⟩ := exo_at I.hok ea
  obtain ⟨mA, hns, rel⟩ := exd_at I.hok ed
  have hw := within_of rel
  obtain ⟨hp, g, d, t, os⟩ := s
  obtain ⟨oD, _, _, hoD, _, _⟩ := hns.count hw
  refine set_plain I.kIn (ox := { cls := .ref C, dict := some dx, data := .fields #[.ref t1, .none, .none, .none, .bool false, .none] }) (od := some oD) ⟨ho, rfl, rfl, hoD⟩ T.sa ?_
  refine ox_old T I.kIn ho hns hw (by rw [List.length_map]; omega) hno (fun h2 tk2 k hn => ?_)
  have hd : ∃ o, h2.get? dx = some o := let ⟨o, _, _, e, _⟩ := hn; ⟨o, e⟩
  exact h _ (I.write (t' := tk2) (x := dx) (e := dx) (o := exd dx ((f, y) :: fs)) (by rw [ed]; exact True.intro) (.inl rfl) k hd (exd_ok hn (relO_put ry rel)))
end
def tGst (K : PySem.W.Frag) (f : Str) (to te : TE) : TS := fun D σ H => te σ H fun y H1 => to σ H1 fun x H2 => ∃ a C : Addr, x = .ref a ∧ OxC K C ∧ findIn K (.ref C) f = some none ∧
  ((H2 a = some (exo a C none) ∧ ∀ dx, H2 dx = none → dx ≠ a → D.nx σ (upd (upd H2 dx (exd dx [(f, y)])) a (exo a C (some dx)))) ∨
    ∃ (dx : Addr) (fs : List (Str × V)), H2 a = some (exo a C (some dx)) ∧ H2 dx = some (exd dx fs) ∧ fs.length ≤ 900 ∧ D.nx σ (upd H2 dx (exd dx ((f, y) :: fs))))
section
variable {X : Cx} {o e : Expr} {es : List Expr} {to te : TE} {ta : TA} {f : Str} {p p' p1 p2 pos : Pos}
theorem ps_gst (ho : PE X o to) (he : PE X e te) (hs : swapsWith e (some (.Attribute o f p')) pos.line X.env = pure false := by rfl) : PS X (.Assign [.Attribute o f p'] e pos) (tGst X.K f to te) := by
  refine ⟨fun pins s σ H D I h => plainObj_wpAny_Assign_Attribute (thn (he.run pins s σ H _ I h) fun v s1 ⟨y, H1, I1, r1, q1⟩ => thn (ho.run pins s1 σ H1 _ I1 q1) fun u s2 ⟨x, H2, I2, r2, a, C, ex, T, hno, q⟩ => ?_) hs⟩
  subst ex
  obtain rfl : u = Value.ref a := r2
  rcases q with ⟨ea, q⟩ | ⟨dx, fs, ea, ed, hl, q⟩
  · exact gst_new T I2 ea hno r1 fun dx s3 n ne J => ⟨σ, _, J, q dx n ne⟩
  · exact gst_old T I2 ea ed hl hno r1 fun s3 J => ⟨σ, _, J, q⟩
theorem pmk_gx {CX : CXT} {x : Str} {C fI : Addr} {k : Nat} {fd : FuncData} {ps : List Str} {sp : Sp} (T : OxC X.K C) (iC : findIn X.K (.ref C) "__init__" = some (some (.ref fI))) (tI : typeIn X.K (.ref fI) = some (.type "function"))
    (F1 : TS.FnOk X.prog X.w X.K X.mg X.base CX k fI fd ps sp) (hr : TS.Room (k + 1) X.A) (hb : Binds X.K fd ps []) (hx : Passes CX X (fun _ _ _ => False)) (hg : Gl X x) (hm : X.mg x = some (.ref C)) (ha : PA X (e :: es) ta)
    (hdb : (x == ("__debug__" : Str)) = false := by decide) (he : starEach (e :: es) X.env = (false, eval e X.env) :: starEach es X.env := by rfl) (hpl : (backTo pos (starEach es X.env)).any (·.1) = false := by rfl) :
    PMk X (.Call (.Name x p) (e :: es) [] pos) (tMkO C sp [] ta) := by
  intro pins s σ H Q I h
  obtain ⟨B, hB, ini, _⟩ := T.bas
  refine wpAny_Call_Name_kw (ld_glob I hg hm ?_ hdb)
  refine callWith_K (h₀ := X.base) I.ok.mod.kin T.kC (thn (ha.run pos pins s σ H _ I h) fun us s1 ⟨vs, H1, I1, r1, hz, q1⟩ => ⟨I1.kIn, ?_⟩) he hpl
  show wpAny _ _ (call (.ref C) us) _ _ _
  obtain ⟨hp, g, dr, tk, os⟩ := s1
  obtain ⟨nm, N, qn, bs, bm, hdct, sn, sub, ab, col, dd, k0, k1, k2, k3, k5, hC, hT⟩ := excInit_of I1.kIn ini
  have hsz : hp.objs.size ≤ hp.objs.size + 1 := Nat.le_succ _
  have hn : H1 (hp.objs.size + 1) = none := I1.hok.fresh hsz
  have hq := q1 (hp.objs.size + 1) hn
  rw [List.append_nil] at hq
  have kk : ∀ b o, hp.get? b = some o → ((hp.push (kdv_tup us)).push (HandSPX.excO C hp.objs.size)).get? b = some o := fun b o z => Heap.get?_push_of_some _ (Heap.get?_push_of_some _ z)
  have hget : ((hp.push (kdv_tup us)).push (HandSPX.excO C hp.objs.size)).get? (hp.objs.size + 1) = some (HandSPX.excO C hp.objs.size) := by heap_get
  have I2 : Inv X pins σ (upd H1 (hp.objs.size + 1) (exo (hp.objs.size + 1) C none)) ⟨(hp.push (kdv_tup us)).push (HandSPX.excO C hp.objs.size), g, dr, tk, os⟩ :=
    I1.laid (t' := tk) (a := hp.objs.size + 1) (o := exo (hp.objs.size + 1) C none) (h' := (hp.push (kdv_tup us)).push (HandSPX.excO C hp.objs.size)) kk hsz (exo_ok hget)
  have r2 : Vals (V.ref (hp.objs.size + 1) :: vs) (Value.ref (hp.objs.size + 1) :: us) := .cons rfl r1
  have hl : (Value.ref (hp.objs.size + 1) :: us ++ []).length = ps.length := by
    rw [List.append_nil]
    exact (r2.length.symm.trans (F1.len _ _ _ _ hq))
  have hus : us.length ≤ sizeLine := by
    rw [← Paired.length r1, sizeLine_eq]
    omega
  refine wpAny_call (HandSPX.call_own hB.base hT hC (looks_findIn I1.kIn iC) (fun self => bind_fn I1.kIn self tI) hus
    (codeAny_mono (F1.run _ X.stack _ _ ⟨Value.ref (hp.objs.size + 1) :: us, []⟩ (Value.ref (hp.objs.size + 1) :: us) _ _ (fun _ _ _ => False) (hr.make C us []) (I2.env0.make C us []) (by
      have := hb _ (Value.ref (hp.objs.size + 1) :: us) I2.kIn hl
      rwa [List.append_nil] at this) r2 hq) fun r s2 hq2 => ?_))
  cases r with
  | error er => exact hx pins σ _ _ er s2 I2 hq2
  | ok fl =>
    cases fl with
    | ret u =>
      obtain ⟨v, H2, os2, bare2, un2, hok2, rv, ev, d, fs, ea, ed, hd1, q2⟩ := hq2
      subst ev
      obtain ⟨h2, g2, d2, t2, os3⟩ := s2
      exact ⟨rv, mk_end (raises_own T.exC T.tyC) I1 hsz kk un2 hok2 os2 bare2 ea ed hd1 q2⟩
    | next => exact False.elim hq2
    | brk => exact False.elim hq2
    | cont => exact False.elim hq2
end
def spX (C : Addr) (ns : List Str) : Sp := fun vs H Q _ => ∃ (a : Addr) (ws : List V), vs = .ref a :: ws ∧ ws.length = ns.length ∧ H a = some (exo a C none) ∧
  ∀ (dx : Addr) (H' : Hp), H dx = none → dx ≠ a → H' a = some (exo a C (some dx)) → H' dx = some (exd dx (ns.zip ws).reverse) → (∀ b, b ≠ a → b ≠ dx → H' b = H b) → Q .non H'
def IniS (X : Cx) (C : Addr) (ns : List Str) (ss : List Stmt) (j : Nat) : Prop := ∃ t, PSs X ss t ∧ ∀ (D : Ends) (a dx : Addr) (ws : List V) (σ : L2.St) (H0 H : Hp), σ[0]? = some (some (.ref a)) → (∀ i w, ws[i]? = some w → σ[i + 1]? = some (some w)) → ws.length = ns.length → dx ≠ a →
  H a = some (exo a C (some dx)) → H dx = some (exd dx ((ns.zip ws).take j).reverse) → (∀ b, b ≠ a → b ≠ dx → H b = H0 b) →
  (∀ H', H' a = some (exo a C (some dx)) → H' dx = some (exd dx (ns.zip ws).reverse) → (∀ b, b ≠ a → b ≠ dx → H' b = H0 b) → D.nx σ H') → t D σ H
section
variable {X : Cx} {C : Addr} {ns : List Str} {ss : List Stmt} {j : Nat} {f : Str} {p p' p1 pos : Pos}
theorem inis_nil (h : j = ns.length) : IniS X C ns [] j := by
  refine ⟨_, pss_nil, fun D a dx ws σ H0 H h0 hw hl hne ea ed hb k => ?_⟩
  refine k H ea ?_ hb
  rw [h, List.take_of_length_le (by rw [List.length_zip]; omega)] at ed
  exact ed
theorem zip_take {ws : List V} {w : V} (hn : ns[j]? = some f) (hw : ws[j]? = some w) : (ns.zip ws).take (j + 1) = (ns.zip ws).take j ++ [(f, w)] := by
  rw [List.take_add_one]
  have : (ns.zip ws)[j]? = some (f, w) := by rw [List.getElem?_zip_eq_some]; exact ⟨hn, hw⟩
  rw [this]; rfl
theorem inis_cons (T : OxC X.K C) (hno : findIn X.K (.ref C) f = some none) (hn : ns[j]? = some f) (hs0 : PE X (.Name "self" p) (tVar 0)) (hs1 : PE X (.Name f p1) (tVar (j + 1))) (hj : ns.length ≤ 900) (r : IniS X C ns ss (j + 1))
    (hs : swapsWith (.Name f p1) (some (.Attribute (.Name "self" p) f p')) pos.line X.env = pure false := by rfl) : IniS X C ns (.Assign [.Attribute (.Name "self" p) f p'] (.Name f p1) pos :: ss) j := by
  obtain ⟨t, pt, ht⟩ := r
  refine ⟨_, pss_cons (ps_gst hs0 hs1 hs) pt, fun D a dx ws σ H0 H h0 hw hl hne ea ed hb k => ?_⟩
  have hjl : j < ns.length := (List.getElem?_eq_some_iff.mp hn).1
  have hwj : ws[j]? = some (ws[j]'(by omega)) := List.getElem?_eq_getElem _
  refine ⟨ws[j]'(by omega), hw j _ hwj, .ref a, h0, a, C, rfl, T, hno, .inr ⟨dx, _, ea, ed, by simp; omega, ?_⟩⟩
  refine ht D a dx ws σ H0 _ h0 hw hl hne ((upd_ne (Ne.symm hne)).trans ea) ?_ (fun b h1 h2 => (upd_ne h2).trans (hb b h1 h2)) k
  rw [upd_same, zip_take hn hwj, List.reverse_append]
  rfl
theorem init_body {N : List Str} {sp0 : Unit} (T : OxC X.K C) (hno : findIn X.K (.ref C) f = some none) (hn : ns[0]? = some f) (hs0 : PE X (.Name "self" p) (tVar 0)) (hs1 : PE X (.Name f p1) (tVar 1)) (r : IniS X C ns ss 1)
    (hs : swapsWith (.Name f p1) (some (.Attribute (.Name "self" p) f p')) pos.line X.env = pure false := by rfl) :
    ∃ t, PSs X (.Assign [.Attribute (.Name "self" p) f p'] (.Name f p1) pos :: ss) t ∧ ∀ (D : Ends) (a : Addr) (ws : List V) (σ : L2.St) (H : Hp), σ[0]? = some (some (.ref a)) → (∀ i w, ws[i]? = some w → σ[i + 1]? = some (some w)) → ws.length = ns.length → H a = some (exo a C none) →
      (∀ (dx : Addr) (H' : Hp), H dx = none → dx ≠ a → H' a = some (exo a C (some dx)) → H' dx = some (exd dx (ns.zip ws).reverse) → (∀ b, b ≠ a → b ≠ dx → H' b = H b) → D.nx σ H') → t D σ H := by
  obtain ⟨t, pt, ht⟩ := r
  refine ⟨_, pss_cons (ps_gst hs0 hs1 hs) pt, fun D a ws σ H h0 hw hl ea k => ?_⟩
  have hjl : 0 < ns.length := (List.getElem?_eq_some_iff.mp hn).1
  have hwj : ws[0]? = some (ws[0]'(by omega)) := List.getElem?_eq_getElem _
  refine ⟨ws[0]'(by omega), hw 0 _ hwj, .ref a, h0, a, C, rfl, T, hno, .inl ⟨ea, fun dx hd hne => ?_⟩⟩
  refine ht D a dx ws σ H _ h0 hw hl hne upd_same ?_ (fun b h1 h2 => (upd_ne h1).trans (upd_ne h2)) (fun H' k1 k2 k3 => k dx H' hd hne k1 k2 k3)
  rw [upd_ne hne, upd_same]
  have z := zip_take (j := 0) hn hwj
  rw [z]
  rfl
end
theorem start_get {N : List Str} {vs : List V} {i : Nat} {v : V} (h : vs[i]? = some v) : (L2.start N vs)[i]? = some (some v) := by
  unfold L2.start
  have hl : i < vs.length := (List.getElem?_eq_some_iff.mp h).1
  rw [List.getElem?_append_left (by simpa using hl), List.getElem?_map, h]; rfl
theorem funD_ini {P : Program} {w : World} {K : PySem.W.Frag} {mg : Str → Option Value} {base : Heap} {qual : Str} {params : Arguments} {body : List Stmt} {scope : Scope} {f C : Addr} {fd : FuncData} {N ps ns : List Str} (Fd : FunD K "__init__" qual params body scope [] [] f fd) (S : FnScope N ps scope) (hps : ps.length = ns.length + 1)
    (hb : ∀ (cdv : Value) (A : Around) (outer : List Env) (s : Shared) (H : Hp) (E : XK), ∃ t, PSs (cxOf (L2.CX P w) P w K mg base N qual scope f cdv A outer s H E) body t ∧ ∀ (D : Ends) (a : Addr) (ws : List V) (σ : L2.St) (H : Hp), σ[0]? = some (some (.ref a)) → (∀ i w, ws[i]? = some w → σ[i + 1]? = some (some w)) → ws.length = ns.length → H a = some (exo a C none) →
      (∀ (dx : Addr) (H' : Hp), H dx = none → dx ≠ a → H' a = some (exo a C (some dx)) → H' dx = some (exd dx (ns.zip ws).reverse) → (∀ b, b ≠ a → b ≠ dx → H' b = H b) → D.nx σ H') → t D σ H) :
    TS.FnOk P w K mg base (L2.CX P w) 1 f fd ps (spX C ns) := by
  refine FnOk.of (k := 0) Fd S (fun vs H Q E h => ?_) (fun cdv A outer s H vs Q E hr h => ?_)
  · obtain ⟨a, ws, rfl, hl, _⟩ := h
    rw [List.length_cons, hl, hps]
  · obtain ⟨t, pt, ht⟩ := hb cdv A outer s H E
    obtain ⟨a, ws, rfl, hl, ea, k⟩ := h
    exact ⟨t, pt, ht _ a ws _ H (start_get rfl) (fun i w hw => start_get (by simpa using hw)) hl ea k⟩
section
variable {M : Gm} {c : Cn M} {W : WX} {X : Cx} {F H : Hp} {σ : L2.St} {δ : Sl}
theorem reps_reverse : ∀ {ds : List D} {vs : List V}, reps M F ds vs → reps M F ds.reverse vs.reverse
  | [], vs, h => by unfold reps at h; subst h; exact reps_nil
  | d :: ds, vs, h => by
    unfold reps at h
    obtain ⟨v, r, rfl, h2, h3⟩ := h
    rw [List.reverse_cons, List.reverse_cons]
    exact reps_append (reps_reverse h3) (reps_cons h2 reps_nil)
theorem Ok.froze {F' : Hp} (ok : Ok c F H σ δ) (g : Same F F') (hs : Same F' H) (htb : Tb M F' H) (hn : ∀ b, c.H0 b ≠ none → F' b = F b) (ho : ∀ (i : Nat) (r : R) (a : Addr), δ[i]? = some (some r) → r.mu = true → σ[i]? = some (some (V.ref a)) → F' a = none) : Ok c F' H σ δ where
  same := hs
  grow := ok.grow.trans g
  nofz := fun b e1 e2 => by rw [hn b e1]; exact ok.nofz b e1 e2
  kept := ok.kept
  ioh := ok.ioh
  tb := htb
  len := ok.len
  slot := fun i r e => by
    obtain ⟨v, e1, e2⟩ := ok.slot i r e
    refine ⟨v, e1, ?_⟩
    cases r with
    | imm d => exact rep_mono g _ _ e2
    | own o =>
      obtain ⟨b, rfl, k1, k2, k3⟩ := e2
      exact ⟨b, rfl, ho i _ b e rfl e1, k2, obAt_mono g rfl k3⟩
    | brw o =>
      obtain ⟨b, rfl, k1, k2, k3⟩ := e2
      exact ⟨b, rfl, ho i _ b e rfl e1, k2, obAt_mono g rfl k3⟩
  dist := ok.dist
def sRaise (n k : Nat) (fa : FA) : FS := fun δ => (fa δ).bindS fun ds δ1 => if ds.length = k then .exc ⟨n, ds.reverse⟩ δ1 else .bad
theorem ds_raise {n k j : Nat} {C fI : Addr} {x : Str} {ns ps : List Str} {fd : FuncData} {e : Expr} {es : List Expr} {fa : FA} {p pos pos2 : Pos} (hG : M.G n = some C) (hnm : M.nm n = ns.reverse) (hk : ns.length = k) (T : OxC X.K C) (iC : findIn X.K (.ref C) "__init__" = some (some (.ref fI))) (tI : typeIn X.K (.ref fI) = some (.type "function"))
    (F1 : TS.FnOk X.prog X.w X.K X.mg X.base (L2.CX X.prog X.w) 1 fI fd ps (spX C ns)) (hr : TS.Room j X.A) (h2 : 2 ≤ j) (hk2 : k ≤ 100) (hb : Binds X.K fd ps []) (hc : X.calm = true) (tk : Takes X W) (hg : Gl X x) (hm : X.mg x = some (.ref C)) (ha : DA M W X (e :: es) fa)
    (hdb : (x == ("__debug__" : Str)) = false := by decide) (he : starEach (e :: es) X.env = (false, eval e X.env) :: starEach es X.env := by rfl) (hpl : (backTo pos (starEach es X.env)).any (·.1) = false := by rfl) :
    DS M W X (.Raise (some (.Call (.Name x p) (e :: es) [] pos)) none pos2) (sRaise n k fa) := by
  obtain ⟨ta, pa, ha⟩ := ha
  refine ⟨_, ps_raise hc tk (pmk_gx T iC tI F1 (hr.mono h2) hb (passes_call tk fun _ _ _ _ z => z.elim) hg hm pa hdb he hpl), fun c F H σ δ E ok post => ?_⟩
  refine ha c F H σ δ _ ok (PostS.ofE post fun ds δ1 vs F1 H1 _ s ok1 rr post => ?_)
  split at post
  · rename_i hl
    have hvl := reps_length rr
    refine ⟨by omega, fun a han => ?_⟩
    refine ⟨a, vs, by rw [List.append_nil], by omega, upd_same, fun dx H2 hd hne k1 k2 k3 => ⟨rfl, dx, _, k1, k2, ?_, ?_⟩⟩
    · rw [upd_ne hne] at hd; exact hd
    · rw [upd_ne hne] at hd
      have eG : upd (del H2 a) dx (.xd (ns.zip vs).reverse) = upd H1 dx (.xd (ns.zip vs).reverse) := by
        funext b
        by_cases hb : b = dx
        · rw [hb, upd_same, upd_same]
        · rw [upd_ne hb, upd_ne hb]
          by_cases hba : b = a
          · rw [hba, del_same, han]
          · rw [del_ne hba, k3 b hba hb, upd_ne hba]
      rw [eG]
      have hf1 : F1 dx = none := ok1.f hd
      have g1 : Same F1 (upd F1 dx (.xd (ns.zip vs).reverse)) := fun b o q => by rw [upd_ne (ne_of_none q hf1)]; exact q
      refine post (.ref C) (some dx) (upd F1 dx (.xd (ns.zip vs).reverse)) _ σ g1 ((ok1.alloc hd).froze g1 (fun b o q => ?_) ((ok1.tb.alloc hd).frz upd_same rfl) (fun b h0 => ?_) (fun i r a2 q1 q2 q3 => ?_)) ⟨C, hG, rfl, .inr ⟨dx, _, rfl, upd_same, ?_, ?_⟩⟩
      · by_cases hb : b = dx
        · subst hb; rw [upd_same] at q ⊢; exact q
        · rw [upd_ne hb] at q ⊢; exact ok1.same b o q
      · by_cases hb : b = dx
        · exact absurd (hb ▸ ok1.h0 hd) h0
        · exact upd_ne hb
      · obtain ⟨b, o, e1, e2, e3, _⟩ := (ok1.alloc hd (o := .xd (ns.zip vs).reverse)).mus q1 q2
        rw [q3] at e1
        cases e1
        have hb : a2 ≠ dx := fun z => ok1.fresh hd i r q1 q2 (by rw [q3, z])
        rw [upd_ne hb]; exact e2
      · rw [hnm, List.map_reverse, List.map_fst_zip (by omega)]
      · rw [List.map_reverse, List.map_snd_zip (by omega)]
        exact reps_mono g1 _ _ (reps_reverse rr)
  · exact post.elim
end
end
end TS

set_option maxRecDepth 100000
set_option maxHeartbeats 4000000
namespace TS
open PySem L2 PySem.W PySem.Calls PyProof.Rows
noncomputable section
structure Cau where
  i : Nat
  a : Addr
  cls : Value
  d : Option Addr
  x : XD
def Zx (M : Gm) (q : Cau) (F : Hp) (σ : L2.St) : Prop := σ[q.i]? = some (some (.ref q.a)) ∧ xAt M F q.x q.cls q.d F
theorem xAt_mono {M : Gm} {F F' H H' : Hp} {x : XD} {cls : Value} {d : Option Addr} (g : Same F F') (h : xAt M F x cls d H) : xAt M F' x cls d H' := by
  obtain ⟨C, h1, h2, h3⟩ := h
  refine ⟨C, h1, h2, ?_⟩
  rcases h3 with h3 | ⟨dd, fs, k1, k2, k3, k4⟩
  · exact .inl h3
  · exact .inr ⟨dd, fs, k1, g _ _ k2, k3, reps_mono g _ _ k4⟩
theorem Zx.mono {M : Gm} {q : Cau} {F F' : Hp} {σ : L2.St} (h : Zx M q F σ) (g : Same F F') : Zx M q F' σ := ⟨h.1, xAt_mono g h.2⟩
def DEz (M : Gm) (W : WX) (X : Cx) (q : Cau) (e : Expr) (f : FE) : Prop := ∃ t, PE X e t ∧ ∀ (c : Cn M) F H σ δ Q, Zx M q F σ → Ok c F H σ δ → Post c W F σ (ρR c σ) (f δ) Q → t σ H Q
def DIz (M : Gm) (W : WX) (X : Cx) (q : Cau) (e : Expr) (f : FD) : Prop := ∃ t, PE X e t ∧ ∀ (c : Cn M) F H σ δ Q, Zx M q F σ → Ok c F H σ δ → Post c W F σ (ρD c) (f δ) Q → t σ H Q
def DTz (M : Gm) (W : WX) (X : Cx) (q : Cau) (e : Expr) (f : FT) : Prop := ∃ t, PT X e t ∧ ∀ (c : Cn M) F H σ δ Q, Zx M q F σ → Ok c F H σ δ → Post c W F σ ρT (f δ) Q → t σ H Q
def DWz (M : Gm) (W : WX) (X : Cx) (q : Cau) (e : Expr) (f : FT) : Prop := ∃ t, PW X e t ∧ ∀ (c : Cn M) F H σ δ Q, Zx M q F σ → Ok c F H σ δ → Post c W F σ ρT (f δ) Q → t σ H Q
def DAz (M : Gm) (W : WX) (X : Cx) (q : Cau) (es : List Expr) (f : FA) : Prop := ∃ t, PA X es t ∧ ∀ (c : Cn M) F H σ δ Q, Zx M q F σ → Ok c F H σ δ → Post c W F σ (ρA c) (f δ) Q → t σ H Q
section
variable {M : Gm} {c : Cn M} {W : WX} {X : Cx} {q : Cau} {e a b : Expr} {es : List Expr} {pos p : Pos}
theorem z_i {f : FD} (h : DI M W X e f) : DIz M W X q e f := let ⟨t, p, h⟩ := h; ⟨t, p, fun c F H σ δ Q _ ok post => h c F H σ δ Q ok post⟩
theorem z_toE {f : FD} (h : DIz M W X q e f) : DEz M W X q e (toE f) := by
  obtain ⟨t, p, h⟩ := h
  exact ⟨t, p, fun c F H σ δ Q z ok post => h c F H σ δ Q z ok (Post.bind post fun d δ1 v F1 H1 _ s ok1 r post => post.ok ok1 r)⟩
theorem z_frz {f : FE} (h : DEz M W X q e f) : DIz M W X q e (frz f) := by
  obtain ⟨t, p, h⟩ := h
  refine ⟨_, pe_lks p, fun c F H σ δ Q z ok post => h c F H σ δ (fun v H' => LkS (Q v) H') z ok (Post.bind post fun r δ1 v F1 H1 _ s ok1 rr post => ?_)⟩
  cases r with
  | imm d => exact .now (post.ok ok1 rr)
  | own o => exact (ok1.freeze rr).mono fun H2 ⟨F', g, ok', r'⟩ => post v F' H2 g ok' r'
  | brw o => exact post.elim
theorem z_nil : DAz M W X q [] aNil := ⟨_, pa_nil, fun c F H σ δ Q _ ok post => post.ok ok reps_nil⟩
theorem z_cons {f : FD} {g : FA} (h : DIz M W X q e f) (h' : DAz M W X q es g) (hs : starEach (e :: es) X.env = (false, eval e X.env) :: starEach es X.env := by rfl) : DAz M W X q (e :: es) (aCons f g) := by
  obtain ⟨t, p, h⟩ := h
  obtain ⟨t', p', h'⟩ := h'
  exact ⟨_, pa_cons p p' hs, fun c F H σ δ Q z ok post => h c F H σ δ _ z ok (Post.bind post fun d δ1 v F1 H1 _ s ok1 r post => h' c F1 H1 σ δ1 _ (z.mono s) ok1 (Post.bind post fun ds δ2 vs F2 H2 _ s2 ok2 rs post => post.ok ok2 (reps_cons (rep_mono s2 _ _ r) rs)))⟩
theorem z_lst {fa : FA} (h : DAz M W X q es fa) : DEz M W X q (.List es pos) (fLst fa) := by
  obtain ⟨t, p, h⟩ := h
  refine ⟨_, pe_lst p, fun c F H σ δ Q z ok post => h c F H σ δ _ z ok (Post.bind post fun ds δ1 vs F1 H1 _ s ok1 rs post => ?_)⟩
  split at post
  · rename_i hl
    refine ⟨by rw [reps_length rs, sizeLine_eq]; exact hl, fun r hr => ?_⟩
    obtain ⟨o1, o2⟩ := new_list ok1 hr rs
    exact post.ok o1 o2
  · exact post.elim
theorem z_not {f : FD} (h : DIz M W X q a f) : DIz M W X q (.UnaryOp .Not a pos) (fNotV f) := by
  obtain ⟨t, p, h⟩ := h
  refine ⟨_, pe_not p, fun c F H σ δ Q z ok post => h c F H σ δ _ z ok (Post.bind post fun d δ1 v F1 H1 _ s ok1 r post => ?_)⟩
  split at post
  · rename_i b0 _
    have e : v = .bl b0 := by unfold ρD rep at r; exact r
    subst e
    exact ⟨b0, rfl, post.ok ok1 (rep_bl' _)⟩
  · exact post.elim
theorem z_one {op} {f : FE} (h : DEz M W X q a f) : DEz M W X q (.BoolOp op [a] pos) f := let ⟨t, p, h⟩ := h; ⟨t, pe_one p, h⟩
theorem z_and {f : FD} {g : FE} {rest : List Expr} (h : DIz M W X q a f) (h' : DEz M W X q (.BoolOp .And (b :: rest) pos) g) : DEz M W X q (.BoolOp .And (a :: b :: rest) pos) (fAndV f g) := by
  obtain ⟨t, p, h⟩ := h
  obtain ⟨t', p', h'⟩ := h'
  refine ⟨_, pe_and p p', fun c F H σ δ Q z ok post => h c F H σ δ _ z ok (Post.bind post fun d δ1 v F1 H1 _ s ok1 r post => ?_)⟩
  split at post
  · have e : v = .bl true := by unfold ρD rep at r; exact r
    subst e
    exact ⟨true, rfl, h' c F1 H1 σ δ1 Q (z.mono s) ok1 post⟩
  · have e : v = .bl false := by unfold ρD rep at r; exact r
    subst e
    exact ⟨false, rfl, post.ok ok1 rr_bl⟩
  · exact post.elim
theorem DWz.pt {f : FT} (h : DWz M W X q e f) : DTz M W X q e f := let ⟨t, p, h⟩ := h; ⟨t, p.pt, h⟩
end
def xFld (j : Nat) (x : XD) : FD := fun δ => match x.vs[j]? with
  | some d => .ok d δ
  | none => .bad
def xIs (tab : Nat → Option Bool) (x : XD) : FD := fun δ => match x.vs, tab x.c with
  | _ :: _, some b => .ok (.bl b) δ
  | _, _ => .bad
def xFldT (tab : Nat → Option Nat) (x : XD) : FD := fun δ => match tab x.c with
  | some j => xFld j x δ
  | none => .bad
structure XqC (K : PySem.W.Frag) (C : Addr) : Prop where
  xf : XfC K C
  cl : (clsIn K C).isSome = true
  ha : findIn K (.ref C) "__class__" = some (some (.builtin "object.__class__"))
  hn : specialIn K (.builtin "object.__class__") "__get__" = some (some (.builtin "getset_descriptor.__get__"))
  ht : takesIn K (.builtin "object.__class__") = some true
  hm : mroIn K C (.type "object") = some true
def rXis (K : PySem.W.Frag) (C a : Addr) : List V → Hp → VK → Prop := fun xs H Q => ∃ (c : V) (cv : Value) (b : Bool), xs = [.ref a, c] ∧ ClsV c cv ∧ kitOne K (.ref C) cv = some b ∧ Q (.bl b) H
def rXisT (K : PySem.W.Frag) (C a : Addr) : List V → Hp → VK → Prop := fun xs H Q => ∃ (tp : Addr) (cs : List V) (us : List Value) (b : Bool), xs = [.ref a, .ref tp] ∧ H tp = some (.tup cs) ∧ Paired ClsV cs us ∧ kitAny K (.ref C) us = some b ∧ Q (.bl b) H
section
variable {X : Cx} {a C : Addr} {oe : Obj} {pn : List (Addr × Obj)} {d : Option Addr}
theorem inst_caught {pins : List (Addr × Obj)} {σ : L2.St} {H : Hp} {s : Shared} {dd : Addr} {fs : List (Str × V)} (I : Inv (X.suite a ((a, oe) :: pn)) pins σ H s) (hz : Zc (.ref C) (some dd) oe) (hf : ∃ vs, oe.data = .fields vs) (hd : H dd = some (.xd fs)) : ∃ od, InstAt s.heap a oe C (some od) := by
  obtain ⟨ha, _⟩ := I.pin (a, oe) (List.mem_append_left _ List.mem_cons_self)
  obtain ⟨vs, hv⟩ := hf
  have hx : ObjOk X.prog X.w H s.heap dd (.xd fs) := I.hok dd _ hd
  obtain ⟨mA, hns, hr⟩ := hx
  obtain ⟨od, ho, hl⟩ := lookIn_ns hns
  exact ⟨od, ha, hz.1, by unfold notCls; rw [hv] <;> rfl, by rw [hz.2]; exact ho⟩
theorem call_xis (T : XqC X.K C) {dd : Addr} (hz : Zc (.ref C) (some dd) oe) (hf : ∃ vs, oe.data = .fields vs) : CallR (X.suite a ((a, oe) :: pn)) (.builtin "isinstance") (fun xs H Q => (∃ fs, H dd = some (.xd fs)) ∧ (rXis X.K C a xs H Q ∨ rXisT X.K C a xs H Q)) := by
  intro pins s σ H xs us Q I r h
  obtain ⟨⟨fs, hd⟩, h⟩ := h
  obtain ⟨od, J⟩ := inst_caught I hz hf hd
  have Z := fun gt hgt => kitx_exc (K := X.K) (C := C) (x := a) (ox := oe) (od := some od) (gt := gt) T.cl T.xf.ga hgt T.xf.exC T.ha T.hn T.ht T.hm
  rcases h with ⟨c, cv, b, rfl, hcv, e, q⟩ | ⟨tp, cs, us2, b, rfl, hT, k, e, q⟩
  · obtain ⟨u1, u2, rfl, r1, r2⟩ := vals2 r
    cases (show u1 = Value.ref a from r1)
    have ec := hcv.eq r2
    subst ec
    exact kia_one (Z _ T.xf.gg) I.kIn J e (fun z => nomatch z) fun tk => ⟨.bl b, H, I.tok tk, rfl, q⟩
  · obtain ⟨u1, u2, rfl, r1, r2⟩ := vals2 r
    cases (show u1 = Value.ref a from r1)
    cases (show u2 = Value.ref tp from r2)
    obtain ⟨_, its, rv, o, h1, h2, n, h3⟩ := (show ObjOk X.prog X.w H s.heap tp (.tup cs) from I.hok tp _ hT)
    have e3 := ClsV.all k rv
    subst e3
    obtain ⟨oc, od2, dt, sl⟩ := o
    simp only at h2 h3
    subst h2 h3
    exact kia_tup (Z _ T.xf.gg) I.kIn J h1 e (fun z => nomatch z) fun tk => ⟨.bl b, H, I.tok tk, rfl, q⟩
end
section
variable {M : Gm} {W : WX} {X : Cx} {a : Addr} {oe : Obj} {pn : List (Addr × Obj)} {i : Nat} {cls : Value} {d : Option Addr} {x : XD} {e c1 : Expr} {pos p : Pos}
theorem pe_nev {Y : Cx} {e : Expr} : PE Y e (fun _ _ _ => False) := ⟨fun _ _ _ _ _ _ h => h.elim⟩
theorem reps_at {F : Hp} {ds : List D} {fs : List (Str × V)} {j : Nat} {dv : D} {n : Str} (r : reps M F ds (fs.map (·.2))) (h : ds[j]? = some dv) (hn : (fs.map (·.1))[j]? = some n) (hx : n ∉ (fs.map (·.1)).take j) : ∃ v, fs.lookup n = some v ∧ rep M F dv v := by
  induction fs generalizing ds j with
  | nil => simp at hn
  | cons p fs ih =>
    obtain ⟨m, v⟩ := p
    cases ds with
    | nil => simp at h
    | cons d ds =>
      rw [List.map_cons, reps_cons_iff] at r
      cases j with
      | zero =>
        simp at h hn
        subst h hn
        exact ⟨v, by simp [List.lookup], r.1⟩
      | succ j =>
        simp only [List.map_cons, List.getElem?_cons_succ, List.take_succ_cons, List.mem_cons, not_or] at h hn hx
        obtain ⟨w, e1, e2⟩ := ih r.2 h hn hx.2
        refine ⟨w, ?_, e2⟩
        rw [List.lookup_cons]
        have : (n == m) = false := by simpa using hx.1
        rw [this]
        exact e1
theorem z_fld {n : Str} {tab : Nat → Option Nat} (hT : ∀ k j C, tab k = some j → M.G k = some C → XqC X.K C ∧ findIn X.K (.ref C) n = some none ∧ (M.nm k)[j]? = some n ∧ n ∉ (M.nm k).take j) (hz : Zc cls d oe) (hf : ∃ vs, oe.data = .fields vs)
    (he : PE (X.suite a ((a, oe) :: pn)) e (tVar i)) (hb : attributeBase e n X.env (eval e X.env) = eval e X.env := by rfl) : DIz M W (X.suite a ((a, oe) :: pn)) ⟨i, a, cls, d, x⟩ (.Attribute e n pos) (xFldT tab x) := by
  by_cases hc : ∃ j C, tab x.c = some j ∧ M.G x.c = some C
  · obtain ⟨j, C, h1, h2⟩ := hc
    obtain ⟨T, hno, hn, hnt⟩ := hT _ _ _ h1 h2
    refine ⟨_, pe_xf T.xf hno hz hf he hb, fun c F H σ δ Q z ok post => ?_⟩
    obtain ⟨z1, C', k1, k2, k3⟩ := z
    have eC : C' = C := Option.some.inj (k1.symm.trans h2)
    subst eC
    unfold xFldT at post
    rw [h1] at post
    unfold xFld at post
    simp only at post
    refine ⟨_, z1, rfl, k2, ?_⟩
    rcases k3 with k3 | ⟨dd, fs, e1, e2, e3, e4⟩
    · have k3 : x.vs = [] := k3
      rw [k3] at post
      exact post.elim
    · cases q : x.vs[j]? with
      | none => rw [q] at post; exact post.elim
      | some dv =>
        rw [q] at post
        have e3 : fs.map (·.1) = M.nm x.c := e3
        obtain ⟨v, l1, l2⟩ := reps_at e4 q (by rw [e3]; exact hn) (by rw [e3]; exact hnt)
        exact ⟨dd, fs, v, e1, ok.same _ _ e2, l1, post.ok ok l2⟩
  · refine ⟨_, pe_nev, fun c F H σ δ Q z ok post => ?_⟩
    obtain ⟨z1, C', k1, k2, k3⟩ := z
    unfold xFldT at post
    cases q : tab x.c with
    | none => rw [q] at post; exact post.elim
    | some j => exact (hc ⟨j, C', q, k1⟩).elim
theorem z_isi {tab : Nat → Option Bool} {v : V} {u : Value} (hT : ∀ k b C, tab k = some b → M.G k = some C → XqC X.K C ∧ kitOne X.K (.ref C) u = some b) (hz : Zc cls d oe) (hf : ∃ vs, oe.data = .fields vs) (hg : Gl (X.suite a ((a, oe) :: pn)) "isinstance") (hm : X.mg "isinstance" = none)
    (he : PE (X.suite a ((a, oe) :: pn)) e (tVar i)) (hc : PE (X.suite a ((a, oe) :: pn)) c1 (tC v)) (hv : ClsV v u)
    (hs : starEach [e, c1] X.env = (false, eval e X.env) :: starEach [c1] X.env := by rfl) (hs2 : starEach [c1] X.env = (false, eval c1 X.env) :: starEach [] X.env := by rfl) (hpl : (backTo pos (starEach [c1] X.env)).any (·.1) = false := by rfl) :
    DIz M W (X.suite a ((a, oe) :: pn)) ⟨i, a, cls, d, x⟩ (.Call (.Name "isinstance" p) [e, c1] [] pos) (xIs tab x) := by
  by_cases hcc : ∃ b C dd, tab x.c = some b ∧ M.G x.c = some C ∧ cls = .ref C ∧ d = some dd
  · obtain ⟨b, C, dd, h1, h2, h3, h4⟩ := hcc
    subst h3 h4
    obtain ⟨T, hk⟩ := hT _ _ _ h1 h2
    refine ⟨_, pe_callB (call_xis T hz hf) hg hm bt_isinstance (pa_cons he (pa_cons hc pa_nil hs2) hs) (by decide) (by decide) hs hpl, fun c F H σ δ Q z ok post => ?_⟩
    obtain ⟨z1, C', k1, k2, k3⟩ := z
    unfold xIs at post
    rw [h1] at post
    rcases k3 with k3 | ⟨dd', fs, e1, e2, e3, e4⟩
    · have k3 : x.vs = [] := k3
      rw [k3] at post
      exact post.elim
    · cases e1
      split at post
      · rename_i b' _ _ eb
        cases eb
        exact ⟨_, z1, ⟨fs, ok.same _ _ e2⟩, .inl ⟨v, u, b, rfl, hv, hk, post.ok ok (rep_bl' _)⟩⟩
      · exact post.elim
  · refine ⟨_, pe_nev, fun c F H σ δ Q z ok post => ?_⟩
    obtain ⟨z1, C', k1, k2, k3⟩ := z
    unfold xIs at post
    split at post
    · rename_i b _ e1 e2
      rcases k3 with k3 | ⟨dd', fs, y1, _⟩
      · have k3 : x.vs = [] := k3
        rw [k3] at e1; cases e1
      · exact (hcc ⟨_, C', dd', e2, k1, k2, y1⟩).elim
    · exact post.elim
theorem z_isiT {tab : Nat → Option Bool} {es : List Expr} {kt : Nat} {tp : Pos} {vs : List V} {us : List Value} {ct : TA} (hT : ∀ k b C, tab k = some b → M.G k = some C → XqC X.K C ∧ kitAny X.K (.ref C) us = some b) (hz : Zc cls d oe) (hf : ∃ vs, oe.data = .fields vs) (hg : Gl (X.suite a ((a, oe) :: pn)) "isinstance") (hm : X.mg "isinstance" = none)
    (he : PE (X.suite a ((a, oe) :: pn)) e (tVar i)) (hc : PA (X.suite a ((a, oe) :: pn)) es ct) (hct : ∀ σ H (Q : List V → Hp → Prop), Q vs H → ct σ H Q) (hv : Paired ClsV vs us) (hl : vs.length ≤ 100)
    (hs : starEach [e, .Tuple es kt tp] X.env = (false, eval e X.env) :: starEach [.Tuple es kt tp] X.env := by rfl) (hs2 : starEach [.Tuple es kt tp] X.env = (false, eval (.Tuple es kt tp) X.env) :: starEach [] X.env := by rfl) (hpl : (backTo pos (starEach [.Tuple es kt tp] X.env)).any (·.1) = false := by rfl) :
    DIz M W (X.suite a ((a, oe) :: pn)) ⟨i, a, cls, d, x⟩ (.Call (.Name "isinstance" p) [e, .Tuple es kt tp] [] pos) (xIs tab x) := by
  by_cases hcc : ∃ b C dd, tab x.c = some b ∧ M.G x.c = some C ∧ cls = .ref C ∧ d = some dd
  · obtain ⟨b, C, dd, h1, h2, h3, h4⟩ := hcc
    subst h3 h4
    obtain ⟨T, hk⟩ := hT _ _ _ h1 h2
    refine ⟨_, pe_callB (call_xis T hz hf) hg hm bt_isinstance (pa_cons he (pa_cons (pe_tup hc) pa_nil hs2) hs) (by decide) (by decide) hs hpl, fun c F H σ δ Q z ok post => ?_⟩
    obtain ⟨z1, C', k1, k2, k3⟩ := z
    unfold xIs at post
    rw [h1] at post
    rcases k3 with k3 | ⟨dd', fs, e1, e2, e3, e4⟩
    · have k3 : x.vs = [] := k3
      rw [k3] at post
      exact post.elim
    · cases e1
      split at post
      · rename_i b' _ _ eb
        cases eb
        refine ⟨_, z1, hct _ _ _ ⟨Nat.le_trans hl (by rw [sizeLine_eq]; decide), fun r hr => ?_⟩⟩
        have ok2 : Ok c F (upd H r (.tup vs)) σ δ := ok.alloc hr
        exact ⟨⟨fs, ok2.same _ _ e2⟩, .inr ⟨r, vs, us, b, rfl, upd_same, hv, hk, post.ok ok2 (rep_bl' _)⟩⟩
      · exact post.elim
  · refine ⟨_, pe_nev, fun c F H σ δ Q z ok post => ?_⟩
    obtain ⟨z1, C', k1, k2, k3⟩ := z
    unfold xIs at post
    split at post
    · rename_i b _ e1 e2
      rcases k3 with k3 | ⟨dd', fs, y1, _⟩
      · have k3 : x.vs = [] := k3
        rw [k3] at e1; cases e1
      · exact (hcc ⟨_, C', dd', e2, k1, k2, y1⟩).elim
    · exact post.elim
end
def PostZ (c : Cn M) (q : Cau) (F : Hp) (r : SR) (E : Ends) : Prop := match r with
  | .nx δ' => ∀ F' H' σ', Same F F' → Zx M q F' σ' → Ok c F' H' σ' δ' → E.nx σ' H'
  | .rt r δ' => ∀ v F' H' σ', Same F F' → Ok c F' H' σ' δ' → repR c F' H' σ' δ' r v → E.rt v H'
  | _ => False
abbrev WN : WX := fun _ _ _ _ => False
def DSz (M : Gm) (X : Cx) (q : Cau) (s : Stmt) (g : FS) : Prop := ∃ t, PS X s t ∧ ∀ (c : Cn M) F H σ δ E, Zx M q F σ → Ok c F H σ δ → PostZ c q F (g δ) E → t E σ H
def DSsz (M : Gm) (X : Cx) (q : Cau) (s : List Stmt) (g : FS) : Prop := ∃ t, PSs X s t ∧ ∀ (c : Cn M) F H σ δ E, Zx M q F σ → Ok c F H σ δ → PostZ c q F (g δ) E → t E σ H
section
variable {M : Gm} {c : Cn M} {X : Cx} {q : Cau} {F F1 H : Hp} {σ : L2.St} {δ : Sl}
theorem PostZ.shift {r : SR} {E : Ends} (h : PostZ c q F r E) (g : Same F F1) : PostZ c q F1 r E := by
  cases r with
  | nx δ' => exact fun F' H' σ' s => h F' H' σ' (g.trans s)
  | rt r δ' => exact fun v F' H' σ' s => h v F' H' σ' (g.trans s)
  | bk δ' => exact h
  | ct δ' => exact h
  | exc x δ' => exact h
  | bad => exact h
theorem zs_one {s : Stmt} {f : FS} (h : DSz M X q s f) : DSsz M X q [s] f := let ⟨t, p, h⟩ := h; ⟨t, pss_one p, h⟩
theorem zs_cons {s : Stmt} {ss : List Stmt} {f g : FS} (h : DSz M X q s f) (h' : DSsz M X q ss g) : DSsz M X q (s :: ss) (sSeq f g) := by
  obtain ⟨t, p, h⟩ := h
  obtain ⟨t', p', h'⟩ := h'
  refine ⟨_, pss_cons p p', fun c F H σ δ E z ok post => h c F H σ δ _ z ok ?_⟩
  unfold sSeq at post
  cases k : f δ with
  | nx δ1 => rw [k] at post; exact fun F' H' σ' s z' ok' => h' c F' H' σ' δ1 E z' ok' (PostZ.shift (show PostZ c q F (g δ1) E from post) s)
  | rt r δ1 => rw [k] at post; exact post
  | bk δ1 => rw [k] at post; exact post
  | ct δ1 => rw [k] at post; exact post
  | exc x δ1 => rw [k] at post; exact post
  | bad => rw [k] at post; exact post
theorem z_set {j : Nat} {x : Str} {e : Expr} {pos pos' : Pos} {f : FE} (hj : j ≠ q.i) (hN : X.N.Nodup) (hi : X.N[j]? = some x) (hx : Loc X.env.scope x) (he : DEz M WN X q e f) (hs : swapsWith e (some (.Name x pos')) pos.line X.env = pure false := by rfl) (hf : X.fn x = true ∨ X.env.scope.names.lookup x = some .local := by first | exact .inl rfl | exact .inr rfl | assumption) :
    DSz M X q (.Assign [.Name x pos'] e pos) (sAsg f (tName j)) := by
  obtain ⟨t, p, he⟩ := he
  refine ⟨_, ps_set hN hi hx p hs hf, fun c F H σ δ E z ok post => he c F H σ δ _ z ok ?_⟩
  unfold sAsg at post
  cases k : f δ with
  | bad => rw [k] at post; exact post
  | exc y δ1 => rw [k] at post; exact post.elim
  | ok r δ1 =>
    rw [k] at post
    have post : PostZ c q F (tName j r δ1) E := post
    intro v F' H' s ok' rr
    have z' : Zx M q F' (σ.set j (some v)) := by
      refine ⟨?_, (z.mono s).2⟩
      rw [List.getElem?_set_ne hj]; exact z.1
    unfold tName at post
    cases r with
    | imm d => exact post F' H' _ s z' (ok'.setI j rr)
    | own o => exact post F' H' _ s z' (ok'.setO j rr)
    | brw o => exact post.elim
end
def wAsL (K : PySem.W.Frag) (i : Nat) (Wout : WX) (D : Ends) : List (Value × (Addr → Value → Option Addr → TS)) → WX
  | [] => Wout
  | (c, ts) :: r => fun cls d σ H => ∃ b, exmOne K cls c = some b ∧ (b = true → ∀ a, H a = none → ts a cls d { nx := fun σ' H' => D.nx (σ'.set i none) H', rt := D.rt, bk := fun σ' H' => D.bk (σ'.set i none) H', ct := fun σ' H' => D.ct (σ'.set i none) H' } (σ.set i (some (.ref a))) H) ∧ (b = false → wAsL K i Wout D r cls d σ H)
inductive HdsA (X : Cx) (n : Str) : List ExceptHandler → List (Value × (Addr → Value → Option Addr → TS)) → Prop
  | nil : HdsA X n [] []
  | cons {x : Str} {c : Value} {ts : Addr → Value → Option Addr → TS} {b₀ : Stmt} {suite : List Stmt} {np pos' : Pos} {hds : List ExceptHandler} {l : List (Value × (Addr → Value → Option Addr → TS))} (hc : Names X x c)
      (hsu : ∀ (a : Addr) (oe : Obj) (cls : Value) (d : Option Addr) (pn : List (Addr × Obj)), Zc cls d oe → (∃ vs, oe.data = .fields vs) → PSs (X.suite a ((a, oe) :: pn)) (b₀ :: suite) (ts a cls d)) (r : HdsA X n hds l) :
      HdsA X n (.ExceptHandler (some (.Name x np)) (some n) (b₀ :: suite) pos' :: hds) ((c, ts) :: l)
section
variable {X : Cx} {n : Str} {i : Nat} {body : List Stmt} {h₀ : ExceptHandler} {hds : List ExceptHandler} {l : List (Value × (Addr → Value → Option Addr → TS))} {pos : Pos} {tb : WX → TS} {Wout : WX}
theorem ps_try_asL (hs : X.stack = X.env :: X.outer) (hf : X.env.frame = some X.env.locals) (hN : X.N.Nodup) (hi : X.N[i]? = some n) (hln : X.env.kindOf n = some .local) (tk : Takes X Wout)
    (hb : ∀ (W : WX) (pn : List (Addr × Obj)) (xe : Value → Shared → Prop), Takes (X.tr pn xe) W → PassesOwn (model X.prog X.w) X.A X.env xe → PSs (X.tr pn xe) body (tb W))
    (hh : HdsA X n (h₀ :: hds) l) : PS X (.Try body (h₀ :: hds) [] [] pos) (fun D σ H => tb (wAsL X.K i Wout D l) D σ H) := by
  refine ⟨fun pins s σ H D I h => ?_⟩
  have ok := I.ok
  have hloc : Loc X.env.scope n := .inl hln
  have hfr : X.A.frames = some (X.env :: X.outer) := by rw [ok.frames, hs]
  refine wpAny_Try_except (wpAny_mono ((hb (wAsL X.K i Wout D l) (X.pn ++ pins) (fun e s1 => wpAny (model X.prog X.w) X.A (noteFrame e X.env) (fun _ s2 => wpAny (model X.prog X.w) X.A (setFlight e none) (fun _ s3 =>
    wpAny (model X.prog X.w) X.A (handleBy e X.env (h₀ :: hds)) (SP X pins D) X.xe s3) X.xe s2) X.xe s1) (fun u s' xx => ?_) PassesOwn.looking).run [] s σ H D (I.toTry _) h) (fun f s1 hsp => ?_) (fun e s1 he => he))
  · obtain ⟨a, B, sI, pins', σ', H', cls, d, rfl, J', nb, up, sky, na, os, ag, w⟩ := xx
    have J : Inv X pins σ' H' sI := J'.ofTry ok
    have sky' : Sky B (X.env :: X.outer) a (Zc cls d) X.env.locals s'.heap := by rw [← hs]; exact sky
    show wpAny (model X.prog X.w) X.A (noteFrame (.ref a) X.env) _ _ _
    refine Sky.land Zc.steady hfr hf sky' fun h3 fl3 up3 => ?_
    have J3 : Inv X pins σ' H' { s' with heap := h3 } := J.landed nb fl3.1 (up.trans up3) os ag
    obtain ⟨oe3, vs3, he3, hz3, hd3⟩ := fl3.there
    have nfr : a ∉ frs (X.env :: X.outer) := fun hm => by
      obtain ⟨_, o', e', hnf⟩ := fl3.2.2.1.mem hm
      rw [he3] at e'
      cases e'
      exact hnf _ hd3
    have nL : a ≠ X.env.locals := fun z => nfr (List.mem_filterMap.mpr ⟨X.env, List.mem_cons_self, by rw [hf, z]⟩)
    have nF : a ∉ X.fs := fun hm => by
      obtain ⟨e, he, k⟩ := List.mem_filterMap.mp hm
      exact nfr (List.mem_filterMap.mpr ⟨e, List.mem_cons_of_mem _ he, k⟩)
    have S3 := J3.suite he3 hd3 na nL nF
    have go : ∀ {hds' : List ExceptHandler} {l' : List (Value × (Addr → Value → Option Addr → TS))}, HdsA X n hds' l' → wAsL X.K i Wout D l' cls d σ' H' →
        wpAny (model X.prog X.w) X.A (handleBy (.ref a) X.env hds') (SP X pins D) X.xe { s' with heap := h3 } := by
      intro hds' l' hk
      induction hk with
      | nil =>
        intro w
        refine wpAny_handleBy_nil ?_
        obtain ⟨k1, k2, k3, oe, vs, T, oT, ts', he, hz, hd, h1, hr⟩ := id fl3
        unfold PySem.passOn
        refine wpAny_bind (wpAny_field he hd h1 ?_)
        rw [if_neg (show ¬ ((Value.ref T == Value.none) = true) from by simp)]
        have fin : wpAny (model X.prog X.w) X.A (setFlight (.ref a) X.env.frame) (fun _ s4 => wpAny (model X.prog X.w) X.A (throw (.ref a) : Sem Flow) (SP X pins D) X.xe s4) X.xe { s' with heap := h3 } := by
          rw [hf]
          refine HandSPX.setFlight_upZ fl3 fun h4 hh4 up4 => wpAny_throw (tk _ _ ?_)
          exact ⟨a, B, sI, pins, σ', H', cls, d, rfl, J, nb, (up.trans up3).trans up4, .inr (.inr (by rw [hs]; exact hh4)), na, os, ag, w⟩
        first
          | exact wpAny_bind (wpAny_pure (wpAny_bind fin))
          | exact wpAny_bind fin
      | @cons x c ts b₀ suite np pos' hds2 l2 hc hsu r ih =>
        intro w
        obtain ⟨b, hb1, hyes, hno⟩ := w
        refine wpAny_handleBy_cons (codeAny_handlers_test ?_) (by intro k; cases k)
        have LT : Looks (model X.prog X.w) h3 (typeOf (.ref a)) cls := fun A Q E s k q => wpAny_typeOf_ref (k _ _ he3) (by rw [hz3.1]; exact q)
        have LM := exm_one (M := model X.prog X.w) (J3.kIn) LT hb1
        have test : ∀ {Q : Value → Shared → Prop} {E : Value → Shared → Prop}, Q c { s' with heap := h3 } → wpAny (model X.prog X.w) (X.A.mark (some (.ref a))) (eval (.Name x np) X.env) Q E { s' with heap := h3 } := fun {Q E} k => by
          obtain ⟨hg, hdbg, hm | ⟨hm, hv, hnn⟩⟩ := hc
          · exact ld_glob (X := X.suite a ((a, oe3) :: (X.pn ++ pins))) S3 hg hm k hdbg
          · exact ld_blt (X := X.suite a ((a, oe3) :: (X.pn ++ pins))) S3 hg hm hv k hnn hdbg
        refine test (LM.here ?_)
        cases b with
        | true =>
          refine codeAny_handlers_suite_as ?_
          refine HandSPX.lands_againZ fl3 fun h4 fl4 up4 => ?_
          have J4 : Inv X pins σ' H' { s' with heap := h4 } := J.landed nb fl4.1 ((up.trans up3).trans up4) os ag
          obtain ⟨oe4, vs4, he4, hz4, hd4⟩ := fl4.there
          have S4 := J4.suite he4 hd4 na nL nF
          refine store_ok (X := X.suite a ((a, oe4) :: (X.pn ++ pins))) (v := .ref a) S4 hN hi hloc rfl (fun s5 S5 => ?_) (.inr hln)
          refine wpAny_mono ((hsu a oe4 cls d (X.pn ++ pins) hz4 ⟨_, hd4⟩).run [] s5 _ H' _ S5 (hyes rfl a na)) (fun f s6 hsp => ?_) (fun _ _ z => False.elim z)
          have end_ : ∀ {σ6 : L2.St} {H6 : Hp} {Q : Shared → Prop}, Inv (X.suite a ((a, oe4) :: (X.pn ++ pins))) [] σ6 H6 s6 → (∀ s7, Inv X pins (σ6.set i none) H6 s7 → Q s7) →
              wpAny (model X.prog X.w) X.A (do bindName X.env n .none; unbindBehindTheSuite X.env n pos') (fun _ s7 => Q s7) X.xe s6 := fun {σ6 H6 Q} S6 hq => gone_ok (S6.unsuite ok) hN hi hln hq
          cases f with
          | next => obtain ⟨σ6, H6, S6, q6⟩ := hsp; exact end_ S6 fun s7 J7 => ⟨_, _, J7, q6⟩
          | brk => obtain ⟨σ6, H6, S6, q6⟩ := hsp; exact end_ S6 fun s7 J7 => ⟨_, _, J7, q6⟩
          | cont => obtain ⟨σ6, H6, S6, q6⟩ := hsp; exact end_ S6 fun s7 J7 => ⟨_, _, J7, q6⟩
          | ret u => obtain ⟨v6, σ6, H6, S6, r6, q6⟩ := hsp; exact end_ S6 fun s7 J7 => ⟨_, _, _, J7, r6, q6⟩
        | false =>
          show wpAny _ X.A (handleBy (.ref a) X.env hds2) _ _ _
          exact ih (hno rfl)
    exact go hh w
  · cases f with
    | next => obtain ⟨σ', H', J', k⟩ := hsp; exact wpAny_execs_nil ⟨σ', H', J'.ofTry ok, k⟩
    | brk => obtain ⟨σ', H', J', k⟩ := hsp; exact ⟨σ', H', J'.ofTry ok, k⟩
    | cont => obtain ⟨σ', H', J', k⟩ := hsp; exact ⟨σ', H', J'.ofTry ok, k⟩
    | ret u => obtain ⟨v, σ', H', J', r, k⟩ := hsp; exact ⟨v, σ', H', J'.ofTry ok, r, k⟩
end
def sTry (i : Nat) (gb : FS) (hs : XD → Option FS) : FS := fun δ => match gb δ with
  | .exc x δ1 => (match hs x with
    | some g => if i < δ1.length then (match g (δ1.set i none) with
      | .nx δ2 => .nx (δ2.set i none)
      | .rt r δ2 => .rt r δ2
      | _ => .bad) else .bad
    | none => .exc x δ1)
  | r => r
section
variable {M : Gm} {c : Cn M} {X : Cx} {q : Cau} {F H : Hp} {σ : L2.St} {δ : Sl}
theorem Ok.put (ok : Ok c F H σ δ) (i : Nat) (o : Option V) : Ok c F H (σ.set i o) (δ.set i none) where
  same := ok.same
  grow := ok.grow
  nofz := ok.nofz
  kept := ok.kept
  ioh := ok.ioh
  tb := ok.tb
  len := by simp [ok.len]
  slot := fun j r e => by
    rcases getElem?_set_some e with ⟨rfl, e1, _⟩ | ⟨hn, e1⟩
    · cases e1
    · rw [List.getElem?_set_ne hn]; exact ok.slot j r e1
  dist := fun j k r1 r2 w hjk e1 e2 m1 m2 s1 s2 => by
    rcases getElem?_set_some e1 with ⟨rfl, z, _⟩ | ⟨hn, q1⟩
    · cases z
    · rcases getElem?_set_some e2 with ⟨rfl, z, _⟩ | ⟨hn2, q2⟩
      · cases z
      · rw [List.getElem?_set_ne hn] at s1
        rw [List.getElem?_set_ne hn2] at s2
        exact ok.dist j k r1 r2 w hjk q1 q2 m1 m2 s1 s2
def hNil : XD → Option FS := fun _ => none
def hCons (tab : Nat → Option Bool) (g : XD → FS) (hs : XD → Option FS) : XD → Option FS := fun y => match tab y.c with
  | some true => some (g y)
  | some false => hs y
  | none => some fun _ => .bad
inductive ClA (M : Gm) (X : Cx) (n : Str) (i : Nat) : List ExceptHandler → (XD → Option FS) → Prop
  | nil : ClA M X n i [] hNil
  | cons {x : Str} {C0 : Value} {tab : Nat → Option Bool} {g : XD → FS} {b₀ : Stmt} {suite : List Stmt} {np pos' : Pos} {hds : List ExceptHandler} {hs : XD → Option FS} (hc : Names X x C0) (hT : ∀ k b C, tab k = some b → M.G k = some C → exmOne X.K (.ref C) C0 = some b)
      (hsu : ∀ (a : Addr) (oe : Obj) (cls : Value) (d : Option Addr) (pn : List (Addr × Obj)) (y : XD), Zc cls d oe → (∃ vs, oe.data = .fields vs) → DSsz M (X.suite a ((a, oe) :: pn)) ⟨i, a, cls, d, y⟩ (b₀ :: suite) (g y)) (r : ClA M X n i hds hs) :
      ClA M X n i (.ExceptHandler (some (.Name x np)) (some n) (b₀ :: suite) pos' :: hds) (hCons tab g hs)
theorem clA_ok {n : Str} {i : Nat} {hds : List ExceptHandler} {hs : XD → Option FS} (h : ClA M X n i hds hs) : ∃ l, HdsA X n hds l ∧ ∀ (c : Cn M) (Wout : WX) (D : Ends) (x : XD) (δ1 : Sl) (cls : Value) (d : Option Addr) (F H : Hp) (σ : L2.St), Ok c F H σ δ1 → xAt M F x cls d H →
    (match hs x with
      | some g => i < δ1.length ∧ PostS c Wout F (match g (δ1.set i none) with | .nx δ2 => .nx (δ2.set i none) | .rt r δ2 => .rt r δ2 | _ => .bad) D
      | none => Wout cls d σ H) → wAsL X.K i Wout D l cls d σ H := by
  induction h with
  | nil => exact ⟨[], .nil, fun c Wout D x δ1 cls d F H σ ok xa k => k⟩
  | @cons x C0 tab g b₀ suite np pos' hds hs hc hT hsu r ih =>
    obtain ⟨l, hl, ih⟩ := ih
    refine ⟨(C0, fun a cls d D σ H => ∃ y, ∀ oe pn (hz : Zc cls d oe) (hf : ∃ vs, oe.data = .fields vs), (hsu a oe cls d pn y hz hf).choose D σ H) :: l, .cons hc (fun a oe cls d pn hz hf => ⟨fun pins s σ H D I h => ?_⟩) hl, fun c Wout D y δ1 cls d F H σ ok xa k => ?_⟩
    · obtain ⟨y, h⟩ := h
      exact (hsu a oe cls d pn y hz hf).choose_spec.1.run pins s σ H D I (h oe pn hz hf)
    · obtain ⟨C, e1, e2, e3⟩ := id xa
      unfold hCons at k
      cases q : tab y.c with
      | none =>
        rw [q] at k
        exact k.2.elim
      | some b =>
        refine ⟨b, by rw [e2]; exact hT _ _ _ q e1, fun hb a ha => ⟨y, fun oe pn hz hf => ?_⟩, fun hb => ?_⟩
        · subst hb
          rw [q] at k
          obtain ⟨hi, k⟩ := k
          refine (hsu a oe cls d pn y hz hf).choose_spec.2 c F H _ (δ1.set i none) _ ⟨?_, xAt_mono (Same.refl _) xa⟩ (ok.put i _) ?_
          · show (σ.set i _)[i]? = _
            rw [List.getElem?_set_self (by rw [ok.len]; exact hi)]
          · cases w : g y (δ1.set i none) with
            | nx δ2 => rw [w] at k; exact fun F' H' σ' s z' ok' => k F' H' _ s (ok'.put i none)
            | rt r δ2 => rw [w] at k; exact fun v F' H' σ' s ok' rr => k v F' H' σ' s ok' rr
            | bk δ2 => rw [w] at k; exact k
            | ct δ2 => rw [w] at k; exact k
            | exc z δ2 => rw [w] at k; exact k
            | bad => rw [w] at k; exact k
        · subst hb
          rw [q] at k
          exact ih c Wout D y δ1 cls d F H σ ok xa k
theorem ds_try {W : WX} {n : Str} {i : Nat} {body : List Stmt} {h₀ : ExceptHandler} {hds : List ExceptHandler} {pos : Pos} {gb : FS} {hs : XD → Option FS} (hst : X.stack = X.env :: X.outer) (hf : X.env.frame = some X.env.locals) (hN : X.N.Nodup) (hi : X.N[i]? = some n) (hln : X.env.kindOf n = some .local) (tk : Takes X W)
    (hb : ∀ (W : WX) (pn : List (Addr × Obj)) (xe : Value → Shared → Prop), Takes (X.tr pn xe) W → PassesOwn (model X.prog X.w) X.A X.env xe → DSs M W (X.tr pn xe) body gb) (hh : ClA M X n i (h₀ :: hds) hs) : DS M W X (.Try body (h₀ :: hds) [] [] pos) (sTry i gb hs) := by
  obtain ⟨l, hl, key⟩ := clA_ok hh
  refine ⟨_, ps_try_asL (tb := fun W D σ H => ∀ pn xe (h1 : Takes (X.tr pn xe) W) (h2 : PassesOwn (model X.prog X.w) X.A X.env xe), (hb W pn xe h1 h2).choose D σ H) hst hf hN hi hln tk (fun W pn xe h1 h2 => ⟨fun pins s σ H D I h => ?_⟩) hl, fun c F H σ δ E ok post pn xe h1 h2 => ?_⟩
  · exact (hb W pn xe h1 h2).choose_spec.1.run pins s σ H D I (h pn xe h1 h2)
  · refine (hb _ pn xe h1 h2).choose_spec.2 c F H σ δ E ok ?_
    unfold sTry at post
    cases w : gb δ with
    | nx δ1 => rw [w] at post; exact post
    | rt r δ1 => rw [w] at post; exact post
    | bk δ1 => rw [w] at post; exact post
    | ct δ1 => rw [w] at post; exact post
    | bad => rw [w] at post; exact post
    | exc x δ1 =>
      rw [w] at post
      intro cls d F' H' σ' s ok' xa
      refine key c W E x δ1 cls d F' H' σ' ok' xa ?_
      have post : PostS c W F (match hs x with | some g => if i < δ1.length then (match g (δ1.set i none) with | .nx δ2 => .nx (δ2.set i none) | .rt r δ2 => .rt r δ2 | _ => .bad) else .bad | none => .exc x δ1) E := post
      cases v : hs x with
      | none => rw [v] at post; exact post cls d F' H' σ' s ok' xa
      | some g =>
        rw [v] at post
        by_cases hil : i < δ1.length
        · simp only [if_pos hil] at post
          exact ⟨hil, PostS.shift post s⟩
        · simp only [if_neg hil] at post
          exact post.elim
end
end
end TS

set_option maxRecDepth 100000
set_option maxHeartbeats 4000000
namespace TS
open PySem L2 PySem.W
noncomputable section
section
variable {K : PySem.W.Frag}
theorem exc_ok {x : Str} {B : String} (hB : Bas B) (c : (Fx.exc x B).ok K = true) : OxC K (He.ga K x) ∧ XqC K (He.ga K x) ∧ findIn K (.ref (He.ga K x)) "__init__" = some (some (.ref (He.ma K (He.ga K x) "__init__"))) ∧ typeIn K (.ref (He.ma K (He.ga K x) "__init__")) = some (.type "function") := by
  obtain ⟨c1, c⟩ := He.ba c
  obtain ⟨c2, c⟩ := He.ba c
  obtain ⟨c3, c⟩ := He.ba c
  obtain ⟨c4, c⟩ := He.ba c
  obtain ⟨c5, c⟩ := He.ba c
  obtain ⟨c6, c⟩ := He.ba c
  obtain ⟨c7, c⟩ := He.ba c
  obtain ⟨c8, c⟩ := He.ba c
  obtain ⟨c9, c⟩ := He.ba c
  obtain ⟨c10, c⟩ := He.ba c
  obtain ⟨c11, c⟩ := He.ba c
  obtain ⟨c12, c⟩ := He.ba c
  obtain ⟨c13, c⟩ := He.ba c
  obtain ⟨c14, c15⟩ := He.ba c
  obtain ⟨cd, k1, k2⟩ := any_some c3
  exact ⟨⟨⟨B, hB, c1, c2⟩, ⟨cd, k1, k2⟩, He.eqO_ok c4, of_decide_eq_true c5, of_decide_eq_true c6, c7⟩,
    ⟨⟨He.eqO_ok c10, He.eqO_ok c11, of_decide_eq_true c5, c3⟩, by rw [k1]; rfl, He.eqO_ok c12, He.eqO_ok c13, of_decide_eq_true c14, of_decide_eq_true c15⟩, He.eqO_ok c8, of_decide_eq_true c9⟩
theorem exm_ok {x y : Str} {b : Bool} (c : (Fx.exm x y b).ok K = true) : exmOne K (.ref (He.ga K x)) (.ref (He.ga K y)) = some b := of_decide_eq_true c
end
theorem kb_ix0 {K : PySem.W.Frag} {x qual : Str} {params : Arguments} {body : List Stmt} {scope : Scope} {kws : List (Str × V)} {f : Addr} {fd : FuncData} {ps ks : List Str} {n : Nat} {ix : List Nat} (Fd : FunD K x qual params body scope [] kws f fd)
    (h : ∀ (kV doc pm : Value) (an : Option Addr) (cdv ct : Value) (us ws : List Value), us.length = n → ws.length = ks.length → bindArgs (PySem.W.fnOf x qual params body scope .none kV doc pm an cdv ct) ⟨us, ks.zip ws⟩ = pure (ps.zip (pick n ix .none us ws))) : KBn K fd ps n ks (pick n ix .none) (pick n ix .non) := by
  obtain ⟨oc, od, dV, kV, doc, pm, an, cdv, ct, osl, rfl, lk, hcd, hD, hK⟩ := Fd.ex
  rcases hD with ⟨_, rfl⟩ | ⟨e, _⟩
  · exact ⟨fun s us ws _ l1 l2 => .of_eq (h kV doc pm an cdv ct us ws l1 l2), fun r rz => r.append (vals_ix rz ix)⟩
  · exact absurd rfl e
end
end TS

set_option maxRecDepth 100000
set_option maxHeartbeats 4000000
namespace TS
open PySem PySem.Spec PyProof.Rows L2
noncomputable section
def fLenSet (f : FD) : FD := fun δ => (f δ).bind fun d δ => match d with
  | .lst ds => (match intsD ds with
    | some ns => if ns.length ≤ 4000 then .ok (.int (ns.eraseDups.length : Nat)) δ else .bad
    | none => .bad)
  | _ => .bad
end
end TS

set_option maxRecDepth 100000
set_option maxHeartbeats 4000000
namespace TS
open PySem L2
noncomputable section
abbrev FX := Sl → Res (List R)
def fxNil : FX := fun δ => .ok [] δ
def fxCons (f : FE) (g : FX) : FX := fun δ => (f δ).bind fun r δ1 => match r with
  | .brw _ => .bad
  | r => (g δ1).bind fun rs δ2 => .ok (r :: rs) δ2
def repXs {M : Gm} (c : Cn M) (F H : Hp) (σ : St) (δ : Sl) : List R → List V → Prop
  | [], vs => vs = []
  | r :: rs, vs => ∃ v ws, vs = v :: ws ∧ repR c F H σ δ r v ∧ repXs c F H σ δ rs ws ∧ (r.mu = true → ∀ (i : Nat) (r' : R), rs[i]? = some r' → r'.mu = true → ws[i]? ≠ some v)
def DX (M : Gm) (W : WX) (X : Cx) (es : List Expr) (f : FX) : Prop := ∃ t, PA X es t ∧ ∀ (c : Cn M) F H σ δ Q, Ok c F H σ δ → Post c W F σ (fun F H δ rs vs => repXs c F H σ δ rs vs) (f δ) Q → t σ H Q
section
variable {M : Gm} {c : Cn M} {W : WX} {X : Cx} {F H : Hp} {σ : St} {δ : Sl}
theorem dx_nil : DX M W X [] fxNil := ⟨_, pa_nil, fun c F H σ δ Q ok post => post.ok ok rfl⟩
theorem repXs_unguard {a : Addr} {u : HO} {hn : NT u} (h0 : c.H0 a = none) : ∀ {rs : List R} {vs : List V}, repXs (c.guard a u hn) F H σ δ rs vs → repXs c F H σ δ rs vs ∧ ∀ (i : Nat) (r' : R), rs[i]? = some r' → r'.mu = true → vs[i]? ≠ some (V.ref a)
  | [], vs, h => ⟨h, fun i r' e => by simp at e⟩
  | r :: rs, vs, h => by
    obtain ⟨v, ws, rfl, h1, h2, h3⟩ := h
    obtain ⟨k1, k2⟩ := repXs_unguard h0 h2
    have hr : repR c F H σ δ r v ∧ (r.mu = true → v ≠ V.ref a) := by
      cases r with
      | imm d => exact ⟨h1, fun z => by cases z⟩
      | brw o => exact h1.elim
      | own o =>
        obtain ⟨b, rfl, l1, l2, l3, l4⟩ := h1
        have hba : b ≠ a := fun z => by
          have : (c.guard a u hn).H0 a = some u := if_pos rfl
          rw [z, this] at l2; cases l2
        have l2' : c.H0 b = none := by
          have : (c.guard a u hn).H0 b = c.H0 b := if_neg hba
          rw [← this]; exact l2
        exact ⟨⟨b, rfl, l1, l2', l3, l4⟩, fun _ z => by cases z; exact hba rfl⟩
    refine ⟨⟨v, ws, rfl, hr.1, k1, h3⟩, fun i r' e m => ?_⟩
    cases i with
    | zero =>
      simp at e
      subst e
      intro z
      simp at z
      exact hr.2 m z
    | succ i => exact k2 i r' (by simpa using e) m
theorem dx_cons {a : Expr} {es : List Expr} {f : FE} {g : FX} (ha : DE M W X a f) (hb : DX M W X es g) (h1 : starEach (a :: es) X.env = (false, eval a X.env) :: starEach es X.env := by rfl) : DX M W X (a :: es) (fxCons f g) := by
  obtain ⟨t, p, ha⟩ := ha
  obtain ⟨t', p', hb⟩ := hb
  refine ⟨_, pa_cons p p' h1, fun c F H σ δ Q ok post => ha c F H σ δ _ ok (Post.bind post fun r δ1 v F1 H1 _ s1 ok1 rr post => ?_)⟩
  cases r with
  | brw o => exact post.elim
  | imm d =>
    refine hb c F1 H1 σ δ1 _ ok1 (Post.bind post fun rs δ2 ws F2 H2 _ s2 ok2 rr' post => ?_)
    exact post.ok ok2 ⟨v, ws, rfl, rep_mono s2 _ _ rr, rr', fun z => by cases z⟩
  | own o =>
    obtain ⟨a, rfl, k1, k2, k3, k4⟩ := rr
    obtain ⟨u, hu, hn⟩ := obAt_nt k3
    have okg := ok1.guard k1 k2 hu hn k4
    have f0 : c.F0 a = none := by
      cases z : c.F0 a with
      | none => rfl
      | some q => rw [ok1.grow a q z] at k1; cases k1
    have un : ∀ {F2 H2 : Hp} {δ2 : Sl}, Same F1 F2 → Ok (c.guard a u hn) F2 H2 σ δ2 → Ok c F2 H2 σ δ2 ∧ repR c F2 H2 σ δ2 (.own o) (.ref a) := fun {F2 H2 δ2} g ok2 => by
      obtain ⟨q1, q2, q3, q4⟩ := ok2.unguard k2
      exact ⟨q1, a, rfl, q2 f0, k2, obAt_mono g (q3.trans hu.symm) k3, q4⟩
    refine hb (c.guard a u hn) F1 H1 σ δ1 _ okg ?_
    cases q : g δ1 with
    | bad => simp only [q] at post; exact post
    | exc x δ2 => simp only [q] at post; exact fun cls d F2 H2 g ok2 xa => post cls d F2 H2 g (un g ok2).1 xa
    | ok rs δ2 =>
      simp only [q] at post
      intro ws F2 H2 s2 ok2 rr'
      obtain ⟨ok3, ro⟩ := un s2 ok2
      obtain ⟨l1, l2⟩ := repXs_unguard k2 rr'
      exact post _ F2 H2 s2 ok3 ⟨_, ws, rfl, ro, l1, fun _ => l2⟩
theorem Ok.setR (ok : Ok c F H σ δ) {r : R} {v : V} (i : Nat) (h : repR c F H σ δ r v) : Ok c F H (σ.set i (some v)) (δ.set i (some r)) := by
  cases r with
  | imm d => exact ok.setI i h
  | own o => exact ok.setO i h
  | brw o => exact h.elim
theorem repR_setR {r r' : R} {v w : V} {i : Nat} (hl : i < σ.length) (h : repR c F H σ δ r' w) (hd : r.mu = true → r'.mu = true → w ≠ v) : repR c F H (σ.set i (some v)) (δ.set i (some r)) r' w := by
  cases r' with
  | imm d' => exact h
  | brw o => exact h
  | own o =>
    obtain ⟨a, rfl, h1, h2, h3, h4⟩ := h
    refine ⟨a, rfl, h1, h2, h3, fun k r0 e m => ?_⟩
    rcases getElem?_set_some e with ⟨rfl, z, _⟩ | ⟨hn, e⟩
    · cases z
      rw [List.getElem?_set_self hl]
      intro q
      exact hd m rfl (Option.some.inj (Option.some.inj q)).symm
    · rw [List.getElem?_set_ne hn]; exact h4 k r0 e m
def sPar3E (i j l : Nat) (f : FX) : FS := fun δ => (f δ).bindS fun rs δ1 => match rs with
  | [a, b, c] => if i < δ1.length ∧ j < δ1.length then .nx (((δ1.set i (some a)).set j (some b)).set l (some c)) else .bad
  | _ => .bad
theorem ds_par3E {i j l : Nat} {x y z : Str} {a b c : Expr} {fa : FX} {px py pz pt pos : Pos} {kt k2 pt2} (hc : X.calm = true) (hN : X.N.Nodup) (hi : X.N[i]? = some x) (hj : X.N[j]? = some y) (hl : X.N[l]? = some z) (hij : i ≠ j) (hil : i ≠ l) (hjl : j ≠ l)
    (hx : X.env.scope.names.lookup x = some .local) (hy : X.env.scope.names.lookup y = some .local) (hz : X.env.scope.names.lookup z = some .local) (ha : DX M W X [a, b, c] fa)
    (hw : swappedStores [.Tuple [.Name x px, .Name y py, .Name z pz] kt pt] (.Tuple [a, b, c] k2 pt2) X.env = pure (some [x, y, z]))
    (hs : swapsWithSole [.Tuple [.Name x px, .Name y py, .Name z pz] kt pt] (.Tuple [a, b, c] k2 pt2) pos.line X.env = pure false := by rfl) :
    DS M W X (.Assign [.Tuple [.Name x px, .Name y py, .Name z pz] kt pt] (.Tuple [a, b, c] k2 pt2) pos) (sPar3E i j l fa) := by
  obtain ⟨t, p, h⟩ := ha
  refine ⟨_, ps_par3 hc hN hi hj hl hij hil hjl hx hy hz p hw hs, fun c F H σ δ E ok post => h c F H σ δ _ ok (PostS.ofE post fun rs δ1 vs F1 H1 _ s1 ok1 rr post => ?_)⟩
  split at post
  · rename_i r1 r2 r3 _
    split at post
    · rename_i hlen
      obtain ⟨u, ws, rfl, k1, rr, d1⟩ := rr
      obtain ⟨v, ws, rfl, k2, rr, d2⟩ := rr
      obtain ⟨w, ws, rfl, k3, rr, _⟩ := rr
      obtain rfl : ws = [] := rr
      have li : i < σ.length := by rw [ok1.len]; exact hlen.1
      have lj : j < σ.length := by rw [ok1.len]; exact hlen.2
      have e12 : r1.mu = true → r2.mu = true → v ≠ u := fun m1 m2 z => d1 m1 0 r2 rfl m2 (by rw [z]; rfl)
      have e13 : r1.mu = true → r3.mu = true → w ≠ u := fun m1 m2 z => d1 m1 1 r3 rfl m2 (by rw [z]; rfl)
      have e23 : r2.mu = true → r3.mu = true → w ≠ v := fun m1 m2 z => d2 m1 0 r3 rfl m2 (by rw [z]; rfl)
      exact ⟨u, v, w, rfl, post F1 H1 _ (Same.refl _) (((ok1.setR i k1).setR j (repR_setR li k2 e12)).setR l (repR_setR (by simpa using lj) (repR_setR li k3 e13) e23))⟩
    · exact post.elim
  · exact post.elim
end
end
end TS

set_option maxRecDepth 100000
set_option maxHeartbeats 4000000
namespace TS
open PySem PySem.Spec PyProof.Rows L2
noncomputable section
section
variable {X : Cx} {pins : List (Addr × Obj)} {σ : L2.St} {H : Hp} {s : Shared} {a b : Addr} {u r : Value} {d : V} {k : List Key} {A : Around} {E : Value → Shared → Prop}
end
end
end TS
namespace TS
open PySem L2
noncomputable section
inductive Pth where
  | self | fld (j : Nat) | row (j e : Nat)
deriving DecidableEq
inductive NF where
  | d (d : D) | dk (ks : List Key) (ds : List D) | rk (L : List (Key × List D)) | rt (L : List (List Key × List D))
def NF.toD : NF → D
  | .d x => x
  | .dk ks ds => .dK ks ds
  | .rk L => .dK (L.map (·.1)) (L.map fun x => .lst x.2)
  | .rt L => .dT (L.map (·.1)) (L.map fun x => .lst x.2)
structure NS where
  δ : Sl
  n : Nat
  fs : List NF
  al : Option (Nat × Nat)
def immS (δ : Sl) : Bool := δ.all fun x => match x with
  | none => true
  | some (.imm _) => true
  | _ => false
abbrev Adr := Pth → Addr
abbrev Con := Pth → Option HO
def setC {α : Type} (f : Pth → α) (p : Pth) (a : α) : Pth → α := fun q => if q = p then a else f q
@[simp] theorem setC_same {α : Type} (f : Pth → α) (p : Pth) (a : α) : setC f p a p = a := if_pos rfl
theorem setC_ne {α : Type} {f : Pth → α} {p q : Pth} {a : α} (h : q ≠ p) : setC f p a q = f q := if_neg h
section
variable {M : Gm}
structure NBas (c : Cn M) (F H : Hp) : Prop where
  same : Same F H
  grow : Same c.F0 F
  nofz : ∀ b, c.H0 b ≠ none → c.F0 b = none → F b = none
  kept : ∀ b o, c.H0 b = some o → c.io ≠ some b → H b = some o
  ioh : ∀ a, c.io = some a → ∃ u, H a = some u ∧ NT u
  tb : Tb M F H
structure Cells (c : Cn M) (F H : Hp) (adr : Adr) (cont : Con) : Prop where
  at_ : ∀ p o, cont p = some o → H (adr p) = some o
  fr : ∀ p o, cont p = some o → F (adr p) = none
  h0 : ∀ p o, cont p = some o → p ≠ .self → c.H0 (adr p) = none
  inj : ∀ p q o o', cont p = some o → cont q = some o' → adr p = adr q → p = q
  io : c.io = some (adr .self)
  sf : ∃ o, cont .self = some o
  nt : ∀ p o, cont p = some o → NT o
variable {c : Cn M} {F F' H H' : Hp} {adr : Adr} {cont : Con}
theorem NBas.h0 (b : NBas c F H) {p : Addr} (hp : H p = none) : c.H0 p = none := by
  cases e : c.H0 p with
  | none => rfl
  | some o =>
    by_cases hi : c.io = some p
    · obtain ⟨u, e1, _⟩ := b.ioh p hi
      rw [hp] at e1; cases e1
    · rw [b.kept p o e hi] at hp; cases hp
theorem NBas.hn (b : NBas c F H) {p : Addr} (hp : c.H0 p ≠ none) : ∃ u, H p = some u ∧ NT u := by
  by_cases hi : c.io = some p
  · exact b.ioh p hi
  · cases e : c.H0 p with
    | none => exact absurd e hp
    | some o => exact ⟨o, b.kept p o e hi, c.nt p o e⟩
theorem NBas.f (b : NBas c F H) {p : Addr} (hp : H p = none) : F p = none := b.same.free hp
theorem NBas.stp (b : NBas c F H) (st : Stp M F H F' H' none) : NBas c F' H' := by
  have kp : ∀ b o, H b = some o → NT o → H' b = some o := fun b o e n => st.kept b o e n (fun z => by cases z)
  refine ⟨st.same, b.grow.trans st.grow, fun x e1 e2 => ?_, fun x o e1 e2 => kp x o (b.kept x o e1 e2) (c.nt x o e1), fun x e1 => ?_, st.tb⟩
  · obtain ⟨u, k1, k2⟩ := b.hn e1
    exact st.nofz x u k1 k2 (b.nofz x e1 e2)
  · obtain ⟨o, q1, q2⟩ := b.ioh x e1
    exact ⟨o, kp x o q1 q2, q2⟩
theorem Cells.stp (k : Cells c F H adr cont) (st : Stp M F H F' H' none) : Cells c F' H' adr cont := by
  have kp : ∀ b o, H b = some o → NT o → H' b = some o := fun b o e n => st.kept b o e n (fun z => by cases z)
  exact ⟨fun p o e => kp _ _ (k.at_ p o e) (k.nt p o e), fun p o e => st.nofz _ o (k.at_ p o e) (k.nt p o e) (k.fr p o e), k.h0, k.inj, k.io, k.sf, k.nt⟩
theorem stp_alloc (s : Same F H) (t : Tb M F H) {p : Addr} {o : HO} (hp : H p = none) : Stp M F H F (upd H p o) none :=
  ⟨Same.refl _, fun _ _ _ _ e => e, fun b u e _ _ => by rw [upd_ne (L2.ne_of_none e hp)]; exact e, fun b u e => by rw [upd_ne (L2.ne_of_none (s b u e) hp)]; exact s b u e, t.alloc hp⟩
theorem stp_trans {F2 H2 : Hp} (a : Stp M F H F' H' none) (b : Stp M F' H' F2 H2 none) : Stp M F H F2 H2 none :=
  ⟨a.grow.trans b.grow, fun x o e1 n e2 => b.nofz x o (a.kept x o e1 n (fun z => by cases z)) n (a.nofz x o e1 n e2), fun x o e n _ => b.kept x o (a.kept x o e n (fun z => by cases z)) n (fun z => by cases z), b.same, b.tb⟩
theorem Cells.put (k : Cells c F H adr cont) {p : Pth} {o o' : HO} (e : cont p = some o) (hn : NT o' := by rfl) : Cells c F (upd H (adr p) o') adr (setC cont p (some o')) := by
  have other : ∀ q u, q ≠ p → cont q = some u → adr q ≠ adr p := fun q u hq e' z => hq (k.inj q p u o e' e z)
  have back : ∀ q u, setC cont p (some o') q = some u → ∃ u', cont q = some u' := fun q u e' => by
    by_cases z : q = p
    · exact ⟨o, z ▸ e⟩
    · rw [setC_ne z] at e'; exact ⟨u, e'⟩
  refine ⟨fun q u e' => ?_, fun q u e' => ?_, fun q u e' hq => ?_, fun q q' u u' e1 e2 => ?_, k.io, ?_, fun q u e' => ?_⟩
  · by_cases z : q = p
    · subst z; rw [setC_same] at e'; cases e'; exact upd_same
    · rw [setC_ne z] at e'; rw [upd_ne (other q u z e')]; exact k.at_ q u e'
  · obtain ⟨u', z⟩ := back q u e'; exact k.fr q u' z
  · obtain ⟨u', z⟩ := back q u e'; exact k.h0 q u' z hq
  · obtain ⟨v, z⟩ := back q u e1
    obtain ⟨v', z'⟩ := back q' u' e2
    exact k.inj q q' v v' z z'
  · obtain ⟨u, hu⟩ := k.sf
    by_cases z : Pth.self = p
    · exact ⟨o', by rw [← z, setC_same]⟩
    · exact ⟨u, by rw [setC_ne z]; exact hu⟩
  · by_cases z : q = p
    · subst z; rw [setC_same] at e'; cases e'; exact hn
    · rw [setC_ne z] at e'; exact k.nt q u e'
theorem NBas.put (b : NBas c F H) (k : Cells c F H adr cont) {p : Pth} {o o' : HO} (e : cont p = some o) (hn : NT o' := by rfl) : NBas c F (upd H (adr p) o') := by
  refine ⟨fun x u h => ?_, b.grow, b.nofz, fun x u e1 e2 => ?_, fun x e1 => ?_, b.tb.write (k.at_ p o e) (k.nt p o e)⟩
  · have z : x ≠ adr p := fun z => by rw [z, k.fr p o e] at h; cases h
    rw [upd_ne z]; exact b.same x u h
  · have z : x ≠ adr p := fun z => by
      by_cases hs : p = .self
      · subst hs; exact e2 (by rw [z]; exact k.io)
      · rw [z, k.h0 p o e hs] at e1; cases e1
    rw [upd_ne z]; exact b.kept x u e1 e2
  · by_cases z : x = adr p
    · exact ⟨o', by rw [z, upd_same], hn⟩
    · rw [upd_ne z]; exact b.ioh x e1
theorem Cells.new (b : NBas c F H) (k : Cells c F H adr cont) {p : Pth} {a : Addr} {o : HO} (hs : p ≠ .self) (e : cont p = none) (ha : H a = none) (hn : NT o := by rfl) : Cells c F (upd H a o) (setC adr p a) (setC cont p (some o)) := by
  have other : ∀ q u, cont q = some u → adr q ≠ a := fun q u e' z => by rw [← z, k.at_ q u e'] at ha; cases ha
  have ne : ∀ q u, cont q = some u → q ≠ p := fun q u e' z => by rw [z, e] at e'; cases e'
  refine ⟨fun q u e' => ?_, fun q u e' => ?_, fun q u e' hq => ?_, fun q q' u u' e1 e2 h => ?_, ?_, ?_, fun q u e' => ?_⟩
  · by_cases z : q = p
    · subst z; rw [setC_same] at e' ⊢; cases e'; exact upd_same
    · rw [setC_ne z] at e' ⊢; rw [upd_ne (other q u e')]; exact k.at_ q u e'
  · by_cases z : q = p
    · subst z; rw [setC_same]; exact b.f ha
    · rw [setC_ne z] at e' ⊢; exact k.fr q u e'
  · by_cases z : q = p
    · subst z; rw [setC_same]; exact b.h0 ha
    · rw [setC_ne z] at e' ⊢; exact k.h0 q u e' hq
  · by_cases z : q = p
    · by_cases z' : q' = p
      · rw [z, z']
      · rw [z, setC_same, setC_ne z'] at h
        rw [setC_ne z'] at e2
        exact absurd h.symm (other q' u' e2)
    · rw [setC_ne z] at e1 h
      by_cases z' : q' = p
      · rw [z', setC_same] at h
        exact absurd h (other q u e1)
      · rw [setC_ne z'] at e2 h
        exact k.inj q q' u u' e1 e2 h
  · rw [setC_ne (Ne.symm hs)]; exact k.io
  · obtain ⟨u, hu⟩ := k.sf
    exact ⟨u, by rw [setC_ne (Ne.symm hs)]; exact hu⟩
  · by_cases z : q = p
    · subst z; rw [setC_same] at e'; cases e'; exact hn
    · rw [setC_ne z] at e'; exact k.nt q u e'
structure SlI (F : Hp) (σ : St) (δ : Sl) : Prop where
  len : σ.length = δ.length
  at_ : ∀ (i : Nat) (r : R), δ[i]? = some (some r) → ∃ d v, r = .imm d ∧ σ[i]? = some (some v) ∧ rep M F d v
end
def frm (M : Gm) (F H : Hp) : Cn M := ⟨F, str0 H, none, fun _ e => (nomatch e), fun _ _ h => (str0_nt h).2⟩
section
variable {M : Gm} {c : Cn M} {F F' H H' : Hp} {σ : St} {δ δ' : Sl} {W : WX} {X : Cx}
theorem SlI.mono (h : SlI (M := M) F σ δ) (g : Same F F') : SlI (M := M) F' σ δ := ⟨h.len, fun i r e => by
  obtain ⟨d, v, h1, h2, h3⟩ := h.at_ i r e
  exact ⟨d, v, h1, h2, rep_mono g _ _ h3⟩⟩
theorem SlI.ok (h : SlI (M := M) F σ δ) (s : Same F H) (t : Tb M F H) : Ok (frm M F H) F H σ δ where
  same := s
  grow := Same.refl _
  nofz := fun _ _ e => e
  kept := fun _ _ e _ => (str0_nt e).1
  ioh := fun _ e => (nomatch e)
  tb := t
  len := h.len
  slot := fun i r e => by
    obtain ⟨d, v, rfl, h2, h3⟩ := h.at_ i r e
    exact ⟨v, h2, h3⟩
  dist := fun i j r r' v _ e _ m => by
    obtain ⟨d, v, rfl, h2, h3⟩ := h.at_ i r e
    cases m
theorem immS_at (h : immS δ = true) {i : Nat} {r : R} (e : δ[i]? = some (some r)) : ∃ d, r = .imm d := by
  unfold immS at h
  rw [List.all_eq_true] at h
  have := h _ (List.mem_of_getElem? e)
  cases r with
  | imm d => exact ⟨d, rfl⟩
  | own o => cases this
  | brw o => cases this
theorem SlI.back {F0 H0 : Hp} (ok : Ok (frm M F0 H0) F H σ δ) (hi : immS δ = true) : SlI (M := M) F σ δ := ⟨ok.len, fun i r e => by
  obtain ⟨d, rfl⟩ := immS_at hi e
  obtain ⟨v, h1, h2⟩ := ok.slot i _ e
  exact ⟨d, v, rfl, h1, h2⟩⟩
theorem SlI.setI (h : SlI (M := M) F σ δ) {d : D} {v : V} (i : Nat) (r : rep M F d v) : SlI (M := M) F (σ.set i (some v)) (δ.set i (some (.imm d))) := ⟨by simp [h.len], fun j r' e => by
  rcases getElem?_set_some e with ⟨rfl, e1, hl⟩ | ⟨hn, e1⟩
  · cases e1
    exact ⟨d, v, rfl, List.getElem?_set_self (by rw [h.len]; exact hl), r⟩
  · rw [List.getElem?_set_ne hn]
    exact h.at_ j r' e1⟩
end
end
end TS

set_option maxRecDepth 100000
set_option maxHeartbeats 4000000
namespace TS
open PySem L2
noncomputable section
section
variable {M : Gm}
def rowsOk (M : Gm) (F : Hp) (adr : Adr) (cont : Con) (j : Nat) {κ : Type} (mk : List (κ × V) → HO) (L : List (κ × List D)) (v : V) : Prop :=
  v = .ref (adr (.fld j)) ∧ (∃ kvs : List (κ × V), cont (.fld j) = some (mk kvs) ∧ kvs.map (·.1) = L.map (·.1) ∧ ∀ (e : Nat) (kv : κ × V), kvs[e]? = some kv → kv.2 = .ref (adr (.row j e))) ∧
  (∀ (e : Nat) (x : κ × List D), L[e]? = some x → ∃ vs, cont (.row j e) = some (.lst vs) ∧ reps M F x.2 vs) ∧ ∀ e, L.length ≤ e → cont (.row j e) = none
def fldOk (M : Gm) (F : Hp) (adr : Adr) (cont : Con) (j : Nat) : NF → V → Prop
  | .d x, v => rep M F x v
  | .dk ks ds, v => v = .ref (adr (.fld j)) ∧ ∃ kvs : List (Key × V), cont (.fld j) = some (.dK kvs) ∧ kvs.map (·.1) = ks ∧ reps M F ds (kvs.map (·.2))
  | .rk L, v => rowsOk M F adr cont j HO.dK L v
  | .rt L, v => rowsOk M F adr cont j HO.dT L v
structure NK (c : Cn M) (i0 ir : Nat) (F H : Hp) (σ : St) (s : NS) (adr : Adr) (cont : Con) (C dx : Addr) (fvs : List (Str × V)) : Prop where
  bas : NBas c F H
  cel : Cells c F H adr cont
  sl : SlI (M := M) F σ s.δ
  G : M.G s.n = some C
  sf : cont .self = some (.ins C dx fvs)
  nm : fvs.map (·.1) = (M.nm s.n).take s.fs.length
  ln : fvs.length = s.fs.length
  fl : ∀ (j : Nat) (f : NF) (p : Str × V), s.fs[j]? = some f → fvs[j]? = some p → fldOk M F adr cont j f p.2
  no : ∀ j, s.fs.length ≤ j → cont (.fld j) = none ∧ ∀ e, cont (.row j e) = none
  i0 : σ[i0]? = some (some (.ref (adr .self)))
  rn : (s.δ[ir]?).join = none
  al : ∀ j e, s.al = some (j, e) → σ[ir]? = some (some (.ref (adr (.row j e))))
variable {c : Cn M} {i0 ir : Nat} {F F' H H' : Hp} {σ σ' : St} {s : NS} {adr : Adr} {cont : Con} {C dx : Addr} {fvs : List (Str × V)}
theorem rowsOk.mono {κ : Type} {mk : List (κ × V) → HO} {j : Nat} {L : List (κ × List D)} {v : V} (h : rowsOk M F adr cont j mk L v) (g : Same F F') : rowsOk M F' adr cont j mk L v := by
  obtain ⟨h1, h2, h3, h4⟩ := h
  exact ⟨h1, h2, fun e x hx => by
    obtain ⟨vs, k1, k2⟩ := h3 e x hx
    exact ⟨vs, k1, reps_mono g _ _ k2⟩, h4⟩
theorem fldOk.mono {j : Nat} {f : NF} {v : V} (h : fldOk M F adr cont j f v) (g : Same F F') : fldOk M F' adr cont j f v := by
  cases f with
  | d x => exact rep_mono g _ _ h
  | dk ks ds =>
    obtain ⟨h1, kvs, h2, h3, h4⟩ := h
    exact ⟨h1, kvs, h2, h3, reps_mono g _ _ h4⟩
  | rk L => exact rowsOk.mono h g
  | rt L => exact rowsOk.mono h g
theorem NK.step (k : NK c i0 ir F H σ s adr cont C dx fvs) (st : Stp M F H F' H' none) {δ' : Sl} (sl : SlI (M := M) F' σ' δ') (h0 : σ'[i0]? = σ[i0]?) (hr : σ'[ir]? = σ[ir]?) (hn : (δ'[ir]?).join = none) : NK c i0 ir F' H' σ' { s with δ := δ' } adr cont C dx fvs :=
  ⟨k.bas.stp st, k.cel.stp st, sl, k.G, k.sf, k.nm, k.ln, fun j f p e1 e2 => (k.fl j f p e1 e2).mono st.grow, k.no, h0.trans k.i0, hn, fun j e h => hr.trans (k.al j e h)⟩
theorem rowsOk.put {κ : Type} {mk : List (κ × V) → HO} {j j' : Nat} {L : List (κ × List D)} {v : V} {o : Option HO} (h : rowsOk M F adr cont j' mk L v) (hj : j' ≠ j) : rowsOk M F adr (setC cont (.fld j) o) j' mk L v := by
  obtain ⟨h1, ⟨kvs, h2, h3⟩, h4, h5⟩ := h
  refine ⟨h1, ⟨kvs, ?_, h3⟩, fun e x hx => ?_, fun e he => ?_⟩
  · rw [setC_ne (by intro z; cases z; exact hj rfl)]; exact h2
  · obtain ⟨vs, k1, k2⟩ := h4 e x hx
    exact ⟨vs, by rw [setC_ne (by intro z; cases z)]; exact k1, k2⟩
  · rw [setC_ne (by intro z; cases z)]; exact h5 e he
theorem fldOk.put {j j' : Nat} {f : NF} {v : V} {o : Option HO} (h : fldOk M F adr cont j' f v) (hj : j' ≠ j) : fldOk M F adr (setC cont (.fld j) o) j' f v := by
  cases f with
  | d x => exact h
  | dk ks ds =>
    obtain ⟨h1, kvs, h2, h3, h4⟩ := h
    exact ⟨h1, kvs, by rw [setC_ne (by intro z; cases z; exact hj rfl)]; exact h2, h3, h4⟩
  | rk L => exact rowsOk.put h hj
  | rt L => exact rowsOk.put h hj
theorem getElem?_set_cases {α : Type} {l : List α} {i j : Nat} {x y : α} (h : (l.set i x)[j]? = some y) : (i = j ∧ x = y) ∨ (i ≠ j ∧ l[j]? = some y) := by
  rcases getElem?_set_some h with ⟨h1, h2, _⟩ | h
  · exact .inl ⟨h1, h2⟩
  · exact .inr h
theorem NK.putD (k : NK c i0 ir F H σ s adr cont C dx fvs) {j : Nat} {ks : List Key} {ds : List D} {kk : Key} {d : D} {v : V} (hj : s.fs[j]? = some (.dk ks ds)) (hd : rep M F d v) :
    ∃ kvs : List (Key × V), H (adr (.fld j)) = some (.dK kvs) ∧ kvs.length = ds.length ∧ NK c i0 ir F (upd H (adr (.fld j)) (.dK (putK kvs kk v))) σ { s with fs := s.fs.set j (.dk (TS.putD ks ds kk d).1 (TS.putD ks ds kk d).2) } adr (setC cont (.fld j) (some (.dK (putK kvs kk v)))) C dx fvs := by
  have hlt : j < s.fs.length := (List.getElem?_eq_some_iff.mp hj).1
  obtain ⟨p, hp⟩ : ∃ p, fvs[j]? = some p := ⟨fvs[j]'(by rw [k.ln]; exact hlt), List.getElem?_eq_getElem _⟩
  obtain ⟨h1, kvs, h2, h3, h4⟩ := k.fl j _ p hj hp
  obtain ⟨q1, q2⟩ := putD_v hd kk h4
  rw [h3] at q1 q2
  refine ⟨kvs, k.cel.at_ _ _ h2, by have := reps_length h4; simpa using this, k.bas.put k.cel h2, k.cel.put h2, k.sl, k.G, ?_, ?_, ?_, fun j' f p' e1 e2 => ?_, fun j' hj' => ?_, k.i0, k.rn, k.al⟩
  · rw [setC_ne (by intro z; cases z)]; exact k.sf
  · simp only [List.length_set]; exact k.nm
  · simp only [List.length_set]; exact k.ln
  · rcases getElem?_set_cases e1 with ⟨z, z2⟩ | ⟨z, e1⟩
    · subst z; subst z2
      rw [hp] at e2; cases e2
      exact ⟨h1, _, setC_same _ _ _, q1, q2⟩
    · exact (k.fl j' f p' e1 e2).put (Ne.symm z)
  · simp only [List.length_set] at hj'
    obtain ⟨n1, n2⟩ := k.no j' hj'
    refine ⟨?_, fun e => ?_⟩
    · rw [setC_ne (by intro z; cases z; omega)]; exact n1
    · rw [setC_ne (by intro z; cases z)]; exact n2 e
def rowOf (s : NS) : Option (List D) := s.al.bind fun p => (s.fs[p.1]?).bind fun f => match f with
  | .rk L => (L[p.2]?).map (·.2)
  | .rt L => (L[p.2]?).map (·.2)
  | _ => none
theorem NK.row (k : NK c i0 ir F H σ s adr cont C dx fvs) {row : List D} (h : rowOf s = some row) : ∃ j e vs, s.al = some (j, e) ∧ σ[ir]? = some (some (.ref (adr (.row j e)))) ∧ (s.δ[ir]?).join = none ∧ cont (.row j e) = some (.lst vs) ∧ reps M F row vs := by
  obtain ⟨⟨j, e⟩, ha, h⟩ := Option.bind_eq_some_iff.mp h
  obtain ⟨f, hf, h⟩ := Option.bind_eq_some_iff.mp h
  have a1 := k.al j e ha
  have a2 := k.rn
  have hlt : j < s.fs.length := (List.getElem?_eq_some_iff.mp hf).1
  obtain ⟨p, hp⟩ : ∃ p, fvs[j]? = some p := ⟨fvs[j]'(by rw [k.ln]; exact hlt), List.getElem?_eq_getElem _⟩
  have hk := k.fl j f p hf hp
  cases f with
  | d x => cases h
  | dk ks ds => cases h
  | rk L =>
    obtain ⟨x, hx, rfl⟩ := Option.map_eq_some_iff.mp h
    obtain ⟨vs, k1, k2⟩ := hk.2.2.1 e x hx
    exact ⟨j, e, vs, ha, a1, a2, k1, k2⟩
  | rt L =>
    obtain ⟨x, hx, rfl⟩ := Option.map_eq_some_iff.mp h
    obtain ⟨vs, k1, k2⟩ := hk.2.2.1 e x hx
    exact ⟨j, e, vs, ha, a1, a2, k1, k2⟩
end
end
end TS

set_option maxRecDepth 100000
set_option maxHeartbeats 4000000
namespace TS
open PySem L2
noncomputable section
section
variable {M : Gm} {W : WX} {X : Cx} {i0 ir : Nat}
theorem SlI.setSame {F : Hp} {σ : St} {δ : Sl} (h : SlI (M := M) F σ δ) {i : Nat} {d : D} {v : V} (e : σ[i]? = some (some v)) (r : rep M F d v) : SlI (M := M) F σ (δ.set i (some (.imm d))) := by
  have := h.setI i r
  have e2 : σ.set i (some v) = σ := by
    apply List.ext_getElem?
    intro j
    by_cases hj : i = j
    · subst hj
      rw [List.getElem?_set_self (List.getElem?_eq_some_iff.mp e).1, e]
    · rw [List.getElem?_set_ne hj]
  rwa [e2] at this
end
end
end TS

set_option maxRecDepth 100000
set_option maxHeartbeats 4000000
namespace TS
open PySem L2
noncomputable section
section
variable {M : Gm} {W : WX} {X : Cx} {i0 ir : Nat} {c : Cn M} {F F' H H' : Hp} {σ σ' : St} {s : NS} {adr adr' : Adr} {cont cont' : Con} {C dx : Addr} {fvs : List (Str × V)}
theorem rowsOk.congr {κ : Type} {mk : List (κ × V) → HO} {j : Nat} {L : List (κ × List D)} {v : V} (h : rowsOk M F adr cont j mk L v) (h1 : adr' (.fld j) = adr (.fld j)) (h2 : ∀ e, adr' (.row j e) = adr (.row j e)) (h3 : cont' (.fld j) = cont (.fld j)) (h4 : ∀ e, cont' (.row j e) = cont (.row j e)) : rowsOk M F adr' cont' j mk L v := by
  obtain ⟨k1, ⟨kvs, k2, k3, k4⟩, k5, k6⟩ := h
  refine ⟨by rw [h1]; exact k1, ⟨kvs, by rw [h3]; exact k2, k3, fun e kv he => by rw [h2]; exact k4 e kv he⟩, fun e x hx => ?_, fun e he => by rw [h4]; exact k6 e he⟩
  obtain ⟨vs, l1, l2⟩ := k5 e x hx
  exact ⟨vs, by rw [h4]; exact l1, l2⟩
theorem fldOk.congr {j : Nat} {f : NF} {v : V} (h : fldOk M F adr cont j f v) (h1 : adr' (.fld j) = adr (.fld j)) (h2 : ∀ e, adr' (.row j e) = adr (.row j e)) (h3 : cont' (.fld j) = cont (.fld j)) (h4 : ∀ e, cont' (.row j e) = cont (.row j e)) : fldOk M F adr' cont' j f v := by
  cases f with
  | d x => exact h
  | dk ks ds =>
    obtain ⟨k1, kvs, k2, k3, k4⟩ := h
    exact ⟨by rw [h1]; exact k1, kvs, by rw [h3]; exact k2, k3, k4⟩
  | rk L => exact rowsOk.congr h h1 h2 h3 h4
  | rt L => exact rowsOk.congr h h1 h2 h3 h4
theorem rowsOk.grow {κ : Type} {mk : List (κ × V) → HO} {j : Nat} {L : List (κ × List D)} {v : V} {k : κ} {p : Addr} {kvs : List (κ × V)} (h : rowsOk M F adr cont j mk L v) (hm : ∀ a b, mk a = mk b → a = b) (hc : cont (.fld j) = some (mk kvs)) :
    rowsOk M F (setC adr (.row j L.length) p) (setC (setC cont (.row j L.length) (some (.lst []))) (.fld j) (some (mk (kvs ++ [(k, .ref p)])))) j mk (L ++ [(k, [])]) v := by
  obtain ⟨k1, ⟨kvs', k2, k3, k4⟩, k5, k6⟩ := h
  rw [hc] at k2
  have := hm _ _ (Option.some.inj k2)
  subst this
  have hll : kvs.length = L.length := by have := congrArg List.length k3; simpa using this
  refine ⟨by rw [setC_ne (by intro z; cases z)]; exact k1, ⟨_, setC_same _ _ _, by simp [k3], fun e kv he => ?_⟩, fun e x hx => ?_, fun e he => ?_⟩
  · by_cases hlt : e < L.length
    · rw [List.getElem?_append_left (by omega)] at he
      rw [setC_ne (by intro z; cases z; omega)]; exact k4 e kv he
    · have : e = L.length := by
        have := (List.getElem?_eq_some_iff.mp he).1
        simp at this; omega
      subst this
      rw [List.getElem?_append_right (by omega)] at he
      simp [hll] at he
      subst he
      rw [setC_same]
  · by_cases hlt : e < L.length
    · rw [List.getElem?_append_left hlt] at hx
      obtain ⟨vs, l1, l2⟩ := k5 e x hx
      exact ⟨vs, by rw [setC_ne (by intro z; cases z), setC_ne (by intro z; cases z; omega)]; exact l1, l2⟩
    · have : e = L.length := by
        have := (List.getElem?_eq_some_iff.mp hx).1
        simp at this; omega
      subst this
      rw [List.getElem?_append_right (Nat.le_refl _)] at hx
      simp at hx
      subst hx
      exact ⟨[], by rw [setC_ne (by intro z; cases z)]; exact setC_same _ _ _, by simp [reps]⟩
  · simp at he
    rw [setC_ne (by intro z; cases z), setC_ne (by intro z; cases z; omega)]
    exact k6 e (by omega)
end
end
end TS

set_option maxRecDepth 100000
set_option maxHeartbeats 4000000
namespace TS
open PySem L2
noncomputable section
section
variable {M : Gm} {W : WX} {X : Cx} {i0 ir : Nat}
end
end
end TS

set_option maxRecDepth 100000
set_option maxHeartbeats 4000000
namespace TS
open PySem L2
noncomputable section
section
variable {M : Gm} {W : WX} {X : Cx} {i0 ir : Nat} {c : Cn M} {F F' H H' : Hp} {σ : St} {δ : Sl} {s : NS}
end
end
end TS

set_option maxRecDepth 100000
set_option maxHeartbeats 4000000
namespace TS
open PySem L2
noncomputable section
def fChain (g g' : D → D → Option R) (fa fb fc : FD) : FE := fun δ => (fa δ).bind fun x δ1 => (fb δ1).bind fun y δ2 => match g x y with
  | some (.imm (.bl true)) => (fc δ2).bind fun w δ3 => (match g' y w with
    | some z => .ok z δ3
    | none => .bad)
  | some (.imm (.bl false)) => .ok (.imm (.bl false)) δ2
  | _ => .bad
section
variable {M : Gm} {W : WX} {X : Cx} {a b c : Expr} {pos : Pos} {fa fb fc : FD} {r r' : R2} {g g' : D → D → Option R}
def gGet : D → D → D → Option D
  | .dK ks ds, k, x => (keyOf k).map fun k => (lookD ks ds k).getD x
  | .dT ks ds, .tup kds, x => (keysOf kds).map fun k => (lookD ks ds k).getD x
  | _, _, _ => none
def isDD : D → Bool
  | .dK _ _ => true
  | .dT _ _ => true
  | _ => false
def fGet (fo fk fx : FD) : FD := fun δ => (fo δ).bind fun d δ1 => if isDD d then (fk δ1).bind fun k δ2 => (fx δ2).bind fun x δ3 => (match gGet d k x with
  | some z => .ok z δ3
  | none => .bad) else .bad
end
end
end TS

set_option maxRecDepth 100000
set_option maxHeartbeats 4000000
namespace TS
open PySem L2
noncomputable section
section
variable {M : Gm} {c : Cn M} {W : WX} {X : Cx} {F H : Hp} {σ : St} {δ : Sl}
def sPar2E (i j : Nat) (f : FX) : FS := fun δ => (f δ).bindS fun rs δ1 => match rs with
  | [a, b] => if i < δ1.length then .nx ((δ1.set i (some a)).set j (some b)) else .bad
  | _ => .bad
end
end
end TS

set_option maxRecDepth 100000
set_option maxHeartbeats 4000000
namespace TS
open PySem L2 PySem.Spec PyProof.Rows
noncomputable section
mutual
def noLam : D → Bool
  | .lam => false
  | .lst ds => noLams ds
  | .tup ds => noLams ds
  | .scr ds => noLams ds
  | .dK _ ds => noLams ds
  | .dT _ ds => noLams ds
  | .obj _ ds => noLams ds
  | _ => true
def noLams : List D → Bool
  | [] => true
  | d :: ds => noLam d && noLams ds
end
section
variable {M : Gm} {L : Lm} {F F' H H' : Hp}
end
def frz1 (i : Nat) (δ : Sl) : Sl := match δ[i]? with
  | some (some (.own o)) => δ.set i (some (.imm o.toD))
  | _ => δ
def frzS : List Nat → Sl → Sl
  | [], δ => δ
  | i :: is, δ => frzS is (frz1 i δ)
def immP (δ : Sl) : Sl := δ.map fun x => match x with
  | some (.imm d) => some (.imm d)
  | _ => none
def thk (fb : FE) (δ : Sl) : Res D := match frz fb (immP δ) with
  | .ok d _ => .ok d []
  | .exc x _ => .exc x []
  | .bad => .bad
def fRes (i : Nat) (res : Res D) : FE := fun δ => match δ[i]? with
  | some (some (.imm .lam)) => (match res with
    | .ok d _ => .ok (.imm d) δ
    | .exc x _ => .exc x δ
    | .bad => .bad)
  | _ => .bad
def outL (r : FR) (δ : Sl) : Res R := match r with
  | .ok (.imm d) _ => if noLam d then .ok (.imm d) δ else .bad
  | .ok (.own o) _ => if noLam o.toD then .ok (.own o) δ else .bad
  | .exc x _ => if noLams x.vs then .exc x δ else .bad
  | _ => .bad
def fLam (ixs : List Nat) (mt : Res D → Fm) (fb : FE) : FE := fun δ => outL (mt (thk fb (frzS ixs δ)) none [.lam]) (frzS ixs δ)
section
variable {M : Gm} {c : Cn M} {F F' H H' : Hp} {σ : L2.St} {δ : Sl}
theorem Ok.frz1 (ok : Ok c F H σ δ) (i : Nat) : LkS (fun H' => ∃ F', Same F F' ∧ Ok c F' H' σ (TS.frz1 i δ)) H := by
  unfold TS.frz1
  split
  · rename_i o q
    obtain ⟨v, e1, e2⟩ := ok.take q
    refine ((ok.drop i).freeze e2).mono fun H2 ⟨F', g, ok', r'⟩ => ?_
    have ok2 := ok'.setSame (i := i) e1 r'
    rw [List.set_set] at ok2
    exact ⟨F', g, ok2⟩
  · exact .now ⟨F, Same.refl _, ok⟩
theorem Ok.frzS : ∀ {F H : Hp} {δ : Sl} (is : List Nat), Ok c F H σ δ → LkS (fun H' => ∃ F', Same F F' ∧ Ok c F' H' σ (TS.frzS is δ)) H
  | F, _, _, [], ok => .now ⟨F, Same.refl _, ok⟩
  | F, _, _, i :: is, ok => (ok.frz1 i).bind fun _ ⟨F1, g1, ok1⟩ => (Ok.frzS is ok1).mono fun _ ⟨F2, g2, ok2⟩ => ⟨F2, g1.trans g2, ok2⟩
theorem Ok.immP (ok : Ok c F H σ δ) (g : Same F F') : SlI (M := M) F' σ (TS.immP δ) := ⟨by unfold TS.immP; simp [ok.len], fun i r e => by
  unfold TS.immP at e
  rw [List.getElem?_map] at e
  cases q : δ[i]? with
  | none => rw [q] at e; cases e
  | some x =>
    rw [q] at e
    cases x with
    | none => simp at e
    | some r0 =>
      cases r0 with
      | imm d =>
        simp at e
        subst e
        obtain ⟨v, e1, e2⟩ := ok.slot i _ q
        exact ⟨d, v, rfl, e1, rep_mono g _ _ e2⟩
      | own o => simp at e
      | brw o => simp at e⟩
end
section
variable {X : Cx} {W : WX} {M : Gm}
end
end
end TS

set_option maxRecDepth 100000
set_option maxHeartbeats 4000000
namespace TS
open PySem L2
noncomputable section
def SmK (K : PySem.W.Frag) : Prop := ∃ o, K.lookup sysModules = some o ∧ o.cls = .type "dict"
theorem smd_ok {K : PySem.W.Frag} (h : (Fx.smd).ok K = true) : SmK K := by
  have h : (match K.lookup sysModules with | some ⟨.type c, _, _, _⟩ => decide (c = "dict") | _ => false) = true := h
  split at h
  · rename_i c od dd sl e
    have := of_decide_eq_true h
    subst this
    exact ⟨_, e, rfl⟩
  · cases h
def kP : Key → PyData
  | .inl i => .int i
  | .inr x => .str x
mutual
def toPd : D → Option PyData
  | .non => some .none
  | .bl b => some (.bool b)
  | .int i => some (.int i)
  | .str x => some (.str x)
  | .lst ds => (toPds ds).map PyData.list
  | .tup ds => (toPds ds).map PyData.tuple
  | .ktp ns => some (.tuple (ns.map PyData.int))
  | .dK ks ds => (toPds ds).map fun ps => PyData.dict ((ks.map kP).zip ps)
  | _ => none
def toPds : List D → Option (List PyData)
  | [] => some []
  | d :: ds => (toPd d).bind fun p => (toPds ds).map fun ps => p :: ps
end
section
variable {M : Gm} {F H : Hp} {X : Cx} {pins : List (Addr × Obj)} {σ : St} {s : Shared}
theorem pairs_keys {w : World} {P : Program} : ∀ {es : List DictEntry} {vs : List (Key × Value)}, Pairs (mixKind P w) es vs → ReadsAll s.heap (es.map (·.key)) ((vs.map (·.1)).map kP) []
  | _, _, .nil => .nil
  | _, _, .cons (e := e) (kv := kv) h _ t => by
    have r := pairs_keys t
    have h1 : ∃ as, Reads s.heap e.key (kP kv.1) as ∧ as = [] := by
      rcases keyIs_shape h with ⟨i, u, h1, h2⟩ | ⟨x, u, h1, h2⟩
      · rw [h1, h2]; exact ⟨_, .int i u, rfl⟩
      · rw [h1, h2]; exact ⟨_, .str x u, rfl⟩
    obtain ⟨as, h1, rfl⟩ := h1
    exact ReadsAll.cons h1 r
theorem pairs_vals {w : World} {P : Program} : ∀ {es : List DictEntry} {vs : List (Key × Value)}, Pairs (mixKind P w) es vs → es.map (·.val) = vs.map (·.2)
  | _, _, .nil => rfl
  | _, _, .cons _ h t => by rw [List.map_cons, List.map_cons, h, pairs_vals t]
theorem kv_vals : ∀ {kvs : List (Key × V)} {vs : List (Key × Value)}, KV kvs vs → Vals (kvs.map (·.2)) (vs.map (·.2)) ∧ kvs.map (·.1) = vs.map (·.1)
  | _, _, .nil => ⟨.nil, rfl⟩
  | _, _, .cons h t => by
    obtain ⟨h1, h2⟩ := kv_vals t
    exact ⟨.cons h.2 h1, by rw [List.map_cons, List.map_cons, h.1, h2]⟩
theorem toPds_len : ∀ {ds : List D} {ps : List PyData}, toPds ds = some ps → ps.length = ds.length
  | [], ps, h => by unfold toPds at h; cases h; rfl
  | d :: ds, ps, h => by
    unfold toPds at h
    obtain ⟨p, _, h⟩ := Option.bind_eq_some_iff.mp h
    obtain ⟨ps', h1, rfl⟩ := Option.map_eq_some_iff.mp h
    simp [toPds_len h1]
theorem ints_reads : ∀ (ns : List Int) (its : List Value), Vals (ns.map V.int) its → ∃ as, ReadsAll s.heap its (ns.map PyData.int) as ∧ sysModules ∉ as
  | [], _, r => by cases r; exact ⟨_, .nil, by simp⟩
  | n :: ns, _, r => by
    rw [List.map_cons] at r
    cases r with
    | cons r1 r2 =>
      obtain ⟨t, rfl⟩ := r1
      obtain ⟨as, k1, k2⟩ := ints_reads ns _ r2
      exact ⟨_, .cons (.int n t) k1, by simpa using k2⟩
mutual
theorem rep_reads (I : Inv X pins σ H s) (hs : Same F H) (hK : X.K = M.K) (sm : SmK X.K) : ∀ (d : D) (v : V) (u : Value) (p : PyData), rep M F d v → toPd d = some p → RelV v u → ∃ as, Reads s.heap u p as ∧ sysModules ∉ as
  | .non, v, u, p, h, e, r => by
    unfold rep at h; unfold toPd at e; cases e; subst h; cases r
    exact ⟨_, .none, by simp⟩
  | .bl b, v, u, p, h, e, r => by
    unfold rep at h; unfold toPd at e; cases e; subst h; cases r
    exact ⟨_, .bool b, by simp⟩
  | .int i, v, u, p, h, e, r => by
    unfold rep at h; unfold toPd at e; cases e; subst h; obtain ⟨t, rfl⟩ := r
    exact ⟨_, .int i t, by simp⟩
  | .str x, v, u, p, h, e, r => by
    unfold rep at h; unfold toPd at e; cases e; subst h; obtain ⟨t, rfl⟩ := r
    exact ⟨_, .str x t, by simp⟩
  | .lst ds, v, u, p, h, e, r => by
    unfold rep at h; unfold toPd at e
    obtain ⟨a, vs, rfl, h2, h3⟩ := h
    obtain ⟨ps, e1, rfl⟩ := Option.map_eq_some_iff.mp e
    cases r
    obtain ⟨its, rv, ⟨o, n, ho, hc, _, hd⟩, _⟩ := I.list (SqL.of (K := X.K) (hs _ _ h2))
    obtain ⟨as, k1, k2⟩ := reps_reads I hs hK sm ds vs its ps h3 e1 rv
    refine ⟨_, Reads.list ho hc hd k1, fun z => ?_⟩
    rcases List.mem_cons.mp z with z | z
    · obtain ⟨o2, q1, q2⟩ := sm
      have := I.kIn _ _ q1
      rw [z, ho] at this
      have e3 := Option.some.inj this
      rw [← e3, hc] at q2
      injection q2 with q3
      exact absurd q3 (by decide)
    · exact k2 z
  | .tup ds, v, u, p, h, e, r => by
    unfold rep at h; unfold toPd at e
    obtain ⟨a, vs, rfl, h2, h3⟩ := h
    obtain ⟨ps, e1, rfl⟩ := Option.map_eq_some_iff.mp e
    cases r
    obtain ⟨its, rv, ⟨o, ho, hc, n, hd⟩, _⟩ := I.tuple (SqT.of (K := X.K) (hs _ _ h2))
    obtain ⟨as, k1, k2⟩ := reps_reads I hs hK sm ds vs its ps h3 e1 rv
    exact ⟨_, Reads.tuple ho hc hd k1, k2⟩
  | .dK ks ds, v, u, p, h, e, r => by
    unfold rep at h; unfold toPd at e
    obtain ⟨a, od, kvs, rfl, h2, h3, h4⟩ := h
    obtain ⟨ps, e1, rfl⟩ := Option.map_eq_some_iff.mp e
    cases r
    obtain ⟨_, hsm, vs, kv, o, es, ep, ho, hx, hd, _, hp, _⟩ := dk_rd I.hok (.inr ⟨od, hs _ _ h2⟩)
    obtain ⟨rv, ek⟩ := kv_vals kv
    rw [← pairs_vals hp] at rv
    obtain ⟨as, k1, k2⟩ := reps_reads I hs hK sm ds _ _ ps h4 e1 rv
    have kk := pairs_keys (s := s) hp
    rw [← ek, h3] at kk
    have hl : ps.length = ks.length := by
      rw [toPds_len e1, ← reps_length h4, ← h3]; simp
    refine ⟨_, Reads.dict ho hx.1 hd (kvs := (ks.map kP).zip ps) (as := []) (bs := as) ?_ ?_, ?_⟩
    · rw [List.map_fst_zip (by simp [hl])]; exact kk
    · rw [List.map_snd_zip (by simp [hl])]; exact k1
    · intro z
      simp only [List.append_nil, List.cons_append, List.nil_append, List.mem_cons] at z
      rcases z with z | z
      · rw [← z] at hsm; simp at hsm
      · exact k2 z
  | .scr ds, v, u, p, h, e, r => by unfold toPd at e; cases e
  | .dT _ ds, v, u, p, h, e, r => by unfold toPd at e; cases e
  | .obj _ ds, v, u, p, h, e, r => by unfold toPd at e; cases e
  | .cls _, v, u, p, h, e, r => by unfold toPd at e; cases e
  | .lam, v, u, p, h, e, r => by unfold toPd at e; cases e
  | .ktp ns, v, u, p, h, e, r => by
    unfold rep at h; unfold toPd at e; cases e
    obtain ⟨a, rfl, h2⟩ := h
    cases r
    obtain ⟨its, rv, ⟨o, ho, hc, n, hd⟩, _⟩ := I.tuple (a := a) (xs := ns.map V.int) (by rw [hK]; exact ktup_sq h2)
    obtain ⟨as, k1, k2⟩ := ints_reads (s := s) ns its rv
    exact ⟨_, Reads.tuple ho hc hd k1, k2⟩
theorem reps_reads (I : Inv X pins σ H s) (hs : Same F H) (hK : X.K = M.K) (sm : SmK X.K) : ∀ (ds : List D) (vs : List V) (us : List Value) (ps : List PyData), reps M F ds vs → toPds ds = some ps → Vals vs us → ∃ as, ReadsAll s.heap us ps as ∧ sysModules ∉ as
  | [], vs, us, ps, h, e, r => by
    unfold reps at h; unfold toPds at e; cases e; subst h; cases r
    exact ⟨_, .nil, by simp⟩
  | d :: ds, vs, us, ps, h, e, r => by
    unfold reps at h; unfold toPds at e
    obtain ⟨v, vs', rfl, h1, h2⟩ := h
    obtain ⟨p, e1, e⟩ := Option.bind_eq_some_iff.mp e
    obtain ⟨ps', e2, rfl⟩ := Option.map_eq_some_iff.mp e
    cases r with
    | cons r1 r2 =>
      obtain ⟨as, k1, k2⟩ := rep_reads I hs hK sm d v _ p h1 e1 r1
      obtain ⟨bs, k3, k4⟩ := reps_reads I hs hK sm ds vs' _ ps' h2 e2 r2
      exact ⟨_, .cons k1 k3, by simp [k2, k4]⟩
end
end
def shOkD (p : PyData) : Bool := gd (p.showable = true ∧ p.depth ≤ 32 ∧ p.shown.length ≤ sizeLine)
def gReprD (d : D) : Option Str := match toPd d with
  | some p => if shOkD p then some p.shown else none
  | none => none
def fReprD (fa : FD) : FD := fun δ => (fa δ).bind fun d δ1 => match gReprD d with
  | some x => .ok (.str x) δ1
  | none => .bad
section
variable {X : Cx} {M : Gm} {W : WX} {e : Expr} {fa : FD} {p pos : Pos}
theorem call_reprX {k : Nat} (hr : Room k X.A) {F H : Hp} {d : D} {q : PyData} {x : V} (hs : Same F H) (hK : X.K = M.K) (sm : SmK X.K) (rx : rep M F d x) (hd : toPd d = some q) (ho : shOkD q = true) {pins : List (Addr × Obj)} {s : Shared} {σ : St} {u : Value} {Q : VK} (I : Inv X pins σ H s) (ru : RelV x u) (h : Q (.str q.shown) H) :
    wpAny (model X.prog X.w) X.A (call (.builtin "repr") [u]) (EP X pins σ Q) X.xe s := by
  obtain ⟨h1, h3, h4⟩ := of_gd ho
  obtain ⟨as, rd, na⟩ := rep_reads I hs hK sm d x u q rx hd ru
  have hu := hr.units
  have fin : ∀ (h' : Heap) (t : Tok) (tk : Nat), (∀ b o, s.heap.get? b = some o → h'.get? b = some o) → EP X pins σ Q (.str q.shown t) { s with heap := h', toks := tk } := fun h' t tk kp => ⟨.str _, H, I.kept kp, ⟨_, rfl⟩, h⟩
  cases rd with
  | none => exact PySem.P.repr_of_none ⟨.str _, H, I.tok _, ⟨_, rfl⟩, h⟩
  | bool b => exact PySem.P.repr_of_bool ⟨.str _, H, I.tok _, ⟨_, rfl⟩, h⟩
  | int i t => exact PySem.P.repr_of_int (of_decide_eq_true h1) ⟨.str _, H, I.tok _, ⟨_, rfl⟩, h⟩
  | str y t => exact PySem.P.repr_of_str ⟨.str _, H, I.tok _, ⟨_, rfl⟩, h⟩ h4
  | list a1 a2 a3 a4 => exact repr_of_reads' (.list a1 a2 a3 a4) h1 (fun _ => na) hr.gu (by omega) (fun _ _ e => e) (fun h' u tk kp => fin h' u tk kp) h4
  | tuple a1 a2 a3 a4 => exact repr_of_reads' (.tuple a1 a2 a3 a4) h1 (fun _ => na) hr.gu (by omega) (fun _ _ e => e) (fun h' u tk kp => fin h' u tk kp) h4
  | dict a1 a2 a3 a4 a5 => exact repr_of_reads' (.dict a1 a2 a3 a4 a5) h1 (fun _ => na) hr.gu (by omega) (fun _ _ e => e) (fun h' u tk kp => fin h' u tk kp) h4
end
end
end TS

set_option maxRecDepth 100000
set_option maxHeartbeats 4000000
namespace TS
open PySem L2 PySem.W
noncomputable section
section
variable {X : Cx} {W : WX} {M : Gm} {pins : List (Addr × Obj)} {σ : L2.St} {H : Hp} {s : Shared}
end
section
variable {X : Cx} {W : WX} {M : Gm} {pins : List (Addr × Obj)} {σ : L2.St} {H : Hp} {s : Shared} {k : Nat} {C p g : Addr} {mc : Value} {sp : Sp} {o : Expr} {m : Str} {pos apos : Pos} {ta : TE} {tkw : TA} {kws : List Keyword} {ks : List Str}
def fCMethK (n : Nat) (f : Fm) (l : Nat) (fk : FA) : FE := fun δ => (fk δ).bind fun ds δ1 => if ds.length = l then outE (f none (.cls n :: ds)) δ1 else .bad
end
end
end TS

set_option maxRecDepth 100000
set_option maxHeartbeats 4000000
namespace TS
open PySem L2 PySem.W
noncomputable section
section
variable {M : Gm} {c : Cn M} {W : WX} {X : Cx} {q : Cau} {o e : Expr} {es : List Expr} {apos cpos pos : Pos} {fa : FA} {i : Nat}
end
section
open GQ PySem.SeqAt AutoSeq1 MeetsSeq MeetsSeq2 MeetsSeq3 SeqRoads2
variable {prog : Program} {w : World} {A : Around} {R : Result → Shared → Prop}
end
section
variable {M : Gm} {X : Cx} {pins : List (Addr × Obj)} {σ : L2.St} {H : Hp} {s : Shared}
end
end
end TS

set_option maxRecDepth 100000
set_option maxHeartbeats 4000000
namespace TS
open PySem L2 PySem.W
noncomputable section
def okT : D → Bool
  | .str _ => true
  | _ => false
def gU (ck : D → Bool) (tab : Nat → Option Fm) : D → Option D
  | .obj n vs => (match tab n with
    | some f => (match f none [.obj n vs] with
      | .ok (.imm r) _ => if ck r then some r else none
      | _ => none)
    | none => none)
  | _ => none
section
variable {X : Cx} {M : Gm} {W : WX} {e : Expr} {fe : FD} {p pos : Pos}
end
abbrev ρS : Hp → Hp → Sl → Str → Str → Prop := fun _ _ _ a b => b = a
def jNil : Str → Sl → Res Str := fun acc δ => .ok acc δ
def jCons (fe : FD) (g : Str → Sl → Res Str) : Str → Sl → Res Str := fun acc δ => (fe δ).bind fun d δ1 => match d with
  | .str y => if gd ((acc ++ y).length ≤ sizeLine) then g (acc ++ y) δ1 else .bad
  | _ => .bad
def fJoined (f : Str → Sl → Res Str) : FD := fun δ => (f Str.empty δ).bind fun y δ1 => .ok (.str y) δ1
section
variable {X : Cx} {M : Gm} {W : WX} {e v1 v2 o : Expr} {es rest : List Expr} {fe fo : FD} {p pos apos : Pos} {g : Str → Sl → Res Str}
def fFmtL (fe : FD) : FD := fun δ => (fe δ).bind fun d δ1 => match toP d with
  | some (.list ps) => if shOk (.list ps) then .ok (.str (PyData.list ps).shown) δ1 else .bad
  | _ => .bad
end
end
end TS

set_option maxRecDepth 100000
set_option maxHeartbeats 4000000
namespace TS
open PySem L2 PySem.W
noncomputable section
section
variable {X : Cx} {M : Gm} {W : WX} {o e : Expr} {es : List Expr} {kws : List Keyword} {apos cpos pos p : Pos} {fa fk : FA} {i : Nat}
end
end
end TS

set_option maxRecDepth 100000
set_option maxHeartbeats 4000000
namespace TS
open PySem L2
noncomputable section
section
variable {P : Program} {w : World} {K : PySem.W.Frag} {mg : Str → Option Value} {base : Heap} {CX : CXT} {k n : Nat} {ks ps : List Str} {f : Addr} {sp : Sp}
theorem FnK.star {name qual : Str} {params : Arguments} {body : List Stmt} {scope : Scope} {dV kV doc pm cdv ct oc : Value} {an od : Option Addr} {osl : Array (Option Value)} {N : List Str} {pv : Str} (lk : K.lookup f = some ⟨oc, od, .func (PySem.W.fnOf name qual params body scope dV kV doc pm an cdv ct), osl⟩) (hcd : PySem.W.codeIn K cdv qual = true)
    (S : FnScope N (ps ++ [pv]) scope) (hCX : StX.CXUp CX)
    (hbi : ∀ us ws : List Value, us.length = n → ws.length = ks.length → bindArgs (PySem.W.fnOf name qual params body scope dV kV doc pm an cdv ct) ⟨us, ks.zip ws⟩ = (newTuple [] >>= fun t => pure (ps.zip (us ++ ws) ++ [(pv, t)]))) (hnp : n + ks.length = ps.length)
    (hb : ∀ (A : Around) (outer : List Env) (s : Shared) (H : Hp) (vs : List V) (Q : VK) (E : XK), Room k (A.deeper (PyProof.Rows.envOfC qual scope s.heap.objs.size f cdv)) → sp vs H Q E →
      ∃ t, PSs (cxOf CX P w K mg base N qual scope f cdv A outer s H E) body t ∧ t { rt := Q, nx := fun _ H' => Q .non H' } (start N vs) H) :
    FnK P w K mg base CX (k + 1) f n ks (fun vs H Q E => ∃ ws rest, vs = ws ++ rest ∧ ws.length = ps.length ∧ rest.length ≤ sizeLine ∧ ∀ p, H p = Option.none → sp (ws ++ [V.ref p]) (upd H p (.tup rest)) Q E) := by
  rintro A outer s H us zu vs0 zs0 Q E hr e0 la lb rva rvb ⟨ws, rest, hsp, hl, hz, hq⟩
  obtain rfl : rest = [] := by
    have h1 := congrArg List.length hsp
    rw [List.length_append, List.length_append] at h1
    exact List.length_eq_zero_iff.mp (by omega)
  rw [List.append_nil] at hsp
  subst hsp
  obtain ⟨u1, hu1⟩ : ∃ u1, u1 = us ++ zu := ⟨_, rfl⟩
  obtain ⟨u2, hu2⟩ : ∃ u2 : List Value, u2 = [] := ⟨_, rfl⟩
  have r1 : Vals (vs0 ++ zs0) u1 := by rw [hu1]; exact rva.append rvb
  have r2 : Vals [] u2 := by rw [hu2]; exact .nil
  have l1 : u1.length = ps.length := r1.length.symm.trans hl
  have l2 : u2.length ≤ sizeLine := by have := r2.length; omega
  have hn : H s.heap.objs.size = Option.none := e0.hok.fresh (Nat.le_refl _)
  have kin : K.In s.heap := e0.mod.kin.keeps fun b o e => (e0.bs b o e).1
  refine codeAny_call_function hr.depth (kin _ _ lk) rfl S.co S.gen rfl (PySem.W.codeRec_of kin hcd) ?_
  rw [hbi us zu (rva.length.symm.trans la) (rvb.length.symm.trans lb), ← hu1, ← hu2]
  refine wpAny_bind (wpAny_newTuple (wpAny_pure ?_) l2)
  let ob : Obj := { cls := .type "tuple", data := .seq u2.toArray }
  have nw : ObjOk P w (upd H s.heap.objs.size (.tup ([] : List V))) (s.heap.push ob) s.heap.objs.size (.tup ([] : List V)) := ⟨hz, u2, r2, ⟨_, Heap.get?_push_size _ rfl, rfl, _, rfl⟩⟩
  have e2 := StX.env0_laid (o := ob) e0 nw
  have un := StX.un_laid (fs := frs outer) (s := s) (o := ob) (u := .tup ([] : List V)) hn
  have lz : (vs0 ++ zs0 ++ [V.ref s.heap.objs.size]).length = (ps ++ [pv]).length := by rw [List.length_append, hl]; simp
  have rz : Vals (vs0 ++ zs0 ++ [V.ref s.heap.objs.size]) (u1 ++ [Value.ref s.heap.objs.size]) := r1.append (.cons rfl .nil)
  have ez : ps.zip u1 ++ [(pv, Value.ref s.heap.objs.size)] = (ps ++ [pv]).zip (u1 ++ [Value.ref s.heap.objs.size]) := by rw [List.zip_append l1.symm]; rfl
  rw [ez]
  have nl : (s.heap.push ob).NoLimit := e0.mod.nolimit.keeps fun b o e => (e2.bs b o e).1
  have kinds : ∀ y ∈ (ps ++ [pv]).zip (u1 ++ [Value.ref s.heap.objs.size]), scope.names.lookup y.1 = some .local ∨ (scope.names.lookup y.1 = some .cell ∧ ((cellsFrom ((s.heap.push ob).objs.size + 1) scope.names []).lookup y.1).isSome = true) := by
    rintro ⟨n, v⟩ hy
    have := S.par n (List.of_mem_zip hy).1
    exact this.elim Or.inl fun q => Or.inr ⟨q, PySem.W.cellsFrom_some _ _ _ (Or.inl q)⟩
  refine PySem.wpAny_newFunctionEnv_cells (s := { s with heap := s.heap.push ob }) S.kind kinds ?_
  rintro env rfl s1 x1
  refine ⟨nl.keeps x1.toInCall.keep, codeAny_func ?_⟩
  obtain ⟨t, pt, ht⟩ := hb A outer { s with heap := s.heap.push ob } _ _ Q E (Room.deeper hr _) (hq _ hn)
  have I1 := inv_start (CX := CX) (E := E) S hr.hd e2 lz rz x1
  refine wpAny_mono (pt.run [] s1 _ _ _ I1 ht) (fun fl s2 z => ?_) fun e s2 z => ?_
  · cases fl with
    | ret u => obtain ⟨v, σ2, H2, J, ru, q⟩ := z; exact ⟨v, H2, J.os, J.bare, un.trans J.base, J.hok, ru, q⟩
    | next => obtain ⟨σ2, H2, J, q⟩ := z; exact ⟨V.non, H2, J.os, J.bare, un.trans J.base, J.hok, rfl, q⟩
    | brk => obtain ⟨_, _, _, q⟩ := z; exact q.elim
    | cont => obtain ⟨_, _, _, q⟩ := z; exact q.elim
  · have up : ∀ e' s', CX outer (upd H s.heap.objs.size (.tup ([] : List V))) { s with heap := s.heap.push ob } E e' s' → CX outer H s E e' s' := fun e' s' => hCX outer s H _ _ E e' s' un (fun b o q => Heap.get?_push_of_some _ q) rfl
    exact wpAny_mono z (fun _ s3 y => up e s3 y) fun e' s3 y => up e' s3 y
theorem FnK.imp {sp' : Sp} (F : FnK P w K mg base CX k f n ks sp) (h : ∀ vs H Q E, sp' vs H Q E → sp vs H Q E) : FnK P w K mg base CX k f n ks sp' := fun A outer s H us ws vs zs Q E hr e0 l1 l2 r rz hs => F A outer s H us ws vs zs Q E hr e0 l1 l2 r rz (h _ _ _ _ hs)
end
section
variable {M : Gm} {P : Program} {w : World} {mg : Str → Option Value} {base : Heap} {k n : Nat} {ks : List Str} {f : Addr}
end
end
end TS

set_option maxRecDepth 100000
set_option maxHeartbeats 2000000
namespace HT
open PySem PySem.Spec PyProof.Rows
section
variable {prog : Program} {w : World} {A : Around} {E : Value → Shared → Prop} {s : Shared}
end
end HT

set_option maxRecDepth 100000
set_option maxHeartbeats 4000000
namespace TS
open PySem L2 PySem.Spec PyProof.Rows
noncomputable section
section
variable {X : Cx} {M : Gm} {W : WX} {e st : Expr} {te : TE} {ts : TO} {p2 pos : Pos} {fe fs : FD}
end
end
end TS

set_option maxRecDepth 100000
set_option maxHeartbeats 4000000
namespace TS
open PySem L2
noncomputable section
section
variable {M : Gm} {W : WX} {X : Cx} {i0 ir : Nat}
end
def rRX (M : Gm) : List V → Hp → VK → Prop := fun xs H Q => ∃ (F : Hp) (d : D) (x : V) (q : PyData), xs = [x] ∧ Same F H ∧ rep M F d x ∧ toPd d = some q ∧ shOkD q = true ∧ Q (.str q.shown) H
section
variable {M : Gm} {W : WX} {X : Cx} {e : Expr} {fe : FD} {p pos : Pos}
theorem cr_reprX {k : Nat} (sm : SmK X.K) (hr : Room k X.A) (hK : X.K = M.K) : CallR X (.builtin "repr") (rRX M) := by
  rintro pins s σ H xs us Q I rv ⟨F, d, x, q, rfl, hs, rx, hd, ho, h⟩
  obtain ⟨u, rfl, ru⟩ := vals1 rv
  exact call_reprX hr hs hK sm rx hd ho I ru h
theorem rRX_of {c : Cn M} {F H : Hp} {σ : L2.St} {δ : Sl} {d : D} {x : Str} {v : V} {Q : VK} (ok : Ok c F H σ δ) (rd : rep M F d v) (e : gReprD d = some x) (post : Post c W F σ (ρD c) (.ok (.str x) δ) Q) : rRX M [v] H Q := by
  unfold gReprD at e
  split at e
  · rename_i p' hp'
    split at e
    · rename_i hsh
      cases e
      exact ⟨F, d, v, p', rfl, ok.same, rd, hp', hsh, post.ok ok (rep_str' _)⟩
    · cases e
  · cases e
variable {q : Cau}
end
end
end TS

set_option maxRecDepth 100000
set_option maxHeartbeats 4000000
namespace TS
open PySem L2
noncomputable section
structure LkF (M : Gm) (i : Nat) (ds : List D) (c : Cn M) (F H : Hp) (σ : L2.St) : Prop where
  ex : ∃ a vs, σ[i]? = some (some (.ref a)) ∧ F a = none ∧ c.H0 a ≠ none ∧ c.io ≠ some a ∧ H a = some (.lst vs) ∧ reps M F ds vs
section
variable {M : Gm} {W : WX} {X : Cx} {e e0 : Expr} {es : List Expr} {fa : FA} {f : Fm} {i : Nat} {ds : List D} {pos pos' : Pos}
theorem LkF.go {c : Cn M} {F H F1 H1 : Hp} {σ σ1 : L2.St} {δ δ1 : Sl} (h : LkF M i ds c F H σ) (ok : Ok c F H σ δ) (s : Same F F1) (ok1 : Ok c F1 H1 σ1 δ1) : ∃ a vs, σ[i]? = some (some (.ref a)) ∧ F1 a = none ∧ H1 a = some (.lst vs) ∧ reps M F1 ds vs := by
  obtain ⟨a, vs, h1, h2, h3, h4, h5, h6⟩ := h.ex
  have f0 : c.F0 a = none := by
    cases e : c.F0 a with
    | none => rfl
    | some o => rw [ok.grow a o e] at h2; cases h2
  cases e : c.H0 a with
  | none => exact absurd e h3
  | some o =>
    have k1 := ok.kept a o e h4
    have k2 := ok1.kept a o e h4
    rw [h5] at k1
    cases k1
    exact ⟨a, vs, h1, ok1.nofz a h3 f0, k2, reps_mono s _ _ h6⟩
end
section
variable {M : Gm} {P : Program} {w : World} {mg : Str → Option Value} {base : Heap}
end
section
variable {M : Gm} {W : WX} {X : Cx} {e e0 : Expr} {i n : Nat} {g : List D → Option (List D)}
end
end
end TS

set_option maxRecDepth 100000
set_option maxHeartbeats 4000000
namespace TS
open PySem L2
noncomputable section
section
variable {X : Cx} {M : Gm} {W : WX} {o : Expr} {apos cpos : Pos} {fe : FE} {i : Nat}
end
end
end TS

set_option maxRecDepth 100000
set_option maxHeartbeats 4000000
namespace TS
open PySem L2
noncomputable section
section
variable {X : Cx} {M : Gm} {W : WX} {a b : Expr} {fa fb : FD} {pos : Pos}
end
end
end TS

set_option maxRecDepth 100000
set_option maxHeartbeats 4000000
namespace TS
open PySem L2
noncomputable section
section
variable {X : Cx} {M : Gm} {W : WX} {a b : Expr} {fa fb : FD} {pos : Pos}
end
end
end TS

set_option maxRecDepth 100000
set_option maxHeartbeats 4000000
namespace TS
open PySem L2
noncomputable section
section
open PySem.Spec PyProof.Rows
variable {P : Program} {w : World} {K : PySem.W.Frag} {tg : Expr} {d : Addr} {o : Obj} {es : Array DictEntry} {ep : Nat}
variable {X : Cx} {e : Expr} {td : TE} {apos cpos : Pos}
end
def keyD : Key → D
  | .inl i => .int i
  | .inr x => .str x
def keysD (ks : List Key) : D := .tup (ks.map keyD)
section
variable {M : Gm} {c : Cn M} {W : WX} {X : Cx} {tg e : Expr} {F F1 H H1 : Hp} {σ : L2.St} {δ : Sl}
theorem rep_key (k : Key) : rep M F (keyD k) (kV k) := by cases k <;> (unfold keyD rep; rfl)
theorem reps_keys : ∀ ks : List Key, reps M F (ks.map keyD) (ks.map kV)
  | [] => reps_nil
  | k :: ks => reps_cons (rep_key k) (reps_keys ks)
theorem Yl.key {k : List Key} {q : Addr} (s : Same F H) (hq : H q = some (.tup (k.map kV))) : Yl M F H (.ref q) H (keysD k) := by
  refine ⟨fun b => if b = q then some (.tup (k.map kV)) else none, fun b o e => ?_, Same.refl _, ?_⟩
  · dsimp only at e
    by_cases z : b = q
    · subst z; rw [if_pos rfl] at e; cases e; exact ⟨⟨_, rfl⟩, hq⟩
    · rw [if_neg z] at e; cases e
  · unfold keysD rep
    refine ⟨q, _, rfl, ?_, reps_keys k⟩
    unfold ovH
    cases z : F q with
    | none => simp
    | some o => have := s _ _ z; rw [hq] at this; cases this; rfl
end
end
end TS

set_option maxRecDepth 100000
set_option maxHeartbeats 4000000
namespace TS
open PySem L2
noncomputable section
section
variable {M : Gm} {c : Cn M} {W : WX} {X : Cx} {e : Expr} {F H : Hp} {σ : L2.St} {δ : Sl} {fa : FA} {p pos : Pos}
end
end
end TS

set_option maxRecDepth 100000
set_option maxHeartbeats 4000000
namespace TS
open PySem L2
noncomputable section
section
variable {M : Gm} {c : Cn M} {W : WX} {X : Cx}
end
end
end TS

set_option maxRecDepth 100000
set_option maxHeartbeats 4000000
namespace TS
open PySem L2
noncomputable section
section
variable {M : Gm} {c : Cn M} {W : WX} {X : Cx}
end
end
end TS

set_option maxRecDepth 100000
set_option maxHeartbeats 4000000
namespace TS
open PySem L2 PySem.Spec PyProof.Rows
noncomputable section
section
variable {prog : Program} {w : World} {A : Around} {E : Value → Shared → Prop} {s : Shared} {env : Env}
end
section
variable {X : Cx} {W : WX} {M : Gm}
end
end
end TS

set_option maxRecDepth 100000
set_option maxHeartbeats 4000000
namespace L2
open PySem PySem.Spec PyProof.Rows
section
variable {X : Cx}
end
end L2
namespace TS
open PySem L2
noncomputable section
section
variable {M : Gm} {W : WX} {X : Cx} {tg : Expr} {F F1 H H1 : Hp} {σ : St} {δ : Sl}
end
end
end TS

set_option maxRecDepth 100000
set_option maxHeartbeats 4000000
namespace TS
open PySem L2 PySem.Spec PyProof.Rows
noncomputable section
section
variable {prog : Program} {w : World} {o : Obj} {es : Array DictEntry} {ep : Nat}
end
section
variable {X : Cx} {e : Expr} {te : TE} {apos cpos : Pos}
end
section
variable {M : Gm} {W : WX} {X : Cx} {e a c1 : Expr} {fe : FD} {p p2 apos cpos pos : Pos} {tab : Tg → Option Bool}
section
variable {k : Nat} {x : Str} {ad : Addr} {ns : List Int} (hr : Room k X.A) (hg : Gl X x) (hm : X.mg x = some (.ref ad)) (hk : KTup M.K ad ns) (ha : DI M W X a fe) (hK : X.K = M.K := by rfl) (hdb : (x == ("__debug__" : Str)) = false := by decide)
include hr hg hm hk ha hK hdb
end
end
end
end TS

set_option maxRecDepth 100000
set_option maxHeartbeats 4000000
namespace TS
open PySem L2 PySem.Spec PyProof.Rows
noncomputable section
section
variable {prog : Program} {w : World} {K : Type} [DecidableEq K] {knd : HeapKind prog w K} {A : Around} {E : Value → Shared → Prop} {s : Shared}
inductive HitsH {K : Type} [DecidableEq K] (A : Around) (s : Shared) (kb : List (K × Addr × Value)) : List (K × Addr × Value) → Bool → Prop
  | nil : HitsH A s kb [] true
  | miss {x : K × Addr × Value} {r : List (K × Addr × Value)} : atKey kb x.1 = none → HitsH A s kb (x :: r) false
  | hit {x : K × Addr × Value} {y : Addr × Value} {r : List (K × Addr × Value)} {e b : Bool} : atKey kb x.1 = some y → SeqAt.EqAt A s x.2.2 y.2 e → HitsH A s kb r b → HitsH A s kb (x :: r) (e && b)
theorem HitsH.inv {kb : List (K × Addr × Value)} {x : K × Addr × Value} {r : List (K × Addr × Value)} {b : Bool} (h : HitsH A s kb (x :: r) b) :
    (atKey kb x.1 = none ∧ b = false) ∨ ∃ y e b', atKey kb x.1 = some y ∧ SeqAt.EqAt A s x.2.2 y.2 e ∧ HitsH A s kb r b' ∧ b = (e && b') := by
  cases h with
  | miss hn => exact .inl ⟨hn, rfl⟩
  | hit hy he hr => exact .inr ⟨_, _, _, hy, he, hr, rfl⟩
end
section
variable {X : Cx} {pins : List (Addr × Obj)} {σ : L2.St} {H : Hp} {s : Shared}
end
section
variable {M : Gm} {F H : Hp}
end
section
variable {M : Gm} {W : WX} {X : Cx} {a b : Expr} {pos : Pos} {fa fb : FD} {k : Nat}
end
end
end TS

set_option maxRecDepth 100000
set_option maxHeartbeats 4000000
namespace TS
open PySem L2
noncomputable section
section
variable {M : Gm} {c : Cn M} {W : WX} {X : Cx} {F H : Hp} {σ : L2.St} {δ : Sl}
end
end
end TS

set_option maxRecDepth 100000
set_option maxHeartbeats 4000000
namespace TS
open PySem L2
noncomputable section
section
variable {M : Gm} {c : Cn M} {W : WX} {X : Cx} {F H : Hp} {σ : L2.St} {δ : Sl}
end
end
end TS

set_option maxRecDepth 100000
set_option maxHeartbeats 4000000
namespace L2
open PySem PySem.Spec PyProof.Rows
section
variable {X : Cx}
end
end L2
namespace TS
open PySem L2
noncomputable section
section
variable {M : Gm} {W : WX} {X : Cx} {tg : Expr}
end
end
end TS

set_option maxRecDepth 100000
set_option maxHeartbeats 4000000
namespace TS
open PySem L2
noncomputable section
section
variable {X : Cx} {c : Code} {st : Stmt} {rest ss : List Stmt} {t u : L2.TS}
end
section
variable {X : Cx} {W : WX}
end
section
variable {M : Gm} {W : WX} {X : Cx} {c : Code} {st : Stmt} {ss rest : List Stmt} {f g : FS}
end
structure FunX (K : PySem.W.Frag) (x qual : Str) (params : Arguments) (body : List Stmt) (scope : Scope) (f cc c : Addr) (fd : FuncData) : Prop where
  ex : ∃ (oc : Value) (od : Option Addr) (kV doc pm : Value) (an : Option Addr) (ct : Value) (osl : Array (Option Value)),
    fd = PySem.W.fnX x qual params body scope [("__class__", cc)] .none kV doc pm an (.ref c) ct ∧ K.lookup f = some ⟨oc, od, .func fd, osl⟩ ∧ PySem.W.codeIn K (.ref c) qual = true
  kp : PySem.W.keepIn K (.ref f) = true
section
variable {M : Gm} {P : Program} {w : World} {mg : Str → Option Value} {base : Heap}
theorem FunX.bindsN {K : PySem.W.Frag} {x qual : Str} {params : Arguments} {body : List Stmt} {scope : Scope} {f cc c : Addr} {fd : FuncData} {ps : List Str} (F : FunX K x qual params body scope f cc c fd)
    (h : ∀ (kV doc pm : Value) (an : Option Addr) (ct : Value) (us : List Value), us.length = ps.length → bindArgs (PySem.W.fnX x qual params body scope [("__class__", cc)] .none kV doc pm an (.ref c) ct) ⟨us, []⟩ = pure (ps.zip us)) : Binds K fd ps [] := by
  obtain ⟨oc, od, kV, doc, pm, an, ct, osl, rfl, _⟩ := F.ex
  intro s us kin hl
  rw [List.append_nil] at hl ⊢
  exact BindsTo.of_eq (h kV doc pm an ct us hl)
end
section
variable {X : Cx} {W : WX} {M : Gm} {K : PySem.W.Frag}
end
end
end TS

set_option maxRecDepth 100000
set_option maxHeartbeats 4000000
namespace TS
open PySem L2
noncomputable section
section
variable {M : Gm} {W : WX} {X : Cx} {e : Expr} {es : List Expr} {p pos : Pos} {x : Str} {k : Nat} {f : Addr} {sp : Sp}
end
end
end TS

set_option maxRecDepth 100000
set_option maxHeartbeats 4000000
namespace TS
open PySem L2
noncomputable section
section
variable {M : Gm} {c : Cn M} {W : WX} {X : Cx} {e : Expr} {F H : Hp} {σ : L2.St} {δ : Sl} {fa : FA} {p pos : Pos}
end
end
end TS

set_option maxRecDepth 100000
set_option maxHeartbeats 4000000
namespace PySem.SeqAt
open AutoSeq1 (wpAny_loadPart')
open MeetsSeq MeetsSeq2 MeetsSeq3 SeqRoads2
section
variable {prog : Program} {w : World} {A : Around} {s : Shared}
end
end PySem.SeqAt
namespace TS
open PySem L2 PySem.Spec PyProof.Rows PySem.SeqAt
noncomputable section
section
variable {X : Cx} {pins : List (Addr × Obj)} {σ : L2.St} {H : Hp} {s : Shared}
end
section
variable {M : Gm} {F H : Hp}
end
section
variable {M : Gm} {W : WX} {X : Cx} {a b : Expr} {pos : Pos} {fa fb : FD} {k : Nat}
end
end
end TS

set_option maxRecDepth 100000
namespace TS
open PySem L2
end TS

set_option maxRecDepth 100000
set_option maxHeartbeats 4000000
namespace TS
open PySem L2 PySem.W
noncomputable section
def DgK (K : PySem.W.Frag) : Prop := nsOkIn K cStatics = true ∧ nsIn K cStatics "sys.int_max_str_digits" = some none
theorem DgK.no {K : PySem.W.Frag} {h : Heap} (d : DgK K) (X : K.In h) : h.NoDigits :=
  ⟨_, .of_isNs (isNs_of_in X d.1), ns_none_of X (.of_isNs (isNs_of_in X d.1)) d.2⟩
section
variable {prog : Program} {w : World} {A : Around} {E : Value → Shared → Prop} {s : Shared}
end
section
variable {X : Cx} {M : Gm} {W : WX} {e : Expr} {fa : FD} {p pos : Pos}
end
end
end TS

set_option maxRecDepth 100000
set_option maxHeartbeats 4000000
namespace TS
open PySem L2
noncomputable section
structure RoomG (g : List Code) (k : Nat) (A : Around) : Prop where
  lo : L2.Room k A
  gu : A.guards = some g
theorem RoomG.deeper {g : List Code} {k : Nat} {A : Around} (r : RoomG g (k + 1) A) (env : Env) : RoomG g k (A.deeper env) := ⟨L2.Room.deeper r.lo env, r.gu⟩
theorem RoomG.mono {g : List Code} {j k : Nat} {A : Around} (r : RoomG g k A) (h : j ≤ k) : RoomG g j A := ⟨L2.Room.mono r.lo h, r.gu⟩
def FnRG (P : Program) (w : World) (K : PySem.W.Frag) (mg : Str → Option Value) (base : Heap) (CX : CXT) (k : Nat) (f : Addr) (sp : List Code → Sp) : Prop :=
  ∀ (g : List Code) (A : Around) (outer : List Env) (s : Shared) (H : Hp) (us : List Value) (vs : List V) (Q : VK) (E : XK), RoomG g k A → Env0 P w K mg base A outer s H → Vals vs us → sp g vs H Q E → codeAny (model P w) A (.call (.ref f) ⟨us, []⟩) (CR CX outer P w H s Q E) s
theorem FnRG.mono {P : Program} {w : World} {K : PySem.W.Frag} {mg : Str → Option Value} {base : Heap} {CX : CXT} {j k : Nat} {f : Addr} {sp : List Code → Sp} (F : FnRG P w K mg base CX j f sp) (h : j ≤ k) : FnRG P w K mg base CX k f sp := fun g A outer s H us vs Q E hr e0 => F g A outer s H us vs Q E (hr.mono h) e0
section
variable {P : Program} {w : World} {K : PySem.W.Frag} {mg : Str → Option Value} {base : Heap} {CX : CXT} {j k : Nat} {f : Addr} {fd : FuncData} {ps : List Str} {sp : List Code → Sp}
theorem FnRG.ofD {x qual : Str} {params : Arguments} {body : List Stmt} {scope : Scope} {dvs : List V} {kws : List (Str × V)} {N : List Str} (F : FunD K x qual params body scope dvs kws f fd) (S : FnScope N ps scope) (hbn : Binds K fd ps []) (len : ∀ g vs H Q E, sp g vs H Q E → vs.length = ps.length)
    (hb : ∀ (g : List Code) (cdv : Value) (A : Around) (outer : List Env) (s : Shared) (H : Hp) (vs : List V) (Q : VK) (E : XK), RoomG g k (A.deeper (PyProof.Rows.envOfC qual scope s.heap.objs.size f cdv)) → sp g vs H Q E →
      ∃ t, PSs (cxOf CX P w K mg base N qual scope f cdv A outer s H E) body t ∧ t { rt := Q, nx := fun _ H' => Q .non H' } (start N vs) H) : FnRG P w K mg base CX (k + 1) f sp := by
  obtain ⟨oc, od, dV, kV, doc, pm, an, cdv, ct, osl, rfl, lk, hcd, _, _⟩ := F.ex
  intro g A outer s H us vs Q E hr e0 rv hs
  have kin : K.In s.heap := e0.mod.kin.keeps fun b o e => (e0.bs b o e).1
  have nl : s.heap.NoLimit := e0.mod.nolimit.keeps fun b o e => (e0.bs b o e).1
  have lr : (us ++ []).length = ps.length := by rw [List.append_nil]; exact rv.length.symm.trans (len _ _ _ _ _ hs)
  have hbn' := hbn s us kin lr
  rw [List.append_nil] at hbn'
  have kinds : ∀ y ∈ ps.zip us, scope.names.lookup y.1 = some .local ∨ (scope.names.lookup y.1 = some .cell ∧ ((cellsFrom (s.heap.objs.size + 1) scope.names []).lookup y.1).isSome = true) := by
    rintro ⟨n, v⟩ hy
    have := S.par n (List.of_mem_zip hy).1
    exact this.elim Or.inl fun q => Or.inr ⟨q, PySem.W.cellsFrom_some _ _ _ (Or.inl q)⟩
  refine codeAny_call_function hr.lo.depth (kin _ _ lk) rfl S.co S.gen rfl (PySem.W.codeRec_of kin hcd) (hbn' _ _ _ _ (PySem.wpAny_newFunctionEnv_cells S.kind kinds ?_))
  rintro env rfl s1 x1
  refine ⟨nl.keeps x1.toInCall.keep, codeAny_func ?_⟩
  obtain ⟨t, pt, ht⟩ := hb g cdv A outer s H vs Q E (RoomG.deeper hr _) hs
  have I1 := inv_start (CX := CX) (E := E) S hr.lo.hd e0 (len _ _ _ _ _ hs) rv x1
  refine wpAny_mono (pt.run [] s1 _ H _ I1 ht) (fun fl s2 z => ?_) fun _ _ z => z
  cases fl with
  | ret u => obtain ⟨v, σ2, H2, J, ru, q⟩ := z; exact ⟨v, H2, J.os, J.bare, J.base, J.hok, ru, q⟩
  | next => obtain ⟨σ2, H2, J, q⟩ := z; exact ⟨V.non, H2, J.os, J.bare, J.base, J.hok, rfl, q⟩
  | brk => obtain ⟨_, _, _, q⟩ := z; exact q.elim
  | cont => obtain ⟨_, _, _, q⟩ := z; exact q.elim
end
def GOK (g : List Code) (F : Hp) : Prop := ∀ c ∈ g, ∃ id a rest kw vs b C dx fs, c = .builtin id ⟨.ref a :: rest, kw⟩ ∧ F a = some (.lst vs) ∧ V.ref b ∈ vs ∧ F b = some (.ins C dx fs)
theorem GOK.mono {g : List Code} {F F' : Hp} (h : GOK g F) (e : Same F F') : GOK g F' := fun c hc => by
  obtain ⟨id, a, rest, kw, vs, b, C, dx, fs, e1, e2, e3, e4⟩ := h c hc
  exact ⟨id, a, rest, kw, vs, b, C, dx, fs, e1, e _ _ e2, e3, e _ _ e4⟩
theorem reads_mem {h : Heap} {x : Value} : ∀ {vs : List Value} {ds : List PyData} {as : List Addr}, ReadsAll h vs ds as → x ∈ vs → ∃ d bs, Reads h x d bs
  | _, _, _, .nil, hx => nomatch hx
  | _, _, _, .cons r rs, hx => by
    rcases List.mem_cons.mp hx with rfl | hx
    · exact ⟨_, _, r⟩
    · exact reads_mem rs hx
theorem vals_mem {x : V} {vs : List V} {us : List Value} (h : Vals vs us) (hx : x ∈ vs) : ∃ u ∈ us, RelV x u := by
  induction h with
  | nil => cases hx
  | cons r rs ih =>
    rcases List.mem_cons.mp hx with rfl | hx
    · exact ⟨_, List.mem_cons_self .., r⟩
    · obtain ⟨u, hu, q⟩ := ih hx
      exact ⟨u, List.mem_cons_of_mem _ hu, q⟩
section
variable {X : Cx} {pins : List (Addr × Obj)} {σ : St} {F H : Hp} {s : Shared}
theorem gok_clear {g : List Code} {n : Nat} {bs : List Addr} (I : Inv X pins σ H s) (hs : Same F H) (hg : GOK g F) (hb : ReadAtMost s.heap n bs) : ∀ b ∈ bs, Clear g b := by
  rintro b hm id v rest kw hc rfl
  obtain ⟨id', a, rest', kw', vs, x, C, dx, fs, e1, e2, e3, e4⟩ := hg _ hc
  cases e1
  obtain ⟨d, as, r, _⟩ := hb b hm
  obtain ⟨its, rv, ⟨⟨cls, dd, data, sls⟩, m, ho, hcl, hdn, hdt⟩, hlen⟩ := I.list (SqL.of (hs _ _ e2))
  simp only at hcl hdt
  subst hcl hdt
  obtain ⟨u, hu, ru⟩ := vals_mem rv e3
  obtain rfl : u = Value.ref x := ru
  obtain ⟨mA, J, _⟩ := ins_get I.hok (hs _ _ e4)
  obtain ⟨od, J, _⟩ := J.look
  have key : ∀ {d : PyData} {cs : List Addr}, Reads s.heap (.ref x) d cs → False := fun r => by
    have k1 := J.at_
    have k2 := J.cls
    cases r with
    | list h1 h2 h3 h4 => rw [k1] at h1; cases h1; rw [k2] at h2; cases h2
    | tuple h1 h2 h3 h4 => rw [k1] at h1; cases h1; rw [k2] at h2; cases h2
    | dict h1 h2 h3 h4 h5 => rw [k1] at h1; cases h1; rw [k2] at h2; cases h2
  cases r with
  | list h1 h2 h3 h4 =>
    rw [ho] at h1; cases h1
    cases h3
    obtain ⟨d', bs', r'⟩ := reads_mem h4 (by simpa using hu)
    exact key r'
  | tuple h1 h2 h3 h4 => rw [ho] at h1; cases h1; exact absurd h2 (by simp)
  | dict h1 h2 h3 h4 h5 => rw [ho] at h1; cases h1; exact absurd h2 (by simp)
end
def spDP (PF : Hp → Prop) (M : Gm) (f : Fm) : Sp := fun vs H Q E => ∃ (F : Hp) (_ : PF F) (io : Option OB) (a : Addr) (ws : List V) (ds : List D),
  vs = ioV io a ++ ws ∧ Same F H ∧ Tb M F H ∧ reps M F ds ws ∧ ioAt M F H io a ∧
  match f io ds with
  | .ok r io' => ∀ v F' H', Stp M F H F' H' (io.map fun _ => a) → resAt M H F' H' r v → ioAt M F' H' io' a → Q v H'
  | .exc x io' => ∀ cls d F' H', Stp M F H F' H' (io.map fun _ => a) → xAt M F' x cls d H' → ioAt M F' H' io' a → E cls d H'
  | .bad => False
section
variable {M : Gm}
theorem spDP.un {PF : Hp → Prop} {f : Fm} {vs : List V} {H : Hp} {Q : VK} {E : XK} (h : spDP PF M f vs H Q E) : spD M f vs H Q E := by
  obtain ⟨F, _, h⟩ := h
  exact ⟨F, h⟩
theorem body_okP {PF : Hp → Prop} {N : List Str} {np : Nat} {g : FS} {t : TS} {vs : List V} {H : Hp} {Q : VK} {E : XK} (hN : np ≤ N.length) (h : spDP PF M (mir N.length np g) vs H Q E)
    (ht : ∀ (c : Cn M), PF c.F0 → ∀ F H σ δ D, Ok c F H σ δ → PostS c (fun cls d _ H => E cls d H) F (g δ) D → t D σ H) : t { nx := fun _ H' => Q .non H', rt := Q } (start N vs) H := by
  have hv := mir_ok (spDP.un h)
  obtain ⟨F, hPF, io, a, ws, ds, rfl, s, tb, rs, ia, h⟩ := h
  have hio : ∀ b, (io.map fun _ => a) = some b → ∃ u, H b = some u ∧ NT u := fun b e => by
    cases io with
    | none => cases e
    | some o =>
      cases e
      exact obAt_nt ia.2
  unfold mir at h
  have hcond : ioN io + ds.length = np ∧ np ≤ N.length := by
    refine ⟨?_, hN⟩
    rw [List.length_append, reps_length rs] at hv
    cases io <;> simp [ioV, ioN] at hv ⊢ <;> omega
  rw [if_pos hcond] at h
  have hle : ioN io + ds.length ≤ N.length := by rw [hcond.1]; exact hcond.2
  have ok : Ok (cnOf (M := M) F H io a hio) F H (start N (ioV io a ++ ws)) (ini N.length io ds) := by
    refine ⟨s, Same.refl _, fun _ _ z => z, fun _ _ z _ => (str0_nt z).1, hio, tb, ?_, fun i r e => ?_, fun i j r r' v hij e1 e2 m1 m2 _ _ => ?_⟩
    · rw [ini_len hle]
      unfold L2.start
      rw [List.length_append, List.length_map, List.length_replicate]
      rw [hv]; omega
    · cases io with
      | none =>
        obtain ⟨d, hd, rfl⟩ := ini_get_none e
        obtain ⟨v, e1, e2⟩ := reps_get rs hd
        refine ⟨v, ?_, e2⟩
        unfold L2.start
        have hl : i < ws.length := (List.getElem?_eq_some_iff.mp e1).1
        simp only [ioV, List.nil_append]
        rw [List.getElem?_append_left (by simpa using hl), List.getElem?_map, e1]; rfl
      | some o =>
        rcases ini_get_some e with ⟨rfl, rfl⟩ | ⟨j, d, rfl, hd, rfl⟩
        · exact ⟨.ref a, rfl, a, rfl, ia.1, rfl, ia.2⟩
        · obtain ⟨v, e1, e2⟩ := reps_get rs hd
          refine ⟨v, ?_, e2⟩
          unfold L2.start
          have hl : j < ws.length := (List.getElem?_eq_some_iff.mp e1).1
          simp only [ioV, List.cons_append, List.nil_append, List.map_cons, List.getElem?_cons_succ]
          rw [List.getElem?_append_left (by simpa using hl), List.getElem?_map, e1]; rfl
    · cases io with
      | none => obtain ⟨d, _, rfl⟩ := ini_get_none e1; cases m1
      | some o =>
        rcases ini_get_some e1 with ⟨rfl, rfl⟩ | ⟨j1, d, rfl, hd, rfl⟩
        · rcases ini_get_some e2 with ⟨rfl, rfl⟩ | ⟨j1, d, rfl, hd, rfl⟩
          · exact hij rfl
          · cases m2
        · cases m1
  have stp : ∀ {F' H' : Hp} {σ' : St} {δ' : Sl}, Ok (cnOf (M := M) F H io a hio) F' H' σ' δ' → Stp M F H F' H' (io.map fun _ => a) := fun o => ⟨o.grow, fun b u e n z => o.nofz b (by show str0 H b ≠ none; rw [str0_of e n]; exact fun z => by cases z) z, fun b u e n i => o.kept b u (str0_of e n) i, o.same, o.tb⟩
  have iout : ∀ {F' H' : Hp} {σ' : St} {δ' : Sl} {io' : Option OB}, Ok (cnOf (M := M) F H io a hio) F' H' σ' δ' → ioOut io δ' = some io' → ioAt M F' H' io' a := fun {F' H' σ' δ' io'} o e => by
    unfold ioOut at e
    cases io with
    | none => cases e; trivial
    | some ob =>
      simp only at e
      split at e
      · rename_i o' q
        cases e
        obtain ⟨v, k1, b, rfl, k2, k3, k4⟩ := o.slot 0 _ q
        have : a = b := Option.some.inj k3
        subst this
        exact ⟨k2, k4⟩
      · cases e
  refine ht _ hPF F H _ _ _ ok ?_
  cases q : g (ini N.length io ds) with
  | bad => rw [q] at h; exact h.elim
  | bk δ => rw [q] at h; exact h.elim
  | ct δ => rw [q] at h; exact h.elim
  | nx δ =>
    rw [q] at h
    unfold outR at h
    intro F' H' σ' g' ok'
    cases e : ioOut io δ with
    | none => simp only [e] at h
    | some io' =>
      simp only [e] at h
      exact h .non F' H' (stp ok') (rep_non' (M := M) (F := F')) (iout ok' e)
  | rt r δ =>
    rw [q] at h
    unfold outR at h
    intro v F' H' σ' g' ok' rr
    cases e : ioOut io δ with
    | none => simp only [e] at h
    | some io' =>
      simp only [e] at h
      refine h v F' H' (stp ok') ?_ (iout ok' e)
      cases r with
      | imm d => exact rr
      | own o =>
        obtain ⟨b, rfl, k1, k2, k3, _⟩ := rr
        exact ⟨b, rfl, k1, str0_none k2, k3⟩
      | brw o => exact rr
  | exc x δ =>
    rw [q] at h
    unfold outR at h
    intro cls d F' H' σ' g' ok' xa
    cases e : ioOut io δ with
    | none => simp only [e] at h
    | some io' =>
      simp only [e] at h
      exact h cls d F' H' (stp ok') xa (iout ok' e)
end
section
variable {X : Cx} {M : Gm} {W : WX} {g : List Code} {e v1 v2 : Expr} {es rest : List Expr} {fe : FD} {pos : Pos} {j : Str → Sl → Res Str}
def DIg (g : List Code) (M : Gm) (W : WX) (X : Cx) (e : Expr) (f : FD) : Prop := ∃ t, PE X e t ∧ ∀ (c : Cn M), GOK g c.F0 → ∀ F H σ δ Q, Ok c F H σ δ → Post c W F σ (ρD c) (f δ) Q → t σ H Q
def DJg (g : List Code) (M : Gm) (W : WX) (X : Cx) (es : List Expr) (f : Str → Sl → Res Str) : Prop := ∃ ts, PJ X es ts ∧ ∀ (c : Cn M), GOK g c.F0 → ∀ F H σ δ acc (Q : Str → Hp → Prop), Ok c F H σ δ → Post c W F σ ρS (f acc δ) Q → tJs ts acc σ H Q
def DSg (g : List Code) (M : Gm) (W : WX) (X : Cx) (s : List Stmt) (f : FS) : Prop := ∃ t, PSs X s t ∧ ∀ (c : Cn M), GOK g c.F0 → ∀ F H σ δ E, Ok c F H σ δ → PostS c W F (f δ) E → t E σ H
theorem dig_of (h : DI M W X e fe) : DIg g M W X e fe := by
  obtain ⟨t, p, h⟩ := h
  exact ⟨t, p, fun c _ => h c⟩
theorem djg_nil : DJg g M W X [] jNil := ⟨_, .nil, fun c _ F H σ δ acc Q ok post => post.ok ok rfl⟩
theorem djg_cons (h : DIg g M W X e fe) (h' : DJg g M W X es j) : DJg g M W X (e :: es) (jCons fe j) := by
  obtain ⟨t, p, h⟩ := h
  obtain ⟨ts, p', h'⟩ := h'
  refine ⟨_, .cons p p', fun c gc F H σ δ acc Q ok post => h c gc F H σ δ _ ok (Post.bind post fun d δ1 v F1 H1 _ s1 ok1 r post => ?_)⟩
  split at post
  · rename_i y _
    split at post
    · rename_i hl
      have ev : v = .str y := by have z : rep M F1 (.str y) v := r; unfold rep at z; exact z
      exact ⟨y, ev, of_gd hl, h' c gc F1 H1 σ δ1 _ Q ok1 post⟩
    · exact post.elim
  · exact post.elim
theorem dig_joined (h : DJg g M W X (v1 :: v2 :: rest) j) : DIg g M W X (.JoinedStr (v1 :: v2 :: rest) pos) (fJoined j) := by
  obtain ⟨ts, p, h⟩ := h
  refine ⟨_, pe_joined p, fun c gc F H σ δ Q ok post => h c gc F H σ δ _ _ ok (Post.bind post fun y δ1 z F1 H1 _ s1 ok1 r post => ?_)⟩
  cases (show z = y from r)
  exact post.ok ok1 (rep_str' _)
theorem dsg_ret (h : DIg g M W X e fe) : DSg g M W X [.Return (some e) pos] (sRet (toE fe)) := by
  obtain ⟨t, p, h⟩ := h
  refine ⟨_, pss_one (ps_ret p), fun c gc F H σ δ E ok post => h c gc F H σ δ _ ok ?_⟩
  have post := PostS.ofE post fun r δ1 v F1 H1 _ s ok1 rr post => post v F1 H1 σ (Same.refl _) ok1 rr
  exact Post.bind post fun d δ1 v F1 H1 _ s ok1 r post => post.ok ok1 r
theorem pe_fmtG {k : Nat} (hr : RoomG g k X.A) {te : TE} (he : PE X e te) : PE X (.FormattedValue e 114 none pos) (fun σ H Q => te σ H fun x H1 => ∃ ps F, Dp X.K H1 x (.list ps) ∧ shOk (.list ps) = true ∧ Same F H1 ∧ GOK g F ∧ Q (.str (PyData.list ps).shown) H1) := by
  refine ⟨fun pins s σ H Q I h => ?_⟩
  refine PySem.wpAny_FormattedValue_repr (thn (he.run pins s σ H _ I h) fun v s1 hv => ?_)
  obtain ⟨x, H1, I1, r1, ps, F, hd, hs, sm, gk, q⟩ := hv
  obtain ⟨h1, h2, h3, h4⟩ := of_gd hs
  obtain ⟨as, rd⟩ := Dp.reads I1 _ x v hd r1
  have hu := hr.lo.un
  have fin : ∀ (h' : Heap) (u : Tok) (tk : Nat), (∀ b o, s1.heap.get? b = some o → h'.get? b = some o) → wpAny (model X.prog X.w) X.A (formatField (.str (PyData.list ps).shown u) Str.empty) (EP X pins σ Q) X.xe { s1 with heap := h', toks := tk } := fun h' u tk kp => wpAny_formatField_str ⟨.str _, H1, I1.kept kp, ⟨_, rfl⟩, q⟩ ⟨.str _, H1, (I1.kept kp).tok _, ⟨_, rfl⟩, q⟩ h4
  have hz' : (listText (PyData.shownAll ps)).length ≤ sizeLine := by simpa only [PyData.shown] using h4
  cases rd with
  | list g1 g2 g3 g4 =>
    rename_i a o vs n as0
    have nd : PyData.hasDictAll ps = false := by simpa [PyData.hasDict] using h2
    obtain ⟨bs, hb, hk⟩ := ReprAllK.of_readsAll (prog := X.prog) (w := X.w) g4 (by simpa [PyData.showable] using h1) (fun hx => by rw [nd] at hx; cases hx) (fun t ht => Nat.le_trans (listText_mem_le ht) hz')
    have rr : Reads s1.heap (.ref a) (.list ps) _ := .list g1 g2 g3 g4
    have hna : a ∉ bs := not_mem_of_deeper rr (by simp only [PyData.depth]; omega) hb
    have hcl : ∀ b ∈ a :: bs, Clear g b := gok_clear I1 sm gk (ReadAtMost.cons rr (by simp only [PyData.depth]; omega) hb)
    have dd : PyData.depthAll ps + 1 ≤ 32 := by simpa only [PyData.depth] using h3
    obtain ⟨l⟩ := vs
    cases l with
    | nil =>
      have g4' : ReadsAll s1.heap [] ps _ := g4
      cases g4'
      have fin0 := fin
      simp only [PyData.shown, PyData.shownAll, listText_nil] at fin
      exact wpAny_pyReprObj_list_empty ⟨o, g1, g2⟩ (by omega) g1 g3 (fin s1.heap _ _ fun _ _ e => e)
    | cons x0 l =>
      simp only [PyData.shown] at fin
      exact wpAny_pyReprObj_listK g1 g2 g3 hna (by simpa using hk.length_eq) (fun i y e => hk.item i y (by simpa using e)) hr.gu hcl (by omega) (fun _ _ e => e) (fun h' u tk kp => fin h' u tk kp) hz'
theorem dig_fmtL {k : Nat} (hr : RoomG g k X.A) (h : DIg g M W X e fe) (hK : X.K = M.K := by rfl) : DIg g M W X (.FormattedValue e 114 none pos) (fFmtL fe) := by
  obtain ⟨t, p, h⟩ := h
  refine ⟨_, pe_fmtG hr p, fun c gc F H σ δ Q ok post => h c gc F H σ δ _ ok (Post.bind post fun d δ1 v F1 H1 _ s1 ok1 r post => ?_)⟩
  split at post
  · rename_i ps e
    split at post
    · rename_i hs
      exact ⟨ps, F1, by rw [hK]; exact prep_dp ok1.same (.inl r) e, hs, ok1.same, gc.mono ok1.grow, post.ok ok1 (rep_str' _)⟩
    · exact post.elim
  · exact post.elim
end
theorem fnRG_mir {P : Program} {w : World} {M : Gm} {mg : Str → Option Value} {base : Heap} {x qual : Str} {params : Arguments} {body : List Stmt} {scope : Scope} {dvs : List V} {kws : List (Str × V)} {f : Addr} {fd : FuncData} {N ps : List Str} {k : Nat} {gf : FS} (F : FunD M.K x qual params body scope dvs kws f fd) (S : FnScope N ps scope) (hbn : Binds M.K fd ps []) (hN : ps.length ≤ N.length)
    (hb : ∀ (g : List Code) (cdv : Value) (A : Around) (outer : List Env) (s : Shared) (H : Hp) (E : XK), RoomG g k (A.deeper (PyProof.Rows.envOfC qual scope s.heap.objs.size f cdv)) →
      DSg g M (fun cls d _ H => E cls d H) (cxOf (L2.CX P w) P w M.K mg base N qual scope f cdv A outer s H E) body gf) :
    FnRG P w M.K mg base (L2.CX P w) (k + 1) f (fun g => spDP (GOK g) M (mir N.length ps.length gf)) :=
  FnRG.ofD F S hbn (fun g vs H Q E h => mir_ok (spDP.un h)) fun g cdv A outer s H vs Q E hr h => by
    obtain ⟨t, p, ht⟩ := hb g cdv A outer s H E hr
    exact ⟨t, p, body_okP hN h ht⟩
def SpG (M : Gm) (P : Program) (w : World) (mg : Str → Option Value) (base : Heap) (k : Nat) (tab : Nat → Option Fm) : Prop := ∀ n f, tab n = some f → ∃ C g, M.G n = some C ∧ PySem.W.findIn M.K (.ref C) "__repr__" = some (some (.ref g)) ∧ PySem.W.isFn M.K (.ref g) = true ∧ FnRG P w M.K mg base (L2.CX P w) k g (fun gs => spDP (GOK gs) M f)
section
variable {M : Model} {A : Around} {E : Value → Shared → Prop} {s : Shared} {K : PySem.W.Frag} {x C f : Addr} {ox : Obj} {od : Option Obj} {name : Str}
theorem ifBoundBy_K {last : Value → List Value → Sem Value} {Q : Option Value → Shared → Prop} (X : K.In s.heap) (I : PySem.W.InstAt s.heap x ox C od) (hs : PySem.W.findIn K (.ref C) name = some (some (.ref f))) (hf : PySem.W.isFn K (.ref f) = true)
    (h : wpAny M A (last (.ref f) [.ref x]) (fun v => Q (some v)) E s) : wpAny M A (callSpecialIfBoundBy? last (.ref x) name) Q E s := by
  simp only [callSpecialIfBoundBy?, bindSpecialIfBound?]
  refine wpAny_holding (wpAny_bind (wpAny_bind (wpAny_bind (I.type.here ((PySem.W.looks_findIn X hs).here ?_)))))
  refine wpAny_bind (wpAny_askSetting (wpAny_ite ?_))
  have fin : wpAny M A (last (.ref f) [.ref x] >>= fun v => pure (some v)) Q E s := wpAny_bind (wpAny_mono h (fun v s' h' => wpAny_pure h') fun _ _ h' => h')
  split
  · exact wpAny_bind ((PySem.W.bind_fn X _ (beq_iff_eq.mp hf)).here (wpAny_pure (by exact fin)))
  · exact wpAny_tryCatch (wpAny_bind ((PySem.W.bind_fn X _ (beq_iff_eq.mp hf)).here (wpAny_pure (by exact fin))))
theorem reprUnder_own {n : Nat} {Q : Str → Shared → Prop} (hn : n ≤ sizeLine) (hu : A.units < cLine) (X : K.In s.heap) (I : PySem.W.InstAt s.heap x ox C od) (hs : PySem.W.findIn K (.ref C) "__repr__" = some (some (.ref f))) (hf : PySem.W.isFn K (.ref f) = true)
    (h : wpAny M A (call (.ref f) [.ref x]) (fun v s' => ∃ y u, v = .str y u ∧ Q y s') E s) : wpAny M A (pyReprUnder n (.ref x)) Q E s := by
  refine wpAny_pyReprUnder_ref hn ?_
  unfold pyReprObjUnder pyReprObjBy
  refine wpAny_bind (wpAny_cRoomFor hu ?_)
  refine wpAny_bind (wpAny_bind (I.type.here ((PySem.W.looks_findIn X hs).here ?_)))
  show wpAny _ _ (if (some (Value.ref f)).isNone = true then _ else _) _ _ _
  rw [if_neg (by simp)]
  refine wpAny_bind (ifBoundBy_K X I hs hf ?_)
  show wpAny M A (call (.ref f) ([.ref x] ++ [])) _ _ _
  refine wpAny_mono h (fun v s' hv => ?_) fun _ _ y => y
  obtain ⟨y, u, rfl, hq⟩ := hv
  refine wpAny_bind (wpAny_isInstance (typeIs_str _ _ _) isSubtype_str_str ?_)
  first
    | exact wpAny_pure ⟨_, _, rfl, hq⟩
    | (rw [if_pos rfl]; exact wpAny_pure ⟨_, _, rfl, hq⟩)
end
abbrev loopC (a : Addr) (i : Int) (P : Addr) (m : Int) : Code := .builtin "list.__repr__.loop" ⟨[.ref a, rawInt i, .ref P, rawInt m], []⟩
theorem loopC_depth {A : Around} {a P : Addr} {i m : Int} : (A.under (loopC a i P m)).depth ≤ A.depth + 1 := by
  simp [Around.under, Code.weight, Code.isCreation, Code.isGuard, Code.isCaller, Code.frames, Code.isFrame, guardIds]
theorem RoomG.loop {k : Nat} {A : Around} (r : Room (k + 1) A) (a : Addr) (i : Int) (P : Addr) (m : Int) : RoomG [loopC a i P m] k (A.under (loopC a i P m)) := by
  have h1 := loopC_depth (A := A) (a := a) (P := P) (i := i) (m := m)
  have h2 : (A.under (loopC a i P m)).units = A.units + 1 := units_under_list_loop A _
  have h3 := r.lo.dp
  have h4 := r.lo.un
  exact ⟨⟨r.lo.hd, by omega, by omega⟩, guards_under_guard (isGuard_list_loop _) r.gu⟩
theorem strs_of : ∀ {ys : List Str} {us : List Value}, Vals (ys.map V.str) us → ∃ done : List (Str × Tok), us = strValues done ∧ done.map (·.1) = ys
  | [], us, h => by
    cases us with
    | nil => exact ⟨[], rfl, rfl⟩
    | cons u us => cases h
  | y :: ys, us, h => by
    cases us with
    | nil => cases h
    | cons u us =>
      cases h with
      | cons r rs =>
        obtain ⟨t, rfl⟩ := r
        obtain ⟨d, rfl, e⟩ := strs_of rs
        exact ⟨(y, t) :: d, rfl, by simp [e]⟩
section
open Builtin Builtin.List
variable {X : Cx} {M : Gm} {A : Around} {R : Result → Shared → Prop} {pins : List (Addr × Obj)} {σ : St} {F H : Hp}
structure Jl (X : Cx) (M : Gm) (pins : List (Addr × Obj)) (σ : St) (F H : Hp) (P : Addr) (F1 H1 : Hp) (ys : List Str) (s : Shared) : Prop where
  I : Inv X pins σ H1 s
  st : Stp M F H F1 H1 none
  hp : H1 P = some (.lst (ys.map V.str))
  fp : F1 P = none
theorem turns_own {a P : Addr} {vs : List V} {ts : List Str} (hP0 : H P = none) (ea : F a = some (.lst vs)) (hlen : ts.length = vs.length) (hsz : (listText ts).length ≤ sizeLine)
    (hT : ∀ (i m n : Nat) (v : V) (u : Value) (t : Str) (s : Shared) (F1 H1 : Hp) (ys : List Str) (Q : Str → Shared → Prop), vs[i]? = some v → ts[i]? = some t → n + t.length ≤ sizeLine → Jl X M pins σ F H P F1 H1 ys s → RelV v u →
      (∀ s' F2 H2, Jl X M pins σ F H P F2 H2 ys s' → Q t s') →
      wpAny (model X.prog X.w) (A.under (loopC a i P m)) (pyReprUnder n u) Q (fun e s' => R (.error e) s') s)
    (hR : ∀ s' F1 H1 ys u, Jl X M pins σ F H P F1 H1 ys s' → R (.ok (.ret (.str (listText ts) u))) { s' with toks := s'.toks + 1 }) :
    ∀ (k i : Nat) (s : Shared) (F1 H1 : Hp), vs.length - i = k → i ≤ vs.length → Jl X M pins σ F H P F1 H1 (ts.take i) s →
    codeAny (model X.prog X.w) A (loopC a i P (piled (ts.take i) : Nat)) R s := by
  have hp3 := piled_le_listText ts
  have hL := textFrom_len ts 0 "["
  have hX : (listText ts).length = (textFrom 0 "[" ts).length + 1 := by
    show (textFrom 0 "[" ts ++ "]").length = _
    rw [strLen_append]; rfl
  have many : ts.length ≤ sizeLine := by
    have h1 := hL.1
    rw [if_neg (Nat.lt_irrefl 0)] at h1
    omega
  intro k
  induction k with
  | zero =>
    intro i s F1 H1 hk hi j
    have hin : i = vs.length := by omega
    obtain ⟨its, n, rv, ho, hz⟩ := j.I.lst (j.st.same _ _ (j.st.grow _ _ ea))
    obtain ⟨ps, n2, rp, hp, hz2⟩ := j.I.lst j.hp
    obtain ⟨done, rfl, hd⟩ := strs_of rp
    have il : its.length = vs.length := rv.length.symm
    refine codeAny_builtin PySem.F.entry_list_repr_loop ?_
    show wpAny _ _ («list.__repr__.loop» ⟨[.ref a, .int i 0, .ref P, .int ((piled (ts.take i) : Nat) : Int) 0], []⟩) _ _ s
    rw [repr_loop_tree]
    refine wpAny_bind (wpAny_listItems ho rfl ?_)
    simp only [show its.toArray[(i : Int).toNat]? = none by simp [hin, il]]
    unfold reprEnd
    refine wpAny_bind (wpAny_listItems hp rfl ?_)
    rw [show (strValues done).toArray.toList = strValues done by simp, repr_fold]
    refine wpAny_bind (wpAny_pure ?_)
    rw [show done.map (·.1) = ts by rw [hd, hin, ← hlen, List.take_length]]
    exact wpAny_bind (wpAny_mkStr (wpAny_pure (hR s F1 H1 _ _ j)) hsz)
  | succ k ih =>
    intro i s F1 H1 hk hi j
    have hlt : i < vs.length := by omega
    obtain ⟨its, n, rv, ho, hz⟩ := j.I.lst (j.st.same _ _ (j.st.grow _ _ ea))
    have il : its.length = vs.length := rv.length.symm
    obtain ⟨t, ht⟩ : ∃ t, ts[i]? = some t := ⟨ts[i], List.getElem?_eq_getElem (by omega)⟩
    have hv : vs[i]? = some vs[i] := List.getElem?_eq_getElem hlt
    obtain ⟨u, hu, ru⟩ := rv.get hv
    have hp1 := piled_take_succ ht
    have hp2 := piled_take_le ts (i + 1)
    have tl : t.length ≤ sizeLine := by
      have h2 := hL.2.1 t (List.mem_of_getElem? ht)
      omega
    refine codeAny_builtin PySem.F.entry_list_repr_loop ?_
    show wpAny _ _ («list.__repr__.loop» ⟨[.ref a, .int i 0, .ref P, .int ((piled (ts.take i) : Nat) : Int) 0], []⟩) _ _ s
    rw [repr_loop_tree]
    refine wpAny_bind (wpAny_listItems ho rfl ?_)
    simp only [show its.toArray[(i : Int).toNat]? = some u by simpa using hu]
    rw [Int.toNat_natCast]
    refine wpAny_bind (wpAny_holding (hT i _ _ vs[i] u t s F1 H1 _ _ hv ht (by omega) j ru fun s' F2 H2 j2 => ?_))
    refine wpAny_bind (wpAny_mkStr ?_ tl)
    refine wpAny_bind ?_
    show wpAny _ _ (updateSeq P _) _ _ _
    have I2 := j2.I.tok (s'.toks + 1)
    obtain ⟨z, ps, n2, rp, pl, hp⟩ := I2.lstM j2.hp
    have psl : ps.length ≤ sizeLine := by rw [← pl]; exact z
    refine wpAny_updateSeq hp rfl (wpAny_pure ⟨PySem.F.quiet_list_repr_loop _, ?_⟩) (by simpa using psl) (by simp; omega)
    have e1 : ((i : Int) + 1) = ((i + 1 : Nat) : Int) := by omega
    have e2 : piled (ts.take i) + (t.length + 2) = piled (ts.take (i + 1)) := by omega
    rw [e1, e2]
    have et : (ts.take (i + 1)).map V.str = (ts.take i).map V.str ++ [V.str t] := by simp [List.take_add_one, ht]
    have I3 := I2.lset (t' := s'.toks + 1) (ys := (ts.take (i + 1)).map V.str) (its' := ps ++ [.str t s'.toks]) (f := (·.push (.str t s'.toks))) j2.hp hp (by simp) (by rw [et]; exact rp.append (.cons ⟨_, rfl⟩ .nil)) (by simp; omega)
    refine ih (i + 1) _ F2 (upd H2 P (.lst ((ts.take (i + 1)).map V.str))) (by omega) hlt ⟨I3, ?_, upd_same, j2.fp⟩
    refine ⟨j2.st.grow, j2.st.nofz, fun b o e n z => ?_, fun b o e => ?_, j2.st.tb.write j2.hp rfl⟩
    · rw [upd_ne (L2.ne_of_none e hP0)]; exact j2.st.kept b o e n z
    · rw [upd_ne (L2.ne_of_none e j2.fp)]; exact j2.st.same b o e
end
def isO : D → Bool
  | .obj _ _ => true
  | _ => false
def itO (tab : Nat → Option Fm) (d : D) : Option Str := match gU okT tab d with
  | some (.str y) => some y
  | _ => none
def itD (d : D) : Option Str := match toP d with
  | some p => if shOk p then some p.shown else none
  | none => none
def itS (tab : Nat → Option Fm) (d : D) : Option Str := if isO d then itO tab d else itD d
theorem itS_cases {tab : Nat → Option Fm} {d : D} {t : Str} (h : itS tab d = some t) : (∃ c vs, d = .obj c vs ∧ gU okT tab d = some (.str t)) ∨ ∃ p, toP d = some p ∧ shOk p = true ∧ p.shown = t := by
  unfold itS at h
  split at h
  · rename_i ho
    refine .inl ?_
    unfold itO at h
    split at h
    · rename_i y e
      cases h
      cases d <;> simp [isO] at ho
      exact ⟨_, _, rfl, e⟩
    · cases h
  · refine .inr ?_
    unfold itD at h
    split at h
    · rename_i p e
      split at h
      · rename_i hs
        cases h
        exact ⟨p, e, hs, rfl⟩
      · cases h
    · cases h
def itsS (tab : Nat → Option Fm) : List D → Option (List Str)
  | [] => some []
  | d :: ds => (match itS tab d, itsS tab ds with
    | some t, some ts => some (t :: ts)
    | _, _ => none)
theorem itsS_at {tab : Nat → Option Fm} : ∀ {ds : List D} {ts : List Str}, itsS tab ds = some ts → ts.length = ds.length ∧ ∀ (i : Nat) (t : Str), ts[i]? = some t → ∃ d, ds[i]? = some d ∧ itS tab d = some t
  | [], ts, h => by
    cases h
    exact ⟨rfl, fun i t e => by simp at e⟩
  | d :: ds, ts, h => by
    unfold itsS at h
    split at h
    · rename_i t0 ts0 e1 e2
      cases h
      obtain ⟨l, q⟩ := itsS_at e2
      refine ⟨by simp [l], fun i t e => ?_⟩
      cases i with
      | zero => simp at e; subst e; exact ⟨d, rfl, e1⟩
      | succ i => simp at e; obtain ⟨d', h1, h2⟩ := q i t e; exact ⟨d', by simpa using h1, h2⟩
    · cases h
section
variable {X : Cx} {M : Gm} {pins : List (Addr × Obj)} {σ : St} {F H : Hp} {s : Shared}
theorem run_fnAG {A : Around} {g : List Code} {k : Nat} {f : Addr} {sp : List Code → Sp} {Q : VK} {us : List Value} {vs : List V} (hA : A.frames = X.A.frames) (Fn : FnRG X.prog X.w X.K X.mg X.base (CXX X) k f sp) (hr : RoomG g k A) (I : Inv X pins σ H s) (r : Vals vs us) (h : sp g vs H Q E00) :
    codeAny (model X.prog X.w) A (.call (.ref f) ⟨us, []⟩) (fun r s' => match r with | .ok (.ret v) => EP X pins σ Q v s' | .ok _ => False | .error e => X.xe e s') s := by
  have e0 : Env0 X.prog X.w X.K X.mg X.base A X.stack s H := by
    have e := I.env0
    exact ⟨by rw [hA]; exact e.frames, e.mod, e.bs, e.bsz, e.funs, e.frf, e.hok, e.bare⟩
  refine codeAny_mono (Fn g A X.stack s H us vs Q E00 hr e0 r h) fun r s' hq => ?_
  cases r with
  | error e => exact passAt takes0 σ pins H s e s' I hq
  | ok fl =>
    cases fl with
    | ret u => exact I.after hq
    | next => exact False.elim hq
    | brk => exact False.elim hq
    | cont => exact False.elim hq
theorem under_frames {A : Around} {a P : Addr} {i m : Int} : (A.under (loopC a i P m)).frames = A.frames := by
  first | rfl | simp [Around.under, Code.frames, Code.isFrame]
theorem item_own {A : Around} {k : Nat} {tab : Nat → Option Fm} (T : SpG M X.prog X.w X.mg X.base k tab) (hK : X.K = M.K) (hr : Room (k + 1) A) (hA : A.frames = X.A.frames) {a P : Addr} {i m : Int} {n : Nat} {d : D} {v : V} {u : Value} {t : Str} {F1 H1 : Hp} {ys : List Str} {Q : Str → Shared → Prop}
    (e : itS tab d = some t) (rd : rep M F d v) (gk : GOK [loopC a i P m] F) (hn : n + t.length ≤ sizeLine) (j : Jl X M pins σ F H P F1 H1 ys s) (ru : RelV v u) (hQ : ∀ s' F2 H2, Jl X M pins σ F H P F2 H2 ys s' → Q t s') :
    wpAny (model X.prog X.w) (A.under (loopC a i P m)) (pyReprUnder n u) Q X.xe s := by
  have rm := RoomG.loop hr a i P m
  have un := rm.lo.un
  have rd1 := rep_mono j.st.grow d v rd
  have gk1 := gk.mono j.st.grow
  have dat : ∀ {p : PyData}, toP d = some p → shOk p = true → p.shown = t → wpAny (model X.prog X.w) (A.under (loopC a i P m)) (pyReprUnder n u) Q X.xe s := by
    intro p e1 hs e2
    subst e2
    obtain ⟨h1, h2, h3, h4⟩ := of_gd hs
    have hd : Dp X.K H1 v p := by rw [hK]; exact prep_dp j.st.same (.inl rd1) e1
    obtain ⟨as, rr⟩ := Dp.reads j.I p v u hd ru
    obtain ⟨bs, hb, hk⟩ := ReprK.of_reads (prog := X.prog) (w := X.w) rr h1 (fun hx => by rw [h2] at hx; cases hx) h4
    exact hk n hn _ _ _ _ _ rm.gu (gok_clear j.I j.st.same gk1 hb) (by omega) (fun _ _ q => q) fun h' tk kp => hQ _ F1 H1 ⟨j.I.kept kp, j.st, j.hp, j.fp⟩
  rcases itS_cases e with ⟨c, vs, rfl, eg⟩ | ⟨p, e1, hs, e2⟩
  · unfold gU at eg
    dsimp only at eg
    split at eg
    · rename_i f ht
      split at eg
      · rename_i r0 io hf
        split at eg
        · cases eg
          obtain ⟨C, gA, hG, k1, k2, Fn⟩ := T c f ht
          have rd2 := rd1
          unfold rep at rd2
          obtain ⟨b, C', dx, fs, rfl, q1, q2, q3, q4⟩ := rd2
          rw [hG] at q1
          cases q1
          obtain rfl : u = Value.ref b := ru
          obtain ⟨mA, J, _⟩ := ins_get j.I.hok (j.st.same _ _ q2)
          obtain ⟨od, J, _⟩ := J.look
          refine reprUnder_own (by omega) rm.lo.units0 j.I.kIn J (by rw [hK]; exact k1) (by rw [hK]; exact k2) ?_
          have hsp : spDP (GOK [loopC a i P m]) M f [V.ref b] H1 (fun v' H2 => ∃ F2, v' = V.str t ∧ Stp M F1 H1 F2 H2 none) E00 := by
            refine ⟨F1, gk1, none, 0, [V.ref b], [.obj c vs], rfl, j.st.same, j.st.tb, reps_cons rd1 reps_nil, trivial, ?_⟩
            rw [hf]
            intro v' F2 H2 st ra _
            have ra : rep M F2 (.str t) v' := ra
            unfold rep at ra
            exact ⟨F2, ra, st⟩
          rw [← hK] at Fn
          refine wpAny_call (codeAny_mono (run_fnAG (A := A.under (loopC a i P m)) (under_frames.trans hA) Fn rm j.I (.cons (show RelV (V.ref b) (Value.ref b) from rfl) .nil) hsp) fun r s' hq => ?_)
          cases r with
          | error e => exact hq
          | ok fl =>
            cases fl with
            | ret w =>
              obtain ⟨z, H2, I2, rz, F2, ez, st⟩ := hq
              subst ez
              obtain ⟨tk, rfl⟩ := rz
              exact ⟨t, tk, rfl, hQ s' F2 H2 ⟨I2, stp_trans j.st st, st.kept _ _ j.hp rfl (by intro z; cases z), st.nofz _ _ j.hp rfl j.fp⟩⟩
            | next => exact False.elim hq
            | brk => exact False.elim hq
            | cont => exact False.elim hq
        · cases eg
      · cases eg
    · cases eg
  · exact dat e1 hs e2
def rRL (M : Gm) (tab : Nat → Option Fm) : List V → Hp → VK → Prop := fun xs H Q => ∃ (F : Hp) (ds : List D) (x : V) (ts : List Str), xs = [x] ∧ Same F H ∧ Tb M F H ∧ rep M F (.lst ds) x ∧ ds.any isO = true ∧ itsS tab ds = some ts ∧ (listText ts).length ≤ sizeLine ∧ ∀ F' H', Stp M F H F' H' none → Q (.str (listText ts)) H'
theorem call_reprL {k : Nat} {tab : Nat → Option Fm} (T : SpG M X.prog X.w X.mg X.base k tab) (hK : X.K = M.K) (hr : Room (k + 2) X.A) : CallR X (.builtin "repr") (rRL M tab) := by
  rintro pins s σ H xs us Q I rv ⟨F, ds, x, ts, rfl, hs, tb, rx, ho, et, hsz, q⟩
  obtain ⟨u, rfl, ru⟩ := vals1 rv
  unfold rep at rx
  obtain ⟨a, vs, rfl, ea, rs⟩ := rx
  obtain rfl : u = Value.ref a := ru
  obtain ⟨tl, tat⟩ := itsS_at et
  have vl : vs.length = ds.length := reps_length rs
  obtain ⟨its, n, rits, hget, hz⟩ := I.lst (hs _ _ ea)
  -- one item is an instance
  obtain ⟨b, C, dx, fs, hb, hf⟩ : ∃ b C dx fs, V.ref b ∈ vs ∧ F b = some (.ins C dx fs) := by
    obtain ⟨d, hd, hi⟩ := List.any_eq_true.mp ho
    obtain ⟨i, hi2⟩ := List.getElem?_of_mem hd
    obtain ⟨v, e1, e2⟩ := reps_get rs hi2
    cases d <;> simp [isO] at hi
    unfold rep at e2
    obtain ⟨b, C, dx, fs, rfl, _, q2, _⟩ := e2
    exact ⟨b, C, dx, fs, List.mem_of_getElem? e1, q2⟩
  have un := hr.lo.un
  have hTy : s.TypeIs (.ref a) "list" := ⟨_, hget, rfl⟩
  have hr1 : Room (k + 1) X.A.in1 := hr.in1
  have hP0 : H s.heap.objs.size = none := I.fresh
  have fP : F s.heap.objs.size = none := by
    cases e : F s.heap.objs.size with
    | none => rfl
    | some o => rw [hs _ _ e] at hP0; cases hP0
  refine call_repr_slot (by omega) hTy PySem.F.slot_list_repr.toG ?_
  obtain ⟨x0, l, el⟩ : ∃ x0 l, its = x0 :: l := by
    cases its with
    | nil =>
      have : vs.length = 0 := rits.length
      have := List.length_pos_of_mem hb
      omega
    | cons x0 l => exact ⟨x0, l, rfl⟩
  refine wpAny_call (codeAny_call_builtin PySem.F.slot_list_repr.plain PySem.F.entry_list_repr (PySem.F.slot_list_repr.check _ _ _ _ _ _ _ _ hTy (PySem.F.args_list_repr_1 _) ?_))
  rw [el] at hget
  show wpAny (model X.prog X.w) X.A.in1.in1 (Builtin.listReprAt 0 ⟨[.ref a], []⟩) _ _ s
  refine wpAny_list_repr_head (A := X.A.in1.in1) (g := []) hr.gu (fun _ _ _ hm => nomatch hm) hget rfl ?_
  refine wpAny_bind (m := newList []) (wpAny_newObj_type ?_)
  refine wpAny_pure ⟨PySem.F.quiet_list_repr_loop _, ?_⟩
  have I1 := I.lnew (ys := []) (its := []) (t' := s.toks) .nil (by decide)
  refine turns_own (X := X) (M := M) (A := X.A.in1) (pins := pins) (σ := σ) (F := F) (H := H) (a := a) (P := s.heap.objs.size) (vs := vs) (ts := ts) hP0 ea (tl.trans vl.symm) hsz (fun i m n v u t s1 F1 H1 ys Q' hv ht hn j ru hQ => ?_) (fun s' F1 H1 ys u j => ⟨_, _, rfl, .str _, H1, j.I.tok _, ⟨_, rfl⟩, q F1 H1 j.st⟩) _ 0 _ F (upd H s.heap.objs.size (.lst [])) rfl (Nat.zero_le _) ⟨I1, stp_alloc hs tb hP0, upd_same, fP⟩
  obtain ⟨d, hd, e⟩ := tat i t ht
  obtain ⟨v', e1, e2⟩ := reps_get rs hd
  rw [hv] at e1
  cases e1
  exact item_own T hK hr1 rfl e e2 (fun c hc => by
    rw [List.mem_singleton] at hc
    exact ⟨_, a, _, _, vs, b, C, dx, fs, hc, ea, hb, hf⟩) hn j ru hQ
end
def gReprL (tab : Nat → Option Fm) : D → Option Str
  | .lst ds => if ds.any isO then (match itsS tab ds with
    | some ts => if gd ((listText ts).length ≤ sizeLine) then some (listText ts) else none
    | none => none) else gReprD (.lst ds)
  | d => gReprD d
def fReprL (tab : Nat → Option Fm) (fe : FD) : FD := fun δ => (fe δ).bind fun d δ1 => match gReprL tab d with
  | some x => .ok (.str x) δ1
  | none => .bad
theorem gReprL_cases {tab : Nat → Option Fm} {d : D} {x : Str} (h : gReprL tab d = some x) : (∃ ds ts, d = .lst ds ∧ ds.any isO = true ∧ itsS tab ds = some ts ∧ (listText ts).length ≤ sizeLine ∧ x = listText ts) ∨ gReprD d = some x := by
  unfold gReprL at h
  split at h
  · rename_i ds
    split at h
    · rename_i ho
      split at h
      · rename_i ts et
        split at h
        · rename_i hl
          cases h
          exact .inl ⟨ds, ts, rfl, ho, et, of_gd hl, rfl⟩
        · cases h
      · cases h
    · exact .inr h
  · exact .inr h
theorem b_reprL {X : Cx} {M : Gm} {W : WX} {e : Expr} {fe : FD} {p pos : Pos} {k j : Nat} {tab : Nat → Option Fm} (T : SpG M X.prog X.w X.mg X.base k tab) (hk : k + 2 ≤ j) (sm : SmK X.K) (hr : Room j X.A) (hg : Gl X "repr") (hm : X.mg "repr" = none) (ha : DI M W X e fe) (hK : X.K = M.K := by rfl) (he : starEach (e :: []) X.env = (false, eval e X.env) :: starEach [] X.env := by rfl) (hpl : (backTo pos (starEach [] X.env)).any (·.1) = false := by rfl) : DI M W X (.Call (.Name "repr" p) [e] [] pos) (fReprL tab fe) := by
  obtain ⟨t, pt, ha⟩ := ha
  refine ⟨_, pe_callB (CallR.or (call_reprL T hK (hr.mono hk)) (cr_reprX sm hr hK)) hg hm bt_repr (pa_cons pt pa_nil he) (by decide) (by decide) he hpl, fun c F H σ δ Q ok post => ?_⟩
  refine ha c F H σ δ _ ok (Post.bind post fun d δ1 v F1 H1 _ s1 ok1 rr post => ?_)
  split at post
  · rename_i x er
    rcases gReprL_cases er with ⟨ds, ts, rfl, ho, et, hl, rfl⟩ | er
    · exact .inl ⟨F1, ds, v, ts, rfl, ok1.same, ok1.tb, rr, ho, et, hl, fun F' H' st => post _ F' H' st.grow (ok1.stp st) (rep_str' _)⟩
    · exact .inr (rRX_of ok1 rr er post)
  · exact post.elim
end
end TS

set_option maxRecDepth 100000
set_option maxHeartbeats 4000000
namespace TS
open PySem PySem.Spec PyProof.Rows L2
noncomputable section
section
variable {prog : Program} {w : World} {A : Around} {E : Value → Shared → Prop}
end
section
variable {X : Cx}
abbrev PT (K : PySem.W.Frag) (H : Hp) (p : Addr) (x : List Key × Addr × V) : Prop := SqT K H p [.ref x.2.1, x.2.2] ∧ H x.2.1 = some (.tup (x.1.map kV))
end
section
variable {M : Gm} {c : Cn M} {W : WX} {X : Cx} {e : Expr} {F H : Hp} {σ : L2.St} {δ : Sl} {fa : FA} {p pos : Pos}
end
end
end TS

set_option maxRecDepth 100000
set_option maxHeartbeats 4000000
namespace TS
open PySem L2
noncomputable section
section
variable {α β : Type} (δ : Sl)
@[simp] theorem Res.bind_bad (k : α → Sl → Res β) : (Res.bad : Res α).bind k = .bad := rfl
@[simp] theorem Res.bindS_bad (k : α → Sl → SR) : (Res.bad : Res α).bindS k = .bad := rfl
@[simp] theorem SR.bind_bk (k : Sl → SR) : (SR.bk δ).bind k = .bk δ := rfl
@[simp] theorem SR.bind_ct (k : Sl → SR) : (SR.ct δ).bind k = .ct δ := rfl
@[simp] theorem SR.bind_bad (k : Sl → SR) : (SR.bad).bind k = .bad := rfl
@[simp] theorem ap_kD (d : D) : kD d δ = .ok d δ := id rfl
@[simp] theorem ap_toE (f : FD) : toE f δ = (f δ).bind fun d δ => .ok (.imm d) δ := id rfl
@[simp] theorem ap_frz (f : FE) : frz f δ = (f δ).bind fun r δ => match r with | .imm d => .ok d δ | .own o => .ok o.toD δ | .brw _ => .bad := id rfl
@[simp] theorem ap_fBin (g : D → D → Option R) (fa fb : FD) : fBin g fa fb δ = (fa δ).bind fun x δ1 => (fb δ1).bind fun y δ2 => match g x y with | some z => .ok z δ2 | none => .bad := id rfl
@[simp] theorem ap_fBinV (g : D → D → Option R) (i : Nat) (fb : FD) : fBinV g i fb δ = if there δ i then (fb δ).bind fun y δ1 => (vP i δ1).bind fun x δ2 => match g x y with | some z => .ok z δ2 | none => .bad else .bad := id rfl
@[simp] theorem ap_aNil : aNil δ = .ok [] δ := id rfl
@[simp] theorem ap_aCons (f : FD) (g : FA) : aCons f g δ = (f δ).bind fun d δ1 => (g δ1).bind fun ds δ2 => .ok (d :: ds) δ2 := id rfl
@[simp] theorem ap_aOne (f : FD) : aOne f δ = (f δ).bind fun d δ1 => .ok [d] δ1 := id rfl
@[simp] theorem ap_fCal (g : List D → Option R) (fa : FA) : fCal g fa δ = (fa δ).bind fun ds δ1 => match g ds with | some z => .ok z δ1 | none => .bad := id rfl
@[simp] theorem ap_fTst (f : FE) : fTst f δ = (f δ).bind fun r δ => match r with | .imm (.bl b) => .ok b δ | _ => .bad := id rfl
@[simp] theorem ap_fNot (f : FT) : fNot f δ = (f δ).bind fun b δ => .ok (!b) δ := id rfl
@[simp] theorem ap_fAnd (f g : FT) : fAnd f g δ = (f δ).bind fun b δ => if b then g δ else .ok false δ := id rfl
@[simp] theorem ap_fOr (f g : FT) : fOr f g δ = (f δ).bind fun b δ => if b then .ok true δ else g δ := id rfl
@[simp] theorem ap_fAndV (f : FD) (g : FE) : fAndV f g δ = (f δ).bind fun d δ => match d with | .bl true => g δ | .bl false => .ok (.imm (.bl false)) δ | _ => .bad := id rfl
@[simp] theorem ap_fOrV (f : FD) (g : FE) : fOrV f g δ = (f δ).bind fun d δ => match d with | .bl true => .ok (.imm (.bl true)) δ | .bl false => g δ | _ => .bad := id rfl
@[simp] theorem ap_fNotV (f : FD) : fNotV f δ = (f δ).bind fun d δ => match d with | .bl b => .ok (.bl (!b)) δ | _ => .bad := id rfl
@[simp] theorem ap_fIfE (f : FT) (g h : FE) : fIfE f g h δ = (f δ).bind fun b δ => if b then g δ else h δ := id rfl
@[simp] theorem ap_fLst (fa : FA) : fLst fa δ = (fa δ).bind fun ds δ => if ds.length ≤ 16777216 then .ok (.own (.l ds)) δ else .bad := id rfl
@[simp] theorem ap_fTup (fa : FA) : fTup fa δ = (fa δ).bind fun ds δ => if ds.length ≤ 16777216 then .ok (.tup ds) δ else .bad := id rfl
@[simp] theorem ap_fSl (fe : FD) (fl fh : FO) : fSl fe fl fh δ = (fe δ).bind fun d δ => (fl δ).bind fun lo δ => (fh δ).bind fun hi δ => match gSl d lo hi with | some r => .ok r δ | none => .bad := id rfl
@[simp] theorem ap_oNone : oNone δ = .ok none δ := id rfl
@[simp] theorem ap_oSome (f : FD) : oSome f δ = (f δ).bind fun d δ => match d with | .int i => .ok (some i) δ | _ => .bad := id rfl
@[simp] theorem ap_fUnI (g : Int → Int) (fe : FD) : fUnI g fe δ = (fe δ).bind fun d δ => match d with | .int i => .ok (.int (g i)) δ | _ => .bad := id rfl
@[simp] theorem ap_fOwn (f : Fm) (fa : FA) : fOwn f fa δ = (fa δ).bind fun ds δ1 => outE (f none ds) δ1 := id rfl
@[simp] theorem outE_ok (r : R) (io : Option OB) : outE (.ok r io) δ = .ok r δ := rfl
@[simp] theorem ap_sSeq (f g : FS) : sSeq f g δ = (f δ).bind g := id rfl
@[simp] theorem ap_sNil : sNil δ = .nx δ := id rfl
@[simp] theorem ap_sRet (f : FE) : sRet f δ = (f δ).bindS fun r δ1 => .rt r δ1 := id rfl
@[simp] theorem ap_sExpr (f : FE) : sExpr f δ = (f δ).bindS fun _ δ1 => .nx δ1 := id rfl
@[simp] theorem ap_sIf (t : FT) (f g : FS) : sIf t f g δ = (t δ).bindS fun b δ1 => if b then f δ1 else g δ1 := id rfl
@[simp] theorem ap_sAsg (f : FE) (h : R → Sl → SR) : sAsg f h δ = (f δ).bindS h := id rfl
@[simp] theorem ap_tNameI (i : Nat) (d : D) : tName i (.imm d) δ = .nx (δ.set i (some (.imm d))) := id rfl
@[simp] theorem ap_tNameO (i : Nat) (d : OB) : tName i (.own d) δ = .nx (δ.set i (some (.own d))) := id rfl
@[simp] theorem ap_tsNil : tsNil [] δ = .nx δ := id rfl
@[simp] theorem ap_tsCons (h : R → Sl → SR) (hs : List D → Sl → SR) (d : D) (ds : List D) : tsCons h hs (d :: ds) δ = (h (.imm d) δ).bind (hs ds) := id rfl
@[simp] theorem ap_tTup (n : Nat) (hs : List D → Sl → SR) (ds : List D) : tTup n hs (.imm (.tup ds)) δ = if ds.length = n then hs ds δ else .bad := id rfl
@[simp] theorem ap_sFor (fi : FA) (tg : R → Sl → SR) (body : FS) : sFor fi tg body δ = (fi δ).bindS fun ds δ1 => forL tg body ds δ1 := id rfl
@[simp] theorem ap_itSeq (f : FD) : itSeq f δ = (f δ).bind fun d δ => match d with | .lst ds => .ok ds δ | _ => .bad := id rfl
@[simp] theorem ap_itTup (f : FD) : itTup f δ = (f δ).bind fun d δ => match d with | .tup ds => .ok ds δ | .ktp ns => .ok (ns.map D.int) δ | _ => .bad := id rfl
@[simp] theorem ap_itEnum (f : FD) : itEnum f δ = (f δ).bind fun d δ => match d with | .lst ds => .ok (enumD 0 ds) δ | _ => .bad := id rfl
@[simp] theorem ap_sPar (i j : Nat) (f g : FE) : sPar i j f g δ = (f δ).bindS fun r δ1 => match r with | .brw _ => .bad | r => (g δ1).bindS fun r' δ2 => match r' with | .brw _ => .bad | r' => .nx ((δ2.set i (some r)).set j (some r')) := id rfl
@[simp] theorem ap_fFld (ix : Nat → Option Nat) (fo : FD) : fFld ix fo δ = (fo δ).bind fun d δ1 => match d with | .obj n vs => (match ix n with | some j => (match vs[j]? with | some d => .ok d δ1 | none => .bad) | none => .bad) | _ => .bad := id rfl
@[simp] theorem ap_fMeth (tab : Nat → Option Fm) (fo : FD) (fa : FA) : fMeth tab fo fa δ = (fo δ).bind fun d δ1 => match d with | .obj n vs => (match tab n with | some f => (fa δ1).bind fun ds δ2 => outE (f none (.obj n vs :: ds)) δ2 | none => .bad) | _ => .bad := id rfl
@[simp] theorem ap_fIsi (tab : Tg → Option Bool) (fe : FD) : fIsi tab fe δ = (fe δ).bind fun d δ => match tagD d with | some t => (match tab t with | some b => .ok (.bl b) δ | none => .bad) | none => .bad := id rfl
@[simp] theorem ap_vI (i : Nat) : vI i δ = match δ[i]? with | some (some (.imm d)) => .ok d δ | some (some (.own o)) => .ok o.toD (δ.set i (some (.imm o.toD))) | _ => .bad := id rfl
@[simp] theorem ap_vP (i : Nat) : vP i δ = match δ[i]? with | some (some (.imm d)) => .ok d δ | some (some (.own o)) => .ok o.toD δ | some (some (.brw o)) => .ok o.toD δ | _ => .bad := id rfl
@[simp] theorem ap_vR (i : Nat) : vR i δ = match δ[i]? with | some (some (.imm d)) => .ok (.imm d) δ | some (some (.own o)) => .ok (.own o) (δ.set i none) | _ => .bad := id rfl
@[simp] theorem ap_there (i : Nat) : there δ i = match δ[i]? with | some (some _) => true | _ => false := id rfl
@[simp] theorem ap_tSub (x : Nat) (fi : FD) (d : D) : tSub x fi (.imm d) δ = match δ[x]? with | some (some r0) => if r0.mu then (fi δ).bindS fun i δ1 => match δ1[x]? with | some (some (.own o)) => (match setOB o i d with | some o' => .nx (δ1.set x (some (.own o'))) | none => .bad) | some (some (.brw o)) => (match setOB o i d with | some o' => .nx (δ1.set x (some (.brw o'))) | none => .bad) | _ => .bad else .bad | _ => .bad := id rfl
end
@[simp] theorem ap_tLstI (n : Nat) (hs : List D → Sl → SR) (ds : List D) (δ : Sl) : tLst n hs (.imm (.lst ds)) δ = if ds.length = n then hs ds δ else .bad := id rfl
@[simp] theorem ap_tLstO (n : Nat) (hs : List D → Sl → SR) (ds : List D) (δ : Sl) : tLst n hs (.own (.l ds)) δ = if ds.length = n then hs ds δ else .bad := id rfl
@[simp] theorem ap_fMethK (tab : Nat → Option Fm) (n l : Nat) (fo : FD) (fa fk : FA) (δ : Sl) : fMethK tab n l fo fa fk δ = (fo δ).bind fun d δ1 => match d with
  | .obj c vs => (match tab c with
    | some f => (fa δ1).bind fun ds δ2 => (fk δ2).bind fun es δ3 => if ds.length = n ∧ es.length = l then outE (f none (.obj c vs :: (ds ++ es))) δ3 else .bad
    | none => .bad)
  | _ => .bad := id rfl
@[simp] theorem ap_fBinO (tab : Nat → Option Fm) (fa fb : FD) (δ : Sl) : fBinO tab fa fb δ = (fa δ).bind fun x δ1 => (fb δ1).bind fun y δ2 => match x, y with
  | .obj n vs, .obj m ws => if n = m then (match tab n with
    | some f => outO (f none [.obj n vs, .obj m ws]) δ2
    | none => .bad) else .bad
  | _, _ => .bad := id rfl
@[simp] theorem outO_own (o : OB) (io : Option OB) (δ : Sl) : outO (.ok (.own o) io) δ = .ok (.own o) δ := rfl
@[simp] theorem ap_sPar3 (i j l : Nat) (fa : FA) (δ : Sl) : sPar3 i j l fa δ = (fa δ).bindS fun ds δ1 => match ds with | [a, b, c] => .nx (((δ1.set i (some (.imm a))).set j (some (.imm b))).set l (some (.imm c))) | _ => .bad := id rfl
@[simp] theorem ap_fOwnP (f : Fm) (fa : FA) (δ : Sl) : fOwnP f fa δ = (fa δ).bind fun ds δ1 => if ds.any D.dic then .bad else outP (f none ds) δ1 := id rfl
@[simp] theorem dic_lst (xs : List D) : D.dic (.lst xs) = false := rfl
@[simp] theorem dic_tup (xs : List D) : D.dic (.tup xs) = false := rfl
@[simp] theorem dic_scr (xs : List D) : D.dic (.scr xs) = false := rfl
@[simp] theorem dic_int (x : Int) : D.dic (.int x) = false := rfl
@[simp] theorem dic_str (x : Str) : D.dic (.str x) = false := rfl
@[simp] theorem dic_bl (x : Bool) : D.dic (.bl x) = false := rfl
@[simp] theorem dic_non : D.dic .non = false := rfl
@[simp] theorem dic_obj (c : Nat) (xs : List D) : D.dic (.obj c xs) = false := rfl
@[simp] theorem dic_cls (c : Nat) : D.dic (.cls c) = false := rfl
@[simp] theorem dic_dK (ks : List Key) (ds : List D) : D.dic (.dK ks ds) = true := rfl
@[simp] theorem dic_dT (ks : List (List Key)) (ds : List D) : D.dic (.dT ks ds) = true := rfl
@[simp] theorem outP_ok (r : R) (io : Option OB) (δ : Sl) : outP (.ok r io) δ = if flatR r then .ok r δ else .bad := rfl
@[simp] theorem flat_bl (b : Bool) : flatR (.imm (.bl b)) = true := rfl
@[simp] theorem flat_int (b : Int) : flatR (.imm (.int b)) = true := rfl
@[simp] theorem flat_non : flatR (.imm .non) = true := rfl
@[simp] theorem flat_str (x : Str) : flatR (.imm (.str x)) = true := rfl
@[simp] theorem mu_own (o : OB) : (R.own o).mu = true := rfl
@[simp] theorem mu_brw (o : OB) : (R.brw o).mu = true := rfl
@[simp] theorem mu_imm (d : D) : (R.imm d).mu = false := rfl
@[simp] theorem toD_l (xs : List D) : (OB.l xs).toD = .lst xs := rfl
@[simp] theorem toD_o (n : Nat) (xs : List D) : (OB.o n xs).toD = .obj n xs := rfl
@[simp] theorem gAdd_i (i j : Int) : gAdd (.int i) (.int j) = some (.imm (.int (i + j))) := rfl
@[simp] theorem gSub_i (i j : Int) : gSub (.int i) (.int j) = some (.imm (.int (i - j))) := rfl
@[simp] theorem gLt_i (i j : Int) : gLt (.int i) (.int j) = some (.imm (.bl (decide (i < j)))) := rfl
@[simp] theorem gLe_i (i j : Int) : gLe (.int i) (.int j) = some (.imm (.bl (decide (i ≤ j)))) := rfl
@[simp] theorem gGt_i (i j : Int) : gGt (.int i) (.int j) = some (.imm (.bl (decide (j < i)))) := rfl
@[simp] theorem gGe_i (i j : Int) : gGe (.int i) (.int j) = some (.imm (.bl (decide (j ≤ i)))) := rfl
theorem eqvI (i j : Int) : PyData.eqv (.int i) (.int j) = decide (i = j) := by
  by_cases h : i = j
  · subst h; simp [PyData.eqv]
  · simp [PyData.eqv, h]
theorem shapedI (i : Int) : SeqAt.shaped (.int i) = true := by
  first | rfl | (unfold SeqAt.shaped; simp [PyData.canLay0, PyData.depth])
@[simp] theorem gEq_i (i j : Int) : gEq (.int i) (.int j) = some (.imm (.bl (decide (i = j)))) := by
  simp [gEq, toP, eqvI, shapedI]
@[simp] theorem gNe_i (i j : Int) : gNe (.int i) (.int j) = some (.imm (.bl (!decide (i = j)))) := by
  simp [gNe, toP, eqvI, shapedI]
theorem gMod_i {i j : Int} (h : 0 < j) : gMod (.int i) (.int j) = some (.imm (.int (i % j))) := by
  simp [gI, CModB, h]
theorem log2_lt {n k : Nat} (h : n < 2 ^ k) (hk : 0 < k) : n.log2 < k := by
  by_cases h0 : n = 0
  · subst h0; simpa using hk
  · exact (Nat.log2_lt h0).mpr h
theorem gFdiv_i {i j : Int} (h : 0 < j) (h2 : j.natAbs < 2 ^ 255) : gFdiv (.int i) (.int j) = some (.imm (.int (i / j))) := by
  have := log2_lt h2 (by decide)
  have e : CDivB i j = true := gd_true ⟨h, by omega⟩
  simp [gFdiv, gOr, gI, e]
theorem gMul_i {i j : Int} (h : i.natAbs < 2 ^ 255) (h2 : j.natAbs < 2 ^ 255) : gMul (.int i) (.int j) = some (.imm (.int (i * j))) := by
  have h1 := log2_lt h (by decide)
  have h3 := log2_lt h2 (by decide)
  have e : CMulB i j = true := gd_true (by omega)
  simp [gMul, gOr, gI, e]
theorem gPow_i {i j : Int} (h : 0 ≤ j) (h2 : j ≤ 1000000) (h3 : i.natAbs < 18446744073709551616) : gPow (.int i) (.int j) = some (.imm (.int (i ^ j.toNat))) := by
  have e : CPowB i j = true := gd_true ⟨h, h2, h3⟩
  simp [gI, e]
@[simp] theorem gInt_i (i : Int) : gInt [.int i] = some (.imm (.int i)) := rfl
@[simp] theorem gAbs_i (i : Int) : gAbs [.int i] = some (.imm (.int (if i < 0 then -i else i))) := rfl
@[simp] theorem gLen_l (xs : List D) : gLen [.lst xs] = some (.imm (.int xs.length)) := rfl
@[simp] theorem gLen_s (xs : List D) : gLen [.scr xs] = some (.imm (.int xs.length)) := rfl
theorem gDivmod_i {i j : Int} (h : 0 < j) (h2 : j.natAbs < 2 ^ 255) : gDivmod [.int i, .int j] = some (.imm (.tup [.int (i / j), .int (i % j)])) := by
  have := log2_lt h2 (by decide)
  have e : decide (0 < j ∧ j.natAbs.log2 < 9000) = true := decide_eq_true ⟨h, by omega⟩
  simp only [gDivmod, e, if_true]
@[simp] theorem gIx_l (xs : List D) (i : Int) : gIx (.lst xs) (.int i) = (atI xs i).map .imm := rfl
section
open PySem.Spec PyProof.Rows
variable {P : Program} {w : World} {K : PySem.W.Frag} {mg mb : Str → Option Value} {CX : CXT} {k : Nat} {fa a : Addr} {fd : FuncData} {x : Str} {sp : Sp} {s1 : Shared} {vs : List Value} {ns : List Int}
theorem law_core (KX : K.In s1.heap) (hns : s1.heap.Ns mainGlobals mg) (hb : s1.heap.Ns builtinsNs mb) (hbb : ∀ y : Str, y ≠ "__name__" → mb y = bootBuiltins y) (hlim : s1.heap.NoLimit) (hg : s1.gens = #[])
    (ha : s1.heap.get? a = some { cls := .type "list", data := .seq vs.toArray }) (hr : Room k callerA) (F : ∀ base : Heap, K.In base → base.Ns mainGlobals mg → FnOk P w K mg base CX k fa fd [x] sp)
    (hbind : ∀ (s : Shared) (u : Value), BindsTo s fd ⟨[u], []⟩ [(x, u)]) (hCX : ∀ H e s', CX [] H s1 (fun _ _ _ => False) e s' → False)
    {H : Hp} (hO : Only H) (hsp : sp [.ref a] H (fun v _ => v = .bl true) fun _ _ _ => False) (hok : HOk P w H s1.heap) (hA : ∀ b, H b ≠ none → b = a) (hK : H a ≠ none → K.lookup a = none) :
    codeAny (model P w) callerA (.call (.ref fa) ⟨[.ref a], []⟩) (fun r s' => r = .ok (.ret (.bool true)) ∧ OldK s1.heap s'.heap ∧ s'.os = s1.os ∧ AllBare s'.gens) s1 := by
  have dictN : ∀ {b : Addr} {o : Obj} {es : Array DictEntry} {ep : Nat}, s1.heap.get? b = some o → o.data = .dict es ep → H b = none := by
    intro b o es ep e d
    rcases Option.eq_none_or_eq_some (H b) with q | ⟨u, q⟩
    · exact q
    · obtain rfl : b = a := hA b (by rw [q]; exact fun z => by cases z)
      rw [ha] at e
      cases e
      cases (show Data.seq vs.toArray _ = Data.dict es ep from d)
  have nsH : ∀ {b : Addr} {m : Str → Option Value}, s1.heap.Ns b m → (hidT s1.heap H).Ns b m := by
    rintro b m ⟨o, es, ep, e, d, r⟩
    exact ⟨o, es, ep, hidT_get e (dictN e d), d, r⟩
  have kinH : K.In (hidT s1.heap H) := by
    intro b o e
    refine hidT_get (KX b o e) ?_
    rcases Option.eq_none_or_eq_some (H b) with q | ⟨u, q⟩
    · exact q
    · obtain rfl : b = a := hA b (by rw [q]; exact fun z => by cases z)
      have := hK (by rw [q]; exact fun z => by cases z)
      rw [this] at e
      cases e
  obtain ⟨mc, c1, c2⟩ := hlim
  have hmod : Mod K mg (hidT s1.heap H) := ⟨kinH, nsH hns, ⟨mb, nsH hb, hbb⟩, ⟨mc, nsH c1, c2⟩⟩
  have env : Env0 P w K mg (hidT s1.heap H) callerA [] s1 H := ⟨rfl, hmod, fun _ _ e => of_hidT e, Nat.le_of_eq (hidT_size _ _), trivial, fun b z => absurd z (List.not_mem_nil (a := b)), hok, .of_eq hg⟩
  have run := (F _ kinH (nsH hns)).run callerA [] s1 H ⟨[.ref a], []⟩ [.ref a] [.ref a] _ _ hr env (hbind s1 (.ref a)) (.cons rfl .nil) hsp
  refine codeAny_mono run ?_
  rintro (e | fl) s' z
  · exact (hCX H e s' z).elim
  · cases fl with
    | next => exact z.elim
    | brk => exact z.elim
    | cont => exact z.elim
    | ret u =>
      obtain ⟨v, H2, hos, hbare, un, hok2, rv, ev⟩ := z
      have ev : v = .bl true := ev
      rw [ev] at rv
      cases (show u = Value.bool true from rv)
      refine ⟨rfl, OldK.of_keep fun b o e => ?_, hos, hbare⟩
      rcases Option.eq_none_or_eq_some (H b) with q | ⟨u, q⟩
      · exact un.keep b o e q (fun z => absurd z (List.not_mem_nil (a := b))) (fun z => by simp at z)
      · rcases hO b with z | ⟨ob, xs, z⟩
        · rw [q] at z; cases z
        · have t1 := (hok b _ z).1
          have t2 := (hok2 b _ (un.frzs b ob _ z)).1
          rw [e] at t1
          cases t1
          exact t2
theorem law_run (KX : K.In s1.heap) (hns : s1.heap.Ns mainGlobals mg) (hb : s1.heap.Ns builtinsNs mb) (hbb : ∀ y : Str, y ≠ "__name__" → mb y = bootBuiltins y) (hlim : s1.heap.NoLimit) (hg : s1.gens = #[])
    (ha : s1.heap.get? a = some { cls := .type "list", data := .seq vs.toArray }) (hi : IntsAre vs ns) (hl : ns.length ≤ sizeLine) (hr : Room k callerA) (F : ∀ base : Heap, K.In base → base.Ns mainGlobals mg → FnOk P w K mg base CX k fa fd [x] sp)
    (hbind : ∀ (s : Shared) (u : Value), BindsTo s fd ⟨[u], []⟩ [(x, u)]) (hsp : ∀ H : Hp, Only H → SqL K H a (ns.map V.int) → sp [.ref a] H (fun v _ => v = .bl true) fun _ _ _ => False) (hCX : ∀ H e s', CX [] H s1 (fun _ _ _ => False) e s' → False) :
    codeAny (model P w) callerA (.call (.ref fa) ⟨[.ref a], []⟩) (fun r s' => r = .ok (.ret (.bool true)) ∧ OldK s1.heap s'.heap ∧ s'.os = s1.os ∧ AllBare s'.gens) s1 := by
  have rv := vals_ints hi
  have lv := hi.length
  rcases Option.eq_none_or_eq_some (K.lookup a) with hk | ⟨o, hk⟩
  · let ho : HO := .frz { cls := .type "list", data := .seq vs.toArray } (.lst (ns.map V.int))
    let H : Hp := fun b => if b = a then some ho else none
    have hH : H a = some ho := if_pos rfl
    have hn : ∀ b, b ≠ a → H b = none := fun b z => if_neg z
    have only : Only H := fun b => by
      by_cases z : b = a
      · exact .inr ⟨_, _, z ▸ hH⟩
      · exact .inl (hn b z)
    refine law_core KX hns hb hbb hlim hg ha hr F hbind hCX only (hsp H only (.inl (.inr ⟨_, hH⟩))) ?_ (fun b z => Classical.byContradiction fun y => z (hn b y)) fun _ => hk
    intro b u z
    by_cases y : b = a
    · subst y
      rw [hH] at z
      cases z
      exact ⟨ha, by rw [List.length_map]; exact hl, vs, _, rv, ha⟩
    · rw [hn b y] at z
      cases z
  · have e := KX a o hk
    rw [ha] at e
    cases e
    have only : Only (fun _ => none : Hp) := fun _ => .inl rfl
    have sq : SqL K (fun _ => none : Hp) a (ns.map V.int) := .inr ⟨_, vs.toArray, _, hk, rfl, rfl, rfl, by rw [List.size_toArray, lv]; exact hl, by simpa using rv⟩
    exact law_core KX hns hb hbb hlim hg ha hr F hbind hCX only (hsp _ only sq) (fun b u z => by cases z) (fun b z => absurd rfl z) fun z => absurd rfl z
end
theorem walk_ofW {l : PySem.W.OpenLaw} {n k : Nat} {q : Program} {loose : List Str} {XP : (Str → Option Value) → Heap → Prop} {YP : World → Heap → Prop} {d : DefRec} {CX : World → CXT} {x : Str}
    (hn : l.most = some n) (hn2 : n ≤ sizeLine) (hdf : d.params.defaults = []) (hr : Room k callerA)
    (F : ∀ (w : World) (mg : Str → Option Value) (fa : Addr) (h : Heap), YP w h → h.Ns mainGlobals mg → mg d.name = some (.ref fa) →
      ∃ (K : PySem.W.Frag) (fd : FuncData) (sp : Sp), K.In h ∧ (∀ (s : Shared) (u : Value), BindsTo s fd ⟨[u], []⟩ [(x, u)]) ∧
        (∀ (H : Hp) (a : Addr) (ns : List Int), ns.length ≤ n → Only H → SqL K H a (ns.map V.int) → sp [.ref a] H (fun v _ => v = .bl true) fun _ _ _ => False) ∧
        ∀ base : Heap, K.In base → base.Ns mainGlobals mg → FnOk l.prog w K mg base (CX w) k fa fd [x] sp)
    (hCX : ∀ (w : World) (H : Hp) (s : Shared) (e : Value) (s' : Shared), CX w [] H s (fun _ _ _ => False) e s' → False) :
    PySem.W.WalkO q loose XP YP l.row.toRowW d [] (fun f vs => PySem.call f vs) := by
  refine Att.attach_call hn hdf fun w s₀ s₁ mg mb fa o pm cd doc a vs ns G Y ho hd hcd hmg hobj hints hlen hg => ?_
  obtain ⟨K, fd, sp, KX, hb, hsp, hF⟩ := F w mg fa _ Y G.T.g hmg
  exact law_run KX G.T.g G.T.b G.T.builtins G.T.nolimit hg hobj hints (Nat.le_trans hlen hn2) hr hF hb (fun H hO hS => hsp H a ns hlen hO hS) fun H e s' => hCX w H s₁ e s'
theorem noCX {P : Program} {w : World} {H : Hp} {s : Shared} {e : Value} {s' : Shared} (h : L2.CX P w [] H s (fun _ _ _ => False) e s') : False := by
  obtain ⟨_, _, _, _, _, _, _, _, _, _, _, _, z⟩ := h
  exact z
end
end TS

set_option maxRecDepth 100000
set_option maxHeartbeats 4000000
namespace TS
open PySem L2
noncomputable section
section
open PySem.Spec PyProof.Rows
variable {P : Program} {w : World} {K : PySem.W.Frag} {mg mb : Str → Option Value} {CX : CXT} {k : Nat} {fa a : Addr} {cs : List (Addr × Addr)} {fd : FuncData} {x : Str} {sp : Sp} {s1 : Shared} {vs : List Value} {ns : List Int}
end
theorem entry {M : Gm} {H : Hp} {a : Addr} {ns : List Int} (hS : SqL M.K H a (ns.map V.int)) (hT : ∀ p ∈ M.T, H p.1 = some (.tbl #[])) : ∃ F, Same F H ∧ Tb M F H ∧ reps M F [.scr (ns.map D.int)] [.ref a] := by
  let F : Hp := fun b => match H b with
    | some (.tbl _) => none
    | x => x
  have hF : ∀ b o, F b = some o → H b = some o ∧ ∀ ps, o ≠ .tbl ps := fun b o e => by
    have e : (match H b with | some (.tbl _) => none | x => x) = some o := e
    split at e
    · cases e
    · rename_i q
      exact ⟨e, fun ps z => by subst z; exact q ps e⟩
  have hN : ∀ b o, H b = some o → (∀ ps, o ≠ .tbl ps) → F b = some o := fun b o e n => by
    show (match H b with | some (.tbl _) => none | x => x) = some o
    rw [e]
    cases o <;> first | rfl | exact absurd rfl (n _)
  refine ⟨F, fun b o e => (hF b o e).1, ⟨fun p hp => LamX.TabS.nil (hT p hp), fun p hp => ?_, fun b ps e => (hF b _ e).2 ps rfl⟩, reps_cons ?_ reps_nil⟩
  · show (match H p.1 with | some (.tbl _) => none | x => x) = none
    rw [hT p hp]
  · unfold rep
    refine ⟨a, _, rfl, ?_, reps_ints ns⟩
    rcases hS with (h | ⟨o, h⟩) | h
    · exact .inl (.inl (hN _ _ h fun ps z => nomatch z))
    · exact .inl (.inr ⟨o, hN _ _ h fun ps z => nomatch z⟩)
    · exact .inr h
end
end TS

set_option maxRecDepth 100000
set_option maxHeartbeats 4000000
namespace TS
open PySem L2
noncomputable section
def iL (xs : List Int) : List D := xs.map D.int
@[simp] theorem iL_len (xs : List Int) : (iL xs).length = xs.length := by simp [iL]
@[simp] theorem iL_nil : iL [] = [] := rfl
theorem iL_cons (x : Int) (xs : List Int) : iL (x :: xs) = .int x :: iL xs := rfl
theorem iL_app (xs ys : List Int) : iL (xs ++ ys) = iL xs ++ iL ys := by simp [iL]
theorem toPs_ints : ∀ xs : List Int, toPs (iL xs) = some (xs.map PyData.int)
  | [] => by simp [toPs]
  | x :: xs => by
    have := toPs_ints xs
    simp only [iL, List.map_cons] at this ⊢
    simp [toPs, toP, this]
theorem canLay_ints : ∀ xs : List Int, PyData.canLayAll0 (xs.map PyData.int) = true
  | [] => by simp [PyData.canLayAll0]
  | x :: xs => by simp [PyData.canLayAll0, PyData.canLay0, canLay_ints xs]
theorem depth_ints : ∀ xs : List Int, PyData.depthAll (xs.map PyData.int) ≤ 1
  | [] => by simp [PyData.depthAll]
  | x :: xs => by
    have := depth_ints xs
    simp only [List.map_cons, PyData.depthAll, PyData.depth]
    omega
theorem shaped_l (xs : List Int) : SeqAt.shaped (.list (xs.map PyData.int)) = true := by
  have := depth_ints xs
  unfold SeqAt.shaped
  rw [Bool.and_eq_true]
  refine ⟨by simp only [PyData.canLay0]; exact canLay_ints xs, decide_eq_true ?_⟩
  simp only [PyData.depth]
  omega
theorem eqvAll_ints : ∀ xs ys : List Int, PyData.eqvAll (xs.map PyData.int) (ys.map PyData.int) = decide (xs = ys)
  | [], [] => by simp [PyData.eqvAll]
  | [], y :: ys => by simp [PyData.eqvAll]
  | x :: xs, [] => by simp [PyData.eqvAll]
  | x :: xs, y :: ys => by
    simp only [List.map_cons, PyData.eqvAll, eqvAll_ints xs ys, eqvI]
    by_cases h : x = y
    · by_cases h2 : xs = ys <;> simp [h, h2]
    · simp [h]
theorem toP_l (xs : List Int) : toP (.lst (iL xs)) = some (.list (xs.map PyData.int)) := by
  unfold toP; rw [toPs_ints]; rfl
@[simp] theorem gEq_l (xs ys : List Int) : gEq (.lst (iL xs)) (.lst (iL ys)) = some (.imm (.bl (decide (xs = ys)))) := by
  simp only [gEq, toP_l, shaped_l, Bool.and_self, if_true, PyData.eqv, eqvAll_ints]
@[simp] theorem gNe_l (xs ys : List Int) : gNe (.lst (iL xs)) (.lst (iL ys)) = some (.imm (.bl (!decide (xs = ys)))) := by
  simp only [gNe, toP_l, shaped_l, Bool.and_self, if_true, PyData.eqv, eqvAll_ints]
@[simp] theorem gMax_2 (i j : Int) : gMax [.int i, .int j] = some (.imm (.int (if j > i then j else i))) := rfl
@[simp] theorem gMin_2 (i j : Int) : gMin [.int i, .int j] = some (.imm (.int (if j < i then j else i))) := rfl
theorem atI_ints (xs : List Int) (i : Int) : atI (iL xs) i = (atI xs i).map D.int := by
  unfold atI
  simp only [iL, List.length_map]
  cases ixN xs.length i with
  | none => rfl
  | some j => simp
theorem atI_in {α : Type} {xs : List α} {n : Nat} (h : n < xs.length) : atI xs (n : Int) = some xs[n] := by
  unfold atI ixN
  simp [h]
theorem gIx_ints {xs : List Int} {n : Nat} (h : n < xs.length) : gIx (.lst (iL xs)) (.int (n : Int)) = some (.imm (.int xs[n])) := by
  rw [gIx_l, atI_ints, atI_in h]; rfl
theorem flatten_ints (k : Nat) (xs : List Int) : (List.replicate k (iL xs)).flatten = iL (List.replicate k xs).flatten := by
  induction k with
  | zero => rfl
  | succ k ih => rw [List.replicate_succ, List.replicate_succ, List.flatten_cons, List.flatten_cons, ih, iL, iL, iL, List.map_append]
theorem gRep_ints {xs : List Int} {k : Int} (h0 : 0 ≤ k) (h1 : k < 9223372036854775808) (h2 : xs.length * k.toNat ≤ 16777216) : gMul (.lst (iL xs)) (.int k) = some (.own (.l (iL (List.replicate k.toNat xs).flatten))) := by
  have e : gI CMulB (fun i j => i * j) (.lst (iL xs)) (.int k) = none := rfl
  have e2 : gd (0 ≤ k ∧ k < 9223372036854775808 ∧ (iL xs).length * k.toNat ≤ 16777216) = true := gd_true ⟨h0, h1, by simpa [iL] using h2⟩
  simp only [gMul, gOr, e, gRep, e2, if_true, flatten_ints]
theorem gRep_nat {xs : List Int} {k : Nat} (h1 : k ≤ 16777216) (h2 : xs.length * k ≤ 16777216) : gMul (.lst (iL xs)) (.int (k : Int)) = some (.own (.l (iL (List.replicate k xs).flatten))) := by
  have e := gRep_ints (xs := xs) (k := (k : Int)) (by omega) (by omega) (by simpa using h2)
  rw [Int.toNat_natCast] at e
  exact e
theorem cut_to (xs : List Int) (n : Nat) : cutD (iL xs) none (some (n : Int)) = iL (xs.take n) := by
  unfold cutD
  rw [HT.sIx_none, HT.sIx_nat, List.drop_zero, Nat.sub_zero, iL, iL, List.length_map, ← List.map_take]
  congr 1
  by_cases h : n ≤ xs.length
  · rw [Nat.min_eq_left h]
  · rw [Nat.min_eq_right (by omega), List.take_of_length_le (Nat.le_refl _), List.take_of_length_le (by omega)]
section
variable (δ : Sl)
@[simp] theorem ap_fOwnIo (f : Fm) (i : Nat) (fa : FA) : fOwnIo f i fa δ = match δ[i]? with
  | some (some r0) => if r0.mu then (fa δ).bind fun ds δ1 => match δ1[i]? with
      | some (some (.own o)) => (match f (some o) ds with
        | .ok r (some o') => .ok r (δ1.set i (some (.own o')))
        | .exc x (some o') => .exc x (δ1.set i (some (.own o')))
        | _ => .bad)
      | some (some (.brw o)) => (match f (some o) ds with
        | .ok r (some o') => .ok r (δ1.set i (some (.brw o')))
        | .exc x (some o') => .exc x (δ1.set i (some (.brw o')))
        | _ => .bad)
      | _ => .bad
    else .bad
  | _ => .bad := id rfl
@[simp] theorem ap_fMut (i : Nat) (m : List D → List D → Option (D × List D)) (fa : FA) : fMut i m fa δ = match getL δ i with
  | none => .bad
  | some _ => (fa δ).bind fun as δ1 => match getL δ1 i with
    | none => .bad
    | some ds => match m ds as with
      | none => .bad
      | some (z, ds') => .ok z (match δ1[i]? with
        | some (some (.own _)) => δ1.set i (some (.own (.l ds')))
        | _ => δ1.set i (some (.brw (.l ds')))) := id rfl
@[simp] theorem ap_getL (i : Nat) : getL δ i = match δ[i]? with | some (some (.own (.l ds))) => some ds | some (some (.brw (.l ds))) => some ds | _ => none := id rfl
end
theorem erase_map {α β : Type} (f : α → β) : ∀ (l : List α) (n : Nat), (l.map f).eraseIdx n = (l.eraseIdx n).map f
  | [], n => by simp
  | a :: l, 0 => by simp
  | a :: l, n + 1 => by simp [erase_map f l n]
theorem erase_perm {α : Type} : ∀ (l : List α) (n : Nat) (h : n < l.length), (l[n] :: l.eraseIdx n).Perm l
  | a :: l, 0, h => by simp
  | a :: l, n + 1, h => by
    simp only [List.getElem_cons_succ, List.eraseIdx_cons_succ]
    exact (List.Perm.swap _ _ _).trans ((erase_perm l n (by simpa using h)).cons a)
theorem mAppend_int {xs : List Int} (h : xs.length < 16777216) (d : Int) : mAppend (iL xs) [.int d] = some (.non, iL (xs ++ [d])) := by
  simp only [mAppend, iL_len, h, if_true, iL_app]; rfl
theorem rgOk_nat {k : Nat} (h : k ≤ 16777216) : rgOkB 0 (k : Int) = true := by
  unfold rgOkB
  refine gd_true ?_
  refine ⟨?_, ?_, ?_, ?_, ?_⟩ <;> omega
theorem rg1_nat {k : Nat} (h : k ≤ 16777216) : gd (-4611686018427387904 ≤ (k : Int) ∧ (k : Int) < 4611686018427387904) = true := by
  refine gd_true ?_
  refine ⟨?_, ?_⟩ <;> omega
theorem rg2_nat {i k : Nat} (h0 : i ≤ 16777216) (h : k ≤ 16777216) : gd (-4611686018427387904 ≤ (i : Int) ∧ (i : Int) < 4611686018427387904 ∧ -4611686018427387904 ≤ (k : Int) ∧ (k : Int) < 4611686018427387904) = true := by
  refine gd_true ?_
  refine ⟨?_, ?_, ?_, ?_⟩ <;> omega
def nats (i k : Nat) : List Int := (List.range' i k).map fun z : Nat => (z : Int)
theorem rgD_nats (k : Nat) : rgD 0 (k : Int) = iL (nats 0 k) := by simp [rgD, iL, nats, List.range_eq_range']
theorem nats_len (i k : Nat) : (nats i k).length = k := by simp [nats]
theorem nats_succ (i k : Nat) : iL (nats i (k + 1)) = .int (i : Int) :: iL (nats (i + 1) k) := by simp [nats, iL, List.range'_succ]
theorem fLRg1_ok {f : FD} {δ : Sl} {k : Nat} (h : k ≤ 16777216) (e : f δ = .ok (.int (k : Int)) δ) : fLRg1 f δ = .ok (.own (.l (iL (nats 0 k)))) δ := by
  unfold fLRg1
  rw [e, Res.bind_ok]
  show (if rgOkB 0 (k : Int) = true then Res.ok (R.own (.l (rgD 0 (k : Int)))) δ else .bad) = _
  rw [if_pos (rgOk_nat h), rgD_nats]
theorem itRg1_ok {f : FD} {δ : Sl} {k : Nat} (h : k ≤ 16777216) (e : f δ = .ok (.int (k : Int)) δ) : itRg1 f δ = .ok (iL (nats 0 k)) δ := by
  unfold itRg1
  rw [e, Res.bind_ok]
  show (if gd (-4611686018427387904 ≤ (k : Int) ∧ (k : Int) < 4611686018427387904) = true then Res.ok (rgD 0 (k : Int)) δ else .bad) = _
  rw [if_pos (rg1_nat h), rgD_nats]
end
end TS

set_option maxRecDepth 100000
set_option maxHeartbeats 2000000
namespace TS
def act (t : List Int) (x : Int) : Int := t.getD (x % (t.length : Int)).toNat 0
def PerF (f : Int → Int) (p : Int) : Prop := ∀ x, f (x + p) = f x
theorem PerF.neg {f : Int → Int} {p : Int} (h : PerF f p) : PerF f (-p) := fun x => by
  have := h (x + -p)
  rw [← this]; congr 1; omega
theorem PerF.add {f : Int → Int} {p q : Int} (h : PerF f p) (h' : PerF f q) : PerF f (p + q) := fun x => by
  rw [← Int.add_assoc, h' (x + p), h x]
theorem PerF.zero {f : Int → Int} : PerF f 0 := fun x => by rw [Int.add_zero]
theorem PerF.mulN {f : Int → Int} {p : Int} (h : PerF f p) : ∀ n : Nat, PerF f (n * p)
  | 0 => by simpa using PerF.zero
  | n + 1 => by
    have := (PerF.mulN h n).add h
    have e : ((n + 1 : Nat) : Int) * p = n * p + p := by push_cast; rw [Int.add_mul, Int.one_mul]
    rw [e]; exact this
theorem PerF.mul {f : Int → Int} {p : Int} (h : PerF f p) (k : Int) : PerF f (k * p) := by
  rcases Int.le_total 0 k with hk | hk
  · obtain ⟨n, rfl⟩ := Int.eq_ofNat_of_zero_le hk
    exact h.mulN n
  · obtain ⟨n, e⟩ := Int.eq_ofNat_of_zero_le (show 0 ≤ -k by omega)
    have := (h.mulN n).neg
    have e2 : -((n : Int) * p) = k * p := by
      have : k = -(n : Int) := by omega
      rw [this, Int.neg_mul]
    rw [← e2]; exact this
theorem PerF.gcd {f : Int → Int} (p q : Nat) : PerF f p → PerF f q → PerF f (Nat.gcd p q : Nat) := by
  refine Nat.gcd.induction (P := fun p q => PerF f (p : Int) → PerF f (q : Int) → PerF f ((Nat.gcd p q : Nat) : Int)) p q (fun n _ h => ?_) fun m n hm ih h1 h2 => ?_
  · rw [Nat.gcd_zero_left]; exact h
  · rw [Nat.gcd_rec]
    refine ih ?_ h1
    have e : ((n % m : Nat) : Int) = n + (-((n / m : Nat) : Int)) * m := by
      have := Nat.div_add_mod n m
      have h3 : (n : Int) = (m : Int) * ((n / m : Nat) : Int) + ((n % m : Nat) : Int) := by exact_mod_cast this.symm
      rw [Int.neg_mul, Int.mul_comm]; omega
    rw [e]
    exact h2.add (h1.mul _)
theorem act_per (t : List Int) : PerF (act t) t.length := fun x => by
  unfold act
  rw [Int.add_emod_right]
end TS

set_option maxRecDepth 100000
set_option maxHeartbeats 2000000
namespace TS
theorem rep_get (s : List Int) : ∀ (k i : Nat), i < k * s.length → (List.replicate k s).flatten.getD i 0 = s.getD (i % s.length) 0
  | 0, i, h => by simp at h
  | k + 1, i, h => by
    rw [List.replicate_succ, List.flatten_cons, List.getD_eq_getElem?_getD]
    by_cases hi : i < s.length
    · rw [List.getElem?_append_left hi, Nat.mod_eq_of_lt hi, List.getD_eq_getElem?_getD]
    · have hs : i - s.length < k * s.length := by rw [Nat.succ_mul] at h; omega
      rw [List.getElem?_append_right (by omega), ← List.getD_eq_getElem?_getD, rep_get s k _ hs, Nat.mod_eq_sub_mod (by omega : s.length ≤ i)]
def repOf (p : Nat) (t : List Int) : List Int := (List.replicate (t.length / p) (t.take p)).flatten
def isPer (t : List Int) (p : Nat) : Bool := decide (t.length % p = 0) && decide (repOf p t = t)
theorem repOf_length {p : Nat} {t : List Int} (hp : 0 < p) (hd : p ∣ t.length) (h0 : 0 < t.length) : (repOf p t).length = t.length := by
  have hle : p ≤ t.length := Nat.le_of_dvd h0 hd
  unfold repOf
  have e : ∀ k : Nat, ((List.replicate k (t.take p)).flatten).length = k * p := fun k => by
    induction k with
    | zero => simp
    | succ k ih => rw [List.replicate_succ, List.flatten_cons, List.length_append, ih, List.length_take, Nat.min_eq_left hle, Nat.succ_mul, Nat.add_comm]
  rw [e]
  exact Nat.div_mul_cancel hd
theorem getD_ext {a b : List Int} (hl : a.length = b.length) (h : ∀ i, i < b.length → a.getD i 0 = b.getD i 0) : a = b := by
  apply List.ext_getElem hl
  intro i h1 h2
  have := h i h2
  rw [List.getD_eq_getElem?_getD, List.getD_eq_getElem?_getD, List.getElem?_eq_getElem h1, List.getElem?_eq_getElem h2] at this
  exact this
theorem act_nat {t : List Int} {i : Nat} (h : i < t.length) : act t i = t.getD i 0 := by
  unfold act
  rw [Int.emod_eq_of_lt (by omega) (by omega)]
  rfl
theorem act_mod (t : List Int) (x : Int) : act t (x % t.length) = act t x := by
  unfold act
  rw [Int.emod_emod_of_dvd _ (Int.dvd_refl _)]
theorem per_mod {f : Int → Int} {p : Int} (h : PerF f p) (x : Int) : f (x % p) = f x := by
  have := h.mul (-(x / p)) x
  rw [← this]
  congr 1
  have := Int.emod_add_mul_ediv x p
  rw [Int.neg_mul, Int.mul_comm]; omega
theorem isPer_iff {t : List Int} {p : Nat} (hp : 0 < p) (h0 : 0 < t.length) (hd : p ∣ t.length) : repOf p t = t ↔ PerF (act t) p := by
  have hle : p ≤ t.length := Nat.le_of_dvd h0 hd
  have key : ∀ i, i < t.length → (repOf p t).getD i 0 = t.getD (i % p) 0 := fun i hi => by
    have hl : (t.take p).length = p := by rw [List.length_take, Nat.min_eq_left hle]
    unfold repOf
    rw [rep_get (t.take p) (t.length / p) i (by rw [hl, Nat.div_mul_cancel hd]; exact hi), hl, List.getD_eq_getElem?_getD, List.getElem?_take_of_lt (Nat.mod_lt _ hp), List.getD_eq_getElem?_getD]
  have hb : ∀ x : Int, 0 ≤ x % (t.length : Int) ∧ x % (t.length : Int) < t.length := fun x => ⟨Int.emod_nonneg _ (by omega), Int.emod_lt_of_pos _ (by omega)⟩
  constructor
  · intro e x
    have step : ∀ y : Int, act t y = act t (y % (p : Int)) := fun y => by
      obtain ⟨b1, b2⟩ := hb y
      obtain ⟨i, ei⟩ := Int.eq_ofNat_of_zero_le b1
      have hi : i < t.length := by omega
      have q := key i hi
      rw [e] at q
      have hm : i % p < t.length := Nat.lt_of_lt_of_le (Nat.mod_lt _ hp) hle
      rw [← act_mod t y, ei, act_nat hi, q, ← act_nat hm]
      have : y % (p : Int) = ((i % p : Nat) : Int) := by
        rw [← Int.emod_emod_of_dvd y (Int.natCast_dvd_natCast.mpr hd), ei]; rfl
      rw [this]
    rw [step (x + p), Int.add_emod_right, ← step x]
  · intro h
    refine getD_ext (repOf_length hp hd h0) fun i hi => ?_
    rw [key i hi]
    have hm : i % p < t.length := Nat.lt_of_lt_of_le (Nat.mod_lt _ hp) hle
    rw [← act_nat hi, ← act_nat hm, ← per_mod h i]
    rfl
end TS

set_option maxRecDepth 100000
set_option maxHeartbeats 2000000
namespace TS
def leastP (t : List Int) : Nat := ((List.range' 1 (t.length - 1)).find? (isPer t)).getD t.length
def least (t : List Int) : List Int := t.take (leastP t)
structure IsMin (f : Int → Int) (p : Nat) : Prop where
  pos : 0 < p
  per : PerF f p
  min : ∀ q : Nat, 0 < q → PerF f q → p ≤ q
theorem isPer_spec {t : List Int} {p : Nat} (hp : 0 < p) (h0 : 0 < t.length) : isPer t p = true ↔ p ∣ t.length ∧ PerF (act t) p := by
  unfold isPer
  rw [Bool.and_eq_true, decide_eq_true_eq, decide_eq_true_eq, ← Nat.dvd_iff_mod_eq_zero]
  exact ⟨fun h => ⟨h.1, (isPer_iff hp h0 h.1).mp h.2⟩, fun h => ⟨h.1, (isPer_iff hp h0 h.1).mpr h.2⟩⟩
theorem leastP_dvd {t : List Int} (h0 : 0 < t.length) : leastP t ∣ t.length ∧ 0 < leastP t ∧ PerF (act t) (leastP t) := by
  unfold leastP
  cases e : (List.range' 1 (t.length - 1)).find? (isPer t) with
  | none => exact ⟨Nat.dvd_refl _, h0, act_per t⟩
  | some p =>
    have h1 := List.find?_some e
    have h2 := List.mem_of_find?_eq_some e
    rw [List.mem_range'_1] at h2
    obtain ⟨k1, k2⟩ := (isPer_spec (by omega) h0).mp h1
    exact ⟨k1, by simp; omega, k2⟩
theorem leastP_le {t : List Int} (h0 : 0 < t.length) {p : Nat} (hp : 0 < p) (hd : p ∣ t.length) (h : PerF (act t) p) : leastP t ≤ p := by
  have hle := Nat.le_of_dvd h0 hd
  by_cases hn : p = t.length
  · subst hn
    exact Nat.le_of_dvd h0 (leastP_dvd h0).1
  · unfold leastP
    cases e : (List.range' 1 (t.length - 1)).find? (isPer t) with
    | none =>
      have := List.find?_eq_none.mp e p (by rw [List.mem_range'_1]; omega)
      exact absurd ((isPer_spec hp h0).mpr ⟨hd, h⟩) this
    | some q =>
      obtain ⟨as, bs, e1, e2⟩ := (List.find?_eq_some_iff_append.mp e).2
      show q ≤ p
      rcases Nat.lt_or_ge p q with hlt | hge
      · exfalso
        have hm : p ∈ as := by
          have hq : p ∈ List.range' 1 (t.length - 1) := by rw [List.mem_range'_1]; omega
          rw [e1] at hq
          have hs : (List.range' 1 (t.length - 1)).Pairwise (· < ·) := List.pairwise_lt_range'
          rw [e1] at hs
          rcases List.mem_append.mp hq with z | z
          · exact z
          · rcases List.mem_cons.mp z with z | z
            · omega
            · have := (List.pairwise_cons.mp (List.pairwise_append.mp hs).2.1).1 p z
              omega
        have := e2 p hm
        have k := (isPer_spec hp h0).mpr ⟨hd, h⟩
        simp [k] at this
      · exact hge
theorem leastP_min {t : List Int} (h0 : 0 < t.length) : IsMin (act t) (leastP t) := by
  obtain ⟨h1, h2, h3⟩ := leastP_dvd h0
  refine ⟨h2, h3, fun q hq hper => ?_⟩
  have hg := PerF.gcd q t.length hper (act_per t)
  have hgp : 0 < Nat.gcd q t.length := Nat.gcd_pos_of_pos_left _ hq
  exact Nat.le_trans (leastP_le h0 hgp (Nat.gcd_dvd_right _ _) hg) (Nat.le_of_dvd hq (Nat.gcd_dvd_left _ _))
theorem least_length {t : List Int} (h0 : 0 < t.length) : (least t).length = leastP t := by
  unfold least
  rw [List.length_take, Nat.min_eq_left (Nat.le_of_dvd h0 (leastP_dvd h0).1)]
theorem least_act {t : List Int} (h0 : 0 < t.length) : act (least t) = act t := by
  funext x
  obtain ⟨h1, h2, h3⟩ := leastP_dvd h0
  have hle := Nat.le_of_dvd h0 h1
  rw [← per_mod h3 x]
  have b1 := Int.emod_nonneg x (show (leastP t : Int) ≠ 0 by omega)
  have b2 := Int.emod_lt_of_pos x (show 0 < (leastP t : Int) by omega)
  obtain ⟨i, ei⟩ := Int.eq_ofNat_of_zero_le b1
  have hi : i < leastP t := by omega
  rw [← act_mod (least t) x, least_length h0, ei]
  rw [act_nat (by rw [least_length h0]; exact hi), act_nat (by omega)]
  unfold least
  rw [List.getD_eq_getElem?_getD, List.getElem?_take_of_lt hi, List.getD_eq_getElem?_getD]
theorem least_pos {t : List Int} (h0 : 0 < t.length) : 0 < (least t).length := by rw [least_length h0]; exact (leastP_dvd h0).2.1
theorem least_le {t : List Int} (h0 : 0 < t.length) : (least t).length ≤ t.length := by rw [least_length h0]; exact Nat.le_of_dvd h0 (leastP_dvd h0).1
end TS

set_option maxRecDepth 100000
set_option maxHeartbeats 2000000
namespace TS
open PySem L2
noncomputable section
section
variable (δ : Sl)
@[simp] theorem ap_fMake (n : Nat) (f : Fm) (fa : FA) : fMake n f fa δ = (fa δ).bind fun ds δ1 => match f (some (.o n [])) ds with
  | .ok (.imm .non) (some (.o n' vs)) => if n' = n then .ok (.own (.o n vs)) δ1 else .bad
  | .exc x _ => .exc x δ1
  | _ => .bad := id rfl
@[simp] theorem ap_fMakeL (n i : Nat) (f : Fm) (fa : FA) : fMakeL n i f fa δ = match δ[i]? with
  | some (some (.imm (.cls n'))) => if n' = n then fMake n f fa δ else .bad
  | _ => .bad := id rfl
@[simp] theorem ap_fCMeth (n : Nat) (f : Fm) (fa : FA) : fCMeth n f fa δ = (fa δ).bind fun ds δ1 => outE (f none (.cls n :: ds)) δ1 := id rfl
@[simp] theorem ap_sFldS (i : Nat) (ix : Nat → Option Nat) (fe : FD) : sFldS i ix fe δ = (fe δ).bindS fun d δ1 => match δ1[i]? with
  | some (some (.own (.o n vs))) => (match ix n with
    | some j => (match setF vs j d with
      | some vs' => .nx (δ1.set i (some (.own (.o n vs'))))
      | none => .bad)
    | none => .bad)
  | some (some (.brw (.o n vs))) => (match ix n with
    | some j => (match setF vs j d with
      | some vs' => .nx (δ1.set i (some (.brw (.o n vs'))))
      | none => .bad)
    | none => .bad)
  | _ => .bad := id rfl
@[simp] theorem ap_fOwnT (f : Fm) (fe : FE) : fOwnT f fe δ = (fe δ).bind fun r δ1 => match r with
  | .own o => outE (f (some o) []) δ1
  | _ => .bad := id rfl
@[simp] theorem ap_fProp (tab : Nat → Option Fm) (fo : FD) : fProp tab fo δ = (fo δ).bind fun d δ1 => match d with
  | .obj n vs => (match tab n with
    | some f => (match f none [.obj n vs] with
      | .ok (.imm d) _ => .ok d δ1
      | _ => .bad)
    | none => .bad)
  | _ => .bad := id rfl
@[simp] theorem ap_fOwnK0 (f : Fm) (m : Nat) (fk : FA) : fOwnK0 f m fk δ = (fk δ).bind fun es δ2 => if es.length = m then outE (f none es) δ2 else .bad := id rfl
@[simp] theorem ap_fOwnK (f : Fm) (n m : Nat) (fa fk : FA) : fOwnK f n m fa fk δ = (fa δ).bind fun ds δ1 => (fk δ1).bind fun es δ2 => if ds.length = n ∧ es.length = m then outE (f none (ds ++ es)) δ2 else .bad := id rfl
@[simp] theorem ap_tTrue : tTrue δ = .ok true δ := id rfl
@[simp] theorem ap_sNev : sNev δ = .bad := id rfl
@[simp] theorem ap_fSlV (i : Nat) (fl fh : FO) : fSlV i fl fh δ = if there δ i then (fl δ).bind fun lo δ => (fh δ).bind fun hi δ => (vP i δ).bind fun d δ => match gSl d lo hi with | some r => .ok r δ | none => .bad else .bad := id rfl
end
theorem pow_7 : gPow (.int 10) (.int 7) = some (.imm (.int 10000000)) := by rw [gPow_i (by decide) (by decide) (by decide)]; rfl
theorem pow_14 : gPow (.int 10) (.int 14) = some (.imm (.int 100000000000000)) := by rw [gPow_i (by decide) (by decide) (by decide)]; rfl
theorem pow_18 : gPow (.int 10) (.int 18) = some (.imm (.int 1000000000000000000)) := by rw [gPow_i (by decide) (by decide) (by decide)]; rfl
theorem set_get {α : Type} (l : List α) (i : Nat) (a : α) (h : l[i]? = some a) : l.set i a = l := by
  apply List.ext_getElem?
  intro j
  rw [List.getElem?_set]
  split
  · rename_i e; subst e; split
    · exact h.symm
    · rename_i z; rw [List.getElem?_eq_none (by omega)]
  · rfl
theorem lc_map {α : Type} {inj : α → D} (out : α → D) {i : Nat} {fi : FA} {fe : FD} {δ δ1 : Sl} {xs : List α} (h1 : fi δ = .ok (xs.map inj) δ1) (hfree : freeS δ1 i = true) (hlen : xs.length ≤ 16777216)
    (he : ∀ x ∈ xs, fe (δ1.set i (some (.imm (inj x)))) = .ok (out x) (δ1.set i (some (.imm (inj x))))) : fLc (stName i) [i] fi tTrue fe δ = .ok (.own (.l (xs.map out))) δ1 := by
  have key : ∀ (ys : List α) (acc : List D), (∀ y ∈ ys, y ∈ xs) → acc.length + ys.length ≤ 16777216 → lcL (stName i) [i] tTrue fe (ys.map inj) acc (δ1.set i none) = .ok (acc ++ ys.map out) (δ1.set i none) := by
    intro ys
    induction ys with
    | nil => intro acc _ _; simp [lcL]
    | cons y ys ih =>
      intro acc hm hl
      have e := he y (hm y (by simp))
      simp only [List.map_cons, lcL, stName, List.set_set, ap_tTrue, noX, Res.bind_ok, if_true, e]
      rw [if_pos (by simp at hl; omega)]
      show lcL (stName i) [i] tTrue fe (ys.map inj) (acc ++ [out y]) ((δ1.set i (some (.imm (inj y)))).set i none) = _
      rw [List.set_set, ih (acc ++ [out y]) (fun z hz => hm z (by simp [hz])) (by simp at hl ⊢; omega)]
      simp
  obtain ⟨o, ho⟩ : ∃ o, δ1[i]? = some o := by
    unfold freeS at hfree
    cases q : δ1[i]? with
    | none => rw [q] at hfree; cases hfree
    | some o => exact ⟨o, rfl⟩
  unfold fLc
  rw [h1, Res.bind_ok]
  simp only [List.all_cons, List.all_nil, Bool.and_true, hfree, if_true]
  show ((lcL (stName i) [i] tTrue fe (xs.map inj) [] (δ1.set i none)).bind fun acc δ2 => Res.ok (R.own (.l acc)) (restD δ1 [i] δ2)) = _
  rw [key xs [] (fun _ h => h) (by simpa using hlen), Res.bind_ok]
  simp only [List.nil_append, restD, ho, Option.join, List.set_set]
  rw [set_get _ _ _ (by rw [ho]; rfl)]
theorem lc_ints {i : Nat} {fi : FA} {fe : FD} {δ δ1 : Sl} {xs : List Int} (f : Int → Int) (h1 : fi δ = .ok (iL xs) δ1) (hfree : freeS δ1 i = true) (hlen : xs.length ≤ 16777216)
    (he : ∀ x ∈ xs, fe (δ1.set i (some (.imm (.int x)))) = .ok (.int (f x)) (δ1.set i (some (.imm (.int x))))) : fLc (stName i) [i] fi tTrue fe δ = .ok (.own (.l (iL (xs.map f)))) δ1 := by
  have e := lc_map (xs := xs) (inj := D.int) (fun x => .int (f x)) h1 hfree hlen he
  rw [e]
  simp [iL]
theorem lc_intsD {i : Nat} {fi : FA} {fe : FD} {δ δ1 : Sl} {xs : List Int} (f : Int → D) (h1 : fi δ = .ok (iL xs) δ1) (hfree : freeS δ1 i = true) (hlen : xs.length ≤ 16777216)
    (he : ∀ x ∈ xs, fe (δ1.set i (some (.imm (.int x)))) = .ok (f x) (δ1.set i (some (.imm (.int x))))) : fLc (stName i) [i] fi tTrue fe δ = .ok (.own (.l (xs.map f))) δ1 :=
  lc_map (xs := xs) (inj := D.int) f h1 hfree hlen he
theorem setOB_int {acc : List Int} {j : Int} (h0 : 0 ≤ j) (h1 : j < acc.length) (v : Int) : setOB (.l (iL acc)) (.int j) (.int v) = some (.l (iL (acc.set j.toNat v))) := by
  have : ixN (iL acc).length j = some j.toNat := by
    unfold ixN
    simp [h0, h1]
  have e : (iL acc).set j.toNat (.int v) = iL (acc.set j.toNat v) := by simp only [iL, List.map_set]
  simp only [setOB, this, Option.map_some, e]
theorem ix_mod {t : List Int} (h : 0 < t.length) (x : Int) : gIx (.lst (iL t)) (.int (x % t.length)) = some (.imm (.int (act t x))) := by
  have b1 := Int.emod_nonneg x (show (t.length : Int) ≠ 0 by omega)
  have b2 := Int.emod_lt_of_pos x (show 0 < (t.length : Int) by omega)
  obtain ⟨i, ei⟩ := Int.eq_ofNat_of_zero_le b1
  have hi : i < t.length := by omega
  have ea : act t x = t[i] := by rw [← act_mod, ei, act_nat hi, List.getD_eq_getElem?_getD, List.getElem?_eq_getElem hi]; rfl
  rw [ei, gIx_ints hi, ea]
theorem lc_inv {α : Type} {inj : α → D} {i : Nat} {fi : FA} {fe : FD} {δ δ1 : Sl} {xs : List α} (I : List α → List D → Sl → Prop) (h1 : fi δ = .ok (xs.map inj) δ1) (hfree : freeS δ1 i = true) (hlen : xs.length ≤ 16777216)
    (h0 : I [] [] (δ1.set i none))
    (he : ∀ pre x post acc δ, xs = pre ++ x :: post → I pre acc δ → ∃ y δ', fe (δ.set i (some (.imm (inj x)))) = .ok y δ' ∧ I (pre ++ [x]) (acc ++ [y]) (δ'.set i none)) :
    ∃ acc δ2, acc.length = xs.length ∧ I xs acc δ2 ∧ fLc (stName i) [i] fi tTrue fe δ = .ok (.own (.l acc)) (δ2.set i ((δ1[i]?).join)) := by
  have key : ∀ (post pre : List α) (acc : List D) (δ : Sl), xs = pre ++ post → acc.length = pre.length → I pre acc δ → ∃ acc' δ2, acc'.length = xs.length ∧ I xs acc' δ2 ∧ lcL (stName i) [i] tTrue fe (post.map inj) acc δ = .ok acc' δ2 := by
    intro post
    induction post with
    | nil =>
      intro pre acc δ e hl hI
      have : xs = pre := by simpa using e
      subst this
      exact ⟨acc, δ, hl, hI, rfl⟩
    | cons y ys ih =>
      intro pre acc δ e hl hI
      obtain ⟨z, δ', e1, hI'⟩ := he pre y ys acc δ e hI
      obtain ⟨acc', δ2, l2, i2, e2⟩ := ih (pre ++ [y]) (acc ++ [z]) (δ'.set i none) (by simp [e]) (by simp [hl]) hI'
      refine ⟨acc', δ2, l2, i2, ?_⟩
      simp only [List.map_cons, lcL, stName, ap_tTrue, noX, Res.bind_ok, if_true, e1]
      rw [if_pos (by rw [hl]; rw [e] at hlen; simp at hlen; omega)]
      exact e2
  obtain ⟨acc, δ2, l2, i2, e2⟩ := key xs [] [] (δ1.set i none) rfl rfl h0
  refine ⟨acc, δ2, l2, i2, ?_⟩
  unfold fLc
  rw [h1, Res.bind_ok]
  simp only [List.all_cons, List.all_nil, Bool.and_true, hfree, if_true]
  show ((lcL (stName i) [i] tTrue fe (xs.map inj) [] (δ1.set i none)).bind fun acc δ2 => Res.ok (R.own (.l acc)) (restD δ1 [i] δ2)) = _
  rw [e2, Res.bind_ok]
  rfl
theorem for_inv {α : Type} {inj : α → D} {tg : R → Sl → SR} {body : FS} {δ : Sl} {xs : List α} (I : List α → Sl → Prop) (h0 : I [] δ)
    (he : ∀ pre x post δ, xs = pre ++ x :: post → I pre δ → ∃ δ', ((tg (.imm (inj x)) δ).bind body = .nx δ' ∨ (tg (.imm (inj x)) δ).bind body = .ct δ') ∧ I (pre ++ [x]) δ') :
    ∃ δ', I xs δ' ∧ forL tg body (xs.map inj) δ = .nx δ' := by
  have key : ∀ (post pre : List α) (δ : Sl), xs = pre ++ post → I pre δ → ∃ δ', I xs δ' ∧ forL tg body (post.map inj) δ = .nx δ' := by
    intro post
    induction post with
    | nil =>
      intro pre δ e hI
      have : xs = pre := by simpa using e
      subst this
      exact ⟨δ, hI, rfl⟩
    | cons y ys ih =>
      intro pre δ e hI
      obtain ⟨δ', e1, hI'⟩ := he pre y ys δ e hI
      obtain ⟨δ2, i2, e2⟩ := ih (pre ++ [y]) δ' (by simp [e]) hI'
      refine ⟨δ2, i2, ?_⟩
      simp only [List.map_cons, forL]
      rcases e1 with e1 | e1 <;> rw [e1] <;> exact e2
  exact key xs [] δ rfl h0
theorem pre_get {α : Type} {xs pre post : List α} {x : α} (h : xs = pre ++ x :: post) : xs[pre.length]? = some x := by
  subst h; simp
theorem itRg2_ok {f g : FD} {δ δ1 : Sl} {i k : Nat} (hi : i ≤ 16777216) (h : k ≤ 16777216) (e1 : f δ = .ok (.int (i : Int)) δ) (e2 : g δ = .ok (.int (k : Int)) δ1) : itRg2 f g δ = .ok (iL (nats i (k - i))) δ1 := by
  unfold itRg2
  rw [e1, Res.bind_ok, e2, Res.bind_ok]
  show (if gd (-4611686018427387904 ≤ (i : Int) ∧ (i : Int) < 4611686018427387904 ∧ -4611686018427387904 ≤ (k : Int) ∧ (k : Int) < 4611686018427387904) = true then Res.ok (rgD (i : Int) (k : Int)) δ1 else .bad) = _
  rw [if_pos (rg2_nat hi h)]
  congr 1
  simp only [rgD, iL, nats, List.map_map]
  rw [show ((k : Int) - (i : Int)).toNat = k - i by omega, List.range'_eq_map_range, List.map_map]
  apply List.map_congr_left
  intro a _
  simp
end
end TS

set_option maxRecDepth 100000
set_option maxHeartbeats 2000000
namespace TS
theorem nodup_iff {α : Type} {l : List α} : l.Nodup ↔ ∀ i j, i < j → j < l.length → l[i]? ≠ l[j]? := by
  unfold List.Nodup
  rw [List.pairwise_iff_getElem]
  constructor
  · intro h i j hij hj e
    rw [List.getElem?_eq_getElem hj, List.getElem?_eq_getElem (by omega)] at e
    exact h i j (by omega) hj hij (Option.some.inj e)
  · intro h i j hi hj hij e
    exact h i j hij hj (by rw [List.getElem?_eq_getElem hj, List.getElem?_eq_getElem hi, e])
def mv (t : List Int) (x : Int) : Int := x + act t x
structure Good (t : List Int) : Prop where
  pos : 0 < t.length
  len : t.length ≤ 2520
  inj : ∀ x y, mv t x = mv t y → x = y
def rems (n : Int) : Nat → List Int → List Int
  | _, [] => []
  | i, x :: t => ((i : Int) + x) % n :: rems n (i + 1) t
theorem rems_len (n : Int) : ∀ (t : List Int) (i : Nat), (rems n i t).length = t.length
  | [], i => rfl
  | x :: t, i => by simp [rems, rems_len n t (i + 1)]
theorem rems_get (n : Int) : ∀ (t : List Int) (i j : Nat), (rems n i t)[j]? = (t[j]?).map fun x => (((i + j : Nat) : Int) + x) % n
  | [], i, j => by simp [rems]
  | x :: t, i, 0 => by simp [rems]
  | x :: t, i, j + 1 => by
    simp only [rems, List.getElem?_cons_succ, rems_get n t (i + 1) j]
    congr 1; funext z; congr 2; omega
theorem act_get {t : List Int} {i : Nat} {x : Int} (h : t[i]? = some x) : act t i = x := by
  obtain ⟨hl, e⟩ := List.getElem?_eq_some_iff.mp h
  rw [act_nat hl, List.getD_eq_getElem?_getD, h]; rfl
theorem act_get' {t : List Int} {i : Nat} (h : i < t.length) : t[i]? = some (act t i) := by
  rw [act_nat h, List.getD_eq_getElem?_getD, List.getElem?_eq_getElem h]; rfl
theorem mv_per (t : List Int) (x : Int) : mv t (x + t.length) = mv t x + t.length := by
  unfold mv; rw [act_per t x]; omega
theorem mv_perk (t : List Int) (x k : Int) : mv t (x + k * t.length) = mv t x + k * t.length := by
  unfold mv; rw [(act_per t).mul k x]; omega
theorem Good.rems {t : List Int} (h : Good t) : (rems t.length 0 t).Nodup := by
  rw [nodup_iff]
  intro i j hij hj e
  rw [rems_len] at hj
  have hi : i < t.length := by omega
  rw [rems_get, rems_get, act_get' hi, act_get' hj] at e
  simp only [Option.map_some, Option.some.injEq, Nat.zero_add] at e
  have h0 : (t.length : Int) ≠ 0 := by omega
  -- mv i = mv j + k n
  have d : ∃ k : Int, mv t i = mv t j + k * t.length := by
    refine ⟨((i : Int) + act t i) / t.length - ((j : Int) + act t j) / t.length, ?_⟩
    have e1 := Int.emod_add_mul_ediv ((i : Int) + act t i) t.length
    have e2 := Int.emod_add_mul_ediv ((j : Int) + act t j) t.length
    unfold mv
    rw [Int.sub_mul, Int.mul_comm _ (t.length : Int), Int.mul_comm _ (t.length : Int)]
    omega
  obtain ⟨k, hk⟩ := d
  rw [← mv_perk] at hk
  have := h.inj _ _ hk
  -- i = j + k n with both in [0, n)
  have hk0 : k = 0 := by
    rcases Int.lt_trichotomy k 0 with hk | hk | hk
    · have : k * (t.length : Int) ≤ -1 * t.length := Int.mul_le_mul_of_nonneg_right (by omega) (by omega)
      omega
    · exact hk
    · have : 1 * (t.length : Int) ≤ k * t.length := Int.mul_le_mul_of_nonneg_right (by omega) (by omega)
      omega
  subst hk0
  omega
theorem good_of_rems {t : List Int} (h0 : 0 < t.length) (h1 : t.length ≤ 2520) (hn : (TS.rems t.length 0 t).Nodup) : Good t := by
  refine ⟨h0, h1, fun x y e => ?_⟩
  have key : ∀ z : Int, ∃ i : Nat, i < t.length ∧ z % (t.length : Int) = i ∧ act t z = act t i := fun z => by
    have b1 := Int.emod_nonneg z (show (t.length : Int) ≠ 0 by omega)
    have b2 := Int.emod_lt_of_pos z (show 0 < (t.length : Int) by omega)
    obtain ⟨i, ei⟩ := Int.eq_ofNat_of_zero_le b1
    exact ⟨i, by omega, ei, by rw [← act_mod t z, ei]⟩
  obtain ⟨i, hi, ei, ai⟩ := key x
  obtain ⟨j, hj, ej, aj⟩ := key y
  have q : i = j := by
    rcases Nat.lt_trichotomy i j with h | h | h
    · exfalso
      refine nodup_iff.mp hn i j h (by rw [rems_len]; exact hj) ?_
      rw [rems_get, rems_get, act_get' hi, act_get' hj]
      simp only [Option.map_some, Option.some.injEq, Nat.zero_add]
      rw [← ai, ← aj, ← ei, ← ej, Int.emod_add_emod, Int.emod_add_emod]
      unfold mv at e
      rw [e]
    · exact h
    · exfalso
      refine nodup_iff.mp hn j i h (by rw [rems_len]; exact hi) ?_
      rw [rems_get, rems_get, act_get' hi, act_get' hj]
      simp only [Option.map_some, Option.some.injEq, Nat.zero_add]
      rw [← ai, ← aj, ← ei, ← ej, Int.emod_add_emod, Int.emod_add_emod]
      unfold mv at e
      rw [e]
  subst q
  unfold mv at e
  rw [ai, aj] at e
  omega
theorem Good.least {t : List Int} (h : Good t) : Good (least t) := by
  refine ⟨least_pos h.pos, Nat.le_trans (least_le h.pos) h.len, fun x y e => h.inj x y ?_⟩
  unfold mv at e ⊢
  rw [least_act h.pos] at e
  exact e
theorem mv_least {t : List Int} (h : Good t) : mv (least t) = mv t := by
  funext x; unfold mv; rw [least_act h.pos]
def tabOf (n : Nat) (f : Int → Int) : List Int := (List.range n).map fun i : Nat => f (i : Int)
theorem tabOf_len (n : Nat) (f : Int → Int) : (tabOf n f).length = n := by simp [tabOf]
theorem tabOf_act {n : Nat} {f : Int → Int} (h0 : 0 < n) (h : PerF f n) : act (tabOf n f) = f := by
  funext x
  rw [← act_mod, tabOf_len, ← per_mod h x]
  have b1 := Int.emod_nonneg x (show (n : Int) ≠ 0 by omega)
  have b2 := Int.emod_lt_of_pos x (show 0 < (n : Int) by omega)
  obtain ⟨i, ei⟩ := Int.eq_ofNat_of_zero_le b1
  rw [ei]
  refine act_get ?_
  have hi : i < n := by omega
  simp [tabOf, hi]
theorem tabOf_self (t : List Int) : tabOf t.length (act t) = t := by
  apply getD_ext (tabOf_len _ _)
  intro i hi
  have : (tabOf t.length (act t))[i]? = some (act t i) := by simp [tabOf, hi]
  rw [List.getD_eq_getElem?_getD, this, Option.getD_some, act_nat hi]
theorem good_tab {n : Nat} {f : Int → Int} (h0 : 0 < n) (h1 : n ≤ 2520) (h : PerF f n) (hi : ∀ x y, x + f x = y + f y → x = y) : Good (tabOf n f) := by
  refine ⟨by rw [tabOf_len]; exact h0, by rw [tabOf_len]; exact h1, fun x y e => hi x y ?_⟩
  unfold mv at e
  rw [tabOf_act h0 h] at e
  exact e
theorem leastP_dvd_len {t : List Int} (h : Good t) : (least t).length ∣ t.length := by rw [least_length h.pos]; exact (leastP_dvd h.pos).1
end TS

set_option maxRecDepth 100000
set_option maxHeartbeats 2000000
namespace TS
open PySem L2
noncomputable section
theorem strOk_of (s : String) : PyData.strOk (Str.ofString s) = true := by
  unfold PyData.strOk
  rw [Str.ofString_eq_toList]
  rw [Array.all_eq_true']
  intro n hn
  simp at hn
  obtain ⟨c, _, rfl⟩ := hn
  have := c.valid
  simp only [decide_eq_true_eq]
  show c.val.toNat < 1114112
  rcases this with h | h
  · have : c.val.toNat < 55296 := h
    omega
  · exact h.2
theorem shaped_str {x : Str} (h : PyData.strOk x = true) : SeqAt.shaped (PyData.str x) = true := by unfold SeqAt.shaped; simp [PyData.canLay0, PyData.depth, h]
theorem gEq_str {x y : Str} (h : PyData.strOk x = true) (h' : PyData.strOk y = true) : gEq (.str x) (.str y) = some (.imm (.bl (decide (x = y)))) := by
  have : PyData.eqv (.str x) (.str y) = decide (x = y) := by
    by_cases e : x = y
    · subst e; simp [PyData.eqv]
    · simp [PyData.eqv, e]
  simp [gEq, toP, shaped_str h, shaped_str h', this]
theorem cells_ok (c : Int) (n : Nat) (hc : 0 ≤ c ∧ c < 100) : ∃ k : Nat, k < 100 ∧ (if 1 < (if (n : Int) < c then (n : Int) else c) then (if (n : Int) < c then (n : Int) else c) else 1) = (k : Int) := by
  by_cases h5 : (n : Int) < c
  · rw [if_pos h5]
    by_cases h1 : (1 : Int) < n
    · rw [if_pos h1]; exact ⟨n, by omega, rfl⟩
    · rw [if_neg h1]; exact ⟨1, by omega, rfl⟩
  · rw [if_neg h5]
    by_cases h1 : (1 : Int) < c
    · rw [if_pos h1]; exact ⟨c.toNat, by omega, by omega⟩
    · rw [if_neg h1]; exact ⟨1, by omega, rfl⟩
theorem blsOf_true : ∀ l : List Int, blsOf (l.map fun _ => D.bl true) = some (l.map fun _ => true)
  | [] => rfl
  | x :: l => by simp only [List.map_cons, blsOf, blsOf_true l, Option.map_some]
theorem gAll_true (l : List Int) : gAll [.lst (l.map fun _ => D.bl true)] = some (.imm (.bl true)) := by
  simp only [gAll, blsOf_true]
  simp
abbrev lawG (c : Int) (F : FD) : FS := sRet (fCal gAll (aOne (frz (fLc (stName 1) [1] (itRg1 (frz (fCal gMax (aCons (kD (.int 1)) (aCons (frz (fCal gMin (aCons (kD (.int c)) (aCons (frz (fCal gLen (aOne (vP 0)))) aNil)))) aNil))))) tTrue F))))
theorem law_of {c : Int} (hc : 0 ≤ c ∧ c < 100) {F : FD} (ns : List Int) (hF : ∀ a : Nat, a < 100 → F [some (.imm (.scr (ns.map D.int))), some (.imm (.int (a : Int)))] = .ok (.bl true) [some (.imm (.scr (ns.map D.int))), some (.imm (.int (a : Int)))]) : mir 2 1 (lawG c F) none [.scr (ns.map D.int)] = .ok (.imm (.bl true)) none := by
  obtain ⟨k, hk, ek⟩ := cells_ok c ns.length hc
  have ga := gAll_true (nats 0 k)
  have q : fLc (stName 1) [1] (itRg1 (frz (fCal gMax (aCons (kD (.int 1)) (aCons (frz (fCal gMin (aCons (kD (.int c)) (aCons (frz (fCal gLen (aOne (vP 0)))) aNil)))) aNil))))) tTrue F [some (.imm (.scr (ns.map D.int))), none] = .ok (.own (.l ((nats 0 k).map fun _ => D.bl true))) [some (.imm (.scr (ns.map D.int))), none] := by
    refine lc_intsD (xs := nats 0 k) (fun _ => .bl true) (itRg1_ok (by omega) (by simp [ek])) rfl (by rw [nats_len]; omega) (fun x hx => ?_)
    simp [nats] at hx
    obtain ⟨a, ha, rfl⟩ := hx
    exact hF a (by omega)
  generalize ((nats 0 k).map fun _ => D.bl true) = L at *
  have s4 : ∀ G : FS, mir 2 1 G none [.scr (ns.map D.int)] = outR none (G [some (.imm (.scr (ns.map D.int))), none]) := fun G => by simp [mir, ini, ioS, ioN]
  rw [s4]
  unfold lawG
  rw [ap_sRet, ap_fCal, ap_aOne, ap_frz, q]
  simp [ga, outR, ioOut]
end
end TS

set_option maxRecDepth 100000
set_option maxHeartbeats 2000000
namespace TS
def srcL (n : Nat) : Nat → List Int → List Int → List Int
  | _, [], acc => acc
  | i, x :: t, acc => srcL n (i + 1) t (acc.set (((i : Int) + x) % n).toNat i)
def srcs (t : List Int) : List Int := srcL t.length 0 t (List.replicate t.length 0)
theorem srcL_len (n : Nat) : ∀ (t : List Int) (i : Nat) (acc : List Int), (srcL n i t acc).length = acc.length
  | [], i, acc => rfl
  | x :: t, i, acc => by rw [srcL, srcL_len n t]; simp
theorem srcs_len (t : List Int) : (srcs t).length = t.length := by unfold srcs; rw [srcL_len]; simp
theorem srcL_stay (n : Nat) (hn : 0 < n) : ∀ (t : List Int) (i : Nat) (acc : List Int) (j : Nat), (∀ r ∈ rems n i t, r ≠ j) → (srcL n i t acc)[j]? = acc[j]?
  | [], i, acc, j, _ => rfl
  | x :: t, i, acc, j, h => by
    rw [srcL, srcL_stay n hn t (i + 1) _ j (fun r hr => h r (by simp [rems, hr]))]
    have h0 := h (((i : Int) + x) % n) (by simp [rems])
    have b := Int.emod_nonneg ((i : Int) + x) (show (n : Int) ≠ 0 by omega)
    rw [List.getElem?_set_ne (by omega)]
theorem srcL_at (n : Nat) (hn : 0 < n) : ∀ (t : List Int) (i : Nat) (acc : List Int) (k : Nat) (x : Int), acc.length = n → (rems n i t).Nodup → t[k]? = some x → (srcL n i t acc)[((((i + k : Nat) : Int) + x) % n).toNat]? = some ((i + k : Nat) : Int)
  | [], i, acc, k, x, _, _, h => by simp at h
  | y :: t, i, acc, 0, x, hl, hnd, h => by
    simp at h
    subst h
    have b0 := Int.emod_nonneg ((i : Int) + y) (show (n : Int) ≠ 0 by omega)
    have b1 := Int.emod_lt_of_pos ((i : Int) + y) (show 0 < (n : Int) by omega)
    rw [srcL]
    simp only [Nat.add_zero]
    have hnd' := List.nodup_cons.mp (show (((i : Int) + y) % n :: rems n (i + 1) t).Nodup from hnd)
    rw [srcL_stay n hn t (i + 1) _ _ (fun r hr e => hnd'.1 (by
      have : r = ((i : Int) + y) % n := by omega
      rw [← this]; exact hr))]
    rw [List.getElem?_set_self (by omega)]
  | y :: t, i, acc, k + 1, x, hl, hnd, h => by
    have hnd' := List.nodup_cons.mp (show (((i : Int) + y) % n :: rems n (i + 1) t).Nodup from hnd)
    have e := srcL_at n hn t (i + 1) (acc.set (((i : Int) + y) % n).toNat i) k x (by simp [hl]) hnd'.2 (by simpa using h)
    rw [srcL]
    have z : i + 1 + k = i + (k + 1) := by omega
    rw [z] at e
    exact e
theorem srcs_at {t : List Int} (h : Good t) {k : Nat} (hk : k < t.length) : (srcs t)[((((k : Nat) : Int) + act t k) % t.length).toNat]? = some (k : Int) := by
  have e := srcL_at t.length h.pos t 0 (List.replicate t.length 0) k (act t k) (by simp) h.rems (act_get' hk)
  rw [Nat.zero_add] at e
  exact e
theorem nd_le : ∀ (n : Nat) (l : List Nat), l.Nodup → (∀ x ∈ l, x < n) → l.length ≤ n
  | 0, l, _, h => by
    cases l with
    | nil => simp
    | cons a l => exact absurd (h a (by simp)) (by omega)
  | n + 1, l, hn, h => by
    by_cases hm : n ∈ l
    · have e := nd_le n (l.erase n) (hn.erase n) fun x hx => by
        have h1 := h x (List.mem_of_mem_erase hx)
        have h2 : x ≠ n := fun z => by
          subst z
          exact absurd hx (List.Nodup.not_mem_erase hn)
        omega
      rw [List.length_erase_of_mem hm] at e
      omega
    · have e := nd_le n l hn fun x hx => by
        have h1 := h x hx
        have h2 : x ≠ n := fun z => hm (z ▸ hx)
        omega
      omega
theorem nd_all (n : Nat) (l : List Nat) (hn : l.Nodup) (h : ∀ x ∈ l, x < n) (hl : l.length = n) (j : Nat) (hj : j < n) : j ∈ l := by
  refine Classical.byContradiction fun hm => ?_
  have := nd_le n (j :: l) (List.nodup_cons.mpr ⟨hm, hn⟩) (fun x hx => by
    rcases List.mem_cons.mp hx with rfl | hx
    · exact hj
    · exact h x hx)
  simp at this
  omega
theorem rems_bd {n : Nat} (hn : 0 < n) (t : List Int) (i : Nat) : ∀ r ∈ rems n i t, 0 ≤ r ∧ r < n := by
  intro r hr
  obtain ⟨j, hj, e⟩ := List.getElem_of_mem hr
  have := rems_get n t i j
  rw [List.getElem?_eq_getElem hj, e] at this
  obtain ⟨x, _, q⟩ := Option.map_eq_some_iff.mp this.symm
  rw [← q]
  exact ⟨Int.emod_nonneg _ (by omega), Int.emod_lt_of_pos _ (by omega)⟩
theorem src_ex {t : List Int} (h : Good t) {j : Nat} (hj : j < t.length) : ∃ k : Nat, k < t.length ∧ ((k : Int) + act t k) % t.length = j ∧ (srcs t)[j]? = some (k : Int) := by
  have hnd := h.rems
  have hb := rems_bd h.pos t 0
  have hm : j ∈ (rems t.length 0 t).map Int.toNat := by
    refine nd_all t.length _ ?_ ?_ ?_ j hj
    · unfold List.Nodup
      rw [List.pairwise_map]
      refine List.Pairwise.imp_of_mem ?_ hnd
      intro a b ha hb' hab e
      have := hb a ha
      have := hb b hb'
      omega
    · intro x hx
      obtain ⟨r, hr, rfl⟩ := List.mem_map.mp hx
      have := hb r hr
      omega
    · simp [rems_len]
  obtain ⟨r, hr, e⟩ := List.mem_map.mp hm
  obtain ⟨k, hk, ek⟩ := List.getElem_of_mem hr
  rw [rems_len] at hk
  have q := rems_get t.length t 0 k
  rw [List.getElem?_eq_getElem (by rw [rems_len]; exact hk), ek, act_get' hk, Option.map_some, Nat.zero_add] at q
  have q := Option.some.inj q
  have rb := hb r hr
  refine ⟨k, hk, by omega, ?_⟩
  have s := srcs_at h hk
  rw [← q, e] at s
  exact s
def inv (t : List Int) (x : Int) : Int := x - act t (act (srcs t) x)
theorem mv_inv {t : List Int} (h : Good t) (x : Int) : mv t (inv t x) = x := by
  have b0 := Int.emod_nonneg x (show (t.length : Int) ≠ 0 by have := h.pos; omega)
  have b1 := Int.emod_lt_of_pos x (show 0 < (t.length : Int) by have := h.pos; omega)
  obtain ⟨j, ej⟩ := Int.eq_ofNat_of_zero_le b0
  obtain ⟨k, hk, e1, e2⟩ := src_ex h (j := j) (by omega)
  have e3 : act (srcs t) x = k := by
    rw [← act_mod, srcs_len, ej]
    exact act_get e2
  unfold inv
  rw [e3]
  -- x = k + act t k + q n
  have d : ∃ q : Int, x - act t k = k + q * t.length := by
    have h1 := Int.emod_add_mul_ediv x t.length
    have h2 := Int.emod_add_mul_ediv ((k : Int) + act t k) t.length
    refine ⟨x / t.length - ((k : Int) + act t k) / t.length, ?_⟩
    rw [Int.sub_mul, Int.mul_comm _ (t.length : Int), Int.mul_comm _ (t.length : Int)]
    omega
  obtain ⟨q, hq⟩ := d
  rw [hq, mv_perk]
  unfold mv
  omega
theorem inv_mv {t : List Int} (h : Good t) (x : Int) : inv t (mv t x) = x := h.inj _ _ (mv_inv h _)
theorem inv_eq {t : List Int} (h : Good t) {x y : Int} (e : mv t y = x) : inv t x = y := by rw [← e, inv_mv h]
theorem inv_perk {t : List Int} (h : Good t) (x k : Int) : inv t (x + k * t.length) = inv t x + k * t.length := by
  refine inv_eq h ?_
  rw [mv_perk, mv_inv h]
def invT (t : List Int) : List Int := tabOf t.length fun x => inv t x - x
theorem invT_len (t : List Int) : (invT t).length = t.length := tabOf_len _ _
theorem invT_per {t : List Int} (h : Good t) : PerF (fun x => inv t x - x) t.length := fun x => by
  have := inv_perk h x 1
  rw [Int.one_mul] at this
  show inv t (x + t.length) - (x + t.length) = inv t x - x
  rw [this]; omega
theorem invT_mv {t : List Int} (h : Good t) (x : Int) : mv (invT t) x = inv t x := by
  unfold mv invT
  rw [tabOf_act h.pos (invT_per h)]
  show x + (inv t x - x) = inv t x
  omega
theorem invT_good {t : List Int} (h : Good t) : Good (invT t) := by
  refine ⟨by rw [invT_len]; exact h.pos, by rw [invT_len]; exact h.len, fun x y e => ?_⟩
  rw [invT_mv h, invT_mv h] at e
  rw [← mv_inv h x, e, mv_inv h]
def renF (t b : List Int) (x : Int) : Int := mv b (mv t (inv b x)) - x
theorem renF_per {t b : List Int} (hb : Good b) {n : Nat} (h1 : t.length ∣ n) (h2 : b.length ∣ n) : PerF (renF t b) n := fun x => by
  obtain ⟨p, hp⟩ := h1
  obtain ⟨q, hq⟩ := h2
  have e1 : (n : Int) = (p : Int) * t.length := by rw [hp, Int.natCast_mul, Int.mul_comm]
  have e2 : (n : Int) = (q : Int) * b.length := by rw [hq, Int.natCast_mul, Int.mul_comm]
  unfold renF
  have a1 : inv b (x + n) = inv b x + n := by rw [e2, inv_perk hb]
  have a2 : mv t (inv b x + n) = mv t (inv b x) + n := by rw [e1, mv_perk]
  have a3 : ∀ y, mv b (y + n) = mv b y + n := fun y => by rw [e2, mv_perk]
  rw [a1, a2, a3]; omega
theorem renF_inj {t b : List Int} (ht : Good t) (hb : Good b) (x y : Int) (e : x + renF t b x = y + renF t b y) : x = y := by
  unfold renF at e
  have h1 := ht.inj _ _ (hb.inj _ _ (show mv b (mv t (inv b x)) = mv b (mv t (inv b y)) by omega))
  rw [← mv_inv hb x, h1, mv_inv hb]
def renT (t b : List Int) : List Int := tabOf (Nat.lcm t.length b.length) (renF t b)
theorem renT_good {t b : List Int} (ht : Good t) (hb : Good b) (hl : Nat.lcm t.length b.length ≤ 2520) : Good (renT t b) := good_tab (Nat.lcm_pos ht.pos hb.pos) hl (renF_per hb (Nat.dvd_lcm_left _ _) (Nat.dvd_lcm_right _ _)) (renF_inj ht hb)
theorem renT_mv {t b : List Int} (ht : Good t) (hb : Good b) (x : Int) : mv (renT t b) x = mv b (mv t (inv b x)) := by
  unfold renT
  have e := tabOf_act (Nat.lcm_pos ht.pos hb.pos) (renF_per (t := t) hb (Nat.dvd_lcm_left _ _) (Nat.dvd_lcm_right _ _))
  have h : mv (tabOf (Nat.lcm t.length b.length) (renF t b)) x = x + renF t b x := by unfold mv; rw [e]
  rw [h]; unfold renF; omega
end TS

set_option maxRecDepth 100000
set_option maxHeartbeats 2000000
namespace TS
def itr (f : Int → Int) : Nat → Int → Int
  | 0, x => x
  | k + 1, x => f (itr f k x)
def pwr (t : List Int) (n : Int) (x : Int) : Int := if 0 ≤ n then itr (mv t) n.toNat x else itr (inv t) (-n).toNat x
theorem pwr_zero (t : List Int) (x : Int) : pwr t 0 x = x := rfl
theorem pwr_succ {t : List Int} (h : Good t) (n : Int) (x : Int) : pwr t (n + 1) x = mv t (pwr t n x) := by
  unfold pwr
  by_cases h0 : 0 ≤ n
  · rw [if_pos h0, if_pos (by omega), show (n + 1).toNat = n.toNat + 1 by omega]; rfl
  · rw [if_neg h0]
    by_cases h1 : n = -1
    · subst h1
      rw [if_pos (by omega)]
      show x = mv t (inv t x)
      rw [mv_inv h]
    · rw [if_neg (by omega), show (-n).toNat = (-(n + 1)).toNat + 1 by omega]
      show _ = mv t (inv t _)
      rw [mv_inv h]
theorem pwr_uniq {t : List Int} (h : Good t) {x : Int} {g : Int → Int} (h0 : g 0 = x) (h1 : ∀ n, g (n + 1) = mv t (g n)) (n : Int) : g n = pwr t n x := by
  have up : ∀ k : Nat, g (k : Int) = pwr t k x := fun k => by
    induction k with
    | zero => rw [Int.natCast_zero, h0, pwr_zero]
    | succ k ih => rw [Int.natCast_succ, h1, ih, pwr_succ h]
  have dn : ∀ k : Nat, g (-(k : Int)) = pwr t (-(k : Int)) x := fun k => by
    induction k with
    | zero => simpa using up 0
    | succ k ih =>
      refine h.inj _ _ ?_
      rw [← h1, ← pwr_succ h]
      have : -((k + 1 : Nat) : Int) + 1 = -(k : Int) := by omega
      rw [this]; exact ih
  rcases Int.le_total 0 n with q | q
  · obtain ⟨k, rfl⟩ := Int.eq_ofNat_of_zero_le q
    exact up k
  · obtain ⟨k, e⟩ := Int.eq_ofNat_of_zero_le (show 0 ≤ -n by omega)
    have : n = -(k : Int) := by omega
    rw [this]; exact dn k
theorem pwr_add {t : List Int} (h : Good t) (m n x : Int) : pwr t (m + n) x = pwr t n (pwr t m x) :=
  pwr_uniq h (g := fun n => pwr t (m + n) x) (by show pwr t (m + 0) x = _; rw [Int.add_zero]) (fun n => by show pwr t (m + (n + 1)) x = _; rw [← Int.add_assoc, pwr_succ h]) n
theorem pwr_inj {t : List Int} (h : Good t) (n x y : Int) (e : pwr t n x = pwr t n y) : x = y := by
  have q : ∀ z, pwr t (-n) (pwr t n z) = z := fun z => by rw [← pwr_add h, Int.add_right_neg, pwr_zero]
  rw [← q x, e, q]
theorem pwr_perk {t : List Int} (h : Good t) (n x k : Int) : pwr t n (x + k * t.length) = pwr t n x + k * t.length :=
  (pwr_uniq h (g := fun n => pwr t n x + k * t.length) (by show pwr t 0 x + _ = _; rw [pwr_zero]) (fun n => by show pwr t (n + 1) x + _ = mv t (pwr t n x + _); rw [mv_perk, pwr_succ h]) n).symm
def nx (t : List Int) (j : Nat) : Nat := (((j : Int) + act t j) % t.length).toNat
end TS

set_option maxRecDepth 100000
set_option maxHeartbeats 2000000
namespace TS
open PySem L2
noncomputable section
def sm (f : Int → Int) : Nat → Int
  | 0 => 0
  | n + 1 => sm f n + f (n : Int)
theorem tabOf_sum (f : Int → Int) : ∀ n : Nat, (tabOf n f).sum = sm f n
  | 0 => rfl
  | n + 1 => by
    have e : tabOf (n + 1) f = tabOf n f ++ [f n] := by simp [tabOf, List.range_succ]
    rw [e, List.sum_append, tabOf_sum f n]
    simp [sm]
theorem sum_act (t : List Int) : t.sum = sm (act t) t.length := by
  conv => lhs; rw [← tabOf_self t]
  exact tabOf_sum _ _
theorem sm_congr {f g : Int → Int} : ∀ {n : Nat}, (∀ i : Nat, i < n → f i = g i) → sm f n = sm g n
  | 0, _ => rfl
  | n + 1, h => by
    simp only [sm]
    rw [sm_congr fun i hi => h i (by omega), h n (by omega)]
theorem sm_plus (f g : Int → Int) : ∀ n : Nat, sm (fun i => f i + g i) n = sm f n + sm g n
  | 0 => rfl
  | n + 1 => by simp only [sm]; rw [sm_plus f g n]; omega
theorem sm_minus (f g : Int → Int) : ∀ n : Nat, sm (fun i => f i - g i) n = sm f n - sm g n
  | 0 => rfl
  | n + 1 => by simp only [sm]; rw [sm_minus f g n]; omega
theorem sm_times (k : Int) (f : Int → Int) : ∀ n : Nat, sm (fun i => k * f i) n = k * sm f n
  | 0 => by simp [sm]
  | n + 1 => by simp only [sm]; rw [sm_times k f n, Int.mul_add]
theorem sm_const (k : Int) : ∀ n : Nat, sm (fun _ => k) n = n * k
  | 0 => by simp [sm]
  | n + 1 => by simp only [sm]; rw [sm_const k n, Int.natCast_succ, Int.add_mul, Int.one_mul]
theorem sm_add (f : Int → Int) (a : Nat) : ∀ b : Nat, sm f (a + b) = sm f a + sm (fun i => f (a + i)) b
  | 0 => by simp [sm]
  | b + 1 => by
    rw [← Nat.add_assoc]
    simp only [sm]
    rw [sm_add f a b, Int.natCast_add]
    omega
theorem sm_per {f : Int → Int} {p : Nat} (h : PerF f p) : ∀ k : Nat, sm f (k * p) = k * sm f p
  | 0 => by simp [sm]
  | k + 1 => by
    rw [Nat.succ_mul, sm_add, sm_per h k]
    have e : sm (fun i => f (((k * p : Nat) : Int) + i)) p = sm f p := sm_congr fun i hi => by
      rw [Int.natCast_mul, Int.add_comm]
      exact (h.mulN k) i
    rw [e, Int.natCast_succ, Int.add_mul, Int.one_mul]
theorem nd_len : ∀ (n : Nat) (l : List Int), l.Nodup → (∀ x ∈ l, 0 ≤ x ∧ x < n) → l.length ≤ n
  | 0, [], _, _ => Nat.le_refl _
  | 0, x :: l, _, h => by have := h x (by simp); omega
  | n + 1, l, hn, h => by
    have e : (l.erase (n : Int)).length ≤ n := nd_len n _ (hn.erase _) fun x hx => by
      have h1 := h x (List.mem_of_mem_erase hx)
      have h2 : x ≠ n := fun q => by subst q; exact (List.Nodup.not_mem_erase hn) hx
      omega
    have : l.length ≤ (l.erase (n : Int)).length + 1 := by
      rw [List.length_erase]; split <;> omega
    omega
theorem nd_perm : ∀ (n : Nat) (l : List Int), l.Nodup → (∀ x ∈ l, 0 ≤ x ∧ x < n) → l.length = n → l.Perm (nats 0 n)
  | 0, l, _, _, hl => by
    have : l = [] := List.length_eq_zero_iff.mp hl
    subst this
    exact List.Perm.refl _
  | n + 1, l, hn, h, hl => by
    have hm : (n : Int) ∈ l := by
      by_cases hm : (n : Int) ∈ l
      · exact hm
      · have := nd_len n l hn fun x hx => by
          have h1 := h x hx
          have h2 : x ≠ n := fun q => by subst q; exact hm hx
          omega
        omega
    have e := nd_perm n (l.erase (n : Int)) (hn.erase _) (fun x hx => by
      have h1 := h x (List.mem_of_mem_erase hx)
      have h2 : x ≠ n := fun q => by subst q; exact (List.Nodup.not_mem_erase hn) hx
      omega) (by rw [List.length_erase_of_mem hm]; omega)
    have e2 : nats 0 (n + 1) = nats 0 n ++ [(n : Int)] := by simp [nats, List.range'_concat]
    rw [e2]
    exact (List.perm_cons_erase hm).trans ((e.cons _).trans (List.perm_append_comm (l₁ := [(n : Int)])))
theorem perm_sum {a b : List Int} (h : a.Perm b) : a.sum = b.sum := by
  induction h with
  | nil => rfl
  | cons x _ ih => simp [ih]
  | swap x y l => simp; omega
  | trans _ _ h1 h2 => exact h1.trans h2
theorem tabOf_nodup {n : Nat} {g : Int → Int} (h : ∀ i j : Nat, i < n → j < n → g i = g j → i = j) : (tabOf n g).Nodup := by
  rw [nodup_iff]
  intro i j hij hj e
  rw [tabOf_len] at hj
  simp only [tabOf, List.getElem?_map, List.getElem?_range hj, List.getElem?_range (show i < n by omega), Option.map_some] at e
  have := h i j (by omega) hj (Option.some.inj e)
  omega
theorem tabOf_perm {n : Nat} {g : Int → Int} (h : ∀ i j : Nat, i < n → j < n → g i = g j → i = j) (hb : ∀ i : Nat, i < n → 0 ≤ g i ∧ g i < n) : (tabOf n g).Perm (nats 0 n) :=
  nd_perm n _ (tabOf_nodup h) (fun x hx => by
    obtain ⟨i, hi, rfl⟩ := List.mem_map.mp hx
    exact hb i (by simpa using hi)) (tabOf_len _ _)
theorem nats_tab (n : Nat) : nats 0 n = tabOf n id := by simp [nats, tabOf, List.range_eq_range']
theorem sm_comp (f : Int → Int) {n : Nat} {g : Int → Int} (h : ∀ i j : Nat, i < n → j < n → g i = g j → i = j) (hb : ∀ i : Nat, i < n → 0 ≤ g i ∧ g i < n) : sm (fun i => f (g i)) n = sm f n := by
  have p := (tabOf_perm h hb).map f
  have q := perm_sum p
  rw [nats_tab] at q
  simp only [tabOf, List.map_map] at q
  have e1 := tabOf_sum (fun i => f (g i)) n
  have e2 := tabOf_sum f n
  simp only [tabOf] at e1 e2
  rw [← e1, ← e2]
  exact q
theorem rem_inj {t : List Int} (h : Good t) {n : Nat} (hd : t.length ∣ n) (h0 : 0 < n) (c : Int) : ∀ i j : Nat, i < n → j < n → (mv t i - c) % n = (mv t j - c) % n → i = j := by
  intro i j hi hj e
  have e2 : (n : Int) ∣ (mv t i - mv t j) := by
    have := Int.dvd_of_emod_eq_zero (Int.emod_eq_emod_iff_emod_sub_eq_zero.mp e)
    rwa [show mv t i - c - (mv t j - c) = mv t i - mv t j by omega] at this
  obtain ⟨k, hk⟩ := e2
  obtain ⟨m, rfl⟩ := hd
  have e3 : mv t i = mv t ((j : Int) + (m * k) * t.length) := by
    rw [mv_perk]
    have : ((t.length * m : Nat) : Int) * k = m * k * t.length := by rw [Int.natCast_mul, Int.mul_comm (t.length : Int), Int.mul_right_comm]
    omega
  have e4 := h.inj _ _ e3
  have e5 : ((m : Int) * k) * t.length = ((t.length * m : Nat) : Int) * k := by rw [Int.natCast_mul, Int.mul_comm (t.length : Int), Int.mul_right_comm]
  rw [e5] at e4
  have hk0 : k = 0 := by
    rcases Int.lt_trichotomy k 0 with hk | hk | hk
    · have : ((t.length * m : Nat) : Int) * k ≤ ((t.length * m : Nat) : Int) * (-1) := Int.mul_le_mul_of_nonneg_left (by omega) (by omega)
      omega
    · exact hk
    · have : ((t.length * m : Nat) : Int) * 1 ≤ ((t.length * m : Nat) : Int) * k := Int.mul_le_mul_of_nonneg_left (by omega) (by omega)
      omega
  subst hk0
  omega
theorem rem_sum {t : List Int} (h : Good t) {n : Nat} (hd : t.length ∣ n) (h0 : 0 < n) (c : Int) (f : Int → Int) (hf : PerF f n) : sm (fun i => f (mv t i - c)) n = sm f n := by
  have e := sm_comp f (g := fun i => (mv t i - c) % n) (rem_inj h hd h0 c) fun i _ => ⟨Int.emod_nonneg _ (by omega), Int.emod_lt_of_pos _ (by omega)⟩
  rw [← e]
  exact sm_congr fun i _ => (per_mod hf _).symm
theorem good_id : Good [0] := by
  refine ⟨by decide, by decide, fun x y e => ?_⟩
  have : ∀ x, act [0] x = 0 := fun x => by rw [← act_mod]; simp [act]
  simpa [mv, this] using e
theorem mv_id (x : Int) : mv [0] x = x := by
  have : act [0] x = 0 := by rw [← act_mod]; simp [act]
  simp [mv, this]
def cnt (t : List Int) (c : Int) : Int := sm (fun i => (i + act t i - c) / t.length - (i - c) / t.length) t.length
theorem cnt_sum {t : List Int} (h : Good t) (c : Int) : t.length * cnt t c = t.sum := by
  have hp := h.pos
  unfold cnt
  rw [← sm_times, sum_act]
  have r1 := rem_sum h (Nat.dvd_refl _) hp c (fun z => z % t.length) (fun z => by simp)
  have r2 := rem_sum good_id (n := t.length) ⟨t.length, by simp⟩ hp c (fun z => z % t.length) (fun z => by simp)
  simp only [mv_id] at r2
  have e : sm (fun i => (t.length : Int) * ((i + act t i - c) / t.length - (i - c) / t.length)) t.length = sm (fun i => act t i - ((mv t i - c) % t.length - (i - c) % t.length)) t.length := sm_congr fun i _ => by
    have a1 := Int.mul_ediv_add_emod (i + act t i - c) t.length
    have a2 := Int.mul_ediv_add_emod ((i : Int) - c) t.length
    unfold mv
    rw [Int.mul_sub]
    omega
  rw [e, sm_minus, sm_minus, r1, r2]
  omega
def flw (t : List Int) : Int := t.sum / t.length
theorem cnt_flw {t : List Int} (h : Good t) (c : Int) : cnt t c = flw t := by
  unfold flw
  rw [← cnt_sum h c, Int.mul_ediv_cancel_left _ (by have := h.pos; omega)]
theorem flw_sum {t : List Int} (h : Good t) : t.sum = t.length * flw t := by rw [← cnt_flw h 0, cnt_sum h]
theorem flw_per {t : List Int} (h : Good t) {n : Nat} (h0 : 0 < n) (hp : PerF (act t) n) : sm (act t) n = n * flw t := by
  have a1 := sm_per (act_per t) n
  have a2 := sm_per hp t.length
  rw [Nat.mul_comm, a2, ← sum_act, flw_sum h] at a1
  have : (t.length : Int) * sm (act t) n = t.length * (n * flw t) := by rw [a1, ← Int.mul_assoc, ← Int.mul_assoc, Int.mul_comm (n : Int)]
  exact Int.eq_of_mul_eq_mul_left (by have := h.pos; omega) this
end
end TS

set_option maxRecDepth 100000
set_option maxHeartbeats 2000000
namespace TS
open PySem L2
noncomputable section
theorem strOk_app {a b : Str} (h : PyData.strOk a = true) (h' : PyData.strOk b = true) : PyData.strOk (a ++ b) = true := by
  have e : (a ++ b).cps = a.cps ++ b.cps := rfl
  unfold PyData.strOk at *
  rw [e, Array.all_append, h, h']; rfl
theorem strOk_from : ∀ (ts : List Str) (k : Nat) (acc : Str), PyData.strOk acc = true → (∀ t ∈ ts, PyData.strOk t = true) → PyData.strOk (textFrom k acc ts) = true
  | [], _, _, h, _ => h
  | t :: ts, k, acc, h, ht => strOk_from ts (k + 1) _ (strOk_app (strOk_app h (strOk_of _)) (ht t (by simp))) fun x hx => ht x (by simp [hx])
theorem strOk_join : ∀ (ts : List Str), (∀ t ∈ ts, PyData.strOk t = true) → PyData.strOk (Str.join ", " ts) = true
  | [], _ => strOk_of ""
  | [x], h => h x (by simp)
  | x :: y :: r, h => strOk_app (strOk_app (h x (by simp)) (strOk_of _)) (strOk_join (y :: r) fun z hz => h z (by simp [hz]))
mutual
def fine : PyData → Prop
  | .none => True
  | .bool _ => True
  | .int i => i.natAbs < 2 ^ 255
  | .str x => PyData.strOk (PyData.shown (.str x)) = true ∧ PyData.showable (.str x) = true ∧ PyData.leavesShort 80 (.str x) = true
  | .list xs => fineAll xs
  | .tuple xs => fineAll xs
  | .dict _ => False
def fineAll : List PyData → Prop
  | [] => True
  | x :: xs => fine x ∧ fineAll xs
end
mutual
theorem fine_text : ∀ p : PyData, fine p → PyData.strOk p.shown = true
  | .none, _ => strOk_of _
  | .bool b, _ => by unfold PyData.shown; split <;> exact strOk_of _
  | .int i, _ => by unfold PyData.shown; exact strOk_of _
  | .str _, h => by unfold fine at h; exact h.1
  | .list xs, h => by
    unfold fine at h
    unfold PyData.shown listText
    exact strOk_app (strOk_from _ _ _ (strOk_of _) (fineAll_text xs h)) (strOk_of _)
  | .tuple xs, h => by
    unfold fine at h
    unfold PyData.shown tupleText
    exact strOk_app (strOk_app (strOk_of _) (strOk_join _ (fineAll_text xs h))) (strOk_of _)
  | .dict _, h => by simp [fine] at h
theorem fineAll_text : ∀ xs : List PyData, fineAll xs → ∀ t ∈ PyData.shownAll xs, PyData.strOk t = true
  | [], _, t, ht => by simp [PyData.shownAll] at ht
  | x :: xs, h, t, ht => by
    unfold fineAll at h
    rw [PyData.shownAll, List.mem_cons] at ht
    rcases ht with rfl | ht
    · exact fine_text x h.1
    · exact fineAll_text xs h.2 t ht
end
theorem int_log {i : Int} (h : i.natAbs < 2 ^ 255) : i.natAbs.log2 < 1920 := by
  have := log2_lt h (by decide)
  omega
mutual
theorem fine_show : ∀ p : PyData, fine p → p.showable = true ∧ p.hasDict = false ∧ p.leavesShort 80 = true
  | .none, _ => by simp [PyData.showable, PyData.hasDict, PyData.leavesShort]
  | .bool b, _ => by simp [PyData.showable, PyData.hasDict, PyData.leavesShort]
  | .int i, h => by
    unfold fine at h
    have h2 := int_log h
    have h3 : (PyData.shown (.int i)).length ≤ 80 := by
      unfold PyData.shown
      have e := int_text_length_le10 (a := i) (k := 78) (by decide) (Nat.lt_trans h (by decide))
      show (Str.ofString (toString i)).length ≤ 80
      simp only [Str.length, Str.ofString_eq_toList, List.size_toArray, List.length_map]
      rw [String.length_toList]
      omega
    simp [PyData.showable, PyData.hasDict, PyData.leavesShort, h2, h3]
  | .str _, h => by unfold fine at h; exact ⟨h.2.1, by simp [PyData.hasDict], h.2.2⟩
  | .list xs, h => by
    unfold fine at h
    unfold PyData.showable PyData.hasDict PyData.leavesShort
    exact fineAll_show xs h
  | .tuple xs, h => by
    unfold fine at h
    unfold PyData.showable PyData.hasDict PyData.leavesShort
    exact fineAll_show xs h
  | .dict _, h => by simp [fine] at h
theorem fineAll_show : ∀ xs : List PyData, fineAll xs → PyData.showableAll xs = true ∧ PyData.hasDictAll xs = false ∧ PyData.leavesShortAll 80 xs = true
  | [], _ => by simp [PyData.showableAll, PyData.hasDictAll, PyData.leavesShortAll]
  | x :: xs, h => by
    unfold fineAll at h
    have h1 := fine_show x h.1
    have h2 := fineAll_show xs h.2
    simp [PyData.showableAll, PyData.hasDictAll, PyData.leavesShortAll, h1, h2]
end
theorem fine_sh {p : PyData} (h : fine p) (hd : p.depth ≤ 32) (hb : p.bulk ≤ 100000) : shOk p = true := by
  obtain ⟨h1, h2, h3⟩ := fine_show p h
  have := PyData.shown_le_bulk 80 (by decide) p h3
  exact gd_true ⟨h1, h2, hd, by show _ ≤ 2 ^ 24; omega⟩
theorem fine_ints : ∀ {xs : List Int}, (∀ x ∈ xs, x.natAbs < 2 ^ 255) → fineAll (xs.map PyData.int)
  | [], _ => trivial
  | x :: xs, h => ⟨h x (by simp), fine_ints fun y hy => h y (by simp [hy])⟩
theorem bulk_ints : ∀ xs : List Int, PyData.bulkAll (xs.map PyData.int) = xs.length
  | [] => rfl
  | x :: xs => by simp only [List.map_cons, PyData.bulkAll, PyData.bulk, bulk_ints xs, List.length_cons]; omega
def reprL (xs : List Int) : Str := (PyData.list (xs.map PyData.int)).shown
end
end TS

set_option maxRecDepth 100000
set_option maxHeartbeats 2000000
namespace TS
theorem per_dvd {t : List Int} (h : 0 < t.length) {n : Nat} (h0 : 0 < n) (hp : PerF (act t) n) : (least t).length ∣ n := by
  have m := leastP_min h
  rw [least_length h]
  have g := PerF.gcd (leastP t) n (leastP_dvd h).2.2 hp
  have hg : 0 < Nat.gcd (leastP t) n := Nat.gcd_pos_of_pos_right _ h0
  have := m.min _ hg g
  have e : Nat.gcd (leastP t) n = leastP t := Nat.le_antisymm (Nat.gcd_le_left _ (leastP_dvd h).2.1) this
  rw [← e]
  exact Nat.gcd_dvd_right _ _
theorem sm_mv {t : List Int} (h : Good t) {n : Nat} (h0 : 0 < n) (hp : PerF (act t) n) (f : Int → Int) (hf : PerF f n) : sm (fun i => f (mv t i)) n = sm f n := by
  have hd := per_dvd h.pos h0 hp
  have := rem_sum h.least hd h0 0 f hf
  simp only [Int.sub_zero, mv_least h] at this
  exact this
structure PF (u : List Int) (F B : Int) : Prop where
  good : Good u
  flow : flw u = F
  bd : ∀ x, -B ≤ act u x ∧ act u x ≤ B
  per : PerF (act u) (2520 : Nat)
theorem PF.sum {u : List Int} {F B : Int} (h : PF u F B) : sm (act u) 2520 = 2520 * F := by
  rw [← h.flow]; exact flw_per h.good (by decide) h.per
theorem PF.dvd {u : List Int} {F B : Int} (h : PF u F B) : (least u).length ∣ 2520 := per_dvd h.good.pos (by decide) h.per
theorem PF.lcm {u v : List Int} {F B F' B' : Int} (h : PF u F B) (h' : PF v F' B') : Nat.lcm (least u).length (least v).length ≤ 2520 := Nat.le_of_dvd (by decide) (Nat.lcm_dvd h.dvd h'.dvd)
theorem PF.mvper {u : List Int} {F B : Int} (h : PF u F B) (x : Int) : mv u (x + (2520 : Nat)) = mv u x + (2520 : Nat) := by
  unfold mv; rw [h.per]; omega
theorem PF.of_sum {u : List Int} {F B : Int} (g : Good u) (hp : PerF (act u) (2520 : Nat)) (hs : sm (act u) 2520 = 2520 * F) (hb : ∀ x, -B ≤ act u x ∧ act u x ≤ B) : PF u F B :=
  ⟨g, by have := flw_per g (by decide) hp; rw [hs] at this; omega, hb, hp⟩
theorem PF.mono {u : List Int} {F B B' : Int} (h : PF u F B) (hb : B ≤ B') : PF u F B' := ⟨h.good, h.flow, fun x => by have := h.bd x; omega, h.per⟩
theorem PF.join {u v w : List Int} {F B F' B' : Int} (h : PF u F B) (h' : PF v F' B') (g : Good w) (e : ∀ x, mv w x = mv v (mv u x)) : PF w (F + F') (B + B') := by
  have ea : ∀ x, act w x = act u x + act v (mv u x) := fun x => by
    have := e x
    unfold mv at this ⊢
    omega
  refine PF.of_sum g (fun x => ?_) ?_ fun x => ?_
  · rw [ea, ea, h.per, h.mvper, h'.per]
  · rw [sm_congr (g := fun i => act u i + act v (mv u i)) fun i _ => ea i, sm_plus, sm_mv h.good (by decide) h.per _ h'.per, h.sum, h'.sum, Int.mul_add]
  · have := h.bd x
    have := h'.bd (mv u x)
    rw [ea]; omega
theorem PF.ren {t b w : List Int} {F B F' B' : Int} (h : PF t F B) (h' : PF b F' B') (g : Good w) (e : ∀ x, mv w x = mv b (mv t (inv b x))) : PF w F (B + 2 * B') := by
  have gb := h'.good
  have ea : ∀ y, act w (mv b y) = act b (mv t y) + act t y - act b y := fun y => by
    have := e (mv b y)
    rw [inv_mv gb] at this
    unfold mv at this ⊢
    omega
  have ip : PerF (act w) (2520 : Nat) := fun x => by
    have q : inv b (x + (2520 : Nat)) = inv b x + (2520 : Nat) := inv_eq gb (by rw [h'.mvper, mv_inv gb])
    have e1 := e x
    have e2 := e (x + (2520 : Nat))
    rw [q, h.mvper, h'.mvper] at e2
    rw [show mv w (x + (2520 : Nat)) = x + (2520 : Nat) + act w (x + (2520 : Nat)) from rfl] at e2
    rw [show mv w x = x + act w x from rfl] at e1
    omega
  refine PF.of_sum g ip ?_ fun x => ?_
  · rw [← sm_mv gb (by decide) h'.per _ ip, sm_congr (g := fun i => (act b (mv t i) + act t i) - act b i) fun i _ => ea i, sm_minus, sm_plus, sm_mv h.good (by decide) h.per _ h'.per, h.sum]; omega
  · have q := ea (inv b x)
    rw [mv_inv gb] at q
    have := h'.bd (mv t (inv b x))
    have := h.bd (inv b x)
    have := h'.bd (inv b x)
    rw [q]; omega
theorem PF.id : PF [0] 0 0 := by
  have a : ∀ x, act [0] x = 0 := fun x => by have := mv_id x; unfold mv at this; omega
  exact PF.of_sum good_id (fun x => by rw [a, a]) (by rw [sm_congr (g := fun _ => 0) fun i _ => a i, sm_const]; rfl) fun x => by rw [a]; omega
end TS

set_option maxRecDepth 100000
set_option maxHeartbeats 4000000
namespace TS
open PySem L2
theorem for_st {fi : FA} {tg : R → Sl → SR} {body : FS} {δ δ1 : Sl} {ds : List D} {s : SR} (h1 : fi δ = .ok ds δ1) (h2 : forL tg body ds δ1 = s) : sFor fi tg body δ = s := by
  rw [ap_sFor, h1, Res.bindS_ok, h2]
theorem asg_own {f : FE} {i : Nat} {δ δ1 : Sl} {o : OB} (h1 : f δ = .ok (.own o) δ1) : sAsg f (tName i) δ = .nx (δ1.set i (some (.own o))) := by
  rw [ap_sAsg, h1, Res.bindS_ok, ap_tNameO]
theorem asg_imm {f : FE} {i : Nat} {δ δ1 : Sl} {d : D} (h1 : f δ = .ok (.imm d) δ1) : sAsg f (tName i) δ = .nx (δ1.set i (some (.imm d))) := by
  rw [ap_sAsg, h1, Res.bindS_ok, ap_tNameI]
end TS

set_option maxRecDepth 100000
set_option maxHeartbeats 4000000
namespace TS
open PySem L2
end TS

set_option maxRecDepth 100000
set_option maxHeartbeats 4000000
namespace TS
open PySem L2
noncomputable section
@[simp] theorem ap_fLenSet (f : FD) (δ : Sl) : fLenSet f δ = (f δ).bind fun d δ => match d with
  | .lst ds => (match intsD ds with
    | some ns => if ns.length ≤ 4000 then .ok (.int (ns.eraseDups.length : Nat)) δ else .bad
    | none => .bad)
  | _ => .bad := id rfl
@[simp] theorem ap_fxNil (δ : Sl) : fxNil δ = .ok [] δ := id rfl
@[simp] theorem ap_fxCons (f : FE) (g : FX) (δ : Sl) : fxCons f g δ = (f δ).bind fun r δ1 => match r with
  | .brw _ => .bad
  | r => (g δ1).bind fun rs δ2 => .ok (r :: rs) δ2 := id rfl
@[simp] theorem ap_sPar2E (i j : Nat) (f : FX) (δ : Sl) : sPar2E i j f δ = (f δ).bindS fun rs δ1 => match rs with
  | [a, b] => if i < δ1.length then .nx ((δ1.set i (some a)).set j (some b)) else .bad
  | _ => .bad := id rfl
@[simp] theorem ap_sPar3E (i j l : Nat) (f : FX) (δ : Sl) : sPar3E i j l f δ = (f δ).bindS fun rs δ1 => match rs with
  | [a, b, c] => if i < δ1.length ∧ j < δ1.length then .nx (((δ1.set i (some a)).set j (some b)).set l (some c)) else .bad
  | _ => .bad := id rfl
theorem nats_at {n j : Nat} (h : j < n) : (nats 0 n)[j]? = some (j : Int) := by simp [nats, h]
theorem nats_pre {n : Nat} {pre post : List Int} {x : Int} (e : nats 0 n = pre ++ x :: post) : x = (pre.length : Int) ∧ pre.length < n := by
  have h := pre_get e
  have hl : pre.length < (nats 0 n).length := (List.getElem?_eq_some_iff.mp h).1
  rw [nats_len] at hl
  rw [nats_at hl] at h
  exact ⟨(Option.some.inj h).symm, hl⟩
theorem nats_mem {n : Nat} {x : Int} (h : x ∈ nats 0 n) : 0 ≤ x ∧ x < n := by
  simp [nats] at h
  obtain ⟨a, ha, rfl⟩ := h
  omega
theorem nodup_swap {l : List Int} (h : l.Nodup) {a b : Nat} (ha : a < l.length) (hb : b < l.length) : ((l.set a l[b]).set b l[a]).Nodup := by
  have inj : ∀ i j, i < l.length → j < l.length → l[i]? = l[j]? → i = j := fun i j hi hj e => by
    rw [nodup_iff] at h
    rcases Nat.lt_trichotomy i j with z | z | z
    · exact absurd e (h i j z hj)
    · exact z
    · exact absurd e.symm (h j i z hi)
  have get : ∀ i, i < l.length → ∃ k, k < l.length ∧ ((l.set a l[b]).set b l[a])[i]? = l[k]? ∧ (k = if i = b then a else if i = a then b else i) := fun i hi => by
    by_cases h1 : i = b
    · subst h1
      exact ⟨a, ha, by rw [List.getElem?_set_self (by simpa using hi), List.getElem?_eq_getElem ha], by simp⟩
    · by_cases h2 : i = a
      · subst h2
        exact ⟨b, hb, by rw [List.getElem?_set_ne (Ne.symm h1), List.getElem?_set_self hi, List.getElem?_eq_getElem hb], by simp [h1]⟩
      · exact ⟨i, hi, by rw [List.getElem?_set_ne (Ne.symm h1), List.getElem?_set_ne (Ne.symm h2)], by simp [h1, h2]⟩
  rw [nodup_iff]
  intro i j hij hj e
  rw [List.length_set, List.length_set] at hj
  obtain ⟨k, k1, k2, k3⟩ := get i (by omega)
  obtain ⟨m, m1, m2, m3⟩ := get j hj
  rw [k2, m2] at e
  have := inj k m k1 m1 e
  subst this
  rw [k3] at m3
  repeat' split at m3
  all_goals omega
def exT (t : List Int) (a b : Nat) : List Int := (t.set a (mv t b - a)).set b (mv t a - b)
theorem exT_len (t : List Int) (a b : Nat) : (exT t a b).length = t.length := by simp [exT]
theorem exT_good {t : List Int} (h : Good t) {a b : Nat} (ha : a < t.length) (hb : b < t.length) : Good (exT t a b) := by
  have hl := exT_len t a b
  have hr := rems_len t.length t 0
  refine good_of_rems (by omega) (by have := h.len; omega) ?_
  have e : rems (exT t a b).length 0 (exT t a b) = ((rems t.length 0 t).set a (rems t.length 0 t)[b]).set b (rems t.length 0 t)[a] := by
    have g : ∀ j (hj : j < t.length), (rems t.length 0 t)[j]'(by omega) = mv t j % t.length := fun j hj => by
      have := rems_get t.length t 0 j
      rw [List.getElem?_eq_getElem (by omega), act_get' hj] at this
      have := Option.some.inj this
      rw [this]
      unfold mv
      rw [Nat.zero_add]
    apply List.ext_getElem?
    intro j
    rw [rems_get, hl]
    by_cases h1 : j = b
    · subst h1
      rw [List.getElem?_set_self (by simp; omega), g a ha]
      unfold exT
      rw [List.getElem?_set_self (by simpa using hb)]
      simp only [Option.map_some, Option.some.injEq, Nat.zero_add]
      congr 1; omega
    · rw [List.getElem?_set_ne (Ne.symm h1)]
      unfold exT
      rw [List.getElem?_set_ne (Ne.symm h1)]
      by_cases h2 : j = a
      · subst h2
        rw [List.getElem?_set_self (by omega), List.getElem?_set_self (by omega), g b hb]
        simp only [Option.map_some, Option.some.injEq, Nat.zero_add]
        congr 1; omega
      · rw [List.getElem?_set_ne (Ne.symm h2), List.getElem?_set_ne (Ne.symm h2), rems_get]
  rw [e]
  exact nodup_swap h.rems (by omega) (by omega)
structure IsLap (t : List Int) (x : Int) (m : Nat) : Prop where
  pos : 0 < m
  le : m ≤ t.length
  dv : (pwr t (m : Int) x - x) % t.length = 0
  min : ∀ j : Nat, 0 < j → j < m → (pwr t (j : Int) x - x) % t.length ≠ 0
theorem pwr_lapN {t : List Int} (h : Good t) {m : Nat} {x q : Int} (e : pwr t (m : Int) x = x + q * t.length) : ∀ j : Nat, pwr t ((j : Int) * m) x = x + j * q * t.length
  | 0 => by simp [pwr_zero]
  | j + 1 => by
    rw [Int.natCast_succ, Int.add_mul, Int.one_mul, pwr_add h, pwr_lapN h e j, pwr_perk h, e, Int.add_mul, Int.one_mul, Int.add_mul]
    omega
theorem pwr_lapM {t : List Int} (h : Good t) {m : Nat} {x q : Int} (e : pwr t (m : Int) x = x + q * t.length) : ∀ j : Nat, pwr t (-(j : Int) * m) x = x + -(j : Int) * q * t.length
  | 0 => by simp [pwr_zero]
  | j + 1 => by
    have ih := pwr_lapM h e j
    have e2 : -((j + 1 : Nat) : Int) * m + m = -(j : Int) * m := by
      rw [Int.natCast_succ, Int.neg_add, Int.add_mul, Int.neg_mul 1, Int.one_mul]; omega
    rw [← e2, pwr_add h] at ih
    have e3 : x + -(j : Int) * q * t.length = pwr t (m : Int) (x + (-((j + 1 : Nat) : Int) * q) * t.length) := by
      rw [pwr_perk h, e, Int.natCast_succ, Int.neg_add, Int.add_mul, Int.add_mul, Int.neg_mul 1, Int.one_mul, Int.neg_mul q]
      omega
    rw [e3] at ih
    exact pwr_inj h _ _ _ ih
theorem pwr_lap {t : List Int} (h : Good t) {m : Nat} {x q : Int} (e : pwr t (m : Int) x = x + q * t.length) (j : Int) : pwr t (j * m) x = x + j * q * t.length := by
  rcases Int.le_total 0 j with z | z
  · obtain ⟨k, rfl⟩ := Int.eq_ofNat_of_zero_le z
    exact pwr_lapN h e k
  · obtain ⟨k, hk⟩ := Int.eq_ofNat_of_zero_le (show 0 ≤ -j by omega)
    have : j = -(k : Int) := by omega
    subst this
    exact pwr_lapM h e k
theorem IsLap.far {t : List Int} {x : Int} {m : Nat} (l : IsLap t x m) : pwr t (m : Int) x = x + (pwr t (m : Int) x - x) / t.length * t.length := by
  have := Int.ediv_mul_cancel_of_emod_eq_zero l.dv
  omega
theorem IsLap.after {t : List Int} (h : Good t) {x : Int} {m : Nat} (l : IsLap t x m) (k : Int) : pwr t (k % m) (x + k / m * (pwr t (m : Int) x - x)) = pwr t k x := by
  have e1 := pwr_lap h l.far (k / m)
  have e2 : k / m * ((pwr t (m : Int) x - x) / t.length) * t.length = k / m * (pwr t (m : Int) x - x) := by
    rw [Int.mul_assoc, Int.ediv_mul_cancel_of_emod_eq_zero l.dv]
  rw [e2] at e1
  have e3 : k / m * m + k % m = k := by have := Int.mul_ediv_add_emod k m; rw [Int.mul_comm] at this; omega
  rw [← e1, ← pwr_add h, e3]
end
end TS

set_option maxRecDepth 100000
set_option maxHeartbeats 4000000
namespace TS
open PySem L2
noncomputable section
@[simp] theorem ap_fChain (g g' : D → D → Option R) (fa fb fc : FD) (δ : Sl) : fChain g g' fa fb fc δ = (fa δ).bind fun x δ1 => (fb δ1).bind fun y δ2 => match g x y with
  | some (.imm (.bl true)) => (fc δ2).bind fun w δ3 => (match g' y w with
    | some z => .ok z δ3
    | none => .bad)
  | some (.imm (.bl false)) => .ok (.imm (.bl false)) δ2
  | _ => .bad := id rfl
@[simp] theorem ap_fGet (fo fk fx : FD) (δ : Sl) : fGet fo fk fx δ = (fo δ).bind fun d δ1 => if isDD d then (fk δ1).bind fun k δ2 => (fx δ2).bind fun x δ3 => (match gGet d k x with
  | some z => .ok z δ3
  | none => .bad) else .bad := id rfl
def isI : Option R → Bool
  | none => true
  | some (.imm _) => true
  | _ => false
@[simp] theorem isI_none : isI none = true := rfl
@[simp] theorem isI_imm (d : D) : isI (some (.imm d)) = true := rfl
end
end TS

set_option maxRecDepth 100000
set_option maxHeartbeats 4000000
namespace TS
open PySem L2
end TS

set_option maxRecDepth 100000
set_option maxHeartbeats 2000000
namespace TS
open PySem L2
noncomputable section
end
end TS

set_option maxRecDepth 100000
set_option maxHeartbeats 2000000
namespace TS
open PySem L2
noncomputable section
@[simp] theorem ap_fRes (i : Nat) (res : Res D) (δ : Sl) : fRes i res δ = match δ[i]? with
  | some (some (.imm .lam)) => (match res with
    | .ok d _ => .ok (.imm d) δ
    | .exc x _ => .exc x δ
    | .bad => .bad)
  | _ => .bad := rfl
@[simp] theorem ap_fReprD (fa : FD) (δ : Sl) : fReprD fa δ = (fa δ).bind fun d δ1 => match gReprD d with
  | some x => .ok (.str x) δ1
  | none => .bad := rfl
@[simp] theorem ap_fLam (ixs : List Nat) (mt : Res D → Fm) (fb : FE) (δ : Sl) : fLam ixs mt fb δ = outL (mt (thk fb (frzS ixs δ)) none [.lam]) (frzS ixs δ) := rfl
@[simp] theorem ap_fCMethK (n : Nat) (f : Fm) (l : Nat) (fk : FA) (δ : Sl) : fCMethK n f l fk δ = (fk δ).bind fun ds δ1 => if ds.length = l then outE (f none (.cls n :: ds)) δ1 else .bad := rfl
@[simp] theorem ap_hNil (y : XD) : hNil y = none := rfl
theorem hCons_hit {tab : Nat → Option Bool} {g : XD → FS} {hs : XD → Option FS} {y : XD} (h : tab y.c = some true) : hCons tab g hs y = some (g y) := by
  unfold hCons; rw [h]
@[simp] theorem ap_sRaise (n k : Nat) (fa : FA) (δ : Sl) : sRaise n k fa δ = (fa δ).bindS fun ds δ1 => if ds.length = k then .exc ⟨n, ds.reverse⟩ δ1 else .bad := rfl
theorem try_exc {i : Nat} {gb : FS} {hs : XD → Option FS} {δ δ1 δ2 : Sl} {x : XD} {g : FS} (e : gb δ = .exc x δ1) (h : hs x = some g) (hi : i < δ1.length) (eg : g (δ1.set i none) = .nx δ2) : sTry i gb hs δ = .nx (δ2.set i none) := by
  unfold sTry
  rw [e]
  simp [h, hi, eg]
@[simp] theorem outE_exc (x : XD) (io : Option OB) (δ : Sl) : outE (.exc x io) δ = .exc x δ := rfl
theorem gRep_d {ds : List D} {k : Nat} (h1 : k ≤ 16777216) (h2 : ds.length * k ≤ 16777216) : gMul (.lst ds) (.int (k : Int)) = some (.own (.l (List.replicate k ds).flatten)) := by
  have e : gI CMulB (fun i j => i * j) (.lst ds) (.int (k : Int)) = none := rfl
  have e2 : gd (0 ≤ (k : Int) ∧ (k : Int) < 9223372036854775808 ∧ ds.length * ((k : Int)).toNat ≤ 16777216) = true := gd_true ⟨by omega, by omega, by rw [Int.toNat_natCast]; exact h2⟩
  simp only [gMul, gOr, e, gRep, e2, if_true]
  rw [Int.toNat_natCast]
end
end TS

set_option maxHeartbeats 0
namespace K54
open PySem L2 TS
structure Ev (K : PySem.W.Frag) (mg : Str → Option Value) (base : Heap) : Prop where
  c : SaysS fa fn K
  X : K.In base
  G : base.Ns mainGlobals mg
def MM (K : PySem.W.Frag) : Gm where
  K := K
  G := fun n => match n with | 0 => some (He.ga K "Plan") | 100 => some (He.ga K "InvalidInteger") | 102 => some (He.ga K "InvalidTable") | 115 => some (He.ga K "TooLong") | 116 => some (He.ga K "TooMany") | _ => none
  nm := fun n => match n with | 0 => ["own_offsets", "own_sources"] | 100 => ["value"] | 102 => ["earlier", "position", "problem"] | 115 => ["multiple"] | 116 => ["many"] | _ => []
noncomputable section
variable {P : Program} {w : World} {K : PySem.W.Frag} {mg : Str → Option Value} {base : Heap}
theorem nm_lt : ∀ n, ((MM K).nm n).length < 1000 := by
  intro n
  show (match n with | 0 => ["own_offsets", "own_sources"] | 100 => ["value"] | 102 => ["earlier", "position", "problem"] | 115 => ["multiple"] | 116 => ["many"] | _ => [] : List Str).length < 1000
  split <;> decide
theorem u_list (v : Ev K mg base) : mg "list" = none := He.free_ok v.X v.G (v.c.fact 0 (f := .he (.free "list")))
theorem u_divmod (v : Ev K mg base) : mg "divmod" = none := He.free_ok v.X v.G (v.c.fact 1 (f := .he (.free "divmod")))
theorem u_int (v : Ev K mg base) : mg "int" = none := He.free_ok v.X v.G (v.c.fact 2 (f := .he (.free "int")))
theorem u__law_draw (v : Ev K mg base) : mg "_law_draw" = some (.ref (He.ga K "_law_draw")) := He.glo_ok v.X v.G (v.c.fact 3 (f := .he (.glo "_law_draw")))
theorem u_len (v : Ev K mg base) : mg "len" = none := He.free_ok v.X v.G (v.c.fact 4 (f := .he (.free "len")))
theorem u__law_shuffled (v : Ev K mg base) : mg "_law_shuffled" = some (.ref (He.ga K "_law_shuffled")) := He.glo_ok v.X v.G (v.c.fact 5 (f := .he (.glo "_law_shuffled")))
theorem u_range (v : Ev K mg base) : mg "range" = none := He.free_ok v.X v.G (v.c.fact 6 (f := .he (.free "range")))
theorem u__law_great (v : Ev K mg base) : mg "_law_great" = some (.ref (He.ga K "_law_great")) := He.glo_ok v.X v.G (v.c.fact 7 (f := .he (.glo "_law_great")))
theorem u__law_table (v : Ev K mg base) : mg "_law_table" = some (.ref (He.ga K "_law_table")) := He.glo_ok v.X v.G (v.c.fact 8 (f := .he (.glo "_law_table")))
theorem u_least_table (v : Ev K mg base) : mg "least_table" = some (.ref (He.ga K "least_table")) := He.glo_ok v.X v.G (v.c.fact 11 (f := .he (.glo "least_table")))
theorem u_tuple (v : Ev K mg base) : mg "tuple" = none := He.free_ok v.X v.G (v.c.fact 12 (f := .he (.free "tuple")))
theorem u_isinstance (v : Ev K mg base) : mg "isinstance" = none := He.free_ok v.X v.G (v.c.fact 13 (f := .he (.free "isinstance")))
theorem u_InvalidTable (v : Ev K mg base) : mg "InvalidTable" = some (.ref (He.ga K "InvalidTable")) := He.glo_ok v.X v.G (v.c.fact 18 (f := .he (.glo "InvalidTable")))
theorem u_Move (v : Ev K mg base) : mg "Move" = some (.ref (He.ga K "Move")) := He.glo_ok v.X v.G (v.c.fact 21 (f := .he (.glo "Move")))
theorem u_TooLong (v : Ev K mg base) : mg "TooLong" = some (.ref (He.ga K "TooLong")) := He.glo_ok v.X v.G (v.c.fact 24 (f := .he (.glo "TooLong")))
theorem u_enumerate (v : Ev K mg base) : mg "enumerate" = none := He.free_ok v.X v.G (v.c.fact 25 (f := .he (.free "enumerate")))
theorem u_bool (v : Ev K mg base) : mg "bool" = none := He.free_ok v.X v.G (v.c.fact 26 (f := .he (.free "bool")))
theorem u_is_integer (v : Ev K mg base) : mg "is_integer" = some (.ref (He.ga K "is_integer")) := He.glo_ok v.X v.G (v.c.fact 27 (f := .he (.glo "is_integer")))
theorem u_checked_table (v : Ev K mg base) : mg "checked_table" = some (.ref (He.ga K "checked_table")) := He.glo_ok v.X v.G (v.c.fact 28 (f := .he (.glo "checked_table")))
theorem u_Plan (v : Ev K mg base) : mg "Plan" = some (.ref (He.ga K "Plan")) := He.glo_ok v.X v.G (v.c.fact 31 (f := .he (.glo "Plan")))
theorem u_sources_of (v : Ev K mg base) : mg "sources_of" = some (.ref (He.ga K "sources_of")) := He.glo_ok v.X v.G (v.c.fact 33 (f := .he (.glo "sources_of")))
theorem u_repr (v : Ev K mg base) : mg "repr" = none := He.free_ok v.X v.G (v.c.fact 37 (f := .he (.free "repr")))
theorem u_InvalidInteger (v : Ev K mg base) : mg "InvalidInteger" = some (.ref (He.ga K "InvalidInteger")) := He.glo_ok v.X v.G (v.c.fact 40 (f := .he (.glo "InvalidInteger")))
theorem u_require_integer (v : Ev K mg base) : mg "require_integer" = some (.ref (He.ga K "require_integer")) := He.glo_ok v.X v.G (v.c.fact 41 (f := .he (.glo "require_integer")))
theorem u_abs (v : Ev K mg base) : mg "abs" = none := He.free_ok v.X v.G (v.c.fact 42 (f := .he (.free "abs")))
theorem u_divisor_of_two (v : Ev K mg base) : mg "divisor_of_two" = some (.ref (He.ga K "divisor_of_two")) := He.glo_ok v.X v.G (v.c.fact 43 (f := .he (.glo "divisor_of_two")))
theorem u_common_multiple (v : Ev K mg base) : mg "common_multiple" = some (.ref (He.ga K "common_multiple")) := He.glo_ok v.X v.G (v.c.fact 44 (f := .he (.glo "common_multiple")))
theorem u_moved (v : Ev K mg base) : mg "moved" = some (.ref (He.ga K "moved")) := He.glo_ok v.X v.G (v.c.fact 47 (f := .he (.glo "moved")))
theorem u_renaming_fault (v : Ev K mg base) : mg "renaming_fault" = some (.ref (He.ga K "renaming_fault")) := He.glo_ok v.X v.G (v.c.fact 49 (f := .he (.glo "renaming_fault")))
theorem u__law_common (v : Ev K mg base) : mg "_law_common" = some (.ref (He.ga K "_law_common")) := He.glo_ok v.X v.G (v.c.fact 50 (f := .he (.glo "_law_common")))
theorem u__law_multiple (v : Ev K mg base) : mg "_law_multiple" = some (.ref (He.ga K "_law_multiple")) := He.glo_ok v.X v.G (v.c.fact 51 (f := .he (.glo "_law_multiple")))
theorem u__law_at (v : Ev K mg base) : mg "_law_at" = some (.ref (He.ga K "_law_at")) := He.glo_ok v.X v.G (v.c.fact 52 (f := .he (.glo "_law_at")))
theorem u__law_due (v : Ev K mg base) : mg "_law_due" = some (.ref (He.ga K "_law_due")) := He.glo_ok v.X v.G (v.c.fact 53 (f := .he (.glo "_law_due")))
theorem u__law_asked (v : Ev K mg base) : mg "_law_asked" = some (.ref (He.ga K "_law_asked")) := He.glo_ok v.X v.G (v.c.fact 54 (f := .he (.glo "_law_asked")))
theorem u__law_bound_right (v : Ev K mg base) : mg "_law_bound_right" = some (.ref (He.ga K "_law_bound_right")) := He.glo_ok v.X v.G (v.c.fact 55 (f := .he (.glo "_law_bound_right")))
theorem u_max (v : Ev K mg base) : mg "max" = none := He.free_ok v.X v.G (v.c.fact 56 (f := .he (.free "max")))
theorem u__law_pot (v : Ev K mg base) : mg "_law_pot" = some (.ref (He.ga K "_law_pot")) := He.glo_ok v.X v.G (v.c.fact 57 (f := .he (.glo "_law_pot")))
theorem u_min (v : Ev K mg base) : mg "min" = none := He.free_ok v.X v.G (v.c.fact 58 (f := .he (.free "min")))
theorem u__law_renamed (v : Ev K mg base) : mg "_law_renamed" = some (.ref (He.ga K "_law_renamed")) := He.glo_ok v.X v.G (v.c.fact 59 (f := .he (.glo "_law_renamed")))
theorem u__law_inverse (v : Ev K mg base) : mg "_law_inverse" = some (.ref (He.ga K "_law_inverse")) := He.glo_ok v.X v.G (v.c.fact 60 (f := .he (.glo "_law_inverse")))
theorem u__law_kin (v : Ev K mg base) : mg "_law_kin" = some (.ref (He.ga K "_law_kin")) := He.glo_ok v.X v.G (v.c.fact 61 (f := .he (.glo "_law_kin")))
theorem u__law_choice (v : Ev K mg base) : mg "_law_choice" = some (.ref (He.ga K "_law_choice")) := He.glo_ok v.X v.G (v.c.fact 62 (f := .he (.glo "_law_choice")))
theorem u__law_exchange (v : Ev K mg base) : mg "_law_exchange" = some (.ref (He.ga K "_law_exchange")) := He.glo_ok v.X v.G (v.c.fact 63 (f := .he (.glo "_law_exchange")))
theorem u_ArithmeticError (v : Ev K mg base) : mg "ArithmeticError" = none := He.free_ok v.X v.G (v.c.fact 74 (f := .he (.free "ArithmeticError")))
theorem u_LimitError (v : Ev K mg base) : mg "LimitError" = some (.ref (He.ga K "LimitError")) := He.glo_ok v.X v.G (v.c.fact 79 (f := .he (.glo "LimitError")))
theorem u_TooMany (v : Ev K mg base) : mg "TooMany" = some (.ref (He.ga K "TooMany")) := He.glo_ok v.X v.G (v.c.fact 88 (f := .he (.glo "TooMany")))
theorem u_AbsentError (v : Ev K mg base) : mg "AbsentError" = some (.ref (He.ga K "AbsentError")) := He.glo_ok v.X v.G (v.c.fact 89 (f := .he (.glo "AbsentError")))
theorem u_ThreeswapsError (v : Ev K mg base) : mg "ThreeswapsError" = some (.ref (He.ga K "ThreeswapsError")) := He.glo_ok v.X v.G (v.c.fact 90 (f := .he (.glo "ThreeswapsError")))
theorem u__law_long_right (v : Ev K mg base) : mg "_law_long_right" = some (.ref (He.ga K "_law_long_right")) := He.glo_ok v.X v.G (v.c.fact 91 (f := .he (.glo "_law_long_right")))
theorem u__law_right (v : Ev K mg base) : mg "_law_right" = some (.ref (He.ga K "_law_right")) := He.glo_ok v.X v.G (v.c.fact 92 (f := .he (.glo "_law_right")))
theorem u_all (v : Ev K mg base) : mg "all" = none := He.free_ok v.X v.G (v.c.fact 93 (f := .he (.free "all")))
abbrev g__law_draw_1a_1 : FS := (sAsg (fCal gDivmod (aCons (frz (fBinV gIx 0 (kD (.int 0)))) (aCons (vI 1) aNil))) (tTup 2 (tsCons (tSub 0 (kD (.int 0))) (tsCons (tName 2) tsNil))))
abbrev g__law_draw_1a_2 : FS := (sRet (vR 2))
abbrev g__law_draw_1 : FS := (sIf (fTst (fBin gGt (frz (fBinV gIx 0 (kD (.int 0)))) (kD (.int 0)))) (sSeq g__law_draw_1a_1 g__law_draw_1a_2) sNil)
abbrev g__law_draw_2 : FS := (sAsg (toE (frz (fBin gMod (frz (fCal gInt (aOne (frz (fBin gAdd (frz (fBin gMul (frz (fBinV gIx 0 (kD (.int 1)))) (kD (.int 48271)))) (kD (.int 20011))))))) (kD (.int 2147483629))))) (tSub 0 (kD (.int 1))))
abbrev g__law_draw_3 : FS := (sRet (fBin gMod (frz (fCal gInt (aOne (frz (fBin gFdiv (frz (fBin gMod (frz (fCal gInt (aOne (frz (fBin gMul (frz (fBinV gIx 0 (kD (.int 1)))) (frz (fBinV gIx 0 (kD (.int 1))))))))) (kD (.int 2147483587)))) (kD (.int 11))))))) (vP 1)))
def g__law_draw : FS := (sSeq g__law_draw_1 (sSeq g__law_draw_2 g__law_draw_3))
theorem S__law_draw : FnScope ["_law_pot_here", "_law_many", "_law_digit"] ["_law_pot_here", "_law_many"] (defScope (top 28)) := ⟨rfl, rfl, rfl, by decide +kernel, rfl, by decide +kernel, by decide +kernel⟩
theorem kp__law_draw (v : Ev K mg base) : PySem.W.keepIn K (.ref (He.ga K "_law_draw")) = true := (v.c.def_ 0 (d := d__law_draw) rfl).elim fun _ F => F.kp
theorem b__law_draw (v : Ev K mg base) (cdv : Value) (A : Around) (outer : List Env) (s : Shared) (H : Hp) (E : XK) (hr : TS.Room 0 (A.deeper (PyProof.Rows.envOfC "_law_draw" (defScope (top 28)) s.heap.objs.size (He.ga K "_law_draw") cdv))) (tk : Takes (cxOf (L2.CX P w) P w K mg base ["_law_pot_here", "_law_many", "_law_digit"] "_law_draw" (defScope (top 28)) (He.ga K "_law_draw") cdv A outer s H E) (fun cls d _ H => E cls d H))
    (hp : PassesOwn (model P w) (A.deeper (PyProof.Rows.envOfC "_law_draw" (defScope (top 28)) s.heap.objs.size (He.ga K "_law_draw") cdv)) (PyProof.Rows.envOfC "_law_draw" (defScope (top 28)) s.heap.objs.size (He.ga K "_law_draw") cdv) (cxOf (L2.CX P w) P w K mg base ["_law_pot_here", "_law_many", "_law_digit"] "_law_draw" (defScope (top 28)) (He.ga K "_law_draw") cdv A outer s H E).xe) : DSs (MM K) (fun cls d _ H => E cls d H) (cxOf (L2.CX P w) P w K mg base ["_law_pot_here", "_law_many", "_law_digit"] "_law_draw" (defScope (top 28)) (He.ga K "_law_draw") cdv A outer s H E) (defBody (top 28)) g__law_draw :=
  (dss_cons (ds_if (t_gt (DE.frz (x_ixV hr (pv 0) (DI.pk di_int))) (DI.pk di_int)) (dss_cons (ds_asg (b_divmod (by rfl) (u_divmod v) (DA.b (da_cons (DE.frz (x_ixV hr (pv 0) (DI.pk di_int))) (da_cons (di_var (pv 1)) da_nil)))) (dg_tup (by rfl) (dgs_cons (dg_sub (pv 0) di_int (hu_of hr)) (dgs_cons (dg_name (pg_name S__law_draw.nd (by rfl) (by first | exact Or.inl rfl | exact Or.inr rfl))) dgs_nil))) (tgt_tup (tgs_cons tgt_sub (tgs_cons (tgt_name 2) tgs_nil))))
    (dss_one (ds_ret (de_var (pv 2))))) dss_nil)
    (dss_cons (ds_asg (DI.toE (DE.frz (x_mod (DE.frz (b_int (by rfl) (u_int v) (db_one (DE.pk (x_add (DE.frz (x_mul (DE.frz (x_ixV hr (pv 0) (DI.pk di_int))) (DI.pk di_int))) (DI.pk di_int)))))) (DI.pk di_int)))) (dg_sub (pv 0) di_int (hu_of hr)) tgt_sub)
    (dss_one (ds_ret (x_mod (DE.frz (b_int (by rfl) (u_int v) (db_one (DE.pk (x_fdiv (DE.frz (x_mod (DE.frz (b_int (by rfl) (u_int v) (db_one (DE.pk (x_mul (DE.frz (x_ixV hr (pv 0) (DI.pk di_int))) (DE.pk (x_ixV hr (pv 0) (DI.pk di_int)))))))) (DI.pk di_int))) (DI.pk di_int)))))) (dp_var (pv 1)))))))
def m__law_draw : Fm := mir 3 2 g__law_draw
theorem o__law_draw (v : Ev K mg base) : ∃ fd, FunD K "_law_draw" "_law_draw" (defArgs (top 28)) (defBody (top 28)) (defScope (top 28)) [] [] (He.ga K "_law_draw") fd ∧ TS.FnOk P w K mg base (L2.CX P w) 1 (He.ga K "_law_draw") fd ["_law_pot_here", "_law_many"] (spD (MM K) m__law_draw) := by
  obtain ⟨fd, F⟩ := v.c.def_ 0 (d := d__law_draw) rfl
  exact ⟨fd, F, funD_mir (M := MM K) F S__law_draw (by decide) (fun cdv A outer s H E hr tk hp => b__law_draw v cdv A outer s H E hr tk hp)⟩
theorem f__law_draw (v : Ev K mg base) : TS.FnR P w K mg base (L2.CX P w) 1 (He.ga K "_law_draw") (spD (MM K) m__law_draw) := by
  obtain ⟨fd, F, O⟩ := o__law_draw (P := P) (w := w) v
  exact fnR_raw (M := MM K) O (F.bindsN (ps := ["_law_pot_here", "_law_many"]) fun _ _ _ _ _ _ us hl => match us, hl with | [_, _], _ => rfl)
abbrev g__law_shuffled_1 : FS := (sPar 2 3 (fCal gList (aOne (vP 1))) (fLst aNil))
abbrev g__law_shuffled_2_1 : FS := (sExpr (toE (fMut 3 mAppend (aCons (fMut 2 mPop (aCons (frz (fOwnIo m__law_draw 0 (aCons (frz (fCal gLen (aOne (vP 2)))) aNil))) aNil)) aNil))))
abbrev g__law_shuffled_2B : FS := g__law_shuffled_2_1
abbrev g__law_shuffled_2 : FS := (sWhile (muL 2) (fTst (fBinV gNe 2 (frz (fLst aNil)))) g__law_shuffled_2B)
abbrev g__law_shuffled_3 : FS := (sRet (vR 3))
def g__law_shuffled : FS := (sSeq g__law_shuffled_1 (sSeq g__law_shuffled_2 g__law_shuffled_3))
theorem S__law_shuffled : FnScope ["_law_pot_here", "_law_some", "_law_left", "_law_mixed"] ["_law_pot_here", "_law_some"] (defScope (top 30)) := ⟨rfl, rfl, rfl, by decide +kernel, rfl, by decide +kernel, by decide +kernel⟩
theorem kp__law_shuffled (v : Ev K mg base) : PySem.W.keepIn K (.ref (He.ga K "_law_shuffled")) = true := (v.c.def_ 1 (d := d__law_shuffled) rfl).elim fun _ F => F.kp
theorem b__law_shuffled (v : Ev K mg base) (cdv : Value) (A : Around) (outer : List Env) (s : Shared) (H : Hp) (E : XK) (hr : TS.Room 1 (A.deeper (PyProof.Rows.envOfC "_law_shuffled" (defScope (top 30)) s.heap.objs.size (He.ga K "_law_shuffled") cdv))) (tk : Takes (cxOf (L2.CX P w) P w K mg base ["_law_pot_here", "_law_some", "_law_left", "_law_mixed"] "_law_shuffled" (defScope (top 30)) (He.ga K "_law_shuffled") cdv A outer s H E) (fun cls d _ H => E cls d H))
    (hp : PassesOwn (model P w) (A.deeper (PyProof.Rows.envOfC "_law_shuffled" (defScope (top 30)) s.heap.objs.size (He.ga K "_law_shuffled") cdv)) (PyProof.Rows.envOfC "_law_shuffled" (defScope (top 30)) s.heap.objs.size (He.ga K "_law_shuffled") cdv) (cxOf (L2.CX P w) P w K mg base ["_law_pot_here", "_law_some", "_law_left", "_law_mixed"] "_law_shuffled" (defScope (top 30)) (He.ga K "_law_shuffled") cdv A outer s H E).xe) : DSs (MM K) (fun cls d _ H => E cls d H) (cxOf (L2.CX P w) P w K mg base ["_law_pot_here", "_law_some", "_law_left", "_law_mixed"] "_law_shuffled" (defScope (top 30)) (He.ga K "_law_shuffled") cdv A outer s H E) (defBody (top 30)) g__law_shuffled :=
  (dss_cons (ds_par (i := 2) (j := 3) (by rfl) S__law_shuffled.nd (by rfl) (by rfl) (by decide) (by rfl) (by rfl) (b_list (by rfl) (u_list v) (db_one (dp_var (pv 1)))) (de_lst da_nil) (by rfl))
    (dss_cons (ds_while (muL 2) hp (t_neV hr (pv 2) (DE.pk (de_lst da_nil))) (dss_one (ds_expr (DI.toE (m_append (pv 3) (da_cons (m_pop (pv 2) (da_cons (DE.frz (d_ownIo (fun h => pe_own ((f__law_draw v).mono (by decide)) hr tk (by rfl) (u__law_draw v) (kp__law_draw v) h) (pv 0) (da_cons (DE.frz (b_len (by rfl) (u_len v) (db_one (dp_var (pv 2))))) da_nil))) da_nil)) da_nil))))))
    (dss_one (ds_ret (de_var (pv 3))))))
def m__law_shuffled : Fm := mir 4 2 g__law_shuffled
theorem o__law_shuffled (v : Ev K mg base) : ∃ fd, FunD K "_law_shuffled" "_law_shuffled" (defArgs (top 30)) (defBody (top 30)) (defScope (top 30)) [] [] (He.ga K "_law_shuffled") fd ∧ TS.FnOk P w K mg base (L2.CX P w) 2 (He.ga K "_law_shuffled") fd ["_law_pot_here", "_law_some"] (spD (MM K) m__law_shuffled) := by
  obtain ⟨fd, F⟩ := v.c.def_ 1 (d := d__law_shuffled) rfl
  exact ⟨fd, F, funD_mir (M := MM K) F S__law_shuffled (by decide) (fun cdv A outer s H E hr tk hp => b__law_shuffled v cdv A outer s H E hr tk hp)⟩
theorem f__law_shuffled (v : Ev K mg base) : TS.FnR P w K mg base (L2.CX P w) 2 (He.ga K "_law_shuffled") (spD (MM K) m__law_shuffled) := by
  obtain ⟨fd, F, O⟩ := o__law_shuffled (P := P) (w := w) v
  exact fnR_raw (M := MM K) O (F.bindsN (ps := ["_law_pot_here", "_law_some"]) fun _ _ _ _ _ _ us hl => match us, hl with | [_, _], _ => rfl)
abbrev g__law_great_1 : FS := (sAsg (fBin gAdd (frz (fBin gAdd (frz (fBin gMul (frz (fOwnIo m__law_draw 0 (aCons (frz (fBin gPow (kD (.int 10)) (kD (.int 7)))) aNil))) (frz (fBin gPow (kD (.int 10)) (kD (.int 14)))))) (frz (fBin gMul (frz (fOwnIo m__law_draw 0 (aCons (frz (fBin gPow (kD (.int 10)) (kD (.int 7)))) aNil))) (frz (fBin gPow (kD (.int 10)) (kD (.int 7)))))))) (frz (fOwnIo m__law_draw 0 (aCons (frz (fBin gPow (kD (.int 10)) (kD (.int 7)))) aNil)))) (tName 1))
abbrev g__law_great_2 : FS := (sRet (fBin gIx (frz (fLst (aCons (vI 1) (aCons (frz (fBin gSub (kD (.int 0)) (vP 1))) aNil)))) (frz (fOwnIo m__law_draw 0 (aCons (kD (.int 2)) aNil)))))
def g__law_great : FS := (sSeq g__law_great_1 g__law_great_2)
theorem S__law_great : FnScope ["_law_pot_here", "_law_number"] ["_law_pot_here"] (defScope (top 31)) := ⟨rfl, rfl, rfl, by decide +kernel, rfl, by decide +kernel, by decide +kernel⟩
theorem kp__law_great (v : Ev K mg base) : PySem.W.keepIn K (.ref (He.ga K "_law_great")) = true := (v.c.def_ 2 (d := d__law_great) rfl).elim fun _ F => F.kp
theorem b__law_great (v : Ev K mg base) (cdv : Value) (A : Around) (outer : List Env) (s : Shared) (H : Hp) (E : XK) (hr : TS.Room 1 (A.deeper (PyProof.Rows.envOfC "_law_great" (defScope (top 31)) s.heap.objs.size (He.ga K "_law_great") cdv))) (tk : Takes (cxOf (L2.CX P w) P w K mg base ["_law_pot_here", "_law_number"] "_law_great" (defScope (top 31)) (He.ga K "_law_great") cdv A outer s H E) (fun cls d _ H => E cls d H))
    (hp : PassesOwn (model P w) (A.deeper (PyProof.Rows.envOfC "_law_great" (defScope (top 31)) s.heap.objs.size (He.ga K "_law_great") cdv)) (PyProof.Rows.envOfC "_law_great" (defScope (top 31)) s.heap.objs.size (He.ga K "_law_great") cdv) (cxOf (L2.CX P w) P w K mg base ["_law_pot_here", "_law_number"] "_law_great" (defScope (top 31)) (He.ga K "_law_great") cdv A outer s H E).xe) : DSs (MM K) (fun cls d _ H => E cls d H) (cxOf (L2.CX P w) P w K mg base ["_law_pot_here", "_law_number"] "_law_great" (defScope (top 31)) (He.ga K "_law_great") cdv A outer s H E) (defBody (top 31)) g__law_great :=
  (dss_cons (ds_set (i := 1) S__law_great.nd (by rfl) (by first | exact Or.inl rfl | exact Or.inr rfl) (x_add (DE.frz (x_add (DE.frz (x_mul (DE.frz (d_ownIo (fun h => pe_own ((f__law_draw v).mono (by decide)) hr tk (by rfl) (u__law_draw v) (kp__law_draw v) h) (pv 0) (da_cons (DE.frz (x_pow di_int (DI.pk di_int))) da_nil))) (DE.pk (x_pow di_int (DI.pk di_int))))) (DE.pk (x_mul (DE.frz (d_ownIo (fun h => pe_own ((f__law_draw v).mono (by decide)) hr tk (by rfl) (u__law_draw v) (kp__law_draw v) h) (pv 0) (da_cons (DE.frz (x_pow di_int (DI.pk di_int))) da_nil))) (DE.pk (x_pow di_int (DI.pk di_int))))))) (DE.pk (d_ownIo (fun h => pe_own ((f__law_draw v).mono (by decide)) hr tk (by rfl) (u__law_draw v) (kp__law_draw v) h) (pv 0) (da_cons (DE.frz (x_pow di_int (DI.pk di_int))) da_nil)))))
    (dss_one (ds_ret (x_ix hr (DE.frz (de_lst (da_cons (di_var (pv 1)) (da_cons (DE.frz (x_sub di_int (dp_var (pv 1)))) da_nil)))) (DE.pk (d_ownIo (fun h => pe_own ((f__law_draw v).mono (by decide)) hr tk (by rfl) (u__law_draw v) (kp__law_draw v) h) (pv 0) (da_cons di_int da_nil)))))))
def m__law_great : Fm := mir 2 1 g__law_great
theorem o__law_great (v : Ev K mg base) : ∃ fd, FunD K "_law_great" "_law_great" (defArgs (top 31)) (defBody (top 31)) (defScope (top 31)) [] [] (He.ga K "_law_great") fd ∧ TS.FnOk P w K mg base (L2.CX P w) 2 (He.ga K "_law_great") fd ["_law_pot_here"] (spD (MM K) m__law_great) := by
  obtain ⟨fd, F⟩ := v.c.def_ 2 (d := d__law_great) rfl
  exact ⟨fd, F, funD_mir (M := MM K) F S__law_great (by decide) (fun cdv A outer s H E hr tk hp => b__law_great v cdv A outer s H E hr tk hp)⟩
theorem f__law_great (v : Ev K mg base) : TS.FnR P w K mg base (L2.CX P w) 2 (He.ga K "_law_great") (spD (MM K) m__law_great) := by
  obtain ⟨fd, F, O⟩ := o__law_great (P := P) (w := w) v
  exact fnR_raw (M := MM K) O (F.bindsN (ps := ["_law_pot_here"]) fun _ _ _ _ _ _ us hl => match us, hl with | [_], _ => rfl)
abbrev g__law_table_1 : FS := (sPar 4 5 (fOwnIo m__law_shuffled 0 (aCons (frz (fLRg1 (vI 1))) aNil)) (fLst aNil))
abbrev g__law_table_2_1 : FS := (sAsg (fBin gSub (frz (fOwnIo m__law_draw 0 (aCons (kD (.int 5)) aNil))) (kD (.int 2))) (tName 6))
abbrev g__law_table_2_2a_1 : FS := (sAsg (fOwnIo m__law_great 0 aNil) (tName 6))
abbrev g__law_table_2_2 : FS := (sIf (fAnd (fTst (fBin gEq (vI 2) (kD (.int 2)))) (fTst (fBin gEq (frz (fOwnIo m__law_draw 0 (aCons (kD (.int 3)) aNil))) (kD (.int 0))))) g__law_table_2_2a_1 sNil)
abbrev g__law_table_2_3 : FS := (sExpr (toE (fMut 5 mAppend (aCons (frz (fBin gAdd (frz (fBin gSub (frz (fBin gIx (vI 4) (vP 3))) (vP 3))) (frz (fBin gMul (frz (fBin gMul (vI 1) (vP 6))) (frz (fCal gInt (aOne (frz (fBin gGt (vI 2) (kD (.int 0))))))))))) aNil))))
abbrev g__law_table_2B : FS := (sSeq g__law_table_2_1 (sSeq g__law_table_2_2 g__law_table_2_3))
abbrev g__law_table_2 : FS := (sFor (itRg1 (vI 1)) (tName 3) g__law_table_2B)
abbrev g__law_table_3 : FS := (sRet (vR 5))
def g__law_table : FS := (sSeq g__law_table_1 (sSeq g__law_table_2 g__law_table_3))
theorem S__law_table : FnScope ["_law_pot_here", "_law_many", "_law_wide", "_law_place", "_law_goals", "_law_found", "_law_turns"] ["_law_pot_here", "_law_many", "_law_wide"] (defScope (top 32)) := ⟨rfl, rfl, rfl, by decide +kernel, rfl, by decide +kernel, by decide +kernel⟩
theorem kp__law_table (v : Ev K mg base) : PySem.W.keepIn K (.ref (He.ga K "_law_table")) = true := (v.c.def_ 3 (d := d__law_table) rfl).elim fun _ F => F.kp
theorem b__law_table (v : Ev K mg base) (cdv : Value) (A : Around) (outer : List Env) (s : Shared) (H : Hp) (E : XK) (hr : TS.Room 2 (A.deeper (PyProof.Rows.envOfC "_law_table" (defScope (top 32)) s.heap.objs.size (He.ga K "_law_table") cdv))) (tk : Takes (cxOf (L2.CX P w) P w K mg base ["_law_pot_here", "_law_many", "_law_wide", "_law_place", "_law_goals", "_law_found", "_law_turns"] "_law_table" (defScope (top 32)) (He.ga K "_law_table") cdv A outer s H E) (fun cls d _ H => E cls d H))
    (hp : PassesOwn (model P w) (A.deeper (PyProof.Rows.envOfC "_law_table" (defScope (top 32)) s.heap.objs.size (He.ga K "_law_table") cdv)) (PyProof.Rows.envOfC "_law_table" (defScope (top 32)) s.heap.objs.size (He.ga K "_law_table") cdv) (cxOf (L2.CX P w) P w K mg base ["_law_pot_here", "_law_many", "_law_wide", "_law_place", "_law_goals", "_law_found", "_law_turns"] "_law_table" (defScope (top 32)) (He.ga K "_law_table") cdv A outer s H E).xe) : DSs (MM K) (fun cls d _ H => E cls d H) (cxOf (L2.CX P w) P w K mg base ["_law_pot_here", "_law_many", "_law_wide", "_law_place", "_law_goals", "_law_found", "_law_turns"] "_law_table" (defScope (top 32)) (He.ga K "_law_table") cdv A outer s H E) (defBody (top 32)) g__law_table :=
  (dss_cons (ds_par (i := 4) (j := 5) (by rfl) S__law_table.nd (by rfl) (by rfl) (by decide) (by rfl) (by rfl) (d_ownIo (fun h => pe_own ((f__law_shuffled v).mono (by decide)) hr tk (by rfl) (u__law_shuffled v) (kp__law_shuffled v) h) (pv 0) (da_cons (DE.frz (de_lrg1 (by rfl) (by rfl) (u_list v) (by rfl) (u_range v) (di_var (pv 1)))) da_nil)) (de_lst da_nil) (by rfl))
    (dss_cons (ds_for hp (by rfl) (dit_rg1 (by rfl) (u_range v) (di_var (pv 1))) (dg_name (pg_name S__law_table.nd (by rfl) (by first | exact Or.inl rfl | exact Or.inr rfl))) (tgt_name 3) (dss_cons (ds_set (i := 6) S__law_table.nd (by rfl) (by first | exact Or.inl rfl | exact Or.inr rfl) (x_sub (DE.frz (d_ownIo (fun h => pe_own ((f__law_draw v).mono (by decide)) hr tk (by rfl) (u__law_draw v) (kp__law_draw v) h) (pv 0) (da_cons di_int da_nil))) (DI.pk di_int)))
    (dss_cons (ds_if (DW.pt (dw_and (t_eq hr (di_var (pv 2)) (DI.pk di_int)) (dw_and1 (t_eq hr (DE.frz (d_ownIo (fun h => pe_own ((f__law_draw v).mono (by decide)) hr tk (by rfl) (u__law_draw v) (kp__law_draw v) h) (pv 0) (da_cons di_int da_nil))) (DI.pk di_int))))) (dss_one (ds_set (i := 6) S__law_table.nd (by rfl) (by first | exact Or.inl rfl | exact Or.inr rfl) (d_ownIo (fun h => pe_own ((f__law_great v).mono (by decide)) hr tk (by rfl) (u__law_great v) (kp__law_great v) h) (pv 0) da_nil))) dss_nil)
    (dss_one (ds_expr (DI.toE (m_append (pv 5) (da_cons (DE.frz (x_add (DE.frz (x_sub (DE.frz (x_ix hr (di_var (pv 4)) (dp_var (pv 3)))) (dp_var (pv 3)))) (DE.pk (x_mul (DE.frz (x_mul (di_var (pv 1)) (dp_var (pv 6)))) (DE.pk (b_int (by rfl) (u_int v) (db_one (DE.pk (x_gt (di_var (pv 2)) (DI.pk di_int)))))))))) da_nil))))))))
    (dss_one (ds_ret (de_var (pv 5))))))
def m__law_table : Fm := mir 7 3 g__law_table
theorem o__law_table (v : Ev K mg base) : ∃ fd, FunD K "_law_table" "_law_table" (defArgs (top 32)) (defBody (top 32)) (defScope (top 32)) [] [] (He.ga K "_law_table") fd ∧ TS.FnOk P w K mg base (L2.CX P w) 3 (He.ga K "_law_table") fd ["_law_pot_here", "_law_many", "_law_wide"] (spD (MM K) m__law_table) := by
  obtain ⟨fd, F⟩ := v.c.def_ 3 (d := d__law_table) rfl
  exact ⟨fd, F, funD_mir (M := MM K) F S__law_table (by decide) (fun cdv A outer s H E hr tk hp => b__law_table v cdv A outer s H E hr tk hp)⟩
theorem f__law_table (v : Ev K mg base) : TS.FnR P w K mg base (L2.CX P w) 3 (He.ga K "_law_table") (spD (MM K) m__law_table) := by
  obtain ⟨fd, F, O⟩ := o__law_table (P := P) (w := w) v
  exact fnR_raw (M := MM K) O (F.bindsN (ps := ["_law_pot_here", "_law_many", "_law_wide"]) fun _ _ _ _ _ _ us hl => match us, hl with | [_, _, _], _ => rfl)
def ix_own_offsets : Nat → Option Nat := fun n => match n with
  | 0 => some 0
  | _ => none
theorem F_own_offsets (v : Ev K mg base) : FldT (MM K) "own_offsets" ix_own_offsets := by
  intro n j h
  unfold ix_own_offsets at h
  split at h
  · cases h
    exact ⟨fun C e => by cases e; exact ⟨He.cls_ok (v.c.fact 9 (f := .he (.cls "Plan"))), He.noat_ok (v.c.fact 10 (f := .he (.noat "Plan" "own_offsets")))⟩, rfl, show ("own_offsets" : Str) ∉ (["own_offsets", "own_sources"] : List Str).take 0 from by decide +kernel⟩
  · cases h
abbrev g_least_table_1 : FS := (sAsg (fCal gLen (aOne (vP 0))) (tName 1))
abbrev g_least_table_2_1a_1 : FS := (sRet (fSl (vI 0) oNone (oSome (vI 2))))
abbrev g_least_table_2_1 : FS := (sIf (fAnd (fTst (fBin gEq (frz (fBin gMod (vI 1) (vP 2))) (kD (.int 0)))) (fTst (fBin gEq (frz (fBin gMul (frz (fSl (vI 0) oNone (oSome (vI 2)))) (frz (fBin gFdiv (vI 1) (vP 2))))) (vP 0)))) g_least_table_2_1a_1 sNil)
abbrev g_least_table_2B : FS := g_least_table_2_1
abbrev g_least_table_2 : FS := (sFor (itRg2 (kD (.int 1)) (vI 1)) (tName 2) g_least_table_2B)
abbrev g_least_table_3 : FS := (sRet (vR 0))
def g_least_table : FS := (sSeq g_least_table_1 (sSeq g_least_table_2 g_least_table_3))
theorem S_least_table : FnScope ["offsets", "length", "period"] ["offsets"] (defScope (top 17)) := ⟨rfl, rfl, rfl, by decide +kernel, rfl, by decide +kernel, by decide +kernel⟩
theorem kp_least_table (v : Ev K mg base) : PySem.W.keepIn K (.ref (He.ga K "least_table")) = true := (v.c.def_ 4 (d := d_least_table) rfl).elim fun _ F => F.kp
theorem b_least_table (v : Ev K mg base) (cdv : Value) (A : Around) (outer : List Env) (s : Shared) (H : Hp) (E : XK) (hr : TS.Room 0 (A.deeper (PyProof.Rows.envOfC "least_table" (defScope (top 17)) s.heap.objs.size (He.ga K "least_table") cdv))) (tk : Takes (cxOf (L2.CX P w) P w K mg base ["offsets", "length", "period"] "least_table" (defScope (top 17)) (He.ga K "least_table") cdv A outer s H E) (fun cls d _ H => E cls d H))
    (hp : PassesOwn (model P w) (A.deeper (PyProof.Rows.envOfC "least_table" (defScope (top 17)) s.heap.objs.size (He.ga K "least_table") cdv)) (PyProof.Rows.envOfC "least_table" (defScope (top 17)) s.heap.objs.size (He.ga K "least_table") cdv) (cxOf (L2.CX P w) P w K mg base ["offsets", "length", "period"] "least_table" (defScope (top 17)) (He.ga K "least_table") cdv A outer s H E).xe) : DSs (MM K) (fun cls d _ H => E cls d H) (cxOf (L2.CX P w) P w K mg base ["offsets", "length", "period"] "least_table" (defScope (top 17)) (He.ga K "least_table") cdv A outer s H E) (defBody (top 17)) g_least_table :=
  (dss_cons (ds_set (i := 1) S_least_table.nd (by rfl) (by first | exact Or.inl rfl | exact Or.inr rfl) (b_len (by rfl) (u_len v) (db_one (dp_var (pv 0)))))
    (dss_cons (ds_for hp (by rfl) (dit_rg2 (by rfl) (u_range v) di_int (di_var (pv 1))) (dg_name (pg_name S_least_table.nd (by rfl) (by first | exact Or.inl rfl | exact Or.inr rfl))) (tgt_name 2) (dss_one (ds_if (DW.pt (dw_and (t_eq hr (DE.frz (x_mod (di_var (pv 1)) (dp_var (pv 2)))) (DI.pk di_int)) (dw_and1 (t_eq hr (DE.frz (x_mul (DE.frz (de_sl (di_var (pv 0)) do_none (do_some (di_var (pv 2))))) (DE.pk (x_fdiv (di_var (pv 1)) (dp_var (pv 2)))))) (dp_var (pv 0)))))) (dss_one (ds_ret (de_sl (di_var (pv 0)) do_none (do_some (di_var (pv 2)))))) dss_nil)))
    (dss_one (ds_ret (de_var (pv 0))))))
def m_least_table : Fm := mir 3 1 g_least_table
theorem o_least_table (v : Ev K mg base) : ∃ fd, FunD K "least_table" "least_table" (defArgs (top 17)) (defBody (top 17)) (defScope (top 17)) [] [] (He.ga K "least_table") fd ∧ TS.FnOk P w K mg base (L2.CX P w) 1 (He.ga K "least_table") fd ["offsets"] (spD (MM K) m_least_table) := by
  obtain ⟨fd, F⟩ := v.c.def_ 4 (d := d_least_table) rfl
  exact ⟨fd, F, funD_mir (M := MM K) F S_least_table (by decide) (fun cdv A outer s H E hr tk hp => b_least_table v cdv A outer s H E hr tk hp)⟩
theorem f_least_table (v : Ev K mg base) : TS.FnR P w K mg base (L2.CX P w) 1 (He.ga K "least_table") (spD (MM K) m_least_table) := by
  obtain ⟨fd, F, O⟩ := o_least_table (P := P) (w := w) v
  exact fnR_raw (M := MM K) O (F.bindsN (ps := ["offsets"]) fun _ _ _ _ _ _ us hl => match us, hl with | [_], _ => rfl)
def is_list_tuple : Tg → Option Bool := tabTy ["list", "tuple"] fun _ => none
theorem is_list_tuple_ok : IsT (MM K) ((["list", "tuple"] : List String).map Value.type) is_list_tuple := isT_own0
theorem ex_InvalidTable (v : Ev K mg base) : OxC K (He.ga K "InvalidTable") ∧ XqC K (He.ga K "InvalidTable") ∧ PySem.W.findIn K (.ref (He.ga K "InvalidTable")) "__init__" = some (some (.ref (He.ma K (He.ga K "InvalidTable") "__init__"))) ∧ PySem.W.typeIn K (.ref (He.ma K (He.ga K "InvalidTable") "__init__")) = some (.type "function") := exc_ok Bas.ve (v.c.fact 14 (f := .exc "InvalidTable" "ValueError"))
theorem S_InvalidTable___init__ : FnScope ["self", "problem", "position", "earlier"] ["self", "problem", "position", "earlier"] (defScope (inClass (top 4) 0)) := ⟨rfl, rfl, rfl, by decide +kernel, rfl, by decide +kernel, by decide +kernel⟩
theorem xd_InvalidTable (v : Ev K mg base) : ∃ fd, TS.FnOk P w K mg base (L2.CX P w) 1 (He.ma K (He.ga K "InvalidTable") "__init__") fd ["self", "problem", "position", "earlier"] (spX (He.ga K "InvalidTable") ["problem", "position", "earlier"]) ∧ Binds K fd ["self", "problem", "position", "earlier"] [] := by
  obtain ⟨fd, F⟩ := v.c.def_ 5 (d := d_InvalidTable___init__) rfl
  exact ⟨fd, funD_ini F S_InvalidTable___init__ (by decide) (fun cdv A outer s H E => (init_body (N := []) (sp0 := ()) (ex_InvalidTable v).1 (He.noat_ok (K := K) (v.c.fact 15 (f := .he (.noat "InvalidTable" "problem")))) rfl (pv 0) (pv 1) (inis_cons (ex_InvalidTable v).1 (He.noat_ok (K := K) (v.c.fact 16 (f := .he (.noat "InvalidTable" "position")))) rfl (pv 0) (pv 2) (by decide) (inis_cons (ex_InvalidTable v).1 (He.noat_ok (K := K) (v.c.fact 17 (f := .he (.noat "InvalidTable" "earlier")))) rfl (pv 0) (pv 3) (by decide) (inis_nil rfl))))), F.bindsN (ps := ["self", "problem", "position", "earlier"]) fun _ _ _ _ _ _ us hl => match us, hl with | [_, _, _, _], _ => rfl⟩
theorem ex_TooLong (v : Ev K mg base) : OxC K (He.ga K "TooLong") ∧ XqC K (He.ga K "TooLong") ∧ PySem.W.findIn K (.ref (He.ga K "TooLong")) "__init__" = some (some (.ref (He.ma K (He.ga K "TooLong") "__init__"))) ∧ PySem.W.typeIn K (.ref (He.ma K (He.ga K "TooLong") "__init__")) = some (.type "function") := exc_ok Bas.ar (v.c.fact 22 (f := .exc "TooLong" "ArithmeticError"))
theorem S_TooLong___init__ : FnScope ["self", "multiple"] ["self", "multiple"] (defScope (inClass (top 7) 0)) := ⟨rfl, rfl, rfl, by decide +kernel, rfl, by decide +kernel, by decide +kernel⟩
theorem xd_TooLong (v : Ev K mg base) : ∃ fd, TS.FnOk P w K mg base (L2.CX P w) 1 (He.ma K (He.ga K "TooLong") "__init__") fd ["self", "multiple"] (spX (He.ga K "TooLong") ["multiple"]) ∧ Binds K fd ["self", "multiple"] [] := by
  obtain ⟨fd, F⟩ := v.c.def_ 6 (d := d_TooLong___init__) rfl
  exact ⟨fd, funD_ini F S_TooLong___init__ (by decide) (fun cdv A outer s H E => (init_body (N := []) (sp0 := ()) (ex_TooLong v).1 (He.noat_ok (K := K) (v.c.fact 23 (f := .he (.noat "TooLong" "multiple")))) rfl (pv 0) (pv 1) (inis_nil rfl))), F.bindsN (ps := ["self", "multiple"]) fun _ _ _ _ _ _ us hl => match us, hl with | [_, _], _ => rfl⟩
def is_bool : Tg → Option Bool := tabTy ["bool"] fun _ => none
theorem is_bool_ok : IsT (MM K) ((["bool"] : List String).map Value.type) is_bool := isT_own0
def is_int : Tg → Option Bool := tabTy ["int"] fun _ => none
theorem is_int_ok : IsT (MM K) ((["int"] : List String).map Value.type) is_int := isT_own0
abbrev g_is_integer_1 : FS := (sRet (fAndV (fIsi is_int (vP 0)) (toE (fNotV (fIsi is_bool (vP 0))))))
def g_is_integer : FS := g_is_integer_1
theorem S_is_integer : FnScope ["value"] ["value"] (defScope (top 10)) := ⟨rfl, rfl, rfl, by decide +kernel, rfl, by decide +kernel, by decide +kernel⟩
theorem kp_is_integer (v : Ev K mg base) : PySem.W.keepIn K (.ref (He.ga K "is_integer")) = true := (v.c.def_ 7 (d := d_is_integer) rfl).elim fun _ F => F.kp
theorem b_is_integer (v : Ev K mg base) (cdv : Value) (A : Around) (outer : List Env) (s : Shared) (H : Hp) (E : XK) (hr : TS.Room 0 (A.deeper (PyProof.Rows.envOfC "is_integer" (defScope (top 10)) s.heap.objs.size (He.ga K "is_integer") cdv))) (tk : Takes (cxOf (L2.CX P w) P w K mg base ["value"] "is_integer" (defScope (top 10)) (He.ga K "is_integer") cdv A outer s H E) (fun cls d _ H => E cls d H))
    (hp : PassesOwn (model P w) (A.deeper (PyProof.Rows.envOfC "is_integer" (defScope (top 10)) s.heap.objs.size (He.ga K "is_integer") cdv)) (PyProof.Rows.envOfC "is_integer" (defScope (top 10)) s.heap.objs.size (He.ga K "is_integer") cdv) (cxOf (L2.CX P w) P w K mg base ["value"] "is_integer" (defScope (top 10)) (He.ga K "is_integer") cdv A outer s H E).xe) : DSs (MM K) (fun cls d _ H => E cls d H) (cxOf (L2.CX P w) P w K mg base ["value"] "is_integer" (defScope (top 10)) (He.ga K "is_integer") cdv A outer s H E) (defBody (top 10)) g_is_integer :=
  (dss_one (ds_ret (de_and (b_isi (by rfl) (u_isinstance v) (dp_var (pv 0)) (k_ty bt_int (by rfl) (u_int v)) (ClsV.ty "int") is_int_ok) (de_one (DI.toE (di_not (b_isi (by rfl) (u_isinstance v) (dp_var (pv 0)) (k_ty bt_bool (by rfl) (u_bool v)) (ClsV.ty "bool") is_bool_ok)))))))
def m_is_integer : Fm := mir 1 1 g_is_integer
theorem o_is_integer (v : Ev K mg base) : ∃ fd, FunD K "is_integer" "is_integer" (defArgs (top 10)) (defBody (top 10)) (defScope (top 10)) [] [] (He.ga K "is_integer") fd ∧ TS.FnOk P w K mg base (L2.CX P w) 1 (He.ga K "is_integer") fd ["value"] (spD (MM K) m_is_integer) := by
  obtain ⟨fd, F⟩ := v.c.def_ 7 (d := d_is_integer) rfl
  exact ⟨fd, F, funD_mir (M := MM K) F S_is_integer (by decide) (fun cdv A outer s H E hr tk hp => b_is_integer v cdv A outer s H E hr tk hp)⟩
theorem f_is_integer (v : Ev K mg base) : TS.FnR P w K mg base (L2.CX P w) 1 (He.ga K "is_integer") (spD (MM K) m_is_integer) := by
  obtain ⟨fd, F, O⟩ := o_is_integer (P := P) (w := w) v
  exact fnR_raw (M := MM K) O (F.bindsN (ps := ["value"]) fun _ _ _ _ _ _ us hl => match us, hl with | [_], _ => rfl)
abbrev g_checked_table_1a_1 : FS := (sRaise 102 3 (aCons (kD (.str "table")) (aCons (kD .non) (aCons (kD .non) aNil))))
abbrev g_checked_table_1 : FS := (sIf (fOr (fNot (fTst (toE (fIsi is_list_tuple (vP 0))))) (fTst (fBin gEq (frz (fCal gLen (aOne (vP 0)))) (kD (.int 0))))) g_checked_table_1a_1 sNil)
abbrev g_checked_table_2 : FS := (sAsg (fCal gLen (aOne (vP 0))) (tName 2))
abbrev g_checked_table_3a_1 : FS := (sRaise 115 1 (aCons (vI 2) aNil))
abbrev g_checked_table_3 : FS := (sIf (fTst (fBin gGt (vI 2) (kD (.int 2520)))) g_checked_table_3a_1 sNil)
abbrev g_checked_table_4_1a_1 : FS := (sRaise 102 3 (aCons (kD (.str "integer")) (aCons (vI 4) (aCons (kD .non) aNil))))
abbrev g_checked_table_4_1 : FS := (sIf (fNot (fTst (fOwn m_is_integer (aCons (vI 5) aNil)))) g_checked_table_4_1a_1 sNil)
abbrev g_checked_table_4B : FS := g_checked_table_4_1
abbrev g_checked_table_4 : FS := (sFor (itEnumLT (vI 0)) (tTup 2 (tsCons (tName 4) (tsCons (tName 5) tsNil))) g_checked_table_4B)
abbrev g_checked_table_5 : FS := (sAsg (fun δ => .ok (.own (.dK [] [])) δ) (tName 3))
abbrev g_checked_table_6_1 : FS := (sAsg (fBin gMod (frz (fBin gAdd (frz (fBin gMul (vI 1) (vP 4))) (vP 5))) (vP 2)) (tName 6))
abbrev g_checked_table_6_2a_1 : FS := (sRaise 102 3 (aCons (kD (.str "meeting")) (aCons (vI 4) (aCons (frz (fBinV gIx 3 (vP 6))) aNil))))
abbrev g_checked_table_6_2 : FS := (sIf (fTst (fBin gIn (vI 6) (vP 3))) g_checked_table_6_2a_1 sNil)
abbrev g_checked_table_6_3 : FS := (sAsg (toE (vI 4)) (tSub 3 (vI 6)))
abbrev g_checked_table_6B : FS := (sSeq g_checked_table_6_1 (sSeq g_checked_table_6_2 g_checked_table_6_3))
abbrev g_checked_table_6 : FS := (sFor (itEnumLT (vI 0)) (tTup 2 (tsCons (tName 4) (tsCons (tName 5) tsNil))) g_checked_table_6B)
abbrev g_checked_table_7 : FS := (sRet (fCal gList (aOne (vP 0))))
def g_checked_table : FS := (sSeq g_checked_table_1 (sSeq g_checked_table_2 (sSeq g_checked_table_3 (sSeq g_checked_table_4 (sSeq g_checked_table_5 (sSeq g_checked_table_6 g_checked_table_7))))))
theorem S_checked_table : FnScope ["offsets", "sign", "period", "first", "position", "offset", "remainder"] ["offsets", "sign"] (defScope (top 16)) := ⟨rfl, rfl, rfl, by decide +kernel, rfl, by decide +kernel, by decide +kernel⟩
theorem kp_checked_table (v : Ev K mg base) : PySem.W.keepIn K (.ref (He.ga K "checked_table")) = true := (v.c.def_ 8 (d := d_checked_table) rfl).elim fun _ F => F.kp
theorem b_checked_table (v : Ev K mg base) (cdv : Value) (A : Around) (outer : List Env) (s : Shared) (H : Hp) (E : XK) (hr : TS.Room 2 (A.deeper (PyProof.Rows.envOfC "checked_table" (defScope (top 16)) s.heap.objs.size (He.ga K "checked_table") cdv))) (tk : Takes (cxOf (L2.CX P w) P w K mg base ["offsets", "sign", "period", "first", "position", "offset", "remainder"] "checked_table" (defScope (top 16)) (He.ga K "checked_table") cdv A outer s H E) (fun cls d _ H => E cls d H))
    (hp : PassesOwn (model P w) (A.deeper (PyProof.Rows.envOfC "checked_table" (defScope (top 16)) s.heap.objs.size (He.ga K "checked_table") cdv)) (PyProof.Rows.envOfC "checked_table" (defScope (top 16)) s.heap.objs.size (He.ga K "checked_table") cdv) (cxOf (L2.CX P w) P w K mg base ["offsets", "sign", "period", "first", "position", "offset", "remainder"] "checked_table" (defScope (top 16)) (He.ga K "checked_table") cdv A outer s H E).xe) : DSs (MM K) (fun cls d _ H => E cls d H) (cxOf (L2.CX P w) P w K mg base ["offsets", "sign", "period", "first", "position", "offset", "remainder"] "checked_table" (defScope (top 16)) (He.ga K "checked_table") cdv A outer s H E) (defBody (top 16)) g_checked_table :=
  (dss_cons (ds_if (DW.pt (dw_or (dt_not (dt_val (DI.toE (b_isiT (vs := [V.ty "list", V.ty "tuple"]) (by rfl) (u_isinstance v) (dp_var (pv 0)) (pa_cons (k_ty bt_list (by rfl) (u_list v)) (pa_cons (k_ty bt_tuple (by rfl) (u_tuple v)) pa_nil)) (fun σ H Q h => h) (Paired.cons (ClsV.ty "list") (Paired.cons (ClsV.ty "tuple") Paired.nil)) (by decide) is_list_tuple_ok)))) (dw_or1 (t_eq hr (DE.frz (b_len (by rfl) (u_len v) (db_one (dp_var (pv 0))))) (DI.pk di_int))))) (dss_one (Exists.elim (xd_InvalidTable (P := P) (w := w) v) fun _ h => ds_raise (n := 102) (ns := ["problem", "position", "earlier"]) rfl rfl rfl (ex_InvalidTable v).1 (ex_InvalidTable v).2.2.1 (ex_InvalidTable v).2.2.2 h.1 hr (by decide) (by decide) h.2 (by rfl) tk (by rfl) (u_InvalidTable v) (da_cons di_str (da_cons di_non (da_cons di_non da_nil))))) dss_nil)
    (dss_cons (ds_set (i := 2) S_checked_table.nd (by rfl) (by first | exact Or.inl rfl | exact Or.inr rfl) (b_len (by rfl) (u_len v) (db_one (dp_var (pv 0)))))
    (dss_cons (ds_if (t_gt (di_var (pv 2)) (DI.pk (Exists.elim (cint_ok (v.c.fact 20 (f := .cint "Move" "MAX_PERIOD" 2520))) fun _ hu => di_cval (pe_glob (by rfl) (u_Move v) (by rfl)) (cread_ok (v.c.fact 19 (f := .cread "Move"))) hu fun F => rep_int' _))) (dss_one (Exists.elim (xd_TooLong (P := P) (w := w) v) fun _ h => ds_raise (n := 115) (ns := ["multiple"]) rfl rfl rfl (ex_TooLong v).1 (ex_TooLong v).2.2.1 (ex_TooLong v).2.2.2 h.1 hr (by decide) (by decide) h.2 (by rfl) tk (by rfl) (u_TooLong v) (da_cons (di_var (pv 2)) da_nil))) dss_nil)
    (dss_cons (ds_for hp (by rfl) (dit_enumLT (by rfl) (u_enumerate v) (di_var (pv 0))) (dg_tup (by rfl) (dgs_cons (dg_name (pg_name S_checked_table.nd (by rfl) (by first | exact Or.inl rfl | exact Or.inr rfl))) (dgs_cons (dg_name (pg_name S_checked_table.nd (by rfl) (by first | exact Or.inl rfl | exact Or.inr rfl))) dgs_nil))) (tgt_tup (tgs_cons (tgt_name 4) (tgs_cons (tgt_name 5) tgs_nil))) (dss_one (ds_if (dt_not (dt_val (d_own (fun h => pe_own ((f_is_integer v).mono (by decide)) hr tk (by rfl) (u_is_integer v) (kp_is_integer v) h) (da_cons (di_var (pv 5)) da_nil)))) (dss_one (Exists.elim (xd_InvalidTable (P := P) (w := w) v) fun _ h => ds_raise (n := 102) (ns := ["problem", "position", "earlier"]) rfl rfl rfl (ex_InvalidTable v).1 (ex_InvalidTable v).2.2.1 (ex_InvalidTable v).2.2.2 h.1 hr (by decide) (by decide) h.2 (by rfl) tk (by rfl) (u_InvalidTable v) (da_cons di_str (da_cons (di_var (pv 4)) (da_cons di_non da_nil))))) dss_nil)))
    (dss_cons (ds_set (i := 3) S_checked_table.nd (by rfl) (by first | exact Or.inl rfl | exact Or.inr rfl) de_dnew)
    (dss_cons (ds_for hp (by rfl) (dit_enumLT (by rfl) (u_enumerate v) (di_var (pv 0))) (dg_tup (by rfl) (dgs_cons (dg_name (pg_name S_checked_table.nd (by rfl) (by first | exact Or.inl rfl | exact Or.inr rfl))) (dgs_cons (dg_name (pg_name S_checked_table.nd (by rfl) (by first | exact Or.inl rfl | exact Or.inr rfl))) dgs_nil))) (tgt_tup (tgs_cons (tgt_name 4) (tgs_cons (tgt_name 5) tgs_nil))) (dss_cons (ds_set (i := 6) S_checked_table.nd (by rfl) (by first | exact Or.inl rfl | exact Or.inr rfl) (x_mod (DE.frz (x_add (DE.frz (x_mul (di_var (pv 1)) (dp_var (pv 4)))) (dp_var (pv 5)))) (dp_var (pv 2))))
    (dss_cons (ds_if (t_in hr (di_var (pv 6)) (dp_var (pv 3))) (dss_one (Exists.elim (xd_InvalidTable (P := P) (w := w) v) fun _ h => ds_raise (n := 102) (ns := ["problem", "position", "earlier"]) rfl rfl rfl (ex_InvalidTable v).1 (ex_InvalidTable v).2.2.1 (ex_InvalidTable v).2.2.2 h.1 hr (by decide) (by decide) h.2 (by rfl) tk (by rfl) (u_InvalidTable v) (da_cons di_str (da_cons (di_var (pv 4)) (da_cons (DE.frz (x_ixV hr (pv 3) (dp_var (pv 6)))) da_nil))))) dss_nil)
    (dss_one (ds_asg (DI.toE (di_var (pv 4))) (dg_sub (pv 3) (di_var (pv 6)) (hu_of hr)) tgt_sub)))))
    (dss_one (ds_ret (b_list (by rfl) (u_list v) (db_one (dp_var (pv 0))))))))))))
def m_checked_table : Fm := mir 7 2 g_checked_table
theorem o_checked_table (v : Ev K mg base) : ∃ fd, FunD K "checked_table" "checked_table" (defArgs (top 16)) (defBody (top 16)) (defScope (top 16)) [] [] (He.ga K "checked_table") fd ∧ TS.FnOk P w K mg base (L2.CX P w) 3 (He.ga K "checked_table") fd ["offsets", "sign"] (spD (MM K) m_checked_table) := by
  obtain ⟨fd, F⟩ := v.c.def_ 8 (d := d_checked_table) rfl
  exact ⟨fd, F, funD_mir (M := MM K) F S_checked_table (by decide) (fun cdv A outer s H E hr tk hp => b_checked_table v cdv A outer s H E hr tk hp)⟩
theorem f_checked_table (v : Ev K mg base) : TS.FnR P w K mg base (L2.CX P w) 3 (He.ga K "checked_table") (spD (MM K) m_checked_table) := by
  obtain ⟨fd, F, O⟩ := o_checked_table (P := P) (w := w) v
  exact fnR_raw (M := MM K) O (F.bindsN (ps := ["offsets", "sign"]) fun _ _ _ _ _ _ us hl => match us, hl with | [_, _], _ => rfl)
def ix_own_sources : Nat → Option Nat := fun n => match n with
  | 0 => some 1
  | _ => none
theorem F_own_sources (v : Ev K mg base) : FldT (MM K) "own_sources" ix_own_sources := by
  intro n j h
  unfold ix_own_sources at h
  split at h
  · cases h
    exact ⟨fun C e => by cases e; exact ⟨He.cls_ok (v.c.fact 9 (f := .he (.cls "Plan"))), He.noat_ok (v.c.fact 32 (f := .he (.noat "Plan" "own_sources")))⟩, rfl, show ("own_sources" : Str) ∉ (["own_offsets", "own_sources"] : List Str).take 1 from by decide +kernel⟩
  · cases h
abbrev g_sources_of_1 : FS := (sAsg (fLc (stName 3) [3] (itSeq (vI 0)) tTrue (kD (.int 0))) (tName 1))
abbrev g_sources_of_2_1 : FS := (sAsg (toE (vI 2)) (tSub 1 (frz (fBin gMod (frz (fBin gAdd (vI 2) (vP 3))) (frz (fCal gLen (aOne (vP 0))))))))
abbrev g_sources_of_2B : FS := g_sources_of_2_1
abbrev g_sources_of_2 : FS := (sFor (itEnum (vI 0)) (tTup 2 (tsCons (tName 2) (tsCons (tName 3) tsNil))) g_sources_of_2B)
abbrev g_sources_of_3 : FS := (sRet (vR 1))
def g_sources_of : FS := (sSeq g_sources_of_1 (sSeq g_sources_of_2 g_sources_of_3))
theorem S_sources_of : FnScope ["offsets", "found", "place", "offset"] ["offsets"] (defScope (top 22)) := ⟨rfl, rfl, rfl, by decide +kernel, rfl, by decide +kernel, by decide +kernel⟩
theorem kp_sources_of (v : Ev K mg base) : PySem.W.keepIn K (.ref (He.ga K "sources_of")) = true := (v.c.def_ 9 (d := d_sources_of) rfl).elim fun _ F => F.kp
theorem b_sources_of (v : Ev K mg base) (cdv : Value) (A : Around) (outer : List Env) (s : Shared) (H : Hp) (E : XK) (hr : TS.Room 0 (A.deeper (PyProof.Rows.envOfC "sources_of" (defScope (top 22)) s.heap.objs.size (He.ga K "sources_of") cdv))) (tk : Takes (cxOf (L2.CX P w) P w K mg base ["offsets", "found", "place", "offset"] "sources_of" (defScope (top 22)) (He.ga K "sources_of") cdv A outer s H E) (fun cls d _ H => E cls d H))
    (hp : PassesOwn (model P w) (A.deeper (PyProof.Rows.envOfC "sources_of" (defScope (top 22)) s.heap.objs.size (He.ga K "sources_of") cdv)) (PyProof.Rows.envOfC "sources_of" (defScope (top 22)) s.heap.objs.size (He.ga K "sources_of") cdv) (cxOf (L2.CX P w) P w K mg base ["offsets", "found", "place", "offset"] "sources_of" (defScope (top 22)) (He.ga K "sources_of") cdv A outer s H E).xe) : DSs (MM K) (fun cls d _ H => E cls d H) (cxOf (L2.CX P w) P w K mg base ["offsets", "found", "place", "offset"] "sources_of" (defScope (top 22)) (He.ga K "sources_of") cdv A outer s H E) (defBody (top 22)) g_sources_of :=
  (dss_cons (ds_setLc (i := 1) (own := [("offset", 3)]) (by rfl) (by rfl) S_sources_of.nd (by rfl) (by rfl) (by rfl) (dit_list (di_var (pv 0))) (blkOk_by (by kernel_rfl)) (st_name 3) (fun _ _ _ _ _ => pg_name S_sources_of.nd (by rfl) (by first | exact Or.inl rfl | exact Or.inr rfl)) (fun _ _ _ _ _ => pts_no) (fun _ _ _ _ _ => di_int))
    (dss_cons (ds_for hp (by rfl) (dit_enum (by rfl) (u_enumerate v) (di_var (pv 0))) (dg_tup (by rfl) (dgs_cons (dg_name (pg_name S_sources_of.nd (by rfl) (by first | exact Or.inl rfl | exact Or.inr rfl))) (dgs_cons (dg_name (pg_name S_sources_of.nd (by rfl) (by first | exact Or.inl rfl | exact Or.inr rfl))) dgs_nil))) (tgt_tup (tgs_cons (tgt_name 2) (tgs_cons (tgt_name 3) tgs_nil))) (dss_one (ds_asg (DI.toE (di_var (pv 2))) (dg_sub (pv 1) (DE.frz (x_mod (DE.frz (x_add (di_var (pv 2)) (dp_var (pv 3)))) (DE.pk (b_len (by rfl) (u_len v) (db_one (dp_var (pv 0))))))) (hu_of hr)) tgt_sub)))
    (dss_one (ds_ret (de_var (pv 1))))))
def m_sources_of : Fm := mir 4 1 g_sources_of
theorem o_sources_of (v : Ev K mg base) : ∃ fd, FunD K "sources_of" "sources_of" (defArgs (top 22)) (defBody (top 22)) (defScope (top 22)) [] [] (He.ga K "sources_of") fd ∧ TS.FnOk P w K mg base (L2.CX P w) 1 (He.ga K "sources_of") fd ["offsets"] (spD (MM K) m_sources_of) := by
  obtain ⟨fd, F⟩ := v.c.def_ 9 (d := d_sources_of) rfl
  exact ⟨fd, F, funD_mir (M := MM K) F S_sources_of (by decide) (fun cdv A outer s H E hr tk hp => b_sources_of v cdv A outer s H E hr tk hp)⟩
theorem f_sources_of (v : Ev K mg base) : TS.FnR P w K mg base (L2.CX P w) 1 (He.ga K "sources_of") (spD (MM K) m_sources_of) := by
  obtain ⟨fd, F, O⟩ := o_sources_of (P := P) (w := w) v
  exact fnR_raw (M := MM K) O (F.bindsN (ps := ["offsets"]) fun _ _ _ _ _ _ us hl => match us, hl with | [_], _ => rfl)
abbrev g_Plan___init___1 : FS := (sFldS 0 ix_own_offsets (frz (fOwn m_least_table (aCons (frz (fOwn m_checked_table (aCons (vI 1) (aCons (kD (.int 1)) aNil)))) aNil))))
abbrev g_Plan___init___2 : FS := (sFldS 0 ix_own_sources (frz (fOwn m_sources_of (aCons (fFld ix_own_offsets (vP 0)) aNil))))
def g_Plan___init__ : FS := (sSeq g_Plan___init___1 g_Plan___init___2)
theorem S_Plan___init__ : FnScope ["self", "offsets"] ["self", "offsets"] (defScope (inClass (top 23) 1)) := ⟨rfl, rfl, rfl, by decide +kernel, rfl, by decide +kernel, by decide +kernel⟩
theorem b_Plan___init__ (v : Ev K mg base) (cdv : Value) (A : Around) (outer : List Env) (s : Shared) (H : Hp) (E : XK) (hr : TS.Room 3 (A.deeper (PyProof.Rows.envOfC "Plan.__init__" (defScope (inClass (top 23) 1)) s.heap.objs.size (He.ma K (He.ga K "Plan") "__init__") cdv))) (tk : Takes (cxOf (L2.CX P w) P w K mg base ["self", "offsets"] "Plan.__init__" (defScope (inClass (top 23) 1)) (He.ma K (He.ga K "Plan") "__init__") cdv A outer s H E) (fun cls d _ H => E cls d H))
    (hp : PassesOwn (model P w) (A.deeper (PyProof.Rows.envOfC "Plan.__init__" (defScope (inClass (top 23) 1)) s.heap.objs.size (He.ma K (He.ga K "Plan") "__init__") cdv)) (PyProof.Rows.envOfC "Plan.__init__" (defScope (inClass (top 23) 1)) s.heap.objs.size (He.ma K (He.ga K "Plan") "__init__") cdv) (cxOf (L2.CX P w) P w K mg base ["self", "offsets"] "Plan.__init__" (defScope (inClass (top 23) 1)) (He.ma K (He.ga K "Plan") "__init__") cdv A outer s H E).xe) : DSs (MM K) (fun cls d _ H => E cls d H) (cxOf (L2.CX P w) P w K mg base ["self", "offsets"] "Plan.__init__" (defScope (inClass (top 23) 1)) (He.ma K (He.ga K "Plan") "__init__") cdv A outer s H E) (defBody (inClass (top 23) 1)) g_Plan___init__ :=
  (dss_cons (ds_fld (F_own_offsets v) nm_lt (pv 0) (DE.frz (d_own (fun h => pe_own ((f_least_table v).mono (by decide)) hr tk (by rfl) (u_least_table v) (kp_least_table v) h) (da_cons (DE.frz (d_own (fun h => pe_own ((f_checked_table v).mono (by decide)) hr tk (by rfl) (u_checked_table v) (kp_checked_table v) h) (da_cons (di_var (pv 1)) (da_cons (Exists.elim (cint_ok (v.c.fact 30 (f := .cint "Plan" "SIGN" 1))) fun _ hu => di_cval (pe_glob (by rfl) (u_Plan v) (by rfl)) (cread_ok (v.c.fact 29 (f := .cread "Plan"))) hu fun F => rep_int' _) da_nil)))) da_nil))))
    (dss_one (ds_fld (F_own_sources v) nm_lt (pv 0) (DE.frz (d_own (fun h => pe_own ((f_sources_of v).mono (by decide)) hr tk (by rfl) (u_sources_of v) (kp_sources_of v) h) (da_cons (di_fld (F_own_offsets v) (dp_var (pv 0))) da_nil))))))
def m_Plan___init__ : Fm := mir 2 2 g_Plan___init__
theorem o_Plan___init__ (v : Ev K mg base) : ∃ fd, FunD K "__init__" "Plan.__init__" (defArgs (inClass (top 23) 1)) (defBody (inClass (top 23) 1)) (defScope (inClass (top 23) 1)) [] [] (He.ma K (He.ga K "Plan") "__init__") fd ∧ TS.FnOk P w K mg base (L2.CX P w) 4 (He.ma K (He.ga K "Plan") "__init__") fd ["self", "offsets"] (spD (MM K) m_Plan___init__) := by
  obtain ⟨fd, F⟩ := v.c.def_ 10 (d := d_Plan___init__) rfl
  exact ⟨fd, F, funD_mir (M := MM K) F S_Plan___init__ (by decide) (fun cdv A outer s H E hr tk hp => b_Plan___init__ v cdv A outer s H E hr tk hp)⟩
theorem f_Plan___init__ (v : Ev K mg base) : TS.FnR P w K mg base (L2.CX P w) 4 (He.ma K (He.ga K "Plan") "__init__") (spD (MM K) m_Plan___init__) := by
  obtain ⟨fd, F, O⟩ := o_Plan___init__ (P := P) (w := w) v
  exact fnR_raw (M := MM K) O (F.bindsN (ps := ["self", "offsets"]) fun _ _ _ _ _ _ us hl => match us, hl with | [_, _], _ => rfl)
abbrev g_Plan___repr___1 : FS := (sRet (toE (fJoined (jCons (kD (.str "Plan(")) (jCons (fFmtL (fFld ix_own_offsets (vP 0))) (jCons (kD (.str ")")) jNil))))))
def g_Plan___repr__ : FS := g_Plan___repr___1
theorem S_Plan___repr__ : FnScope ["self"] ["self"] (defScope (inClass (top 23) 19)) := ⟨rfl, rfl, rfl, by decide +kernel, rfl, by decide +kernel, by decide +kernel⟩
def m_Plan___repr__ : Fm := mir 1 1 g_Plan___repr__
theorem fG_Plan___repr__ (v : Ev K mg base) : FnRG P w K mg base (L2.CX P w) 1 (He.ma K (He.ga K "Plan") "__repr__") (fun g => spDP (GOK g) (MM K) m_Plan___repr__) := by
  obtain ⟨fd, F⟩ := v.c.def_ 11 (d := d_Plan___repr__) rfl
  exact fnRG_mir (M := MM K) F S_Plan___repr__ (F.bindsN (ps := ["self"]) fun _ _ _ _ _ _ us hl => match us, hl with | [_], _ => rfl) (by decide) (fun g cdv A outer s H E hr => dsg_ret (dig_joined (djg_cons (dig_of di_str) (djg_cons (dig_fmtL hr (dig_of (di_fld (F_own_offsets v) (dp_var (pv 0))))) (djg_cons (dig_of di_str) djg_nil)))))
def gtab_repr : Nat → Option Fm := fun n => match n with
  | 0 => some m_Plan___repr__
  | _ => none
theorem SPG (v : Ev K mg base) : SpG (MM K) P w mg base 1 gtab_repr := by
  intro n f h
  unfold gtab_repr at h
  split at h
  · cases h
    have hm := He.meth_ok (K := K) (v.c.fact 35 (f := .he (.meth "Plan" "__repr__")))
    exact ⟨_, _, rfl, hm.at_, hm.fn, (fG_Plan___repr__ v).mono (by decide)⟩
  · cases h
theorem ex_InvalidInteger (v : Ev K mg base) : OxC K (He.ga K "InvalidInteger") ∧ XqC K (He.ga K "InvalidInteger") ∧ PySem.W.findIn K (.ref (He.ga K "InvalidInteger")) "__init__" = some (some (.ref (He.ma K (He.ga K "InvalidInteger") "__init__"))) ∧ PySem.W.typeIn K (.ref (He.ma K (He.ga K "InvalidInteger") "__init__")) = some (.type "function") := exc_ok Bas.ve (v.c.fact 38 (f := .exc "InvalidInteger" "ValueError"))
theorem S_InvalidInteger___init__ : FnScope ["self", "value"] ["self", "value"] (defScope (inClass (top 3) 0)) := ⟨rfl, rfl, rfl, by decide +kernel, rfl, by decide +kernel, by decide +kernel⟩
theorem xd_InvalidInteger (v : Ev K mg base) : ∃ fd, TS.FnOk P w K mg base (L2.CX P w) 1 (He.ma K (He.ga K "InvalidInteger") "__init__") fd ["self", "value"] (spX (He.ga K "InvalidInteger") ["value"]) ∧ Binds K fd ["self", "value"] [] := by
  obtain ⟨fd, F⟩ := v.c.def_ 12 (d := d_InvalidInteger___init__) rfl
  exact ⟨fd, funD_ini F S_InvalidInteger___init__ (by decide) (fun cdv A outer s H E => (init_body (N := []) (sp0 := ()) (ex_InvalidInteger v).1 (He.noat_ok (K := K) (v.c.fact 39 (f := .he (.noat "InvalidInteger" "value")))) rfl (pv 0) (pv 1) (inis_nil rfl))), F.bindsN (ps := ["self", "value"]) fun _ _ _ _ _ _ us hl => match us, hl with | [_, _], _ => rfl⟩
abbrev g_require_integer_1a_1 : FS := (sRaise 100 1 (aCons (vI 0) aNil))
abbrev g_require_integer_1 : FS := (sIf (fOr (fNot (fTst (fOwn m_is_integer (aCons (vI 0) aNil)))) (fAnd (fTst (fBin gNotN (vI 1) (kD .non))) (fTst (fBin gLt (vI 0) (vP 1))))) g_require_integer_1a_1 sNil)
def g_require_integer : FS := g_require_integer_1
theorem S_require_integer : FnScope ["value", "least"] ["value", "least"] (defScope (top 11)) := ⟨rfl, rfl, rfl, by decide +kernel, rfl, by decide +kernel, by decide +kernel⟩
theorem kp_require_integer (v : Ev K mg base) : PySem.W.keepIn K (.ref (He.ga K "require_integer")) = true := (v.c.def_ 13 (d := d_require_integer) rfl).elim fun _ F => F.kp
theorem b_require_integer (v : Ev K mg base) (cdv : Value) (A : Around) (outer : List Env) (s : Shared) (H : Hp) (E : XK) (hr : TS.Room 2 (A.deeper (PyProof.Rows.envOfC "require_integer" (defScope (top 11)) s.heap.objs.size (He.ga K "require_integer") cdv))) (tk : Takes (cxOf (L2.CX P w) P w K mg base ["value", "least"] "require_integer" (defScope (top 11)) (He.ga K "require_integer") cdv A outer s H E) (fun cls d _ H => E cls d H))
    (hp : PassesOwn (model P w) (A.deeper (PyProof.Rows.envOfC "require_integer" (defScope (top 11)) s.heap.objs.size (He.ga K "require_integer") cdv)) (PyProof.Rows.envOfC "require_integer" (defScope (top 11)) s.heap.objs.size (He.ga K "require_integer") cdv) (cxOf (L2.CX P w) P w K mg base ["value", "least"] "require_integer" (defScope (top 11)) (He.ga K "require_integer") cdv A outer s H E).xe) : DSs (MM K) (fun cls d _ H => E cls d H) (cxOf (L2.CX P w) P w K mg base ["value", "least"] "require_integer" (defScope (top 11)) (He.ga K "require_integer") cdv A outer s H E) (defBody (top 11)) g_require_integer :=
  (dss_one (ds_if (DW.pt (dw_or (dt_not (dt_val (d_own (fun h => pe_own ((f_is_integer v).mono (by decide)) hr tk (by rfl) (u_is_integer v) (kp_is_integer v) h) (da_cons (di_var (pv 0)) da_nil)))) (dw_or1 (DW.pt (dw_and (t_notN (di_var (pv 1)) (DI.pk di_non)) (dw_and1 (t_lt (di_var (pv 0)) (dp_var (pv 1))))))))) (dss_one (Exists.elim (xd_InvalidInteger (P := P) (w := w) v) fun _ h => ds_raise (n := 100) (ns := ["value"]) rfl rfl rfl (ex_InvalidInteger v).1 (ex_InvalidInteger v).2.2.1 (ex_InvalidInteger v).2.2.2 h.1 hr (by decide) (by decide) h.2 (by rfl) tk (by rfl) (u_InvalidInteger v) (da_cons (di_var (pv 0)) da_nil))) dss_nil))
def m_require_integer : Fm := mir 2 2 g_require_integer
theorem o_require_integer (v : Ev K mg base) : ∃ fd, FunD K "require_integer" "require_integer" (defArgs (top 11)) (defBody (top 11)) (defScope (top 11)) [V.non] [] (He.ga K "require_integer") fd ∧ TS.FnOk P w K mg base (L2.CX P w) 3 (He.ga K "require_integer") fd ["value", "least"] (spD (MM K) m_require_integer) := by
  obtain ⟨fd, F⟩ := v.c.def_ 13 (d := d_require_integer) rfl
  exact ⟨fd, F, funD_mir (M := MM K) F S_require_integer (by decide) (fun cdv A outer s H E hr tk hp => b_require_integer v cdv A outer s H E hr tk hp)⟩
theorem f_require_integer (v : Ev K mg base) : TS.FnR P w K mg base (L2.CX P w) 3 (He.ga K "require_integer") (spD (MM K) m_require_integer) := by
  obtain ⟨fd, F, O⟩ := o_require_integer (P := P) (w := w) v
  obtain ⟨ds, hv, hb⟩ := FunD.binds1 (ps := ["value", "least"]) F 2 1 (by intro z; cases z) rfl (fun T kV doc pm an cdv ct us its h1 h2 => match us, its, h1, h2 with | [_, _], [_], _, _ => ⟨_, rfl, rfl⟩)
  cases hv
  exact fnR_raw (M := MM K) O hb
abbrev g_divisor_of_two_1 : FS := (sPar 2 3 (fCal gAbs (aOne (vP 0))) (fCal gAbs (aOne (vP 1))))
abbrev g_divisor_of_two_2_1 : FS := (sPar 2 3 (toE (vI 3)) (fBin gMod (vI 2) (vP 3)))
abbrev g_divisor_of_two_2B : FS := g_divisor_of_two_2_1
abbrev g_divisor_of_two_2 : FS := (sWhile (muI 3) (fTst (fBin gNe (vI 3) (kD (.int 0)))) g_divisor_of_two_2B)
abbrev g_divisor_of_two_3 : FS := (sRet (vR 2))
def g_divisor_of_two : FS := (sSeq g_divisor_of_two_1 (sSeq g_divisor_of_two_2 g_divisor_of_two_3))
theorem S_divisor_of_two : FnScope ["one", "other", "greater", "less"] ["one", "other"] (defScope (top 12)) := ⟨rfl, rfl, rfl, by decide +kernel, rfl, by decide +kernel, by decide +kernel⟩
theorem kp_divisor_of_two (v : Ev K mg base) : PySem.W.keepIn K (.ref (He.ga K "divisor_of_two")) = true := (v.c.def_ 14 (d := d_divisor_of_two) rfl).elim fun _ F => F.kp
theorem b_divisor_of_two (v : Ev K mg base) (cdv : Value) (A : Around) (outer : List Env) (s : Shared) (H : Hp) (E : XK) (hr : TS.Room 0 (A.deeper (PyProof.Rows.envOfC "divisor_of_two" (defScope (top 12)) s.heap.objs.size (He.ga K "divisor_of_two") cdv))) (tk : Takes (cxOf (L2.CX P w) P w K mg base ["one", "other", "greater", "less"] "divisor_of_two" (defScope (top 12)) (He.ga K "divisor_of_two") cdv A outer s H E) (fun cls d _ H => E cls d H))
    (hp : PassesOwn (model P w) (A.deeper (PyProof.Rows.envOfC "divisor_of_two" (defScope (top 12)) s.heap.objs.size (He.ga K "divisor_of_two") cdv)) (PyProof.Rows.envOfC "divisor_of_two" (defScope (top 12)) s.heap.objs.size (He.ga K "divisor_of_two") cdv) (cxOf (L2.CX P w) P w K mg base ["one", "other", "greater", "less"] "divisor_of_two" (defScope (top 12)) (He.ga K "divisor_of_two") cdv A outer s H E).xe) : DSs (MM K) (fun cls d _ H => E cls d H) (cxOf (L2.CX P w) P w K mg base ["one", "other", "greater", "less"] "divisor_of_two" (defScope (top 12)) (He.ga K "divisor_of_two") cdv A outer s H E) (defBody (top 12)) g_divisor_of_two :=
  (dss_cons (ds_par (i := 2) (j := 3) (by rfl) S_divisor_of_two.nd (by rfl) (by rfl) (by decide) (by rfl) (by rfl) (b_abs (by rfl) (u_abs v) (db_one (dp_var (pv 0)))) (b_abs (by rfl) (u_abs v) (db_one (dp_var (pv 1)))) (by rfl))
    (dss_cons (ds_while (muI 3) hp (t_ne hr (di_var (pv 3)) (DI.pk di_int)) (dss_one (ds_par (i := 2) (j := 3) (by rfl) S_divisor_of_two.nd (by rfl) (by rfl) (by decide) (by rfl) (by rfl) (DI.toE (di_var (pv 3))) (x_mod (di_var (pv 2)) (dp_var (pv 3))) (by rfl))))
    (dss_one (ds_ret (de_var (pv 2))))))
def m_divisor_of_two : Fm := mir 4 2 g_divisor_of_two
theorem o_divisor_of_two (v : Ev K mg base) : ∃ fd, FunD K "divisor_of_two" "divisor_of_two" (defArgs (top 12)) (defBody (top 12)) (defScope (top 12)) [] [] (He.ga K "divisor_of_two") fd ∧ TS.FnOk P w K mg base (L2.CX P w) 1 (He.ga K "divisor_of_two") fd ["one", "other"] (spD (MM K) m_divisor_of_two) := by
  obtain ⟨fd, F⟩ := v.c.def_ 14 (d := d_divisor_of_two) rfl
  exact ⟨fd, F, funD_mir (M := MM K) F S_divisor_of_two (by decide) (fun cdv A outer s H E hr tk hp => b_divisor_of_two v cdv A outer s H E hr tk hp)⟩
theorem f_divisor_of_two (v : Ev K mg base) : TS.FnR P w K mg base (L2.CX P w) 1 (He.ga K "divisor_of_two") (spD (MM K) m_divisor_of_two) := by
  obtain ⟨fd, F, O⟩ := o_divisor_of_two (P := P) (w := w) v
  exact fnR_raw (M := MM K) O (F.bindsN (ps := ["one", "other"]) fun _ _ _ _ _ _ us hl => match us, hl with | [_, _], _ => rfl)
abbrev g_common_multiple_1_1 : FS := (sExpr (fOwn m_require_integer (aCons (vI 1) (aCons (kD (.int 1)) aNil))))
abbrev g_common_multiple_1B : FS := g_common_multiple_1_1
abbrev g_common_multiple_1 : FS := (sFor (itTup (vI 0)) (tName 1) g_common_multiple_1B)
abbrev g_common_multiple_2 : FS := (sAsg (toE (kD (.int 1))) (tName 2))
abbrev g_common_multiple_3_1 : FS := (sAsg (fBin gFdiv (frz (fBin gMul (vI 2) (vP 1))) (frz (fOwn m_divisor_of_two (aCons (vI 2) (aCons (vI 1) aNil))))) (tName 2))
abbrev g_common_multiple_3B : FS := g_common_multiple_3_1
abbrev g_common_multiple_3 : FS := (sFor (itTup (vI 0)) (tName 1) g_common_multiple_3B)
abbrev g_common_multiple_4 : FS := (sRet (vR 2))
def g_common_multiple : FS := (sSeq g_common_multiple_1 (sSeq g_common_multiple_2 (sSeq g_common_multiple_3 g_common_multiple_4)))
theorem S_common_multiple : FnScope ["numbers", "number", "found"] ["numbers"] (defScope (top 13)) := ⟨rfl, rfl, rfl, by decide +kernel, rfl, by decide +kernel, by decide +kernel⟩
theorem kp_common_multiple (v : Ev K mg base) : PySem.W.keepIn K (.ref (He.ga K "common_multiple")) = true := (v.c.def_ 15 (d := d_common_multiple) rfl).elim fun _ F => F.kp
theorem b_common_multiple (v : Ev K mg base) (cdv : Value) (A : Around) (outer : List Env) (s : Shared) (H : Hp) (E : XK) (hr : TS.Room 3 (A.deeper (PyProof.Rows.envOfC "common_multiple" (defScope (top 13)) s.heap.objs.size (He.ga K "common_multiple") cdv))) (tk : Takes (cxOf (L2.CX P w) P w K mg base ["numbers", "number", "found"] "common_multiple" (defScope (top 13)) (He.ga K "common_multiple") cdv A outer s H E) (fun cls d _ H => E cls d H))
    (hp : PassesOwn (model P w) (A.deeper (PyProof.Rows.envOfC "common_multiple" (defScope (top 13)) s.heap.objs.size (He.ga K "common_multiple") cdv)) (PyProof.Rows.envOfC "common_multiple" (defScope (top 13)) s.heap.objs.size (He.ga K "common_multiple") cdv) (cxOf (L2.CX P w) P w K mg base ["numbers", "number", "found"] "common_multiple" (defScope (top 13)) (He.ga K "common_multiple") cdv A outer s H E).xe) : DSs (MM K) (fun cls d _ H => E cls d H) (cxOf (L2.CX P w) P w K mg base ["numbers", "number", "found"] "common_multiple" (defScope (top 13)) (He.ga K "common_multiple") cdv A outer s H E) (defBody (top 13)) g_common_multiple :=
  (dss_cons (ds_for hp (by rfl) (dit_tup (di_var (pv 0))) (dg_name (pg_name S_common_multiple.nd (by rfl) (by first | exact Or.inl rfl | exact Or.inr rfl))) (tgt_name 1) (dss_one (ds_expr (d_own (fun h => pe_own ((f_require_integer v).mono (by decide)) hr tk (by rfl) (u_require_integer v) (kp_require_integer v) h) (da_cons (di_var (pv 1)) (da_cons di_int da_nil))))))
    (dss_cons (ds_set (i := 2) S_common_multiple.nd (by rfl) (by first | exact Or.inl rfl | exact Or.inr rfl) (DI.toE di_int))
    (dss_cons (ds_for hp (by rfl) (dit_tup (di_var (pv 0))) (dg_name (pg_name S_common_multiple.nd (by rfl) (by first | exact Or.inl rfl | exact Or.inr rfl))) (tgt_name 1) (dss_one (ds_set (i := 2) S_common_multiple.nd (by rfl) (by first | exact Or.inl rfl | exact Or.inr rfl) (x_fdiv (DE.frz (x_mul (di_var (pv 2)) (dp_var (pv 1)))) (DE.pk (d_own (fun h => pe_own ((f_divisor_of_two v).mono (by decide)) hr tk (by rfl) (u_divisor_of_two v) (kp_divisor_of_two v) h) (da_cons (di_var (pv 2)) (da_cons (di_var (pv 1)) da_nil))))))))
    (dss_one (ds_ret (de_var (pv 2)))))))
def m_common_multiple : Fm := fmStar 0 (mir 3 1 g_common_multiple)
theorem f_common_multiple (v : Ev K mg base) : TS.FnR P w K mg base (L2.CX P w) 4 (He.ga K "common_multiple") (spD (MM K) m_common_multiple) := by
  obtain ⟨fd, F⟩ := v.c.def_ 15 (d := d_common_multiple) rfl
  exact funD_star (M := MM K) (ps := []) (pv := "numbers") F S_common_multiple (by decide) (fun _ _ _ _ _ _ us rest h => match us, rest, h with | [], [], _ => rfl | [], _ :: _, _ => rfl) (fun cdv A outer s H E hr tk hp => b_common_multiple v cdv A outer s H E hr tk hp)
abbrev g_Plan_period_1 : FS := (sRet (fCal gLen (aOne (fFld ix_own_offsets (vP 0)))))
def g_Plan_period : FS := g_Plan_period_1
theorem S_Plan_period : FnScope ["self"] ["self"] (defScope (inClass (top 23) 5)) := ⟨rfl, rfl, rfl, by decide +kernel, rfl, by decide +kernel, by decide +kernel⟩
theorem b_Plan_period (v : Ev K mg base) (cdv : Value) (A : Around) (outer : List Env) (s : Shared) (H : Hp) (E : XK) (hr : TS.Room 0 (A.deeper (PyProof.Rows.envOfC "Plan.period" (defScope (inClass (top 23) 5)) s.heap.objs.size (uA "property" "Plan" "period" K) cdv))) (tk : Takes (cxOf (L2.CX P w) P w K mg base ["self"] "Plan.period" (defScope (inClass (top 23) 5)) (uA "property" "Plan" "period" K) cdv A outer s H E) (fun cls d _ H => E cls d H))
    (hp : PassesOwn (model P w) (A.deeper (PyProof.Rows.envOfC "Plan.period" (defScope (inClass (top 23) 5)) s.heap.objs.size (uA "property" "Plan" "period" K) cdv)) (PyProof.Rows.envOfC "Plan.period" (defScope (inClass (top 23) 5)) s.heap.objs.size (uA "property" "Plan" "period" K) cdv) (cxOf (L2.CX P w) P w K mg base ["self"] "Plan.period" (defScope (inClass (top 23) 5)) (uA "property" "Plan" "period" K) cdv A outer s H E).xe) : DSs (MM K) (fun cls d _ H => E cls d H) (cxOf (L2.CX P w) P w K mg base ["self"] "Plan.period" (defScope (inClass (top 23) 5)) (uA "property" "Plan" "period" K) cdv A outer s H E) (defBody (inClass (top 23) 5)) g_Plan_period :=
  (dss_one (ds_ret (b_len (by rfl) (u_len v) (db_one (DI.pk (di_fld (F_own_offsets v) (dp_var (pv 0))))))))
def m_Plan_period : Fm := mir 1 1 g_Plan_period
theorem o_Plan_period (v : Ev K mg base) : ∃ fd, FunD K "period" "Plan.period" (defArgs (inClass (top 23) 5)) (defBody (inClass (top 23) 5)) (defScope (inClass (top 23) 5)) [] [] (uA "property" "Plan" "period" K) fd ∧ TS.FnOk P w K mg base (L2.CX P w) 1 (uA "property" "Plan" "period" K) fd ["self"] (spD (MM K) m_Plan_period) := by
  obtain ⟨fd, F⟩ := v.c.def_ 16 (d := d_Plan_period) rfl
  exact ⟨fd, F, funD_mir (M := MM K) F S_Plan_period (by decide) (fun cdv A outer s H E hr tk hp => b_Plan_period v cdv A outer s H E hr tk hp)⟩
theorem f_Plan_period (v : Ev K mg base) : TS.FnR P w K mg base (L2.CX P w) 1 (uA "property" "Plan" "period" K) (spD (MM K) m_Plan_period) := by
  obtain ⟨fd, F, O⟩ := o_Plan_period (P := P) (w := w) v
  exact fnR_raw (M := MM K) O (F.bindsN (ps := ["self"]) fun _ _ _ _ _ _ us hl => match us, hl with | [_], _ => rfl)
def ptab_period : Nat → Option Fm := fun n => match n with
  | 0 => some m_Plan_period
  | _ => none
theorem PT_period (v : Ev K mg base) : ∀ n f, ptab_period n = some f → ∃ C p g, (MM K).G n = some C ∧ Cls K C ∧ PropOf K C "period" p g ∧ TS.FnR P w K mg base (L2.CX P w) 1 g (spD (MM K) f) := by
  intro n f h
  unfold ptab_period at h
  split at h
  · cases h
    exact ⟨_, _, _, rfl, He.cls_ok (v.c.fact 9 (f := .he (.cls "Plan"))), prop_ok (v.c.fact 45 (f := .prop "Plan" "period")), (f_Plan_period v).mono (by decide)⟩
  · cases h
def m_require_integer_d1 : Fm := fmDfl m_require_integer [.non]
theorem f_require_integer_d1 (v : Ev K mg base) : TS.FnR P w K mg base (L2.CX P w) 3 (He.ga K "require_integer") (spD (MM K) m_require_integer_d1) := by
  obtain ⟨fd, F, O⟩ := o_require_integer (P := P) (w := w) v
  obtain ⟨ds, hv, hb⟩ := FunD.binds1 (ps := ["value", "least"]) F 1 0 (by intro z; cases z) rfl (fun T kV doc pm an cdv ct us its h1 h2 => match us, its, h1, h2 with | [_], [_], _, _ => ⟨_, rfl, rfl⟩)
  exact fnR_dfl (M := MM K) (fun F => (reps_cons rep_non' reps_nil)) (O.raw hb hv)
abbrev g_moved_1 : FS := (sRet (fBin gAdd (vI 1) (frz (fBin gIx (vI 0) (frz (fBin gMod (vI 1) (frz (fCal gLen (aOne (vP 0))))))))))
def g_moved : FS := g_moved_1
theorem S_moved : FnScope ["offsets", "place"] ["offsets", "place"] (defScope (top 20)) := ⟨rfl, rfl, rfl, by decide +kernel, rfl, by decide +kernel, by decide +kernel⟩
theorem kp_moved (v : Ev K mg base) : PySem.W.keepIn K (.ref (He.ga K "moved")) = true := (v.c.def_ 17 (d := d_moved) rfl).elim fun _ F => F.kp
theorem b_moved (v : Ev K mg base) (cdv : Value) (A : Around) (outer : List Env) (s : Shared) (H : Hp) (E : XK) (hr : TS.Room 0 (A.deeper (PyProof.Rows.envOfC "moved" (defScope (top 20)) s.heap.objs.size (He.ga K "moved") cdv))) (tk : Takes (cxOf (L2.CX P w) P w K mg base ["offsets", "place"] "moved" (defScope (top 20)) (He.ga K "moved") cdv A outer s H E) (fun cls d _ H => E cls d H))
    (hp : PassesOwn (model P w) (A.deeper (PyProof.Rows.envOfC "moved" (defScope (top 20)) s.heap.objs.size (He.ga K "moved") cdv)) (PyProof.Rows.envOfC "moved" (defScope (top 20)) s.heap.objs.size (He.ga K "moved") cdv) (cxOf (L2.CX P w) P w K mg base ["offsets", "place"] "moved" (defScope (top 20)) (He.ga K "moved") cdv A outer s H E).xe) : DSs (MM K) (fun cls d _ H => E cls d H) (cxOf (L2.CX P w) P w K mg base ["offsets", "place"] "moved" (defScope (top 20)) (He.ga K "moved") cdv A outer s H E) (defBody (top 20)) g_moved :=
  (dss_one (ds_ret (x_add (di_var (pv 1)) (DE.pk (x_ix hr (di_var (pv 0)) (DE.pk (x_mod (di_var (pv 1)) (DE.pk (b_len (by rfl) (u_len v) (db_one (dp_var (pv 0))))))))))))
def m_moved : Fm := mir 2 2 g_moved
theorem o_moved (v : Ev K mg base) : ∃ fd, FunD K "moved" "moved" (defArgs (top 20)) (defBody (top 20)) (defScope (top 20)) [] [] (He.ga K "moved") fd ∧ TS.FnOk P w K mg base (L2.CX P w) 1 (He.ga K "moved") fd ["offsets", "place"] (spD (MM K) m_moved) := by
  obtain ⟨fd, F⟩ := v.c.def_ 17 (d := d_moved) rfl
  exact ⟨fd, F, funD_mir (M := MM K) F S_moved (by decide) (fun cdv A outer s H E hr tk hp => b_moved v cdv A outer s H E hr tk hp)⟩
theorem f_moved (v : Ev K mg base) : TS.FnR P w K mg base (L2.CX P w) 1 (He.ga K "moved") (spD (MM K) m_moved) := by
  obtain ⟨fd, F, O⟩ := o_moved (P := P) (w := w) v
  exact fnR_raw (M := MM K) O (F.bindsN (ps := ["offsets", "place"]) fun _ _ _ _ _ _ us hl => match us, hl with | [_, _], _ => rfl)
abbrev g_Plan_at_1 : FS := (sExpr (fOwn m_require_integer_d1 (aCons (vI 1) aNil)))
abbrev g_Plan_at_2 : FS := (sRet (fOwn m_moved (aCons (fFld ix_own_offsets (vP 0)) (aCons (vI 1) aNil))))
def g_Plan_at : FS := (sSeq g_Plan_at_1 g_Plan_at_2)
theorem S_Plan_at : FnScope ["self", "x"] ["self", "x"] (defScope (inClass (top 23) 8)) := ⟨rfl, rfl, rfl, by decide +kernel, rfl, by decide +kernel, by decide +kernel⟩
theorem b_Plan_at (v : Ev K mg base) (cdv : Value) (A : Around) (outer : List Env) (s : Shared) (H : Hp) (E : XK) (hr : TS.Room 3 (A.deeper (PyProof.Rows.envOfC "Plan.at" (defScope (inClass (top 23) 8)) s.heap.objs.size (He.ma K (He.ga K "Plan") "at") cdv))) (tk : Takes (cxOf (L2.CX P w) P w K mg base ["self", "x"] "Plan.at" (defScope (inClass (top 23) 8)) (He.ma K (He.ga K "Plan") "at") cdv A outer s H E) (fun cls d _ H => E cls d H))
    (hp : PassesOwn (model P w) (A.deeper (PyProof.Rows.envOfC "Plan.at" (defScope (inClass (top 23) 8)) s.heap.objs.size (He.ma K (He.ga K "Plan") "at") cdv)) (PyProof.Rows.envOfC "Plan.at" (defScope (inClass (top 23) 8)) s.heap.objs.size (He.ma K (He.ga K "Plan") "at") cdv) (cxOf (L2.CX P w) P w K mg base ["self", "x"] "Plan.at" (defScope (inClass (top 23) 8)) (He.ma K (He.ga K "Plan") "at") cdv A outer s H E).xe) : DSs (MM K) (fun cls d _ H => E cls d H) (cxOf (L2.CX P w) P w K mg base ["self", "x"] "Plan.at" (defScope (inClass (top 23) 8)) (He.ma K (He.ga K "Plan") "at") cdv A outer s H E) (defBody (inClass (top 23) 8)) g_Plan_at :=
  (dss_cons (ds_expr (d_own (fun h => pe_own ((f_require_integer_d1 v).mono (by decide)) hr tk (by rfl) (u_require_integer v) (kp_require_integer v) h) (da_cons (di_var (pv 1)) da_nil)))
    (dss_one (ds_ret (d_own (fun h => pe_own ((f_moved v).mono (by decide)) hr tk (by rfl) (u_moved v) (kp_moved v) h) (da_cons (di_fld (F_own_offsets v) (dp_var (pv 0))) (da_cons (di_var (pv 1)) da_nil))))))
def m_Plan_at : Fm := mir 2 2 g_Plan_at
theorem o_Plan_at (v : Ev K mg base) : ∃ fd, FunD K "at" "Plan.at" (defArgs (inClass (top 23) 8)) (defBody (inClass (top 23) 8)) (defScope (inClass (top 23) 8)) [] [] (He.ma K (He.ga K "Plan") "at") fd ∧ TS.FnOk P w K mg base (L2.CX P w) 4 (He.ma K (He.ga K "Plan") "at") fd ["self", "x"] (spD (MM K) m_Plan_at) := by
  obtain ⟨fd, F⟩ := v.c.def_ 18 (d := d_Plan_at) rfl
  exact ⟨fd, F, funD_mir (M := MM K) F S_Plan_at (by decide) (fun cdv A outer s H E hr tk hp => b_Plan_at v cdv A outer s H E hr tk hp)⟩
theorem f_Plan_at (v : Ev K mg base) : TS.FnR P w K mg base (L2.CX P w) 4 (He.ma K (He.ga K "Plan") "at") (spD (MM K) m_Plan_at) := by
  obtain ⟨fd, F, O⟩ := o_Plan_at (P := P) (w := w) v
  exact fnR_raw (M := MM K) O (F.bindsN (ps := ["self", "x"]) fun _ _ _ _ _ _ us hl => match us, hl with | [_, _], _ => rfl)
def tab_at : Nat → Option Fm := fun n => match n with
  | 0 => some m_Plan_at
  | _ => none
theorem T_at (v : Ev K mg base) : ∀ n f, tab_at n = some f → ∃ C g, (MM K).G n = some C ∧ Cls K C ∧ Meth K C "at" g ∧ TS.FnR P w K mg base (L2.CX P w) 4 g (spD (MM K) f) := by
  intro n f h
  unfold tab_at at h
  split at h
  · cases h
    exact ⟨_, _, rfl, He.cls_ok (v.c.fact 9 (f := .he (.cls "Plan"))), He.meth_ok (v.c.fact 48 (f := .he (.meth "Plan" "at"))), (f_Plan_at v).mono (by decide)⟩
  · cases h
theorem n_at : ∀ n f, tab_at n = some f → (("at" : Str) ∉ (MM K).nm n) := by
  intro n f h
  unfold tab_at at h
  split at h
  · show ("at" : Str) ∉ (["own_offsets", "own_sources"] : List Str)
    decide +kernel
  · cases h
abbrev g_renaming_fault_1 : FS := (sAsg (fOwn m_common_multiple (aCons (fProp ptab_period (vI 0)) (aCons (fProp ptab_period (vI 1)) (aCons (fProp ptab_period (vI 2)) aNil)))) (tName 3))
abbrev g_renaming_fault_2a_1 : FS := (sRaise 115 1 (aCons (vI 3) aNil))
abbrev g_renaming_fault_2 : FS := (sIf (fTst (fBin gGt (vI 3) (kD (.int 2520)))) g_renaming_fault_2a_1 sNil)
abbrev g_renaming_fault_3_1a_1 : FS := (sRet (vR 4))
abbrev g_renaming_fault_3_1 : FS := (sIf (fTst (fBin gNe (frz (fMeth tab_at (vI 2) (aCons (frz (fMeth tab_at (vI 0) (aCons (vI 4) aNil))) aNil))) (frz (fMeth tab_at (vI 1) (aCons (frz (fMeth tab_at (vI 2) (aCons (vI 4) aNil))) aNil))))) g_renaming_fault_3_1a_1 sNil)
abbrev g_renaming_fault_3B : FS := g_renaming_fault_3_1
abbrev g_renaming_fault_3 : FS := (sFor (itRg1 (vI 3)) (tName 4) g_renaming_fault_3B)
abbrev g_renaming_fault_4 : FS := (sRet (toE (kD .non)))
def g_renaming_fault : FS := (sSeq g_renaming_fault_1 (sSeq g_renaming_fault_2 (sSeq g_renaming_fault_3 g_renaming_fault_4)))
theorem S_renaming_fault : FnScope ["one", "other", "by", "multiple", "place"] ["one", "other", "by"] (defScope (top 25)) := ⟨rfl, rfl, rfl, by decide +kernel, rfl, by decide +kernel, by decide +kernel⟩
theorem kp_renaming_fault (v : Ev K mg base) : PySem.W.keepIn K (.ref (He.ga K "renaming_fault")) = true := (v.c.def_ 19 (d := d_renaming_fault) rfl).elim fun _ F => F.kp
theorem b_renaming_fault (v : Ev K mg base) (cdv : Value) (A : Around) (outer : List Env) (s : Shared) (H : Hp) (E : XK) (hr : TS.Room 4 (A.deeper (PyProof.Rows.envOfC "renaming_fault" (defScope (top 25)) s.heap.objs.size (He.ga K "renaming_fault") cdv))) (tk : Takes (cxOf (L2.CX P w) P w K mg base ["one", "other", "by", "multiple", "place"] "renaming_fault" (defScope (top 25)) (He.ga K "renaming_fault") cdv A outer s H E) (fun cls d _ H => E cls d H))
    (hp : PassesOwn (model P w) (A.deeper (PyProof.Rows.envOfC "renaming_fault" (defScope (top 25)) s.heap.objs.size (He.ga K "renaming_fault") cdv)) (PyProof.Rows.envOfC "renaming_fault" (defScope (top 25)) s.heap.objs.size (He.ga K "renaming_fault") cdv) (cxOf (L2.CX P w) P w K mg base ["one", "other", "by", "multiple", "place"] "renaming_fault" (defScope (top 25)) (He.ga K "renaming_fault") cdv A outer s H E).xe) : DSs (MM K) (fun cls d _ H => E cls d H) (cxOf (L2.CX P w) P w K mg base ["one", "other", "by", "multiple", "place"] "renaming_fault" (defScope (top 25)) (He.ga K "renaming_fault") cdv A outer s H E) (defBody (top 25)) g_renaming_fault :=
  (dss_cons (ds_set (i := 3) S_renaming_fault.nd (by rfl) (by first | exact Or.inl rfl | exact Or.inr rfl) (d_own (fun h => pe_own ((f_common_multiple v).mono (by decide)) hr tk (by rfl) (u_common_multiple v) (kp_common_multiple v) h) (da_cons (di_prop (propOk_of (PT_period v)) (hr.mono (by decide)) (di_var (pv 0))) (da_cons (di_prop (propOk_of (PT_period v)) (hr.mono (by decide)) (di_var (pv 1))) (da_cons (di_prop (propOk_of (PT_period v)) (hr.mono (by decide)) (di_var (pv 2))) da_nil)))))
    (dss_cons (ds_if (t_gt (di_var (pv 3)) (DI.pk (Exists.elim (cint_ok (v.c.fact 46 (f := .cint "Plan" "MAX_PERIOD" 2520))) fun _ hu => di_cval (pe_glob (by rfl) (u_Plan v) (by rfl)) (cread_ok (v.c.fact 29 (f := .cread "Plan"))) hu fun F => rep_int' _))) (dss_one (Exists.elim (xd_TooLong (P := P) (w := w) v) fun _ h => ds_raise (n := 115) (ns := ["multiple"]) rfl rfl rfl (ex_TooLong v).1 (ex_TooLong v).2.2.1 (ex_TooLong v).2.2.2 h.1 hr (by decide) (by decide) h.2 (by rfl) tk (by rfl) (u_TooLong v) (da_cons (di_var (pv 3)) da_nil))) dss_nil)
    (dss_cons (ds_for hp (by rfl) (dit_rg1 (by rfl) (u_range v) (di_var (pv 3))) (dg_name (pg_name S_renaming_fault.nd (by rfl) (by first | exact Or.inl rfl | exact Or.inr rfl))) (tgt_name 4) (dss_one (ds_if (t_ne hr (DE.frz (d_meth (fun h h' => pe_methD h (methOk_of (T_at v)) (hr.mono (by decide : 4 ≤ 4)) tk h') n_at (di_var (pv 2)) (da_cons (DE.frz (d_meth (fun h h' => pe_methD h (methOk_of (T_at v)) (hr.mono (by decide : 4 ≤ 4)) tk h') n_at (di_var (pv 0)) (da_cons (di_var (pv 4)) da_nil))) da_nil))) (DE.pk (d_meth (fun h h' => pe_methD h (methOk_of (T_at v)) (hr.mono (by decide : 4 ≤ 4)) tk h') n_at (di_var (pv 1)) (da_cons (DE.frz (d_meth (fun h h' => pe_methD h (methOk_of (T_at v)) (hr.mono (by decide : 4 ≤ 4)) tk h') n_at (di_var (pv 2)) (da_cons (di_var (pv 4)) da_nil))) da_nil)))) (dss_one (ds_ret (de_var (pv 4)))) dss_nil)))
    (dss_one (ds_ret (DI.toE di_non))))))
def m_renaming_fault : Fm := mir 5 3 g_renaming_fault
theorem o_renaming_fault (v : Ev K mg base) : ∃ fd, FunD K "renaming_fault" "renaming_fault" (defArgs (top 25)) (defBody (top 25)) (defScope (top 25)) [] [] (He.ga K "renaming_fault") fd ∧ TS.FnOk P w K mg base (L2.CX P w) 5 (He.ga K "renaming_fault") fd ["one", "other", "by"] (spD (MM K) m_renaming_fault) := by
  obtain ⟨fd, F⟩ := v.c.def_ 19 (d := d_renaming_fault) rfl
  exact ⟨fd, F, funD_mir (M := MM K) F S_renaming_fault (by decide) (fun cdv A outer s H E hr tk hp => b_renaming_fault v cdv A outer s H E hr tk hp)⟩
theorem f_renaming_fault (v : Ev K mg base) : TS.FnR P w K mg base (L2.CX P w) 5 (He.ga K "renaming_fault") (spD (MM K) m_renaming_fault) := by
  obtain ⟨fd, F, O⟩ := o_renaming_fault (P := P) (w := w) v
  exact fnR_raw (M := MM K) O (F.bindsN (ps := ["one", "other", "by"]) fun _ _ _ _ _ _ us hl => match us, hl with | [_, _, _], _ => rfl)
def m_fk_renaming_fault_0_by_other_one : Fm := fmIx 0 [2, 1, 0] m_renaming_fault
theorem fk_renaming_fault_0_by_other_one (v : Ev K mg base) : FnK P w K mg base (L2.CX P w) 5 (He.ga K "renaming_fault") 0 ["by", "other", "one"] (spD (MM K) m_fk_renaming_fault_0_by_other_one) := by
  obtain ⟨fd, F, O⟩ := o_renaming_fault (P := P) (w := w) v
  exact fnK_ix (M := MM K) (ix := [2, 1, 0]) O (kb_ix0 F fun _ _ _ _ _ _ us ws h1 h2 => match us, ws, h1, h2 with | [], [_, _, _], _, _ => rfl)
abbrev g__law_common_1 : FS := (sPar 0 1 (fCal gAbs (aOne (vP 0))) (fCal gAbs (aOne (vP 1))))
abbrev g__law_common_2_1 : FS := (sPar 0 1 (toE (vI 1)) (fBin gMod (frz (fCal gInt (aOne (vP 0)))) (vP 1)))
abbrev g__law_common_2B : FS := g__law_common_2_1
abbrev g__law_common_2 : FS := (sWhile (muI 1) (fTst (fBin gGt (vI 1) (kD (.int 0)))) g__law_common_2B)
abbrev g__law_common_3 : FS := (sRet (vR 0))
def g__law_common : FS := (sSeq g__law_common_1 (sSeq g__law_common_2 g__law_common_3))
theorem S__law_common : FnScope ["_law_source", "_law_goal"] ["_law_source", "_law_goal"] (defScope (top 34)) := ⟨rfl, rfl, rfl, by decide +kernel, rfl, by decide +kernel, by decide +kernel⟩
theorem kp__law_common (v : Ev K mg base) : PySem.W.keepIn K (.ref (He.ga K "_law_common")) = true := (v.c.def_ 20 (d := d__law_common) rfl).elim fun _ F => F.kp
theorem b__law_common (v : Ev K mg base) (cdv : Value) (A : Around) (outer : List Env) (s : Shared) (H : Hp) (E : XK) (hr : TS.Room 0 (A.deeper (PyProof.Rows.envOfC "_law_common" (defScope (top 34)) s.heap.objs.size (He.ga K "_law_common") cdv))) (tk : Takes (cxOf (L2.CX P w) P w K mg base ["_law_source", "_law_goal"] "_law_common" (defScope (top 34)) (He.ga K "_law_common") cdv A outer s H E) (fun cls d _ H => E cls d H))
    (hp : PassesOwn (model P w) (A.deeper (PyProof.Rows.envOfC "_law_common" (defScope (top 34)) s.heap.objs.size (He.ga K "_law_common") cdv)) (PyProof.Rows.envOfC "_law_common" (defScope (top 34)) s.heap.objs.size (He.ga K "_law_common") cdv) (cxOf (L2.CX P w) P w K mg base ["_law_source", "_law_goal"] "_law_common" (defScope (top 34)) (He.ga K "_law_common") cdv A outer s H E).xe) : DSs (MM K) (fun cls d _ H => E cls d H) (cxOf (L2.CX P w) P w K mg base ["_law_source", "_law_goal"] "_law_common" (defScope (top 34)) (He.ga K "_law_common") cdv A outer s H E) (defBody (top 34)) g__law_common :=
  (dss_cons (ds_par (i := 0) (j := 1) (by rfl) S__law_common.nd (by rfl) (by rfl) (by decide) (by rfl) (by rfl) (b_abs (by rfl) (u_abs v) (db_one (dp_var (pv 0)))) (b_abs (by rfl) (u_abs v) (db_one (dp_var (pv 1)))) (by rfl))
    (dss_cons (ds_while (muI 1) hp (t_gt (di_var (pv 1)) (DI.pk di_int)) (dss_one (ds_par (i := 0) (j := 1) (by rfl) S__law_common.nd (by rfl) (by rfl) (by decide) (by rfl) (by rfl) (DI.toE (di_var (pv 1))) (x_mod (DE.frz (b_int (by rfl) (u_int v) (db_one (dp_var (pv 0))))) (dp_var (pv 1))) (by rfl))))
    (dss_one (ds_ret (de_var (pv 0))))))
def m__law_common : Fm := mir 2 2 g__law_common
theorem o__law_common (v : Ev K mg base) : ∃ fd, FunD K "_law_common" "_law_common" (defArgs (top 34)) (defBody (top 34)) (defScope (top 34)) [] [] (He.ga K "_law_common") fd ∧ TS.FnOk P w K mg base (L2.CX P w) 1 (He.ga K "_law_common") fd ["_law_source", "_law_goal"] (spD (MM K) m__law_common) := by
  obtain ⟨fd, F⟩ := v.c.def_ 20 (d := d__law_common) rfl
  exact ⟨fd, F, funD_mir (M := MM K) F S__law_common (by decide) (fun cdv A outer s H E hr tk hp => b__law_common v cdv A outer s H E hr tk hp)⟩
theorem f__law_common (v : Ev K mg base) : TS.FnR P w K mg base (L2.CX P w) 1 (He.ga K "_law_common") (spD (MM K) m__law_common) := by
  obtain ⟨fd, F, O⟩ := o__law_common (P := P) (w := w) v
  exact fnR_raw (M := MM K) O (F.bindsN (ps := ["_law_source", "_law_goal"]) fun _ _ _ _ _ _ us hl => match us, hl with | [_, _], _ => rfl)
abbrev g__law_multiple_1 : FS := (sAsg (toE (kD (.int 1))) (tName 1))
abbrev g__law_multiple_2_1 : FS := (sAsg (fBin gFdiv (frz (fBin gMul (vI 1) (vP 2))) (frz (fOwn m__law_common (aCons (vI 1) (aCons (vI 2) aNil))))) (tName 1))
abbrev g__law_multiple_2B : FS := g__law_multiple_2_1
abbrev g__law_multiple_2 : FS := (sFor (itSeq (vI 0)) (tName 2) g__law_multiple_2B)
abbrev g__law_multiple_3 : FS := (sRet (vR 1))
def g__law_multiple : FS := (sSeq g__law_multiple_1 (sSeq g__law_multiple_2 g__law_multiple_3))
theorem S__law_multiple : FnScope ["_law_lengths", "_law_found", "_law_length"] ["_law_lengths"] (defScope (top 38)) := ⟨rfl, rfl, rfl, by decide +kernel, rfl, by decide +kernel, by decide +kernel⟩
theorem kp__law_multiple (v : Ev K mg base) : PySem.W.keepIn K (.ref (He.ga K "_law_multiple")) = true := (v.c.def_ 21 (d := d__law_multiple) rfl).elim fun _ F => F.kp
theorem b__law_multiple (v : Ev K mg base) (cdv : Value) (A : Around) (outer : List Env) (s : Shared) (H : Hp) (E : XK) (hr : TS.Room 1 (A.deeper (PyProof.Rows.envOfC "_law_multiple" (defScope (top 38)) s.heap.objs.size (He.ga K "_law_multiple") cdv))) (tk : Takes (cxOf (L2.CX P w) P w K mg base ["_law_lengths", "_law_found", "_law_length"] "_law_multiple" (defScope (top 38)) (He.ga K "_law_multiple") cdv A outer s H E) (fun cls d _ H => E cls d H))
    (hp : PassesOwn (model P w) (A.deeper (PyProof.Rows.envOfC "_law_multiple" (defScope (top 38)) s.heap.objs.size (He.ga K "_law_multiple") cdv)) (PyProof.Rows.envOfC "_law_multiple" (defScope (top 38)) s.heap.objs.size (He.ga K "_law_multiple") cdv) (cxOf (L2.CX P w) P w K mg base ["_law_lengths", "_law_found", "_law_length"] "_law_multiple" (defScope (top 38)) (He.ga K "_law_multiple") cdv A outer s H E).xe) : DSs (MM K) (fun cls d _ H => E cls d H) (cxOf (L2.CX P w) P w K mg base ["_law_lengths", "_law_found", "_law_length"] "_law_multiple" (defScope (top 38)) (He.ga K "_law_multiple") cdv A outer s H E) (defBody (top 38)) g__law_multiple :=
  (dss_cons (ds_set (i := 1) S__law_multiple.nd (by rfl) (by first | exact Or.inl rfl | exact Or.inr rfl) (DI.toE di_int))
    (dss_cons (ds_for hp (by rfl) (dit_list (di_var (pv 0))) (dg_name (pg_name S__law_multiple.nd (by rfl) (by first | exact Or.inl rfl | exact Or.inr rfl))) (tgt_name 2) (dss_one (ds_set (i := 1) S__law_multiple.nd (by rfl) (by first | exact Or.inl rfl | exact Or.inr rfl) (x_fdiv (DE.frz (x_mul (di_var (pv 1)) (dp_var (pv 2)))) (DE.pk (d_own (fun h => pe_own ((f__law_common v).mono (by decide)) hr tk (by rfl) (u__law_common v) (kp__law_common v) h) (da_cons (di_var (pv 1)) (da_cons (di_var (pv 2)) da_nil))))))))
    (dss_one (ds_ret (de_var (pv 1))))))
def m__law_multiple : Fm := mir 3 1 g__law_multiple
theorem o__law_multiple (v : Ev K mg base) : ∃ fd, FunD K "_law_multiple" "_law_multiple" (defArgs (top 38)) (defBody (top 38)) (defScope (top 38)) [] [] (He.ga K "_law_multiple") fd ∧ TS.FnOk P w K mg base (L2.CX P w) 2 (He.ga K "_law_multiple") fd ["_law_lengths"] (spD (MM K) m__law_multiple) := by
  obtain ⟨fd, F⟩ := v.c.def_ 21 (d := d__law_multiple) rfl
  exact ⟨fd, F, funD_mir (M := MM K) F S__law_multiple (by decide) (fun cdv A outer s H E hr tk hp => b__law_multiple v cdv A outer s H E hr tk hp)⟩
theorem f__law_multiple (v : Ev K mg base) : TS.FnR P w K mg base (L2.CX P w) 2 (He.ga K "_law_multiple") (spD (MM K) m__law_multiple) := by
  obtain ⟨fd, F, O⟩ := o__law_multiple (P := P) (w := w) v
  exact fnR_raw (M := MM K) O (F.bindsN (ps := ["_law_lengths"]) fun _ _ _ _ _ _ us hl => match us, hl with | [_], _ => rfl)
abbrev g__law_at_1 : FS := (sRet (fBin gAdd (vI 1) (frz (fBin gIx (vI 0) (frz (fBin gMod (frz (fCal gInt (aOne (vP 1)))) (frz (fCal gLen (aOne (vP 0))))))))))
def g__law_at : FS := g__law_at_1
theorem S__law_at : FnScope ["_law_table_here", "_law_place"] ["_law_table_here", "_law_place"] (defScope (top 33)) := ⟨rfl, rfl, rfl, by decide +kernel, rfl, by decide +kernel, by decide +kernel⟩
theorem kp__law_at (v : Ev K mg base) : PySem.W.keepIn K (.ref (He.ga K "_law_at")) = true := (v.c.def_ 22 (d := d__law_at) rfl).elim fun _ F => F.kp
theorem b__law_at (v : Ev K mg base) (cdv : Value) (A : Around) (outer : List Env) (s : Shared) (H : Hp) (E : XK) (hr : TS.Room 0 (A.deeper (PyProof.Rows.envOfC "_law_at" (defScope (top 33)) s.heap.objs.size (He.ga K "_law_at") cdv))) (tk : Takes (cxOf (L2.CX P w) P w K mg base ["_law_table_here", "_law_place"] "_law_at" (defScope (top 33)) (He.ga K "_law_at") cdv A outer s H E) (fun cls d _ H => E cls d H))
    (hp : PassesOwn (model P w) (A.deeper (PyProof.Rows.envOfC "_law_at" (defScope (top 33)) s.heap.objs.size (He.ga K "_law_at") cdv)) (PyProof.Rows.envOfC "_law_at" (defScope (top 33)) s.heap.objs.size (He.ga K "_law_at") cdv) (cxOf (L2.CX P w) P w K mg base ["_law_table_here", "_law_place"] "_law_at" (defScope (top 33)) (He.ga K "_law_at") cdv A outer s H E).xe) : DSs (MM K) (fun cls d _ H => E cls d H) (cxOf (L2.CX P w) P w K mg base ["_law_table_here", "_law_place"] "_law_at" (defScope (top 33)) (He.ga K "_law_at") cdv A outer s H E) (defBody (top 33)) g__law_at :=
  (dss_one (ds_ret (x_add (di_var (pv 1)) (DE.pk (x_ix hr (di_var (pv 0)) (DE.pk (x_mod (DE.frz (b_int (by rfl) (u_int v) (db_one (dp_var (pv 1))))) (DE.pk (b_len (by rfl) (u_len v) (db_one (dp_var (pv 0))))))))))))
def m__law_at : Fm := mir 2 2 g__law_at
theorem o__law_at (v : Ev K mg base) : ∃ fd, FunD K "_law_at" "_law_at" (defArgs (top 33)) (defBody (top 33)) (defScope (top 33)) [] [] (He.ga K "_law_at") fd ∧ TS.FnOk P w K mg base (L2.CX P w) 1 (He.ga K "_law_at") fd ["_law_table_here", "_law_place"] (spD (MM K) m__law_at) := by
  obtain ⟨fd, F⟩ := v.c.def_ 22 (d := d__law_at) rfl
  exact ⟨fd, F, funD_mir (M := MM K) F S__law_at (by decide) (fun cdv A outer s H E hr tk hp => b__law_at v cdv A outer s H E hr tk hp)⟩
theorem f__law_at (v : Ev K mg base) : TS.FnR P w K mg base (L2.CX P w) 1 (He.ga K "_law_at") (spD (MM K) m__law_at) := by
  obtain ⟨fd, F, O⟩ := o__law_at (P := P) (w := w) v
  exact fnR_raw (M := MM K) O (F.bindsN (ps := ["_law_table_here", "_law_place"]) fun _ _ _ _ _ _ us hl => match us, hl with | [_, _], _ => rfl)
abbrev g__law_due_1_1a_1 : FS := (sRet (vR 3))
abbrev g__law_due_1_1 : FS := (sIf (fTst (fBin gNe (frz (fOwn m__law_at (aCons (vI 2) (aCons (frz (fOwn m__law_at (aCons (vI 0) (aCons (vI 3) aNil)))) aNil)))) (frz (fOwn m__law_at (aCons (vI 1) (aCons (frz (fOwn m__law_at (aCons (vI 2) (aCons (vI 3) aNil)))) aNil)))))) g__law_due_1_1a_1 sNil)
abbrev g__law_due_1B : FS := g__law_due_1_1
abbrev g__law_due_1 : FS := (sFor (itRg1 (frz (fOwn m__law_multiple (aCons (frz (fLst (aCons (frz (fCal gLen (aOne (vP 0)))) (aCons (frz (fCal gLen (aOne (vP 1)))) (aCons (frz (fCal gLen (aOne (vP 2)))) aNil))))) aNil)))) (tName 3) g__law_due_1B)
abbrev g__law_due_2 : FS := (sRet (toE (kD .non)))
def g__law_due : FS := (sSeq g__law_due_1 g__law_due_2)
theorem S__law_due : FnScope ["_law_source", "_law_goal", "_law_key", "_law_place"] ["_law_source", "_law_goal", "_law_key"] (defScope (top 39)) := ⟨rfl, rfl, rfl, by decide +kernel, rfl, by decide +kernel, by decide +kernel⟩
theorem kp__law_due (v : Ev K mg base) : PySem.W.keepIn K (.ref (He.ga K "_law_due")) = true := (v.c.def_ 23 (d := d__law_due) rfl).elim fun _ F => F.kp
theorem b__law_due (v : Ev K mg base) (cdv : Value) (A : Around) (outer : List Env) (s : Shared) (H : Hp) (E : XK) (hr : TS.Room 2 (A.deeper (PyProof.Rows.envOfC "_law_due" (defScope (top 39)) s.heap.objs.size (He.ga K "_law_due") cdv))) (tk : Takes (cxOf (L2.CX P w) P w K mg base ["_law_source", "_law_goal", "_law_key", "_law_place"] "_law_due" (defScope (top 39)) (He.ga K "_law_due") cdv A outer s H E) (fun cls d _ H => E cls d H))
    (hp : PassesOwn (model P w) (A.deeper (PyProof.Rows.envOfC "_law_due" (defScope (top 39)) s.heap.objs.size (He.ga K "_law_due") cdv)) (PyProof.Rows.envOfC "_law_due" (defScope (top 39)) s.heap.objs.size (He.ga K "_law_due") cdv) (cxOf (L2.CX P w) P w K mg base ["_law_source", "_law_goal", "_law_key", "_law_place"] "_law_due" (defScope (top 39)) (He.ga K "_law_due") cdv A outer s H E).xe) : DSs (MM K) (fun cls d _ H => E cls d H) (cxOf (L2.CX P w) P w K mg base ["_law_source", "_law_goal", "_law_key", "_law_place"] "_law_due" (defScope (top 39)) (He.ga K "_law_due") cdv A outer s H E) (defBody (top 39)) g__law_due :=
  (dss_cons (ds_for hp (by rfl) (dit_rg1 (by rfl) (u_range v) (DE.frz (d_own (fun h => pe_own ((f__law_multiple v).mono (by decide)) hr tk (by rfl) (u__law_multiple v) (kp__law_multiple v) h) (da_cons (DE.frz (de_lst (da_cons (DE.frz (b_len (by rfl) (u_len v) (db_one (dp_var (pv 0))))) (da_cons (DE.frz (b_len (by rfl) (u_len v) (db_one (dp_var (pv 1))))) (da_cons (DE.frz (b_len (by rfl) (u_len v) (db_one (dp_var (pv 2))))) da_nil))))) da_nil)))) (dg_name (pg_name S__law_due.nd (by rfl) (by first | exact Or.inl rfl | exact Or.inr rfl))) (tgt_name 3) (dss_one (ds_if (t_ne hr (DE.frz (d_own (fun h => pe_own ((f__law_at v).mono (by decide)) hr tk (by rfl) (u__law_at v) (kp__law_at v) h) (da_cons (di_var (pv 2)) (da_cons (DE.frz (d_own (fun h => pe_own ((f__law_at v).mono (by decide)) hr tk (by rfl) (u__law_at v) (kp__law_at v) h) (da_cons (di_var (pv 0)) (da_cons (di_var (pv 3)) da_nil)))) da_nil)))) (DE.pk (d_own (fun h => pe_own ((f__law_at v).mono (by decide)) hr tk (by rfl) (u__law_at v) (kp__law_at v) h) (da_cons (di_var (pv 1)) (da_cons (DE.frz (d_own (fun h => pe_own ((f__law_at v).mono (by decide)) hr tk (by rfl) (u__law_at v) (kp__law_at v) h) (da_cons (di_var (pv 2)) (da_cons (di_var (pv 3)) da_nil)))) da_nil))))) (dss_one (ds_ret (de_var (pv 3)))) dss_nil)))
    (dss_one (ds_ret (DI.toE di_non))))
def m__law_due : Fm := mir 4 3 g__law_due
theorem o__law_due (v : Ev K mg base) : ∃ fd, FunD K "_law_due" "_law_due" (defArgs (top 39)) (defBody (top 39)) (defScope (top 39)) [] [] (He.ga K "_law_due") fd ∧ TS.FnOk P w K mg base (L2.CX P w) 3 (He.ga K "_law_due") fd ["_law_source", "_law_goal", "_law_key"] (spD (MM K) m__law_due) := by
  obtain ⟨fd, F⟩ := v.c.def_ 23 (d := d__law_due) rfl
  exact ⟨fd, F, funD_mir (M := MM K) F S__law_due (by decide) (fun cdv A outer s H E hr tk hp => b__law_due v cdv A outer s H E hr tk hp)⟩
theorem f__law_due (v : Ev K mg base) : TS.FnR P w K mg base (L2.CX P w) 3 (He.ga K "_law_due") (spD (MM K) m__law_due) := by
  obtain ⟨fd, F, O⟩ := o__law_due (P := P) (w := w) v
  exact fnR_raw (M := MM K) O (F.bindsN (ps := ["_law_source", "_law_goal", "_law_key"]) fun _ _ _ _ _ _ us hl => match us, hl with | [_, _, _], _ => rfl)
abbrev g__law_asked_1 : FS := (sAsg (fLst (aCons (frz (fMake 0 m_Plan___init__ (aCons (vI 0) aNil))) (aCons (frz (fMake 0 m_Plan___init__ (aCons (vI 1) aNil))) (aCons (frz (fMake 0 m_Plan___init__ (aCons (vI 2) aNil))) aNil)))) (tName 3))
abbrev g__law_asked_2 : FS := (sAsg (toE (fReprL gtab_repr (vI 3))) (tName 4))
abbrev g__law_asked_3a_1 : FS := (sRet (toE (kD (.bl false))))
abbrev g__law_asked_3 : FS := (sIf (fTst (fBin gNotN (frz (fOwn m_renaming_fault (aCons (frz (fBin gIx (vI 3) (kD (.int 0)))) (aCons (frz (fBin gIx (vI 3) (kD (.int 0)))) (aCons (frz (fBin gIx (vI 3) (kD (.int 0)))) aNil))))) (kD .non))) g__law_asked_3a_1 sNil)
abbrev g__law_asked_4 : FS := (sAsg (fLst (aCons (frz (fOwn m_renaming_fault (aCons (frz (fBin gIx (vI 3) (kD (.int 0)))) (aCons (frz (fBin gIx (vI 3) (kD (.int 1)))) (aCons (frz (fBin gIx (vI 3) (kD (.int 2)))) aNil))))) (aCons (frz (fOwnK0 m_fk_renaming_fault_0_by_other_one 3 (aCons (frz (fBin gIx (vI 3) (kD (.int 2)))) (aCons (frz (fBin gIx (vI 3) (kD (.int 1)))) (aCons (frz (fBin gIx (vI 3) (kD (.int 0)))) aNil))))) aNil))) (tName 5))
abbrev g__law_asked_5 : FS := (sRet (fAndV (frz (fBin gEq (frz (fCal gRepr (aOne (vP 5)))) (frz (fCal gRepr (aOne (frz (fBin gMul (frz (fLst (aCons (frz (fOwn m__law_due (aCons (vI 0) (aCons (vI 1) (aCons (vI 2) aNil))))) aNil))) (kD (.int 2))))))))) (fBin gEq (fReprL gtab_repr (vI 3)) (vP 4))))
def g__law_asked : FS := (sSeq g__law_asked_1 (sSeq g__law_asked_2 (sSeq g__law_asked_3 (sSeq g__law_asked_4 g__law_asked_5))))
theorem S__law_asked : FnScope ["_law_source", "_law_goal", "_law_key", "_law_plans", "_law_shown", "_law_told"] ["_law_source", "_law_goal", "_law_key"] (defScope (top 40)) := ⟨rfl, rfl, rfl, by decide +kernel, rfl, by decide +kernel, by decide +kernel⟩
theorem kp__law_asked (v : Ev K mg base) : PySem.W.keepIn K (.ref (He.ga K "_law_asked")) = true := (v.c.def_ 24 (d := d__law_asked) rfl).elim fun _ F => F.kp
theorem b__law_asked (v : Ev K mg base) (cdv : Value) (A : Around) (outer : List Env) (s : Shared) (H : Hp) (E : XK) (hr : TS.Room 5 (A.deeper (PyProof.Rows.envOfC "_law_asked" (defScope (top 40)) s.heap.objs.size (He.ga K "_law_asked") cdv))) (tk : Takes (cxOf (L2.CX P w) P w K mg base ["_law_source", "_law_goal", "_law_key", "_law_plans", "_law_shown", "_law_told"] "_law_asked" (defScope (top 40)) (He.ga K "_law_asked") cdv A outer s H E) (fun cls d _ H => E cls d H))
    (hp : PassesOwn (model P w) (A.deeper (PyProof.Rows.envOfC "_law_asked" (defScope (top 40)) s.heap.objs.size (He.ga K "_law_asked") cdv)) (PyProof.Rows.envOfC "_law_asked" (defScope (top 40)) s.heap.objs.size (He.ga K "_law_asked") cdv) (cxOf (L2.CX P w) P w K mg base ["_law_source", "_law_goal", "_law_key", "_law_plans", "_law_shown", "_law_told"] "_law_asked" (defScope (top 40)) (He.ga K "_law_asked") cdv A outer s H E).xe) : DSs (MM K) (fun cls d _ H => E cls d H) (cxOf (L2.CX P w) P w K mg base ["_law_source", "_law_goal", "_law_key", "_law_plans", "_law_shown", "_law_told"] "_law_asked" (defScope (top 40)) (He.ga K "_law_asked") cdv A outer s H E) (defBody (top 40)) g__law_asked :=
  (dss_cons (ds_set (i := 3) S__law_asked.nd (by rfl) (by first | exact Or.inl rfl | exact Or.inr rfl) (de_lst (da_cons (DE.frz (d_make (fun h => pe_makeS (He.mkr_ok (v.c.fact 34 (f := .he (.mkr "Plan")))) ((f_Plan___init__ v).mono (by decide)) (hr.mono (by decide : 5 ≤ 5)) tk (by rfl) (u_Plan v) h) rfl (da_cons (di_var (pv 0)) da_nil))) (da_cons (DE.frz (d_make (fun h => pe_makeS (He.mkr_ok (v.c.fact 34 (f := .he (.mkr "Plan")))) ((f_Plan___init__ v).mono (by decide)) (hr.mono (by decide : 5 ≤ 5)) tk (by rfl) (u_Plan v) h) rfl (da_cons (di_var (pv 1)) da_nil))) (da_cons (DE.frz (d_make (fun h => pe_makeS (He.mkr_ok (v.c.fact 34 (f := .he (.mkr "Plan")))) ((f_Plan___init__ v).mono (by decide)) (hr.mono (by decide : 5 ≤ 5)) tk (by rfl) (u_Plan v) h) rfl (da_cons (di_var (pv 2)) da_nil))) da_nil)))))
    (dss_cons (ds_set (i := 4) S__law_asked.nd (by rfl) (by first | exact Or.inl rfl | exact Or.inr rfl) (DI.toE (b_reprL (SPG v) (by decide) (smd_ok (v.c.fact 36 (f := .smd))) hr (by rfl) (u_repr v) (di_var (pv 3)))))
    (dss_cons (ds_if (t_notN (DE.frz (d_own (fun h => pe_own ((f_renaming_fault v).mono (by decide)) hr tk (by rfl) (u_renaming_fault v) (kp_renaming_fault v) h) (da_cons (DE.frz (x_ix hr (di_var (pv 3)) (DI.pk di_int))) (da_cons (DE.frz (x_ix hr (di_var (pv 3)) (DI.pk di_int))) (da_cons (DE.frz (x_ix hr (di_var (pv 3)) (DI.pk di_int))) da_nil))))) (DI.pk di_non)) (dss_one (ds_ret (DI.toE di_bl))) dss_nil)
    (dss_cons (ds_set (i := 5) S__law_asked.nd (by rfl) (by first | exact Or.inl rfl | exact Or.inr rfl) (de_lst (da_cons (DE.frz (d_own (fun h => pe_own ((f_renaming_fault v).mono (by decide)) hr tk (by rfl) (u_renaming_fault v) (kp_renaming_fault v) h) (da_cons (DE.frz (x_ix hr (di_var (pv 3)) (DI.pk di_int))) (da_cons (DE.frz (x_ix hr (di_var (pv 3)) (DI.pk di_int))) (da_cons (DE.frz (x_ix hr (di_var (pv 3)) (DI.pk di_int))) da_nil))))) (da_cons (DE.frz (d_ownK0 (fun h' => pe_ownK0 ((fk_renaming_fault_0_by_other_one v).mono (by decide)) hr tk (by rfl) (u_renaming_fault v) (kp_renaming_fault v) h') (dk_cons (DE.frz (x_ix hr (di_var (pv 3)) (DI.pk di_int))) (dk_cons (DE.frz (x_ix hr (di_var (pv 3)) (DI.pk di_int))) (dk_cons (DE.frz (x_ix hr (di_var (pv 3)) (DI.pk di_int))) dk_nil))))) da_nil))))
    (dss_one (ds_ret (de_and (DE.frz (x_eq hr (DE.frz (b_reprD hr (by rfl) (u_repr v) (db_one (dp_var (pv 5))))) (DE.pk (b_reprD hr (by rfl) (u_repr v) (db_one (DE.pk (x_mul (DE.frz (de_lst (da_cons (DE.frz (d_own (fun h => pe_own ((f__law_due v).mono (by decide)) hr tk (by rfl) (u__law_due v) (kp__law_due v) h) (da_cons (di_var (pv 0)) (da_cons (di_var (pv 1)) (da_cons (di_var (pv 2)) da_nil))))) da_nil))) (DI.pk di_int)))))))) (de_one (x_eq hr (b_reprL (SPG v) (by decide) (smd_ok (v.c.fact 36 (f := .smd))) hr (by rfl) (u_repr v) (di_var (pv 3))) (dp_var (pv 4)))))))))))
def m__law_asked : Fm := mir 6 3 g__law_asked
theorem o__law_asked (v : Ev K mg base) : ∃ fd, FunD K "_law_asked" "_law_asked" (defArgs (top 40)) (defBody (top 40)) (defScope (top 40)) [] [] (He.ga K "_law_asked") fd ∧ TS.FnOk P w K mg base (L2.CX P w) 6 (He.ga K "_law_asked") fd ["_law_source", "_law_goal", "_law_key"] (spD (MM K) m__law_asked) := by
  obtain ⟨fd, F⟩ := v.c.def_ 24 (d := d__law_asked) rfl
  exact ⟨fd, F, funD_mir (M := MM K) F S__law_asked (by decide) (fun cdv A outer s H E hr tk hp => b__law_asked v cdv A outer s H E hr tk hp)⟩
theorem f__law_asked (v : Ev K mg base) : TS.FnR P w K mg base (L2.CX P w) 6 (He.ga K "_law_asked") (spD (MM K) m__law_asked) := by
  obtain ⟨fd, F, O⟩ := o__law_asked (P := P) (w := w) v
  exact fnR_raw (M := MM K) O (F.bindsN (ps := ["_law_source", "_law_goal", "_law_key"]) fun _ _ _ _ _ _ us hl => match us, hl with | [_, _, _], _ => rfl)
abbrev g__law_bound_right_1 : FS := (sAsg (fLc (stName 4) [4] (itSeq (frz (fOwnIo m__law_shuffled 0 (aCons (frz (fLst (aCons (kD (.int 8)) (aCons (kD (.int 9)) (aCons (kD (.int 35)) aNil))))) aNil)))) tTrue (frz (fOwnIo m__law_table 0 (aCons (vI 4) (aCons (kD (.int 1)) aNil))))) (tName 1))
abbrev g__law_bound_right_2a_1 : FS := (sRet (toE (kD (.bl false))))
abbrev g__law_bound_right_2 : FS := (sIf (fNot (fTst (fOwn m__law_asked (aCons (frz (fBin gIx (vI 1) (kD (.int 0)))) (aCons (frz (fBin gIx (vI 1) (kD (.int 1)))) (aCons (frz (fBin gIx (vI 1) (kD (.int 2)))) aNil)))))) g__law_bound_right_2a_1 sNil)
abbrev g__law_bound_right_3 : FS := (sPar 2 3 (fBin gMul (frz (fLst (aCons (kD (.int 0)) aNil))) (kD (.int 2000))) (fBin gAdd (kD (.int 1000)) (frz (fOwnIo m__law_draw 0 (aCons (kD (.int 990)) aNil)))))
abbrev g__law_bound_right_4 : FS := (sAsg (toE (fTup (aCons (kD (.int 1)) (aCons (fUnI (fun i => -i) (kD (.int 1))) aNil)))) (tTup 2 (tsCons (tSub 2 (vI 3)) (tsCons (tSub 2 (frz (fBin gAdd (vI 3) (kD (.int 1))))) tsNil))))
abbrev g__law_bound_right_5 : FS := (sRet (fAndV (frz (fOwn m__law_asked (aCons (vI 2) (aCons (frz (fLst (aCons (kD (.int 0)) aNil))) (aCons (frz (fLst (aCons (kD (.int 0)) aNil))) aNil))))) (fOwn m__law_asked (aCons (frz (fLst (aCons (kD (.int 0)) aNil))) (aCons (vI 2) (aCons (frz (fLst (aCons (kD (.int 0)) aNil))) aNil))))))
def g__law_bound_right : FS := (sSeq g__law_bound_right_1 (sSeq g__law_bound_right_2 (sSeq g__law_bound_right_3 (sSeq g__law_bound_right_4 g__law_bound_right_5))))
theorem S__law_bound_right : FnScope ["_law_pot_here", "_law_tables", "_law_source", "_law_late", "_law_period"] ["_law_pot_here"] (defScope (top 43)) := ⟨rfl, rfl, rfl, by decide +kernel, rfl, by decide +kernel, by decide +kernel⟩
theorem kp__law_bound_right (v : Ev K mg base) : PySem.W.keepIn K (.ref (He.ga K "_law_bound_right")) = true := (v.c.def_ 25 (d := d__law_bound_right) rfl).elim fun _ F => F.kp
theorem b__law_bound_right (v : Ev K mg base) (cdv : Value) (A : Around) (outer : List Env) (s : Shared) (H : Hp) (E : XK) (hr : TS.Room 6 (A.deeper (PyProof.Rows.envOfC "_law_bound_right" (defScope (top 43)) s.heap.objs.size (He.ga K "_law_bound_right") cdv))) (tk : Takes (cxOf (L2.CX P w) P w K mg base ["_law_pot_here", "_law_tables", "_law_source", "_law_late", "_law_period"] "_law_bound_right" (defScope (top 43)) (He.ga K "_law_bound_right") cdv A outer s H E) (fun cls d _ H => E cls d H))
    (hp : PassesOwn (model P w) (A.deeper (PyProof.Rows.envOfC "_law_bound_right" (defScope (top 43)) s.heap.objs.size (He.ga K "_law_bound_right") cdv)) (PyProof.Rows.envOfC "_law_bound_right" (defScope (top 43)) s.heap.objs.size (He.ga K "_law_bound_right") cdv) (cxOf (L2.CX P w) P w K mg base ["_law_pot_here", "_law_tables", "_law_source", "_law_late", "_law_period"] "_law_bound_right" (defScope (top 43)) (He.ga K "_law_bound_right") cdv A outer s H E).xe) : DSs (MM K) (fun cls d _ H => E cls d H) (cxOf (L2.CX P w) P w K mg base ["_law_pot_here", "_law_tables", "_law_source", "_law_late", "_law_period"] "_law_bound_right" (defScope (top 43)) (He.ga K "_law_bound_right") cdv A outer s H E) (defBody (top 43)) g__law_bound_right :=
  (dss_cons (ds_setLc (i := 1) (own := [("_law_period", 4)]) (by rfl) (by rfl) S__law_bound_right.nd (by rfl) (by rfl) (by rfl) (dit_list (DE.frz (d_ownIo (fun h => pe_own ((f__law_shuffled v).mono (by decide)) hr tk (by rfl) (u__law_shuffled v) (kp__law_shuffled v) h) (pv 0) (da_cons (DE.frz (de_lst (da_cons di_int (da_cons di_int (da_cons di_int da_nil))))) da_nil)))) (blkOk_by (by kernel_rfl)) (st_name 4) (fun _ _ _ _ _ => pg_name S__law_bound_right.nd (by rfl) (by first | exact Or.inl rfl | exact Or.inr rfl)) (fun _ _ _ _ _ => pts_no) (fun _ _ _ _ _ => (DE.frz (d_ownIo (fun h => pe_own ((f__law_table v).mono (by decide)) hr TS.takes0 (by rfl) (u__law_table v) (kp__law_table v) h) (pv 0) (da_cons (di_var (pv 4)) (da_cons di_int da_nil))))))
    (dss_cons (ds_if (dt_not (dt_val (d_own (fun h => pe_own ((f__law_asked v).mono (by decide)) hr tk (by rfl) (u__law_asked v) (kp__law_asked v) h) (da_cons (DE.frz (x_ix hr (di_var (pv 1)) (DI.pk di_int))) (da_cons (DE.frz (x_ix hr (di_var (pv 1)) (DI.pk di_int))) (da_cons (DE.frz (x_ix hr (di_var (pv 1)) (DI.pk di_int))) da_nil)))))) (dss_one (ds_ret (DI.toE di_bl))) dss_nil)
    (dss_cons (ds_par (i := 2) (j := 3) (by rfl) S__law_bound_right.nd (by rfl) (by rfl) (by decide) (by rfl) (by rfl) (x_mul (DE.frz (de_lst (da_cons di_int da_nil))) (DI.pk di_int)) (x_add di_int (DE.pk (d_ownIo (fun h => pe_own ((f__law_draw v).mono (by decide)) hr tk (by rfl) (u__law_draw v) (kp__law_draw v) h) (pv 0) (da_cons di_int da_nil)))) (by rfl))
    (dss_cons (ds_asg (DI.toE (di_tup (da_cons di_int (da_cons (di_neg di_int) da_nil)))) (dg_tup (by rfl) (dgs_cons (dg_sub (pv 2) (di_var (pv 3)) (hu_of hr)) (dgs_cons (dg_sub (pv 2) (DE.frz (x_add (di_var (pv 3)) (DI.pk di_int))) (hu_of hr)) dgs_nil))) (tgt_tup (tgs_cons tgt_sub (tgs_cons tgt_sub tgs_nil))))
    (dss_one (ds_ret (de_and (DE.frz (d_own (fun h => pe_own ((f__law_asked v).mono (by decide)) hr tk (by rfl) (u__law_asked v) (kp__law_asked v) h) (da_cons (di_var (pv 2)) (da_cons (DE.frz (de_lst (da_cons di_int da_nil))) (da_cons (DE.frz (de_lst (da_cons di_int da_nil))) da_nil))))) (de_one (d_own (fun h => pe_own ((f__law_asked v).mono (by decide)) hr tk (by rfl) (u__law_asked v) (kp__law_asked v) h) (da_cons (DE.frz (de_lst (da_cons di_int da_nil))) (da_cons (di_var (pv 2)) (da_cons (DE.frz (de_lst (da_cons di_int da_nil))) da_nil))))))))))))
def m__law_bound_right : Fm := mir 5 1 g__law_bound_right
theorem o__law_bound_right (v : Ev K mg base) : ∃ fd, FunD K "_law_bound_right" "_law_bound_right" (defArgs (top 43)) (defBody (top 43)) (defScope (top 43)) [] [] (He.ga K "_law_bound_right") fd ∧ TS.FnOk P w K mg base (L2.CX P w) 7 (He.ga K "_law_bound_right") fd ["_law_pot_here"] (spD (MM K) m__law_bound_right) := by
  obtain ⟨fd, F⟩ := v.c.def_ 25 (d := d__law_bound_right) rfl
  exact ⟨fd, F, funD_mir (M := MM K) F S__law_bound_right (by decide) (fun cdv A outer s H E hr tk hp => b__law_bound_right v cdv A outer s H E hr tk hp)⟩
theorem f__law_bound_right (v : Ev K mg base) : TS.FnR P w K mg base (L2.CX P w) 7 (He.ga K "_law_bound_right") (spD (MM K) m__law_bound_right) := by
  obtain ⟨fd, F, O⟩ := o__law_bound_right (P := P) (w := w) v
  exact fnR_raw (M := MM K) O (F.bindsN (ps := ["_law_pot_here"]) fun _ _ _ _ _ _ us hl => match us, hl with | [_], _ => rfl)
abbrev g__law_pot_1 : FS := (sAsg (fBin gAdd (frz (fBin gMul (kD (.int 29)) (vP 1))) (kD (.int 11))) (tName 2))
abbrev g__law_pot_2a_1 : FS := (sAsg (fCal gAbs (aOne (frz (fBin gIx (vI 0) (vP 1))))) (tName 2))
abbrev g__law_pot_2 : FS := (sIf (fTst (fBin gLt (vI 1) (frz (fCal gLen (aOne (vP 0)))))) g__law_pot_2a_1 sNil)
abbrev g__law_pot_3 : FS := (sRet (fLst (aCons (frz (fCal gMax (aCons (kD (.int 0)) (aCons (frz (fBin gSub (vI 2) (frz (fBin gPow (kD (.int 10)) (kD (.int 18)))))) aNil)))) (aCons (frz (fBin gAdd (frz (fBin gMod (frz (fCal gInt (aOne (frz (fBin gAdd (frz (fBin gAdd (frz (fBin gMul (frz (fBin gMod (frz (fCal gInt (aOne (vP 2)))) (kD (.int 2147483563)))) (kD (.int 44017)))) (frz (fBin gMul (kD (.int 7129)) (vP 1))))) (kD (.int 53))))))) (kD (.int 2147483629)))) (kD (.int 1)))) aNil))))
def g__law_pot : FS := (sSeq g__law_pot_1 (sSeq g__law_pot_2 g__law_pot_3))
theorem S__law_pot : FnScope ["_law_script", "_law_k", "_law_cell"] ["_law_script", "_law_k"] (defScope (top 27)) := ⟨rfl, rfl, rfl, by decide +kernel, rfl, by decide +kernel, by decide +kernel⟩
theorem kp__law_pot (v : Ev K mg base) : PySem.W.keepIn K (.ref (He.ga K "_law_pot")) = true := (v.c.def_ 26 (d := d__law_pot) rfl).elim fun _ F => F.kp
theorem b__law_pot (v : Ev K mg base) (cdv : Value) (A : Around) (outer : List Env) (s : Shared) (H : Hp) (E : XK) (hr : TS.Room 0 (A.deeper (PyProof.Rows.envOfC "_law_pot" (defScope (top 27)) s.heap.objs.size (He.ga K "_law_pot") cdv))) (tk : Takes (cxOf (L2.CX P w) P w K mg base ["_law_script", "_law_k", "_law_cell"] "_law_pot" (defScope (top 27)) (He.ga K "_law_pot") cdv A outer s H E) (fun cls d _ H => E cls d H))
    (hp : PassesOwn (model P w) (A.deeper (PyProof.Rows.envOfC "_law_pot" (defScope (top 27)) s.heap.objs.size (He.ga K "_law_pot") cdv)) (PyProof.Rows.envOfC "_law_pot" (defScope (top 27)) s.heap.objs.size (He.ga K "_law_pot") cdv) (cxOf (L2.CX P w) P w K mg base ["_law_script", "_law_k", "_law_cell"] "_law_pot" (defScope (top 27)) (He.ga K "_law_pot") cdv A outer s H E).xe) : DSs (MM K) (fun cls d _ H => E cls d H) (cxOf (L2.CX P w) P w K mg base ["_law_script", "_law_k", "_law_cell"] "_law_pot" (defScope (top 27)) (He.ga K "_law_pot") cdv A outer s H E) (defBody (top 27)) g__law_pot :=
  (dss_cons (ds_set (i := 2) S__law_pot.nd (by rfl) (by first | exact Or.inl rfl | exact Or.inr rfl) (x_add (DE.frz (x_mul di_int (dp_var (pv 1)))) (DI.pk di_int)))
    (dss_cons (ds_if (t_lt (di_var (pv 1)) (DE.pk (b_len (by rfl) (u_len v) (db_one (dp_var (pv 0)))))) (dss_one (ds_set (i := 2) S__law_pot.nd (by rfl) (by first | exact Or.inl rfl | exact Or.inr rfl) (b_abs (by rfl) (u_abs v) (db_one (DE.pk (x_ix hr (di_var (pv 0)) (dp_var (pv 1)))))))) dss_nil)
    (dss_one (ds_ret (de_lst (da_cons (DE.frz (b_max (by rfl) (by rfl) (u_max v) (DA.b (da_cons di_int (da_cons (DE.frz (x_sub (di_var (pv 2)) (DE.pk (x_pow di_int (DI.pk di_int))))) da_nil))))) (da_cons (DE.frz (x_add (DE.frz (x_mod (DE.frz (b_int (by rfl) (u_int v) (db_one (DE.pk (x_add (DE.frz (x_add (DE.frz (x_mul (DE.frz (x_mod (DE.frz (b_int (by rfl) (u_int v) (db_one (dp_var (pv 2))))) (DI.pk di_int))) (DI.pk di_int))) (DE.pk (x_mul di_int (dp_var (pv 1)))))) (DI.pk di_int)))))) (DI.pk di_int))) (DI.pk di_int))) da_nil)))))))
def m__law_pot : Fm := mir 3 2 g__law_pot
theorem o__law_pot (v : Ev K mg base) : ∃ fd, FunD K "_law_pot" "_law_pot" (defArgs (top 27)) (defBody (top 27)) (defScope (top 27)) [] [] (He.ga K "_law_pot") fd ∧ TS.FnOk P w K mg base (L2.CX P w) 1 (He.ga K "_law_pot") fd ["_law_script", "_law_k"] (spD (MM K) m__law_pot) := by
  obtain ⟨fd, F⟩ := v.c.def_ 26 (d := d__law_pot) rfl
  exact ⟨fd, F, funD_mir (M := MM K) F S__law_pot (by decide) (fun cdv A outer s H E hr tk hp => b__law_pot v cdv A outer s H E hr tk hp)⟩
theorem f__law_pot (v : Ev K mg base) : TS.FnR P w K mg base (L2.CX P w) 1 (He.ga K "_law_pot") (spD (MM K) m__law_pot) := by
  obtain ⟨fd, F, O⟩ := o__law_pot (P := P) (w := w) v
  exact fnR_raw (M := MM K) O (F.bindsN (ps := ["_law_script", "_law_k"]) fun _ _ _ _ _ _ us hl => match us, hl with | [_, _], _ => rfl)
abbrev g__law_renamed_1 : FS := (sAsg (fBin gFdiv (frz (fBin gMul (frz (fCal gLen (aOne (vP 0)))) (frz (fCal gLen (aOne (vP 1)))))) (frz (fOwn m__law_common (aCons (frz (fCal gLen (aOne (vP 0)))) (aCons (frz (fCal gLen (aOne (vP 1)))) aNil))))) (tName 2))
abbrev g__law_renamed_2 : FS := (sAsg (fBin gMul (frz (fLst (aCons (kD (.int 0)) aNil))) (vP 2)) (tName 3))
abbrev g__law_renamed_3_1 : FS := (sAsg (fOwn m__law_at (aCons (vI 1) (aCons (vI 4) aNil))) (tName 5))
abbrev g__law_renamed_3_2 : FS := (sAsg (toE (frz (fBin gSub (frz (fOwn m__law_at (aCons (vI 1) (aCons (frz (fOwn m__law_at (aCons (vI 0) (aCons (vI 4) aNil)))) aNil)))) (vP 5)))) (tSub 3 (frz (fBin gMod (frz (fCal gInt (aOne (vP 5)))) (vP 2)))))
abbrev g__law_renamed_3B : FS := (sSeq g__law_renamed_3_1 g__law_renamed_3_2)
abbrev g__law_renamed_3 : FS := (sFor (itRg1 (vI 2)) (tName 4) g__law_renamed_3B)
abbrev g__law_renamed_4 : FS := (sRet (vR 3))
def g__law_renamed : FS := (sSeq g__law_renamed_1 (sSeq g__law_renamed_2 (sSeq g__law_renamed_3 g__law_renamed_4)))
theorem S__law_renamed : FnScope ["_law_table_here", "_law_key", "_law_many", "_law_found", "_law_place", "_law_new"] ["_law_table_here", "_law_key"] (defScope (top 35)) := ⟨rfl, rfl, rfl, by decide +kernel, rfl, by decide +kernel, by decide +kernel⟩
theorem kp__law_renamed (v : Ev K mg base) : PySem.W.keepIn K (.ref (He.ga K "_law_renamed")) = true := (v.c.def_ 27 (d := d__law_renamed) rfl).elim fun _ F => F.kp
theorem b__law_renamed (v : Ev K mg base) (cdv : Value) (A : Around) (outer : List Env) (s : Shared) (H : Hp) (E : XK) (hr : TS.Room 1 (A.deeper (PyProof.Rows.envOfC "_law_renamed" (defScope (top 35)) s.heap.objs.size (He.ga K "_law_renamed") cdv))) (tk : Takes (cxOf (L2.CX P w) P w K mg base ["_law_table_here", "_law_key", "_law_many", "_law_found", "_law_place", "_law_new"] "_law_renamed" (defScope (top 35)) (He.ga K "_law_renamed") cdv A outer s H E) (fun cls d _ H => E cls d H))
    (hp : PassesOwn (model P w) (A.deeper (PyProof.Rows.envOfC "_law_renamed" (defScope (top 35)) s.heap.objs.size (He.ga K "_law_renamed") cdv)) (PyProof.Rows.envOfC "_law_renamed" (defScope (top 35)) s.heap.objs.size (He.ga K "_law_renamed") cdv) (cxOf (L2.CX P w) P w K mg base ["_law_table_here", "_law_key", "_law_many", "_law_found", "_law_place", "_law_new"] "_law_renamed" (defScope (top 35)) (He.ga K "_law_renamed") cdv A outer s H E).xe) : DSs (MM K) (fun cls d _ H => E cls d H) (cxOf (L2.CX P w) P w K mg base ["_law_table_here", "_law_key", "_law_many", "_law_found", "_law_place", "_law_new"] "_law_renamed" (defScope (top 35)) (He.ga K "_law_renamed") cdv A outer s H E) (defBody (top 35)) g__law_renamed :=
  (dss_cons (ds_set (i := 2) S__law_renamed.nd (by rfl) (by first | exact Or.inl rfl | exact Or.inr rfl) (x_fdiv (DE.frz (x_mul (DE.frz (b_len (by rfl) (u_len v) (db_one (dp_var (pv 0))))) (DE.pk (b_len (by rfl) (u_len v) (db_one (dp_var (pv 1))))))) (DE.pk (d_own (fun h => pe_own ((f__law_common v).mono (by decide)) hr tk (by rfl) (u__law_common v) (kp__law_common v) h) (da_cons (DE.frz (b_len (by rfl) (u_len v) (db_one (dp_var (pv 0))))) (da_cons (DE.frz (b_len (by rfl) (u_len v) (db_one (dp_var (pv 1))))) da_nil))))))
    (dss_cons (ds_set (i := 3) S__law_renamed.nd (by rfl) (by first | exact Or.inl rfl | exact Or.inr rfl) (x_mul (DE.frz (de_lst (da_cons di_int da_nil))) (dp_var (pv 2))))
    (dss_cons (ds_for hp (by rfl) (dit_rg1 (by rfl) (u_range v) (di_var (pv 2))) (dg_name (pg_name S__law_renamed.nd (by rfl) (by first | exact Or.inl rfl | exact Or.inr rfl))) (tgt_name 4) (dss_cons (ds_set (i := 5) S__law_renamed.nd (by rfl) (by first | exact Or.inl rfl | exact Or.inr rfl) (d_own (fun h => pe_own ((f__law_at v).mono (by decide)) hr tk (by rfl) (u__law_at v) (kp__law_at v) h) (da_cons (di_var (pv 1)) (da_cons (di_var (pv 4)) da_nil))))
    (dss_one (ds_asg (DI.toE (DE.frz (x_sub (DE.frz (d_own (fun h => pe_own ((f__law_at v).mono (by decide)) hr tk (by rfl) (u__law_at v) (kp__law_at v) h) (da_cons (di_var (pv 1)) (da_cons (DE.frz (d_own (fun h => pe_own ((f__law_at v).mono (by decide)) hr tk (by rfl) (u__law_at v) (kp__law_at v) h) (da_cons (di_var (pv 0)) (da_cons (di_var (pv 4)) da_nil)))) da_nil)))) (dp_var (pv 5))))) (dg_sub (pv 3) (DE.frz (x_mod (DE.frz (b_int (by rfl) (u_int v) (db_one (dp_var (pv 5))))) (dp_var (pv 2)))) (hu_of hr)) tgt_sub))))
    (dss_one (ds_ret (de_var (pv 3)))))))
def m__law_renamed : Fm := mir 6 2 g__law_renamed
theorem o__law_renamed (v : Ev K mg base) : ∃ fd, FunD K "_law_renamed" "_law_renamed" (defArgs (top 35)) (defBody (top 35)) (defScope (top 35)) [] [] (He.ga K "_law_renamed") fd ∧ TS.FnOk P w K mg base (L2.CX P w) 2 (He.ga K "_law_renamed") fd ["_law_table_here", "_law_key"] (spD (MM K) m__law_renamed) := by
  obtain ⟨fd, F⟩ := v.c.def_ 27 (d := d__law_renamed) rfl
  exact ⟨fd, F, funD_mir (M := MM K) F S__law_renamed (by decide) (fun cdv A outer s H E hr tk hp => b__law_renamed v cdv A outer s H E hr tk hp)⟩
theorem f__law_renamed (v : Ev K mg base) : TS.FnR P w K mg base (L2.CX P w) 2 (He.ga K "_law_renamed") (spD (MM K) m__law_renamed) := by
  obtain ⟨fd, F, O⟩ := o__law_renamed (P := P) (w := w) v
  exact fnR_raw (M := MM K) O (F.bindsN (ps := ["_law_table_here", "_law_key"]) fun _ _ _ _ _ _ us hl => match us, hl with | [_, _], _ => rfl)
abbrev g__law_inverse_1 : FS := (sPar 2 3 (fCal gLen (aOne (vP 0))) (fBin gMul (frz (fLst (aCons (kD (.int 0)) aNil))) (frz (fCal gLen (aOne (vP 0))))))
abbrev g__law_inverse_2_1 : FS := (sAsg (fOwn m__law_at (aCons (vI 0) (aCons (vI 1) aNil))) (tName 4))
abbrev g__law_inverse_2_2 : FS := (sAsg (toE (frz (fBin gSub (vI 1) (vP 4)))) (tSub 3 (frz (fBin gMod (frz (fCal gInt (aOne (vP 4)))) (vP 2)))))
abbrev g__law_inverse_2B : FS := (sSeq g__law_inverse_2_1 g__law_inverse_2_2)
abbrev g__law_inverse_2 : FS := (sFor (itRg1 (vI 2)) (tName 1) g__law_inverse_2B)
abbrev g__law_inverse_3 : FS := (sRet (vR 3))
def g__law_inverse : FS := (sSeq g__law_inverse_1 (sSeq g__law_inverse_2 g__law_inverse_3))
theorem S__law_inverse : FnScope ["_law_table_here", "_law_place", "_law_many", "_law_found", "_law_goal"] ["_law_table_here"] (defScope (top 36)) := ⟨rfl, rfl, rfl, by decide +kernel, rfl, by decide +kernel, by decide +kernel⟩
theorem kp__law_inverse (v : Ev K mg base) : PySem.W.keepIn K (.ref (He.ga K "_law_inverse")) = true := (v.c.def_ 28 (d := d__law_inverse) rfl).elim fun _ F => F.kp
theorem b__law_inverse (v : Ev K mg base) (cdv : Value) (A : Around) (outer : List Env) (s : Shared) (H : Hp) (E : XK) (hr : TS.Room 1 (A.deeper (PyProof.Rows.envOfC "_law_inverse" (defScope (top 36)) s.heap.objs.size (He.ga K "_law_inverse") cdv))) (tk : Takes (cxOf (L2.CX P w) P w K mg base ["_law_table_here", "_law_place", "_law_many", "_law_found", "_law_goal"] "_law_inverse" (defScope (top 36)) (He.ga K "_law_inverse") cdv A outer s H E) (fun cls d _ H => E cls d H))
    (hp : PassesOwn (model P w) (A.deeper (PyProof.Rows.envOfC "_law_inverse" (defScope (top 36)) s.heap.objs.size (He.ga K "_law_inverse") cdv)) (PyProof.Rows.envOfC "_law_inverse" (defScope (top 36)) s.heap.objs.size (He.ga K "_law_inverse") cdv) (cxOf (L2.CX P w) P w K mg base ["_law_table_here", "_law_place", "_law_many", "_law_found", "_law_goal"] "_law_inverse" (defScope (top 36)) (He.ga K "_law_inverse") cdv A outer s H E).xe) : DSs (MM K) (fun cls d _ H => E cls d H) (cxOf (L2.CX P w) P w K mg base ["_law_table_here", "_law_place", "_law_many", "_law_found", "_law_goal"] "_law_inverse" (defScope (top 36)) (He.ga K "_law_inverse") cdv A outer s H E) (defBody (top 36)) g__law_inverse :=
  (dss_cons (ds_par (i := 2) (j := 3) (by rfl) S__law_inverse.nd (by rfl) (by rfl) (by decide) (by rfl) (by rfl) (b_len (by rfl) (u_len v) (db_one (dp_var (pv 0)))) (x_mul (DE.frz (de_lst (da_cons di_int da_nil))) (DE.pk (b_len (by rfl) (u_len v) (db_one (dp_var (pv 0)))))) (by rfl))
    (dss_cons (ds_for hp (by rfl) (dit_rg1 (by rfl) (u_range v) (di_var (pv 2))) (dg_name (pg_name S__law_inverse.nd (by rfl) (by first | exact Or.inl rfl | exact Or.inr rfl))) (tgt_name 1) (dss_cons (ds_set (i := 4) S__law_inverse.nd (by rfl) (by first | exact Or.inl rfl | exact Or.inr rfl) (d_own (fun h => pe_own ((f__law_at v).mono (by decide)) hr tk (by rfl) (u__law_at v) (kp__law_at v) h) (da_cons (di_var (pv 0)) (da_cons (di_var (pv 1)) da_nil))))
    (dss_one (ds_asg (DI.toE (DE.frz (x_sub (di_var (pv 1)) (dp_var (pv 4))))) (dg_sub (pv 3) (DE.frz (x_mod (DE.frz (b_int (by rfl) (u_int v) (db_one (dp_var (pv 4))))) (dp_var (pv 2)))) (hu_of hr)) tgt_sub))))
    (dss_one (ds_ret (de_var (pv 3))))))
def m__law_inverse : Fm := mir 5 1 g__law_inverse
theorem o__law_inverse (v : Ev K mg base) : ∃ fd, FunD K "_law_inverse" "_law_inverse" (defArgs (top 36)) (defBody (top 36)) (defScope (top 36)) [] [] (He.ga K "_law_inverse") fd ∧ TS.FnOk P w K mg base (L2.CX P w) 2 (He.ga K "_law_inverse") fd ["_law_table_here"] (spD (MM K) m__law_inverse) := by
  obtain ⟨fd, F⟩ := v.c.def_ 28 (d := d__law_inverse) rfl
  exact ⟨fd, F, funD_mir (M := MM K) F S__law_inverse (by decide) (fun cdv A outer s H E hr tk hp => b__law_inverse v cdv A outer s H E hr tk hp)⟩
theorem f__law_inverse (v : Ev K mg base) : TS.FnR P w K mg base (L2.CX P w) 2 (He.ga K "_law_inverse") (spD (MM K) m__law_inverse) := by
  obtain ⟨fd, F, O⟩ := o__law_inverse (P := P) (w := w) v
  exact fnR_raw (M := MM K) O (F.bindsN (ps := ["_law_table_here"]) fun _ _ _ _ _ _ us hl => match us, hl with | [_], _ => rfl)
abbrev g__law_kin_1 : FS := (sPar3E 4 5 6 (fxCons (fOwnIo m__law_draw 0 (aCons (kD (.int 6)) aNil)) (fxCons (fCal gLen (aOne (vP 1))) (fxCons (fCal gList (aOne (vP 1))) fxNil))))
abbrev g__law_kin_2a_1 : FS := (sRet (fOwnIo m__law_table 0 (aCons (vI 5) (aCons (kD (.int 1)) aNil))))
abbrev g__law_kin_2 : FS := (sIf (fTst (fBin gEq (vI 4) (kD (.int 0)))) g__law_kin_2a_1 sNil)
abbrev g__law_kin_3a_1 : FS := (sRet (fOwn m__law_inverse (aCons (vI 1) aNil)))
abbrev g__law_kin_3 : FS := (sIf (fTst (fBin gEq (vI 4) (kD (.int 1)))) g__law_kin_3a_1 sNil)
abbrev g__law_kin_4a_1 : FS := (sRet (fOwn m__law_renamed (aCons (vI 1) (aCons (frz (fOwnIo m__law_table 0 (aCons (vI 2) (aCons (kD (.int 1)) aNil)))) aNil))))
abbrev g__law_kin_4 : FS := (sIf (fTst (fBin gEq (vI 4) (kD (.int 5)))) g__law_kin_4a_1 sNil)
abbrev g__law_kin_5 : FS := (sPar 7 8 (fOwnIo m__law_draw 0 (aCons (vI 5) aNil)) (fOwnIo m__law_draw 0 (aCons (vI 5) aNil)))
abbrev g__law_kin_6a_1 : FS := (sAsg (toE (frz (fBin gAdd (frz (fBinV gIx 6 (vP 7))) (vP 5)))) (tSub 6 (vI 7)))
abbrev g__law_kin_6a_2 : FS := (sAsg (toE (frz (fBin gSub (frz (fBinV gIx 6 (vP 8))) (frz (fBin gMul (vI 5) (frz (fBin gSub (vI 4) (kD (.int 2))))))))) (tSub 6 (vI 8)))
abbrev g__law_kin_6a_3 : FS := (sRet (vR 6))
abbrev g__law_kin_6 : FS := (sIf (fTst (fBin gLt (vI 4) (kD (.int 4)))) (sSeq g__law_kin_6a_1 (sSeq g__law_kin_6a_2 g__law_kin_6a_3)) sNil)
abbrev g__law_kin_7 : FS := (sAsg (fLst (aCons (frz (fOwn m__law_at (aCons (vI 1) (aCons (vI 7) aNil)))) (aCons (frz (fOwn m__law_at (aCons (vI 1) (aCons (vI 8) aNil)))) aNil))) (tName 3))
abbrev g__law_kin_8 : FS := (sAsg (toE (fTup (aCons (frz (fBin gSub (frz (fBin gIx (vI 3) (kD (.int 1)))) (vP 7))) (aCons (frz (fBin gSub (frz (fBin gIx (vI 3) (kD (.int 0)))) (vP 8))) aNil)))) (tTup 2 (tsCons (tSub 6 (vI 7)) (tsCons (tSub 6 (vI 8)) tsNil))))
abbrev g__law_kin_9 : FS := (sRet (fIfE (fTst (fBin gNe (vI 7) (vP 8))) (vR 6) (fCal gList (aOne (vP 1)))))
def g__law_kin : FS := (sSeq g__law_kin_1 (sSeq g__law_kin_2 (sSeq g__law_kin_3 (sSeq g__law_kin_4 (sSeq g__law_kin_5 (sSeq g__law_kin_6 (sSeq g__law_kin_7 (sSeq g__law_kin_8 g__law_kin_9))))))))
theorem S__law_kin : FnScope ["_law_pot_here", "_law_table_here", "_law_second", "_law_goals", "_law_way", "_law_many", "_law_found", "_law_at_here", "_law_goal"] ["_law_pot_here", "_law_table_here", "_law_second"] (defScope (top 37)) := ⟨rfl, rfl, rfl, by decide +kernel, rfl, by decide +kernel, by decide +kernel⟩
theorem kp__law_kin (v : Ev K mg base) : PySem.W.keepIn K (.ref (He.ga K "_law_kin")) = true := (v.c.def_ 29 (d := d__law_kin) rfl).elim fun _ F => F.kp
theorem b__law_kin (v : Ev K mg base) (cdv : Value) (A : Around) (outer : List Env) (s : Shared) (H : Hp) (E : XK) (hr : TS.Room 3 (A.deeper (PyProof.Rows.envOfC "_law_kin" (defScope (top 37)) s.heap.objs.size (He.ga K "_law_kin") cdv))) (tk : Takes (cxOf (L2.CX P w) P w K mg base ["_law_pot_here", "_law_table_here", "_law_second", "_law_goals", "_law_way", "_law_many", "_law_found", "_law_at_here", "_law_goal"] "_law_kin" (defScope (top 37)) (He.ga K "_law_kin") cdv A outer s H E) (fun cls d _ H => E cls d H))
    (hp : PassesOwn (model P w) (A.deeper (PyProof.Rows.envOfC "_law_kin" (defScope (top 37)) s.heap.objs.size (He.ga K "_law_kin") cdv)) (PyProof.Rows.envOfC "_law_kin" (defScope (top 37)) s.heap.objs.size (He.ga K "_law_kin") cdv) (cxOf (L2.CX P w) P w K mg base ["_law_pot_here", "_law_table_here", "_law_second", "_law_goals", "_law_way", "_law_many", "_law_found", "_law_at_here", "_law_goal"] "_law_kin" (defScope (top 37)) (He.ga K "_law_kin") cdv A outer s H E).xe) : DSs (MM K) (fun cls d _ H => E cls d H) (cxOf (L2.CX P w) P w K mg base ["_law_pot_here", "_law_table_here", "_law_second", "_law_goals", "_law_way", "_law_many", "_law_found", "_law_at_here", "_law_goal"] "_law_kin" (defScope (top 37)) (He.ga K "_law_kin") cdv A outer s H E) (defBody (top 37)) g__law_kin :=
  (dss_cons (ds_par3E (i := 4) (j := 5) (l := 6) (by rfl) S__law_kin.nd (by rfl) (by rfl) (by rfl) (by decide) (by decide) (by decide) (by rfl) (by rfl) (by rfl) (dx_cons (d_ownIo (fun h => pe_own ((f__law_draw v).mono (by decide)) hr tk (by rfl) (u__law_draw v) (kp__law_draw v) h) (pv 0) (da_cons di_int da_nil)) (dx_cons (b_len (by rfl) (u_len v) (db_one (dp_var (pv 1)))) (dx_cons (b_list (by rfl) (u_list v) (db_one (dp_var (pv 1)))) dx_nil))) (by rfl))
    (dss_cons (ds_if (t_eq hr (di_var (pv 4)) (DI.pk di_int)) (dss_one (ds_ret (d_ownIo (fun h => pe_own ((f__law_table v).mono (by decide)) hr tk (by rfl) (u__law_table v) (kp__law_table v) h) (pv 0) (da_cons (di_var (pv 5)) (da_cons di_int da_nil))))) dss_nil)
    (dss_cons (ds_if (t_eq hr (di_var (pv 4)) (DI.pk di_int)) (dss_one (ds_ret (d_own (fun h => pe_own ((f__law_inverse v).mono (by decide)) hr tk (by rfl) (u__law_inverse v) (kp__law_inverse v) h) (da_cons (di_var (pv 1)) da_nil)))) dss_nil)
    (dss_cons (ds_if (t_eq hr (di_var (pv 4)) (DI.pk di_int)) (dss_one (ds_ret (d_own (fun h => pe_own ((f__law_renamed v).mono (by decide)) hr tk (by rfl) (u__law_renamed v) (kp__law_renamed v) h) (da_cons (di_var (pv 1)) (da_cons (DE.frz (d_ownIo (fun h => pe_own ((f__law_table v).mono (by decide)) hr tk (by rfl) (u__law_table v) (kp__law_table v) h) (pv 0) (da_cons (di_var (pv 2)) (da_cons di_int da_nil)))) da_nil))))) dss_nil)
    (dss_cons (ds_par (i := 7) (j := 8) (by rfl) S__law_kin.nd (by rfl) (by rfl) (by decide) (by rfl) (by rfl) (d_ownIo (fun h => pe_own ((f__law_draw v).mono (by decide)) hr tk (by rfl) (u__law_draw v) (kp__law_draw v) h) (pv 0) (da_cons (di_var (pv 5)) da_nil)) (d_ownIo (fun h => pe_own ((f__law_draw v).mono (by decide)) hr tk (by rfl) (u__law_draw v) (kp__law_draw v) h) (pv 0) (da_cons (di_var (pv 5)) da_nil)) (by rfl))
    (dss_cons (ds_if (t_lt (di_var (pv 4)) (DI.pk di_int)) (dss_cons (ds_asg (DI.toE (DE.frz (x_add (DE.frz (x_ixV hr (pv 6) (dp_var (pv 7)))) (dp_var (pv 5))))) (dg_sub (pv 6) (di_var (pv 7)) (hu_of hr)) tgt_sub)
    (dss_cons (ds_asg (DI.toE (DE.frz (x_sub (DE.frz (x_ixV hr (pv 6) (dp_var (pv 8)))) (DE.pk (x_mul (di_var (pv 5)) (DE.pk (x_sub (di_var (pv 4)) (DI.pk di_int)))))))) (dg_sub (pv 6) (di_var (pv 8)) (hu_of hr)) tgt_sub)
    (dss_one (ds_ret (de_var (pv 6)))))) dss_nil)
    (dss_cons (ds_set (i := 3) S__law_kin.nd (by rfl) (by first | exact Or.inl rfl | exact Or.inr rfl) (de_lst (da_cons (DE.frz (d_own (fun h => pe_own ((f__law_at v).mono (by decide)) hr tk (by rfl) (u__law_at v) (kp__law_at v) h) (da_cons (di_var (pv 1)) (da_cons (di_var (pv 7)) da_nil)))) (da_cons (DE.frz (d_own (fun h => pe_own ((f__law_at v).mono (by decide)) hr tk (by rfl) (u__law_at v) (kp__law_at v) h) (da_cons (di_var (pv 1)) (da_cons (di_var (pv 8)) da_nil)))) da_nil))))
    (dss_cons (ds_asg (DI.toE (di_tup (da_cons (DE.frz (x_sub (DE.frz (x_ix hr (di_var (pv 3)) (DI.pk di_int))) (dp_var (pv 7)))) (da_cons (DE.frz (x_sub (DE.frz (x_ix hr (di_var (pv 3)) (DI.pk di_int))) (dp_var (pv 8)))) da_nil)))) (dg_tup (by rfl) (dgs_cons (dg_sub (pv 6) (di_var (pv 7)) (hu_of hr)) (dgs_cons (dg_sub (pv 6) (di_var (pv 8)) (hu_of hr)) dgs_nil))) (tgt_tup (tgs_cons tgt_sub (tgs_cons tgt_sub tgs_nil))))
    (dss_one (ds_ret (de_if (t_ne hr (di_var (pv 7)) (dp_var (pv 8))) (de_var (pv 6)) (b_list (by rfl) (u_list v) (db_one (dp_var (pv 1)))))))))))))))
def m__law_kin : Fm := mir 9 3 g__law_kin
theorem o__law_kin (v : Ev K mg base) : ∃ fd, FunD K "_law_kin" "_law_kin" (defArgs (top 37)) (defBody (top 37)) (defScope (top 37)) [] [] (He.ga K "_law_kin") fd ∧ TS.FnOk P w K mg base (L2.CX P w) 4 (He.ga K "_law_kin") fd ["_law_pot_here", "_law_table_here", "_law_second"] (spD (MM K) m__law_kin) := by
  obtain ⟨fd, F⟩ := v.c.def_ 29 (d := d__law_kin) rfl
  exact ⟨fd, F, funD_mir (M := MM K) F S__law_kin (by decide) (fun cdv A outer s H E hr tk hp => b__law_kin v cdv A outer s H E hr tk hp)⟩
theorem f__law_kin (v : Ev K mg base) : TS.FnR P w K mg base (L2.CX P w) 4 (He.ga K "_law_kin") (spD (MM K) m__law_kin) := by
  obtain ⟨fd, F, O⟩ := o__law_kin (P := P) (w := w) v
  exact fnR_raw (M := MM K) O (F.bindsN (ps := ["_law_pot_here", "_law_table_here", "_law_second"]) fun _ _ _ _ _ _ us hl => match us, hl with | [_, _, _], _ => rfl)
abbrev g__law_choice_1 : FS := (sRet (fBin gIx (vI 1) (frz (fOwnIo m__law_draw 0 (aCons (frz (fCal gLen (aOne (vP 1)))) aNil)))))
def g__law_choice : FS := g__law_choice_1
theorem S__law_choice : FnScope ["_law_pot_here", "_law_some"] ["_law_pot_here", "_law_some"] (defScope (top 29)) := ⟨rfl, rfl, rfl, by decide +kernel, rfl, by decide +kernel, by decide +kernel⟩
theorem kp__law_choice (v : Ev K mg base) : PySem.W.keepIn K (.ref (He.ga K "_law_choice")) = true := (v.c.def_ 30 (d := d__law_choice) rfl).elim fun _ F => F.kp
theorem b__law_choice (v : Ev K mg base) (cdv : Value) (A : Around) (outer : List Env) (s : Shared) (H : Hp) (E : XK) (hr : TS.Room 1 (A.deeper (PyProof.Rows.envOfC "_law_choice" (defScope (top 29)) s.heap.objs.size (He.ga K "_law_choice") cdv))) (tk : Takes (cxOf (L2.CX P w) P w K mg base ["_law_pot_here", "_law_some"] "_law_choice" (defScope (top 29)) (He.ga K "_law_choice") cdv A outer s H E) (fun cls d _ H => E cls d H))
    (hp : PassesOwn (model P w) (A.deeper (PyProof.Rows.envOfC "_law_choice" (defScope (top 29)) s.heap.objs.size (He.ga K "_law_choice") cdv)) (PyProof.Rows.envOfC "_law_choice" (defScope (top 29)) s.heap.objs.size (He.ga K "_law_choice") cdv) (cxOf (L2.CX P w) P w K mg base ["_law_pot_here", "_law_some"] "_law_choice" (defScope (top 29)) (He.ga K "_law_choice") cdv A outer s H E).xe) : DSs (MM K) (fun cls d _ H => E cls d H) (cxOf (L2.CX P w) P w K mg base ["_law_pot_here", "_law_some"] "_law_choice" (defScope (top 29)) (He.ga K "_law_choice") cdv A outer s H E) (defBody (top 29)) g__law_choice :=
  (dss_one (ds_ret (x_ix hr (di_var (pv 1)) (DE.pk (d_ownIo (fun h => pe_own ((f__law_draw v).mono (by decide)) hr tk (by rfl) (u__law_draw v) (kp__law_draw v) h) (pv 0) (da_cons (DE.frz (b_len (by rfl) (u_len v) (db_one (dp_var (pv 1))))) da_nil))))))
def m__law_choice : Fm := mir 2 2 g__law_choice
theorem o__law_choice (v : Ev K mg base) : ∃ fd, FunD K "_law_choice" "_law_choice" (defArgs (top 29)) (defBody (top 29)) (defScope (top 29)) [] [] (He.ga K "_law_choice") fd ∧ TS.FnOk P w K mg base (L2.CX P w) 2 (He.ga K "_law_choice") fd ["_law_pot_here", "_law_some"] (spD (MM K) m__law_choice) := by
  obtain ⟨fd, F⟩ := v.c.def_ 30 (d := d__law_choice) rfl
  exact ⟨fd, F, funD_mir (M := MM K) F S__law_choice (by decide) (fun cdv A outer s H E hr tk hp => b__law_choice v cdv A outer s H E hr tk hp)⟩
theorem f__law_choice (v : Ev K mg base) : TS.FnR P w K mg base (L2.CX P w) 2 (He.ga K "_law_choice") (spD (MM K) m__law_choice) := by
  obtain ⟨fd, F, O⟩ := o__law_choice (P := P) (w := w) v
  exact fnR_raw (M := MM K) O (F.bindsN (ps := ["_law_pot_here", "_law_some"]) fun _ _ _ _ _ _ us hl => match us, hl with | [_, _], _ => rfl)
abbrev g__law_exchange_1 : FS := (sPar 2 3 (fBin gMul (frz (fLst (aCons (kD (.int 0)) aNil))) (vP 1)) (fBin gAdd (kD (.int 1)) (frz (fOwnIo m__law_draw 0 (aCons (frz (fBin gSub (vI 1) (kD (.int 1)))) aNil)))))
abbrev g__law_exchange_2 : FS := (sAsg (toE (fTup (aCons (vI 3) (aCons (frz (fBin gSub (kD (.int 0)) (vP 3))) aNil)))) (tTup 2 (tsCons (tSub 2 (kD (.int 0))) (tsCons (tSub 2 (vI 3)) tsNil))))
abbrev g__law_exchange_3 : FS := (sRet (vR 2))
def g__law_exchange : FS := (sSeq g__law_exchange_1 (sSeq g__law_exchange_2 g__law_exchange_3))
theorem S__law_exchange : FnScope ["_law_pot_here", "_law_period", "_law_found", "_law_goal"] ["_law_pot_here", "_law_period"] (defScope (top 41)) := ⟨rfl, rfl, rfl, by decide +kernel, rfl, by decide +kernel, by decide +kernel⟩
theorem kp__law_exchange (v : Ev K mg base) : PySem.W.keepIn K (.ref (He.ga K "_law_exchange")) = true := (v.c.def_ 31 (d := d__law_exchange) rfl).elim fun _ F => F.kp
theorem b__law_exchange (v : Ev K mg base) (cdv : Value) (A : Around) (outer : List Env) (s : Shared) (H : Hp) (E : XK) (hr : TS.Room 1 (A.deeper (PyProof.Rows.envOfC "_law_exchange" (defScope (top 41)) s.heap.objs.size (He.ga K "_law_exchange") cdv))) (tk : Takes (cxOf (L2.CX P w) P w K mg base ["_law_pot_here", "_law_period", "_law_found", "_law_goal"] "_law_exchange" (defScope (top 41)) (He.ga K "_law_exchange") cdv A outer s H E) (fun cls d _ H => E cls d H))
    (hp : PassesOwn (model P w) (A.deeper (PyProof.Rows.envOfC "_law_exchange" (defScope (top 41)) s.heap.objs.size (He.ga K "_law_exchange") cdv)) (PyProof.Rows.envOfC "_law_exchange" (defScope (top 41)) s.heap.objs.size (He.ga K "_law_exchange") cdv) (cxOf (L2.CX P w) P w K mg base ["_law_pot_here", "_law_period", "_law_found", "_law_goal"] "_law_exchange" (defScope (top 41)) (He.ga K "_law_exchange") cdv A outer s H E).xe) : DSs (MM K) (fun cls d _ H => E cls d H) (cxOf (L2.CX P w) P w K mg base ["_law_pot_here", "_law_period", "_law_found", "_law_goal"] "_law_exchange" (defScope (top 41)) (He.ga K "_law_exchange") cdv A outer s H E) (defBody (top 41)) g__law_exchange :=
  (dss_cons (ds_par (i := 2) (j := 3) (by rfl) S__law_exchange.nd (by rfl) (by rfl) (by decide) (by rfl) (by rfl) (x_mul (DE.frz (de_lst (da_cons di_int da_nil))) (dp_var (pv 1))) (x_add di_int (DE.pk (d_ownIo (fun h => pe_own ((f__law_draw v).mono (by decide)) hr tk (by rfl) (u__law_draw v) (kp__law_draw v) h) (pv 0) (da_cons (DE.frz (x_sub (di_var (pv 1)) (DI.pk di_int))) da_nil)))) (by rfl))
    (dss_cons (ds_asg (DI.toE (di_tup (da_cons (di_var (pv 3)) (da_cons (DE.frz (x_sub di_int (dp_var (pv 3)))) da_nil)))) (dg_tup (by rfl) (dgs_cons (dg_sub (pv 2) di_int (hu_of hr)) (dgs_cons (dg_sub (pv 2) (di_var (pv 3)) (hu_of hr)) dgs_nil))) (tgt_tup (tgs_cons tgt_sub (tgs_cons tgt_sub tgs_nil))))
    (dss_one (ds_ret (de_var (pv 2))))))
def m__law_exchange : Fm := mir 4 2 g__law_exchange
theorem o__law_exchange (v : Ev K mg base) : ∃ fd, FunD K "_law_exchange" "_law_exchange" (defArgs (top 41)) (defBody (top 41)) (defScope (top 41)) [] [] (He.ga K "_law_exchange") fd ∧ TS.FnOk P w K mg base (L2.CX P w) 2 (He.ga K "_law_exchange") fd ["_law_pot_here", "_law_period"] (spD (MM K) m__law_exchange) := by
  obtain ⟨fd, F⟩ := v.c.def_ 31 (d := d__law_exchange) rfl
  exact ⟨fd, F, funD_mir (M := MM K) F S__law_exchange (by decide) (fun cdv A outer s H E hr tk hp => b__law_exchange v cdv A outer s H E hr tk hp)⟩
theorem f__law_exchange (v : Ev K mg base) : TS.FnR P w K mg base (L2.CX P w) 2 (He.ga K "_law_exchange") (spD (MM K) m__law_exchange) := by
  obtain ⟨fd, F, O⟩ := o__law_exchange (P := P) (w := w) v
  exact fnR_raw (M := MM K) O (F.bindsN (ps := ["_law_pot_here", "_law_period"]) fun _ _ _ _ _ _ us hl => match us, hl with | [_, _], _ => rfl)
theorem ex_TooMany (v : Ev K mg base) : OxC K (He.ga K "TooMany") ∧ XqC K (He.ga K "TooMany") ∧ PySem.W.findIn K (.ref (He.ga K "TooMany")) "__init__" = some (some (.ref (He.ma K (He.ga K "TooMany") "__init__"))) ∧ PySem.W.typeIn K (.ref (He.ma K (He.ga K "TooMany") "__init__")) = some (.type "function") := exc_ok Bas.ar (v.c.fact 64 (f := .exc "TooMany" "ArithmeticError"))
def xm_TooLong : Nat → Option Bool := fun n => match n with
  | 100 => some false
  | 102 => some false
  | 115 => some true
  | 116 => some false
  | _ => none
theorem xm_TooLong_ok (v : Ev K mg base) : ∀ k b C, xm_TooLong k = some b → (MM K).G k = some C → PySem.W.exmOne K (.ref C) (.ref (He.ga K "TooLong")) = some b := by
  intro k b C h hG
  unfold xm_TooLong at h
  split at h
  · cases h
    cases hG
    exact exm_ok (v.c.fact 66 (f := .exm "InvalidInteger" "TooLong" false))
  · cases h
    cases hG
    exact exm_ok (v.c.fact 67 (f := .exm "InvalidTable" "TooLong" false))
  · cases h
    cases hG
    exact exm_ok (v.c.fact 68 (f := .exm "TooLong" "TooLong" true))
  · cases h
    cases hG
    exact exm_ok (v.c.fact 69 (f := .exm "TooMany" "TooLong" false))
  · cases h
def xi_ArithmeticError : Nat → Option Bool := fun n => match n with
  | 100 => some false
  | 102 => some false
  | 115 => some true
  | 116 => some true
  | _ => none
theorem xi_ArithmeticError_ok (v : Ev K mg base) : ∀ k b C, xi_ArithmeticError k = some b → (MM K).G k = some C → XqC K C ∧ PySem.W.kitOne K (.ref C) (.type "ArithmeticError") = some b := by
  intro k b C h hG
  unfold xi_ArithmeticError at h
  split at h
  · cases h
    cases hG
    exact ⟨(ex_InvalidInteger v).2.1, (kitC_ok (v.c.fact 70 (f := .kitC "InvalidInteger" "ArithmeticError" false)))⟩
  · cases h
    cases hG
    exact ⟨(ex_InvalidTable v).2.1, (kitC_ok (v.c.fact 71 (f := .kitC "InvalidTable" "ArithmeticError" false)))⟩
  · cases h
    cases hG
    exact ⟨(ex_TooLong v).2.1, (kitC_ok (v.c.fact 72 (f := .kitC "TooLong" "ArithmeticError" true)))⟩
  · cases h
    cases hG
    exact ⟨(ex_TooMany v).2.1, (kitC_ok (v.c.fact 73 (f := .kitC "TooMany" "ArithmeticError" true)))⟩
  · cases h
def xi_LimitError : Nat → Option Bool := fun n => match n with
  | 100 => some false
  | 102 => some false
  | 115 => some true
  | 116 => some true
  | _ => none
theorem xi_LimitError_ok (v : Ev K mg base) : ∀ k b C, xi_LimitError k = some b → (MM K).G k = some C → XqC K C ∧ PySem.W.kitOne K (.ref C) (.ref (He.ga K "LimitError")) = some b := by
  intro k b C h hG
  unfold xi_LimitError at h
  split at h
  · cases h
    cases hG
    exact ⟨(ex_InvalidInteger v).2.1, (kit_ok (v.c.fact 75 (f := .kit "InvalidInteger" "LimitError" false)))⟩
  · cases h
    cases hG
    exact ⟨(ex_InvalidTable v).2.1, (kit_ok (v.c.fact 76 (f := .kit "InvalidTable" "LimitError" false)))⟩
  · cases h
    cases hG
    exact ⟨(ex_TooLong v).2.1, (kit_ok (v.c.fact 77 (f := .kit "TooLong" "LimitError" true)))⟩
  · cases h
    cases hG
    exact ⟨(ex_TooMany v).2.1, (kit_ok (v.c.fact 78 (f := .kit "TooMany" "LimitError" true)))⟩
  · cases h
def xi_ThreeswapsError_AbsentError_TooMany : Nat → Option Bool := fun n => match n with
  | 100 => some true
  | 102 => some true
  | 115 => some false
  | 116 => some true
  | _ => none
theorem xi_ThreeswapsError_AbsentError_TooMany_ok (v : Ev K mg base) : ∀ k b C, xi_ThreeswapsError_AbsentError_TooMany k = some b → (MM K).G k = some C → XqC K C ∧ PySem.W.kitAny K (.ref C) [.ref (He.ga K "ThreeswapsError"), .ref (He.ga K "AbsentError"), .ref (He.ga K "TooMany")] = some b := by
  intro k b C h hG
  unfold xi_ThreeswapsError_AbsentError_TooMany at h
  split at h
  · cases h
    cases hG
    exact ⟨(ex_InvalidInteger v).2.1, (kitAny_cons (kit_ok (v.c.fact 80 (f := .kit "InvalidInteger" "ThreeswapsError" true))) (fun z => by cases z) (fun _ => rfl))⟩
  · cases h
    cases hG
    exact ⟨(ex_InvalidTable v).2.1, (kitAny_cons (kit_ok (v.c.fact 81 (f := .kit "InvalidTable" "ThreeswapsError" true))) (fun z => by cases z) (fun _ => rfl))⟩
  · cases h
    cases hG
    exact ⟨(ex_TooLong v).2.1, (kitAny_cons (kit_ok (v.c.fact 84 (f := .kit "TooLong" "ThreeswapsError" false))) (fun _ => (kitAny_cons (kit_ok (v.c.fact 83 (f := .kit "TooLong" "AbsentError" false))) (fun _ => (kitAny_cons (kit_ok (v.c.fact 82 (f := .kit "TooLong" "TooMany" false))) (fun _ => kitAny_nil) (fun z => by cases z))) (fun z => by cases z))) (fun z => by cases z))⟩
  · cases h
    cases hG
    exact ⟨(ex_TooMany v).2.1, (kitAny_cons (kit_ok (v.c.fact 87 (f := .kit "TooMany" "ThreeswapsError" false))) (fun _ => (kitAny_cons (kit_ok (v.c.fact 86 (f := .kit "TooMany" "AbsentError" false))) (fun _ => (kitAny_cons (kit_ok (v.c.fact 85 (f := .kit "TooMany" "TooMany" true))) (fun z => by cases z) (fun _ => rfl))) (fun z => by cases z))) (fun z => by cases z))⟩
  · cases h
def xf_multiple : Nat → Option Nat := fun n => match n with
  | 115 => some 0
  | _ => none
theorem xf_multiple_ok (v : Ev K mg base) : ∀ k j C, xf_multiple k = some j → (MM K).G k = some C → XqC K C ∧ PySem.W.findIn K (.ref C) "multiple" = some none ∧ ((MM K).nm k)[j]? = some "multiple" ∧ ("multiple" : Str) ∉ ((MM K).nm k).take j := by
  intro k j C h hG
  unfold xf_multiple at h
  split at h
  · cases h
    cases hG
    exact ⟨(ex_TooLong v).2.1, He.noat_ok (v.c.fact 23 (f := .he (.noat "TooLong" "multiple"))), rfl, show ("multiple" : Str) ∉ (["multiple"] : List Str).take 0 from by decide +kernel⟩
  · cases h
abbrev g__law_long_right_1 : FS := (sAsg (fBin gIx (frz (fLst (aCons (fTup (aCons (frz (fLst (aCons (kD (.int 11)) (aCons (kD (.int 13)) (aCons (kD (.int 19)) aNil))))) (aCons (kD (.int 2717)) aNil))) (aCons (fTup (aCons (frz (fLst (aCons (kD (.int 41)) (aCons (kD (.int 62)) (aCons (kD (.int 2)) aNil))))) (aCons (kD (.int 2542)) aNil))) aNil)))) (frz (fOwnIo m__law_draw 0 (aCons (kD (.int 2)) aNil)))) (tTup 2 (tsCons (tName 4) (tsCons (tName 5) tsNil))))
abbrev g__law_long_right_2 : FS := (sAsg (fLc (stName 6) [6] (itSeq (frz (fOwnIo m__law_shuffled 0 (aCons (vI 4) aNil)))) tTrue (frz (fMake 0 m_Plan___init__ (aCons (frz (fOwnIo m__law_exchange 0 (aCons (vI 6) aNil))) aNil)))) (tName 1))
abbrev g__law_long_right_3 : FS := (sAsg (toE (kD .non)) (tName 2))
abbrev g__law_long_right_4t_1 : FS := (sAsg (fOwn m_renaming_fault (aCons (frz (fBin gIx (vI 1) (kD (.int 0)))) (aCons (frz (fBin gIx (vI 1) (kD (.int 1)))) (aCons (frz (fBin gIx (vI 1) (kD (.int 2)))) aNil)))) (tName 2))
abbrev g__law_long_right_4B : FS := g__law_long_right_4t_1
abbrev g__law_long_right_4 : FS := (sTry 3 g__law_long_right_4B (hCons xm_TooLong (fun y => (sSeq (sAsg (fAndV (xIs xi_LimitError y) (toE (xIs xi_ArithmeticError y))) (tName 7)) (sAsg (fLst (aCons (xFldT xf_multiple y) (aCons (frz (fAndV (vI 7) (toE (fNotV (xIs xi_ThreeswapsError_AbsentError_TooMany y))))) aNil))) (tName 2)))) hNil))
abbrev g__law_long_right_5 : FS := (sRet (fBin gEq (vI 2) (frz (fLst (aCons (vI 5) (aCons (kD (.bl true)) aNil))))))
def g__law_long_right : FS := (sSeq g__law_long_right_1 (sSeq g__law_long_right_2 (sSeq g__law_long_right_3 (sSeq g__law_long_right_4 g__law_long_right_5))))
theorem S__law_long_right : FnScope ["_law_pot_here", "_law_plans", "_law_told", "e", "_law_periods", "_law_due_here", "_law_period", "_law_fits"] ["_law_pot_here"] (defScope (top 42)) := ⟨rfl, rfl, rfl, by decide +kernel, rfl, by decide +kernel, by decide +kernel⟩
theorem kp__law_long_right (v : Ev K mg base) : PySem.W.keepIn K (.ref (He.ga K "_law_long_right")) = true := (v.c.def_ 33 (d := d__law_long_right) rfl).elim fun _ F => F.kp
theorem b__law_long_right (v : Ev K mg base) (cdv : Value) (A : Around) (outer : List Env) (s : Shared) (H : Hp) (E : XK) (hr : TS.Room 5 (A.deeper (PyProof.Rows.envOfC "_law_long_right" (defScope (top 42)) s.heap.objs.size (He.ga K "_law_long_right") cdv))) (tk : Takes (cxOf (L2.CX P w) P w K mg base ["_law_pot_here", "_law_plans", "_law_told", "e", "_law_periods", "_law_due_here", "_law_period", "_law_fits"] "_law_long_right" (defScope (top 42)) (He.ga K "_law_long_right") cdv A outer s H E) (fun cls d _ H => E cls d H))
    (hp : PassesOwn (model P w) (A.deeper (PyProof.Rows.envOfC "_law_long_right" (defScope (top 42)) s.heap.objs.size (He.ga K "_law_long_right") cdv)) (PyProof.Rows.envOfC "_law_long_right" (defScope (top 42)) s.heap.objs.size (He.ga K "_law_long_right") cdv) (cxOf (L2.CX P w) P w K mg base ["_law_pot_here", "_law_plans", "_law_told", "e", "_law_periods", "_law_due_here", "_law_period", "_law_fits"] "_law_long_right" (defScope (top 42)) (He.ga K "_law_long_right") cdv A outer s H E).xe) : DSs (MM K) (fun cls d _ H => E cls d H) (cxOf (L2.CX P w) P w K mg base ["_law_pot_here", "_law_plans", "_law_told", "e", "_law_periods", "_law_due_here", "_law_period", "_law_fits"] "_law_long_right" (defScope (top 42)) (He.ga K "_law_long_right") cdv A outer s H E) (defBody (top 42)) g__law_long_right :=
  (dss_cons (ds_asg (x_ix hr (DE.frz (de_lst (da_cons (di_tup (da_cons (DE.frz (de_lst (da_cons di_int (da_cons di_int (da_cons di_int da_nil))))) (da_cons di_int da_nil))) (da_cons (di_tup (da_cons (DE.frz (de_lst (da_cons di_int (da_cons di_int (da_cons di_int da_nil))))) (da_cons di_int da_nil))) da_nil)))) (DE.pk (d_ownIo (fun h => pe_own ((f__law_draw v).mono (by decide)) hr tk (by rfl) (u__law_draw v) (kp__law_draw v) h) (pv 0) (da_cons di_int da_nil)))) (dg_tup (by rfl) (dgs_cons (dg_name (pg_name S__law_long_right.nd (by rfl) (by first | exact Or.inl rfl | exact Or.inr rfl))) (dgs_cons (dg_name (pg_name S__law_long_right.nd (by rfl) (by first | exact Or.inl rfl | exact Or.inr rfl))) dgs_nil))) (tgt_tup (tgs_cons (tgt_name 4) (tgs_cons (tgt_name 5) tgs_nil))))
    (dss_cons (ds_setLc (i := 1) (own := [("_law_period", 6)]) (by rfl) (by rfl) S__law_long_right.nd (by rfl) (by rfl) (by rfl) (dit_list (DE.frz (d_ownIo (fun h => pe_own ((f__law_shuffled v).mono (by decide)) hr tk (by rfl) (u__law_shuffled v) (kp__law_shuffled v) h) (pv 0) (da_cons (di_var (pv 4)) da_nil)))) (blkOk_by (by kernel_rfl)) (st_name 6) (fun _ _ _ _ _ => pg_name S__law_long_right.nd (by rfl) (by first | exact Or.inl rfl | exact Or.inr rfl)) (fun _ _ _ _ _ => pts_no) (fun _ _ _ _ _ => (DE.frz (d_make (fun h => pe_makeS (He.mkr_ok (v.c.fact 34 (f := .he (.mkr "Plan")))) ((f_Plan___init__ v).mono (by decide)) (hr.mono (by decide : 5 ≤ 5)) TS.takes0 (by rfl) (u_Plan v) h) rfl (da_cons (DE.frz (d_ownIo (fun h => pe_own ((f__law_exchange v).mono (by decide)) hr TS.takes0 (by rfl) (u__law_exchange v) (kp__law_exchange v) h) (pv 0) (da_cons (di_var (pv 6)) da_nil))) da_nil)))))
    (dss_cons (ds_set (i := 2) S__law_long_right.nd (by rfl) (by first | exact Or.inl rfl | exact Or.inr rfl) (DI.toE di_non))
    (dss_cons (ds_try (by rfl) (by rfl) S__law_long_right.nd (by rfl) (by rfl) tk (fun W pn xe tk hp => (dss_one (ds_set (i := 2) S__law_long_right.nd (by rfl) (by first | exact Or.inl rfl | exact Or.inr rfl) (d_own (fun h => pe_own ((f_renaming_fault v).mono (by decide)) hr tk (by rfl) (u_renaming_fault v) (kp_renaming_fault v) h) (da_cons (DE.frz (x_ix hr (di_var (pv 1)) (DI.pk di_int))) (da_cons (DE.frz (x_ix hr (di_var (pv 1)) (DI.pk di_int))) (da_cons (DE.frz (x_ix hr (di_var (pv 1)) (DI.pk di_int))) da_nil))))))) (ClA.cons (tab := xm_TooLong) ⟨by rfl, by decide, Or.inl (u_TooLong v)⟩ (xm_TooLong_ok v) (fun a oe cls d pn y hz hf => (zs_cons (z_set (by show 7 ≠ 3; decide) S__law_long_right.nd (by rfl) (by first | exact Or.inl rfl | exact Or.inr rfl) (z_and (z_isi (xi_LimitError_ok v) hz hf (by rfl) (u_isinstance v) (pv 3) (pe_glob (by rfl) (u_LimitError v) (by rfl)) (ClsV.own _)) (z_one (z_toE (z_isi (xi_ArithmeticError_ok v) hz hf (by rfl) (u_isinstance v) (pv 3) (k_ty PyProof.Rows.Boot.«ArithmeticError» (by rfl) (u_ArithmeticError v)) (ClsV.ty "ArithmeticError")))))) (zs_one (z_set (by show 2 ≠ 3; decide) S__law_long_right.nd (by rfl) (by first | exact Or.inl rfl | exact Or.inr rfl) (z_lst (z_cons (z_fld (xf_multiple_ok v) hz hf (pv 3)) (z_cons (z_frz (z_and (z_i (di_var (pv 7))) (z_one (z_toE (z_not (z_isiT (xi_ThreeswapsError_AbsentError_TooMany_ok v) hz hf (by rfl) (u_isinstance v) (pv 3) (pa_cons (pe_glob (by rfl) (u_ThreeswapsError v) (by rfl)) (pa_cons (pe_glob (by rfl) (u_AbsentError v) (by rfl)) (pa_cons (pe_glob (by rfl) (u_TooMany v) (by rfl)) pa_nil))) (fun σ H Q h => h) (Paired.cons (ClsV.own _) (Paired.cons (ClsV.own _) (Paired.cons (ClsV.own _) Paired.nil))) (by show 3 ≤ 100; decide))))))) z_nil))))))) ClA.nil))
    (dss_one (ds_ret (x_eq hr (di_var (pv 2)) (DE.pk (de_lst (da_cons (di_var (pv 5)) (da_cons di_bl da_nil)))))))))))
def m__law_long_right : Fm := mir 8 1 g__law_long_right
theorem o__law_long_right (v : Ev K mg base) : ∃ fd, FunD K "_law_long_right" "_law_long_right" (defArgs (top 42)) (defBody (top 42)) (defScope (top 42)) [] [] (He.ga K "_law_long_right") fd ∧ TS.FnOk P w K mg base (L2.CX P w) 6 (He.ga K "_law_long_right") fd ["_law_pot_here"] (spD (MM K) m__law_long_right) := by
  obtain ⟨fd, F⟩ := v.c.def_ 33 (d := d__law_long_right) rfl
  exact ⟨fd, F, funD_mir (M := MM K) F S__law_long_right (by decide) (fun cdv A outer s H E hr tk hp => b__law_long_right v cdv A outer s H E hr tk hp)⟩
theorem f__law_long_right (v : Ev K mg base) : TS.FnR P w K mg base (L2.CX P w) 6 (He.ga K "_law_long_right") (spD (MM K) m__law_long_right) := by
  obtain ⟨fd, F, O⟩ := o__law_long_right (P := P) (w := w) v
  exact fnR_raw (M := MM K) O (F.bindsN (ps := ["_law_pot_here"]) fun _ _ _ _ _ _ us hl => match us, hl with | [_], _ => rfl)
abbrev g__law_right_1 : FS := (sAsg (fOwnIo m__law_table 0 (aCons (frz (fBin gAdd (kD (.int 1)) (frz (fOwnIo m__law_draw 0 (aCons (kD (.int 10)) aNil))))) (aCons (frz (fBin gAdd (kD (.int 1)) (frz (fCal gInt (aOne (frz (fBin gEq (frz (fOwnIo m__law_draw 0 (aCons (kD (.int 3)) aNil))) (kD (.int 0))))))))) aNil))) (tName 1))
abbrev g__law_right_2 : FS := (sAsg (fOwnIo m__law_table 0 (aCons (frz (fBin gAdd (kD (.int 1)) (frz (fOwnIo m__law_draw 0 (aCons (kD (.int 10)) aNil))))) (aCons (frz (fBin gAdd (kD (.int 1)) (frz (fCal gInt (aOne (frz (fBin gEq (frz (fOwnIo m__law_draw 0 (aCons (kD (.int 4)) aNil))) (kD (.int 0))))))))) aNil))) (tName 2))
abbrev g__law_right_3 : FS := (sPar 4 5 (fOwn m__law_renamed (aCons (vI 1) (aCons (vI 2) aNil))) (fOwnIo m__law_draw 0 (aCons (kD (.int 6)) aNil)))
abbrev g__law_right_4a_1 : FS := (sRet (toE (kD (.bl false))))
abbrev g__law_right_4 : FS := (sIf (fNot (fTst (fOwn m__law_asked (aCons (vI 1) (aCons (vI 4) (aCons (vI 2) aNil)))))) g__law_right_4a_1 sNil)
abbrev g__law_right_5a_1 : FS := (sAsg (fOwnIo m__law_kin 0 (aCons (vI 1) (aCons (kD (.int 1)) aNil))) (tName 1))
abbrev g__law_right_5 : FS := (sIf (fTst (fBin gEq (vI 5) (kD (.int 0)))) g__law_right_5a_1 sNil)
abbrev g__law_right_6a_1 : FS := (sAsg (fOwnIo m__law_kin 0 (aCons (vI 4) (aCons (kD (.int 1)) aNil))) (tName 4))
abbrev g__law_right_6 : FS := (sIf (fTst (fBin gEq (vI 5) (kD (.int 1)))) g__law_right_6a_1 sNil)
abbrev g__law_right_7a_1 : FS := (sAsg (fOwnIo m__law_kin 0 (aCons (vI 2) (aCons (kD (.int 1)) aNil))) (tName 2))
abbrev g__law_right_7 : FS := (sIf (fTst (fBin gEq (vI 5) (kD (.int 2)))) g__law_right_7a_1 sNil)
abbrev g__law_right_8a_1 : FS := (sRet (toE (kD (.bl false))))
abbrev g__law_right_8 : FS := (sIf (fOr (fNot (fTst (fOwn m__law_asked (aCons (vI 1) (aCons (vI 4) (aCons (vI 2) aNil)))))) (fNot (fTst (fOwn m__law_asked (aCons (vI 4) (aCons (vI 1) (aCons (vI 2) aNil))))))) g__law_right_8a_1 sNil)
abbrev g__law_right_9 : FS := (sAsg (fOwnIo m__law_table 0 (aCons (frz (fOwnIo m__law_choice 0 (aCons (frz (fLst (aCons (kD (.int 5)) (aCons (kD (.int 7)) (aCons (kD (.int 9)) aNil))))) aNil))) (aCons (kD (.int 1)) aNil))) (tName 3))
abbrev g__law_right_10 : FS := (sRet (fAndV (frz (fOwn m__law_asked (aCons (vI 1) (aCons (vI 3) (aCons (vI 2) aNil))))) (fOwnIo m__law_long_right 0 aNil)))
def g__law_right : FS := (sSeq g__law_right_1 (sSeq g__law_right_2 (sSeq g__law_right_3 (sSeq g__law_right_4 (sSeq g__law_right_5 (sSeq g__law_right_6 (sSeq g__law_right_7 (sSeq g__law_right_8 (sSeq g__law_right_9 g__law_right_10)))))))))
theorem S__law_right : FnScope ["_law_pot_here", "_law_source", "_law_key", "_law_unlike", "_law_goal", "_law_way"] ["_law_pot_here"] (defScope (top 44)) := ⟨rfl, rfl, rfl, by decide +kernel, rfl, by decide +kernel, by decide +kernel⟩
theorem kp__law_right (v : Ev K mg base) : PySem.W.keepIn K (.ref (He.ga K "_law_right")) = true := (v.c.def_ 34 (d := d__law_right) rfl).elim fun _ F => F.kp
theorem b__law_right (v : Ev K mg base) (cdv : Value) (A : Around) (outer : List Env) (s : Shared) (H : Hp) (E : XK) (hr : TS.Room 6 (A.deeper (PyProof.Rows.envOfC "_law_right" (defScope (top 44)) s.heap.objs.size (He.ga K "_law_right") cdv))) (tk : Takes (cxOf (L2.CX P w) P w K mg base ["_law_pot_here", "_law_source", "_law_key", "_law_unlike", "_law_goal", "_law_way"] "_law_right" (defScope (top 44)) (He.ga K "_law_right") cdv A outer s H E) (fun cls d _ H => E cls d H))
    (hp : PassesOwn (model P w) (A.deeper (PyProof.Rows.envOfC "_law_right" (defScope (top 44)) s.heap.objs.size (He.ga K "_law_right") cdv)) (PyProof.Rows.envOfC "_law_right" (defScope (top 44)) s.heap.objs.size (He.ga K "_law_right") cdv) (cxOf (L2.CX P w) P w K mg base ["_law_pot_here", "_law_source", "_law_key", "_law_unlike", "_law_goal", "_law_way"] "_law_right" (defScope (top 44)) (He.ga K "_law_right") cdv A outer s H E).xe) : DSs (MM K) (fun cls d _ H => E cls d H) (cxOf (L2.CX P w) P w K mg base ["_law_pot_here", "_law_source", "_law_key", "_law_unlike", "_law_goal", "_law_way"] "_law_right" (defScope (top 44)) (He.ga K "_law_right") cdv A outer s H E) (defBody (top 44)) g__law_right :=
  (dss_cons (ds_set (i := 1) S__law_right.nd (by rfl) (by first | exact Or.inl rfl | exact Or.inr rfl) (d_ownIo (fun h => pe_own ((f__law_table v).mono (by decide)) hr tk (by rfl) (u__law_table v) (kp__law_table v) h) (pv 0) (da_cons (DE.frz (x_add di_int (DE.pk (d_ownIo (fun h => pe_own ((f__law_draw v).mono (by decide)) hr tk (by rfl) (u__law_draw v) (kp__law_draw v) h) (pv 0) (da_cons di_int da_nil))))) (da_cons (DE.frz (x_add di_int (DE.pk (b_int (by rfl) (u_int v) (db_one (DE.pk (x_eq hr (DE.frz (d_ownIo (fun h => pe_own ((f__law_draw v).mono (by decide)) hr tk (by rfl) (u__law_draw v) (kp__law_draw v) h) (pv 0) (da_cons di_int da_nil))) (DI.pk di_int)))))))) da_nil))))
    (dss_cons (ds_set (i := 2) S__law_right.nd (by rfl) (by first | exact Or.inl rfl | exact Or.inr rfl) (d_ownIo (fun h => pe_own ((f__law_table v).mono (by decide)) hr tk (by rfl) (u__law_table v) (kp__law_table v) h) (pv 0) (da_cons (DE.frz (x_add di_int (DE.pk (d_ownIo (fun h => pe_own ((f__law_draw v).mono (by decide)) hr tk (by rfl) (u__law_draw v) (kp__law_draw v) h) (pv 0) (da_cons di_int da_nil))))) (da_cons (DE.frz (x_add di_int (DE.pk (b_int (by rfl) (u_int v) (db_one (DE.pk (x_eq hr (DE.frz (d_ownIo (fun h => pe_own ((f__law_draw v).mono (by decide)) hr tk (by rfl) (u__law_draw v) (kp__law_draw v) h) (pv 0) (da_cons di_int da_nil))) (DI.pk di_int)))))))) da_nil))))
    (dss_cons (ds_par (i := 4) (j := 5) (by rfl) S__law_right.nd (by rfl) (by rfl) (by decide) (by rfl) (by rfl) (d_own (fun h => pe_own ((f__law_renamed v).mono (by decide)) hr tk (by rfl) (u__law_renamed v) (kp__law_renamed v) h) (da_cons (di_var (pv 1)) (da_cons (di_var (pv 2)) da_nil))) (d_ownIo (fun h => pe_own ((f__law_draw v).mono (by decide)) hr tk (by rfl) (u__law_draw v) (kp__law_draw v) h) (pv 0) (da_cons di_int da_nil)) (by rfl))
    (dss_cons (ds_if (dt_not (dt_val (d_own (fun h => pe_own ((f__law_asked v).mono (by decide)) hr tk (by rfl) (u__law_asked v) (kp__law_asked v) h) (da_cons (di_var (pv 1)) (da_cons (di_var (pv 4)) (da_cons (di_var (pv 2)) da_nil)))))) (dss_one (ds_ret (DI.toE di_bl))) dss_nil)
    (dss_cons (ds_if (t_eq hr (di_var (pv 5)) (DI.pk di_int)) (dss_one (ds_set (i := 1) S__law_right.nd (by rfl) (by first | exact Or.inl rfl | exact Or.inr rfl) (d_ownIo (fun h => pe_own ((f__law_kin v).mono (by decide)) hr tk (by rfl) (u__law_kin v) (kp__law_kin v) h) (pv 0) (da_cons (di_var (pv 1)) (da_cons di_int da_nil))))) dss_nil)
    (dss_cons (ds_if (t_eq hr (di_var (pv 5)) (DI.pk di_int)) (dss_one (ds_set (i := 4) S__law_right.nd (by rfl) (by first | exact Or.inl rfl | exact Or.inr rfl) (d_ownIo (fun h => pe_own ((f__law_kin v).mono (by decide)) hr tk (by rfl) (u__law_kin v) (kp__law_kin v) h) (pv 0) (da_cons (di_var (pv 4)) (da_cons di_int da_nil))))) dss_nil)
    (dss_cons (ds_if (t_eq hr (di_var (pv 5)) (DI.pk di_int)) (dss_one (ds_set (i := 2) S__law_right.nd (by rfl) (by first | exact Or.inl rfl | exact Or.inr rfl) (d_ownIo (fun h => pe_own ((f__law_kin v).mono (by decide)) hr tk (by rfl) (u__law_kin v) (kp__law_kin v) h) (pv 0) (da_cons (di_var (pv 2)) (da_cons di_int da_nil))))) dss_nil)
    (dss_cons (ds_if (DW.pt (dw_or (dt_not (dt_val (d_own (fun h => pe_own ((f__law_asked v).mono (by decide)) hr tk (by rfl) (u__law_asked v) (kp__law_asked v) h) (da_cons (di_var (pv 1)) (da_cons (di_var (pv 4)) (da_cons (di_var (pv 2)) da_nil)))))) (dw_or1 (dt_not (dt_val (d_own (fun h => pe_own ((f__law_asked v).mono (by decide)) hr tk (by rfl) (u__law_asked v) (kp__law_asked v) h) (da_cons (di_var (pv 4)) (da_cons (di_var (pv 1)) (da_cons (di_var (pv 2)) da_nil))))))))) (dss_one (ds_ret (DI.toE di_bl))) dss_nil)
    (dss_cons (ds_set (i := 3) S__law_right.nd (by rfl) (by first | exact Or.inl rfl | exact Or.inr rfl) (d_ownIo (fun h => pe_own ((f__law_table v).mono (by decide)) hr tk (by rfl) (u__law_table v) (kp__law_table v) h) (pv 0) (da_cons (DE.frz (d_ownIo (fun h => pe_own ((f__law_choice v).mono (by decide)) hr tk (by rfl) (u__law_choice v) (kp__law_choice v) h) (pv 0) (da_cons (DE.frz (de_lst (da_cons di_int (da_cons di_int (da_cons di_int da_nil))))) da_nil))) (da_cons di_int da_nil))))
    (dss_one (ds_ret (de_and (DE.frz (d_own (fun h => pe_own ((f__law_asked v).mono (by decide)) hr tk (by rfl) (u__law_asked v) (kp__law_asked v) h) (da_cons (di_var (pv 1)) (da_cons (di_var (pv 3)) (da_cons (di_var (pv 2)) da_nil))))) (de_one (d_ownIo (fun h => pe_own ((f__law_long_right v).mono (by decide)) hr tk (by rfl) (u__law_long_right v) (kp__law_long_right v) h) (pv 0) da_nil))))))))))))))
def m__law_right : Fm := mir 6 1 g__law_right
theorem o__law_right (v : Ev K mg base) : ∃ fd, FunD K "_law_right" "_law_right" (defArgs (top 44)) (defBody (top 44)) (defScope (top 44)) [] [] (He.ga K "_law_right") fd ∧ TS.FnOk P w K mg base (L2.CX P w) 7 (He.ga K "_law_right") fd ["_law_pot_here"] (spD (MM K) m__law_right) := by
  obtain ⟨fd, F⟩ := v.c.def_ 34 (d := d__law_right) rfl
  exact ⟨fd, F, funD_mir (M := MM K) F S__law_right (by decide) (fun cdv A outer s H E hr tk hp => b__law_right v cdv A outer s H E hr tk hp)⟩
theorem f__law_right (v : Ev K mg base) : TS.FnR P w K mg base (L2.CX P w) 7 (He.ga K "_law_right") (spD (MM K) m__law_right) := by
  obtain ⟨fd, F, O⟩ := o__law_right (P := P) (w := w) v
  exact fnR_raw (M := MM K) O (F.bindsN (ps := ["_law_pot_here"]) fun _ _ _ _ _ _ us hl => match us, hl with | [_], _ => rfl)
abbrev g_law_1a_1 : FS := (sRet (toE (kD (.bl false))))
abbrev g_law_1 : FS := (sIf (fNot (fTst (fOwnT m__law_bound_right (fOwn m__law_pot (aCons (vI 0) (aCons (kD (.int 0)) aNil)))))) g_law_1a_1 sNil)
abbrev g_law_2 : FS := (sRet (fCal gAll (aOne (frz (fLc (stName 1) [1] (itRg1 (frz (fCal gMax (aCons (kD (.int 1)) (aCons (frz (fCal gMin (aCons (kD (.int 5)) (aCons (frz (fCal gLen (aOne (vP 0)))) aNil)))) aNil))))) tTrue (frz (fOwnT m__law_right (fOwn m__law_pot (aCons (vI 0) (aCons (vI 1) aNil))))))))))
def g_law : FS := (sSeq g_law_1 g_law_2)
theorem S_law : FnScope ["_law_script", "_law_k"] ["_law_script"] (defScope (top 45)) := ⟨rfl, rfl, rfl, by decide +kernel, rfl, by decide +kernel, by decide +kernel⟩
theorem b_law (v : Ev K mg base) (cdv : Value) (A : Around) (outer : List Env) (s : Shared) (H : Hp) (E : XK) (hr : TS.Room 7 (A.deeper (PyProof.Rows.envOfC "law" (defScope (top 45)) s.heap.objs.size (He.ga K "law") cdv))) (tk : Takes (cxOf (L2.CX P w) P w K mg base ["_law_script", "_law_k"] "law" (defScope (top 45)) (He.ga K "law") cdv A outer s H E) (fun cls d _ H => E cls d H))
    (hp : PassesOwn (model P w) (A.deeper (PyProof.Rows.envOfC "law" (defScope (top 45)) s.heap.objs.size (He.ga K "law") cdv)) (PyProof.Rows.envOfC "law" (defScope (top 45)) s.heap.objs.size (He.ga K "law") cdv) (cxOf (L2.CX P w) P w K mg base ["_law_script", "_law_k"] "law" (defScope (top 45)) (He.ga K "law") cdv A outer s H E).xe) : DSs (MM K) (fun cls d _ H => E cls d H) (cxOf (L2.CX P w) P w K mg base ["_law_script", "_law_k"] "law" (defScope (top 45)) (He.ga K "law") cdv A outer s H E) (defBody (top 45)) g_law :=
  (dss_cons (ds_if (dt_not (dt_val (d_ownT (fun h => pe_own ((f__law_bound_right v).mono (by decide)) hr tk (by rfl) (u__law_bound_right v) (kp__law_bound_right v) h) (d_own (fun h => pe_own ((f__law_pot v).mono (by decide)) hr tk (by rfl) (u__law_pot v) (kp__law_pot v) h) (da_cons (di_var (pv 0)) (da_cons di_int da_nil)))))) (dss_one (ds_ret (DI.toE di_bl))) dss_nil)
    (dss_one (ds_ret (b_all (by rfl) (by rfl) (u_all v) (db_one (DE.pk (de_lc (own := [("_law_k", 1)]) (by rfl) (by rfl) S_law.nd (dit_rg1 (by rfl) (u_range v) (DE.frz (b_max (by rfl) (by rfl) (u_max v) (DA.b (da_cons di_int (da_cons (DE.frz (b_min (by rfl) (by rfl) (u_min v) (DA.b (da_cons di_int (da_cons (DE.frz (b_len (by rfl) (u_len v) (db_one (dp_var (pv 0))))) da_nil))))) da_nil)))))) (blkOk_by (by kernel_rfl)) (st_name 1) (fun _ _ _ _ _ => pg_name S_law.nd (by rfl) (by first | exact Or.inl rfl | exact Or.inr rfl)) (fun _ _ _ _ _ => pts_no) (fun _ _ _ _ _ => (DE.frz (d_ownT (fun h => pe_own ((f__law_right v).mono (by decide)) hr TS.takes0 (by rfl) (u__law_right v) (kp__law_right v) h) (d_own (fun h => pe_own ((f__law_pot v).mono (by decide)) hr TS.takes0 (by rfl) (u__law_pot v) (kp__law_pot v) h) (da_cons (di_var (pv 0)) (da_cons (di_var (pv 1)) da_nil)))))))))))))
def m_law : Fm := mir 2 1 g_law
theorem o_law (v : Ev K mg base) : ∃ fd, FunD K "law" "law" (defArgs (top 45)) (defBody (top 45)) (defScope (top 45)) [] [] (He.ga K "law") fd ∧ TS.FnOk P w K mg base (L2.CX P w) 8 (He.ga K "law") fd ["_law_script"] (spD (MM K) m_law) := by
  obtain ⟨fd, F⟩ := v.c.def_ 35 (d := d_law) rfl
  exact ⟨fd, F, funD_mir (M := MM K) F S_law (by decide) (fun cdv A outer s H E hr tk hp => b_law v cdv A outer s H E hr tk hp)⟩
end
end K54

set_option maxHeartbeats 2000000
namespace K54
open PySem L2 TS
noncomputable section
-- needs: 
def Pot (o : OB) : Prop := ∃ a b : Int, o = .l [.int a, .int b] ∧ 0 ≤ a ∧ 0 ≤ b ∧ b < 4294967296
theorem draw_ok {o : OB} (h : Pot o) {m : Int} (h0 : 0 < m) (h1 : m < 1000000000) : ∃ r o', m__law_draw (some o) [.int m] = .ok (.imm (.int r)) (some o') ∧ Pot o' ∧ 0 ≤ r ∧ r < m := by
  obtain ⟨a, b, rfl, ha, hb, hb2⟩ := h
  have hm : m.natAbs < 2 ^ 255 := by omega
  by_cases hp : 0 < a
  · refine ⟨a % m, .l [.int (a / m), .int b], ?_, ⟨_, _, rfl, Int.ediv_nonneg ha (by omega), hb, hb2⟩, Int.emod_nonneg _ (by omega), Int.emod_lt_of_pos _ h0⟩
    simp [m__law_draw, mir, ini, ioS, ioN, outR, ioOut, g__law_draw, atI, ixN, hp, gDivmod_i h0 hm, setOB]
  · have hb' : (b * 48271 + 20011) % 2147483629 < 2147483629 := Int.emod_lt_of_pos _ (by decide)
    have hb0 : 0 ≤ (b * 48271 + 20011) % 2147483629 := Int.emod_nonneg _ (by decide)
    have e1 : gMul (.int b) (.int 48271) = some (.imm (.int (b * 48271))) := gMul_i (by omega) (by decide)
    have e2 : gMul (.int ((b * 48271 + 20011) % 2147483629)) (.int ((b * 48271 + 20011) % 2147483629)) = some (.imm (.int ((b * 48271 + 20011) % 2147483629 * ((b * 48271 + 20011) % 2147483629)))) := gMul_i (by omega) (by omega)
    have e3 : ∀ i : Int, gMod (.int i) (.int 2147483629) = some (.imm (.int (i % 2147483629))) := fun i => gMod_i (by decide)
    have e4 : ∀ i : Int, gMod (.int i) (.int 2147483587) = some (.imm (.int (i % 2147483587))) := fun i => gMod_i (by decide)
    have e5 : ∀ i : Int, gFdiv (.int i) (.int 11) = some (.imm (.int (i / 11))) := fun i => gFdiv_i (by decide) (by decide)
    have e6 : ∀ i : Int, gMod (.int i) (.int m) = some (.imm (.int (i % m))) := fun i => gMod_i h0
    refine ⟨(((b * 48271 + 20011) % 2147483629 * ((b * 48271 + 20011) % 2147483629)) % 2147483587 / 11) % m, .l [.int a, .int ((b * 48271 + 20011) % 2147483629)], ?_, ⟨_, _, rfl, ha, hb0, by omega⟩, Int.emod_nonneg _ (by omega), Int.emod_lt_of_pos _ h0⟩
    simp [m__law_draw, mir, ini, ioS, ioN, outR, ioOut, g__law_draw, atI, ixN, hp, setOB, e1, e2, e3, e4, e5, e6]
end
end K54

set_option maxHeartbeats 2000000
namespace K54
open PySem L2 TS
noncomputable section
-- needs: draw
theorem great_ok {o : OB} (h : Pot o) : ∃ r o', m__law_great (some o) [] = .ok (.imm (.int r)) (some o') ∧ Pot o' ∧ -1000000000000000000000 < r ∧ r < 1000000000000000000000 := by
  obtain ⟨r1, o1, e1, p1, a1, b1⟩ := draw_ok h (m := 10000000) (by decide) (by decide)
  obtain ⟨r2, o2, e2, p2, a2, b2⟩ := draw_ok p1 (m := 10000000) (by decide) (by decide)
  obtain ⟨r3, o3, e3, p3, a3, b3⟩ := draw_ok p2 (m := 10000000) (by decide) (by decide)
  obtain ⟨r4, o4, e4, p4, a4, b4⟩ := draw_ok p3 (m := 2) (by decide) (by decide)
  have q7 : gPow (.int 10) (.int 7) = some (.imm (.int 10000000)) := pow_7
  have q14 : gPow (.int 10) (.int 14) = some (.imm (.int 100000000000000)) := pow_14
  have g1 : gMul (.int r1) (.int 100000000000000) = some (.imm (.int (r1 * 100000000000000))) := gMul_i (by omega) (by decide)
  have g2 : gMul (.int r2) (.int 10000000) = some (.imm (.int (r2 * 10000000))) := gMul_i (by omega) (by decide)
  rcases (show r4 = 0 ∨ r4 = 1 by omega) with z | z
  · refine ⟨r1 * 100000000000000 + r2 * 10000000 + r3, o4, ?_, p4, by omega, by omega⟩
    simp [m__law_great, mir, ini, ioS, ioN, outR, ioOut, g__law_great, q7, q14, e1, e2, e3, e4, g1, g2, z, atI, ixN]
  · refine ⟨0 - (r1 * 100000000000000 + r2 * 10000000 + r3), o4, ?_, p4, by omega, by omega⟩
    simp [m__law_great, mir, ini, ioS, ioN, outR, ioOut, g__law_great, q7, q14, e1, e2, e3, e4, g1, g2, z, atI, ixN]
end
end K54

set_option maxHeartbeats 2000000
namespace K54
open PySem L2 TS
noncomputable section
-- needs: draw
abbrev shT : FT := fTst (fBinV gNe 2 (frz (fLst aNil)))
abbrev shB : FS := sExpr (toE (fMut 3 mAppend (aCons (fMut 2 mPop (aCons (frz (fOwnIo m__law_draw 0 (aCons (frz (fCal gLen (aOne (vP 2)))) aNil))) aNil)) aNil)))
theorem gNe_nil (xs : List Int) : gNe (.lst (iL xs)) (.lst []) = some (.imm (.bl (!decide (xs = [])))) := gNe_l xs []
theorem shuf_loop (x : Option TS.R) : ∀ (k : Nat) (o : OB) (left mixed : List Int) (fuel : Nat), left.length = k → k < fuel → mixed.length + k ≤ 3000 → Pot o →
    ∃ o' mixed', whileL shT shB fuel [some (.brw o), x, some (.own (.l (iL left))), some (.own (.l (iL mixed)))] = .nx [some (.brw o'), x, some (.own (.l [])), some (.own (.l (iL mixed')))] ∧ Pot o' ∧ mixed'.Perm (mixed ++ left) := by
  intro k
  induction k with
  | zero =>
    intro o left mixed fuel hl hf hm hp
    obtain rfl : left = [] := List.eq_nil_of_length_eq_zero hl
    obtain ⟨f, rfl⟩ : ∃ f, fuel = f + 1 := ⟨fuel - 1, by omega⟩
    refine ⟨o, mixed, ?_, hp, by simp⟩
    have e := gNe_nil []
    simp [whileL, e, iL]
    simp [iL] at e
    simp [e]
  | succ k ih =>
    intro o left mixed fuel hl hf hm hp
    obtain ⟨f, rfl⟩ : ∃ f, fuel = f + 1 := ⟨fuel - 1, by omega⟩
    have hne : left ≠ [] := by intro z; rw [z] at hl; cases hl
    obtain ⟨r, o1, e1, p1, a1, b1⟩ := draw_ok hp (m := (left.length : Int)) (by omega) (by omega)
    obtain ⟨n, rfl⟩ : ∃ n : Nat, r = n := ⟨r.toNat, by omega⟩
    have hn : n < left.length := by omega
    have e2 := gNe_nil left
    have e3 : mPop (iL left) [.int (n : Int)] = some (.int left[n], iL (left.eraseIdx n)) := by
      have c : gd (0 ≤ (n : Int) ∧ (n : Int) < ((iL left).length : Int) ∧ (n : Int) < 9223372036854775808) = true := gd_true ⟨by omega, by simp [iL]; exact hn, by omega⟩
      have g : (iL left)[((n : Int)).toNat]? = some (.int left[n]) := by simp [iL, hn]
      have er : (iL left).eraseIdx ((n : Int)).toNat = iL (left.eraseIdx n) := by simp [iL, erase_map]
      simp only [mPop, c, if_true, g, er, Option.map_some]
    have e4 : ∀ d : Int, mAppend (iL mixed) [.int d] = some (.non, iL (mixed ++ [d])) := fun d => mAppend_int (by omega) d
    have hlen : (left.eraseIdx n).length = k := by rw [List.length_eraseIdx_of_lt hn]; omega
    obtain ⟨o', mixed', e5, p5, q5⟩ := ih o1 (left.eraseIdx n) (mixed ++ [left[n]]) f hlen (by omega) (by simp; omega) p1
    refine ⟨o', mixed', ?_, p5, ?_⟩
    · rw [← e5]
      simp only [whileL]
      simp [e1, e2, e3, e4, hne]
    · refine q5.trans ?_
      rw [List.append_assoc]
      exact List.Perm.append_left _ (by simpa using (erase_perm left n hn))
theorem shuffled_ok {o : OB} (h : Pot o) {xs : List Int} (hx : xs.length ≤ 3000) : ∃ ys o', m__law_shuffled (some o) [.lst (iL xs)] = .ok (.own (.l (iL ys))) (some o') ∧ Pot o' ∧ ys.Perm xs := by
  obtain ⟨o', ys, e, p, q⟩ := shuf_loop (some (.imm (.lst (iL xs)))) xs.length o xs [] (xs.length + 2) rfl (by omega) (by simpa using hx) h
  refine ⟨ys, o', ?_, p, by simpa using q⟩
  have e2 : gList [.lst (iL xs)] = some (.own (.l (iL xs))) := rfl
  have e3 : iL [] = [] := rfl
  rw [e3] at e
  simp [m__law_shuffled, mir, ini, ioS, ioN, outR, ioOut, g__law_shuffled, e2, sWhile, muL, e]
end
end K54

set_option maxHeartbeats 2000000
namespace K54
open PySem L2 TS
noncomputable section
-- needs: great shufL
def Rt (goals : List Int) (n : Int) (found : List Int) : Prop := ∀ j : Nat, j < found.length → ∃ g t : Int, goals[j]? = some g ∧ -1000000000000000000000 < t ∧ t < 1000000000000000000000 ∧ found[j]? = some (g - j + n * t)
theorem table_turn {o : OB} (h : Pot o) {n w : Int} (hn : 0 < n ∧ n ≤ 2520) (hw : 0 ≤ w ∧ w ≤ 2) {goals found : List Int} {i : Nat} (hi : i < goals.length) (hf : found.length = i) (hl : i < 3000) {s4 s6 : Option TS.R} (h4 : s4 = some (.own (.l (iL goals))) ∨ s4 = some (.imm (.lst (iL goals)))) :
    ∃ o' t s6', -1000000000000000000000 < t ∧ t < 1000000000000000000000 ∧ Pot o' ∧ g__law_table_2B [some (.brw o), some (.imm (.int n)), some (.imm (.int w)), some (.imm (.int (i : Int))), s4, some (.own (.l (iL found))), s6] =
      .nx [some (.brw o'), some (.imm (.int n)), some (.imm (.int w)), some (.imm (.int (i : Int))), some (.imm (.lst (iL goals))), some (.own (.l (iL (found ++ [goals[i] - i + n * t])))), s6'] := by
  obtain ⟨r1, o1, e1, p1, a1, b1⟩ := draw_ok h (m := 5) (by decide) (by decide)
  obtain ⟨r2, o2, e2, p2, a2, b2⟩ := draw_ok p1 (m := 3) (by decide) (by decide)
  obtain ⟨r3, o3, e3, p3, a3, b3⟩ := great_ok p2
  have eI : ∀ b : Bool, gInt [.bl b] = some (.imm (.int (if b then 1 else 0))) := fun b => rfl
  have mt : ∀ t : Int, -1000000000000000000000 < t → t < 1000000000000000000000 → gMul (.int n) (.int t) = some (.imm (.int (n * t))) := fun t h1 h2 => gMul_i (by omega) (by omega)
  have nb : ∀ t : Int, -1000000000000000000000 < t → t < 1000000000000000000000 → (n * t).natAbs < 2 ^ 255 := fun t h1 h2 => by
    have b1 : n * t ≤ n * 1000000000000000000000 := Int.mul_le_mul_of_nonneg_left (by omega) (by omega)
    have b2 : n * (-1000000000000000000000) ≤ n * t := Int.mul_le_mul_of_nonneg_left (by omega) (by omega)
    omega
  have m1 : ∀ t : Int, -1000000000000000000000 < t → t < 1000000000000000000000 → gMul (.int (n * t)) (.int 1) = some (.imm (.int (n * t * 1))) := fun t h1 h2 => gMul_i (nb t h1 h2) (by decide)
  have m0 : ∀ t : Int, -1000000000000000000000 < t → t < 1000000000000000000000 → gMul (.int (n * t)) (.int 0) = some (.imm (.int (n * t * 0))) := fun t h1 h2 => gMul_i (nb t h1 h2) (by decide)
  have ix := gIx_ints hi
  have ap : ∀ d : Int, mAppend (iL found) [.int d] = some (.non, iL (found ++ [d])) := fun d => mAppend_int (by omega) d
  rcases (show w = 0 ∨ w = 1 ∨ w = 2 by omega) with z | z | z
  · subst z
    have e := mt (r1 - 2) (by omega) (by omega)
    have f := m0 (r1 - 2) (by omega) (by omega)
    rw [Int.mul_zero] at f
    refine ⟨o1, 0, some (.imm (.int (r1 - 2))), by omega, by omega, p1, ?_⟩
    rcases h4 with rfl | rfl <;> simp [e1, eI, e, f, ix, ap, -gIx_l]
  · subst z
    have e := mt (r1 - 2) (by omega) (by omega)
    have f := m1 (r1 - 2) (by omega) (by omega)
    rw [Int.mul_one] at f
    refine ⟨o1, r1 - 2, some (.imm (.int (r1 - 2))), by omega, by omega, p1, ?_⟩
    rcases h4 with rfl | rfl <;> simp [e1, eI, e, f, ix, ap, -gIx_l]
  · subst z
    by_cases hz : r2 = 0
    · have e := mt r3 a3 b3
      have f := m1 r3 a3 b3
      rw [Int.mul_one] at f
      refine ⟨o3, r3, some (.imm (.int r3)), a3, b3, p3, ?_⟩
      rcases h4 with rfl | rfl <;> simp [e1, e2, e3, eI, e, f, ix, ap, hz, -gIx_l]
    · have e := mt (r1 - 2) (by omega) (by omega)
      have f := m1 (r1 - 2) (by omega) (by omega)
      rw [Int.mul_one] at f
      refine ⟨o2, r1 - 2, some (.imm (.int (r1 - 2))), by omega, by omega, p2, ?_⟩
      rcases h4 with rfl | rfl <;> simp [e1, e2, eI, e, f, ix, ap, hz, -gIx_l]
theorem table_loop {n w : Int} (hn : 0 < n ∧ n ≤ 2520) (hw : 0 ≤ w ∧ w ≤ 2) {goals : List Int} : ∀ (k i : Nat) (o : OB) (found : List Int) (s3 s4 s6 : Option TS.R), Pot o → i + k = goals.length → goals.length ≤ 2520 → found.length = i → Rt goals n found → (s4 = some (.own (.l (iL goals))) ∨ s4 = some (.imm (.lst (iL goals)))) →
    ∃ o' found' s3' s4' s6', Pot o' ∧ found'.length = goals.length ∧ Rt goals n found' ∧ forL (tName 3) g__law_table_2B (iL (nats i k)) [some (.brw o), some (.imm (.int n)), some (.imm (.int w)), s3, s4, some (.own (.l (iL found))), s6] =
      .nx [some (.brw o'), some (.imm (.int n)), some (.imm (.int w)), s3', s4', some (.own (.l (iL found'))), s6'] := by
  intro k
  induction k with
  | zero =>
    intro i o found s3 s4 s6 hp hi hg hf hr h4
    exact ⟨o, found, s3, s4, s6, hp, by omega, hr, by simp [nats, forL, iL]⟩
  | succ k ih =>
    intro i o found s3 s4 s6 hp hi hg hf hr h4
    have hil : i < goals.length := by omega
    obtain ⟨o1, t, s6', t1, t2, p1, e1⟩ := table_turn hp hn hw hil hf (by omega) (s6 := s6) h4
    have hr' : Rt goals n (found ++ [goals[i] - i + n * t]) := by
      intro j hj
      by_cases h : j < found.length
      · obtain ⟨g, u, h1, h2, h3, h5⟩ := hr j h
        exact ⟨g, u, h1, h2, h3, by rw [List.getElem?_append_left h]; exact h5⟩
      · have : j = i := by simp at hj; omega
        subst this
        exact ⟨goals[j], t, List.getElem?_eq_getElem hil, t1, t2, by rw [List.getElem?_append_right (by omega)]; simp [hf]⟩
    obtain ⟨o', found', a3, a4, a6, q1, q2, q3, q4⟩ := ih (i + 1) o1 (found ++ [goals[i] - i + n * t]) (some (.imm (.int (i : Int)))) (some (.imm (.lst (iL goals)))) s6' p1 (by omega) hg (by simp; omega) hr' (.inr rfl)
    refine ⟨o', found', a3, a4, a6, q1, q2, q3, ?_⟩
    rw [nats_succ]
    simp only [forL, ap_tNameI, SR.bind_nx, List.set_cons_succ, List.set_cons_zero, e1]
    exact q4
theorem table_ok {o : OB} (h : Pot o) {n w : Int} (hn : 0 < n ∧ n ≤ 2520) (hw : 0 ≤ w ∧ w ≤ 2) : ∃ goals t o', m__law_table (some o) [.int n, .int w] = .ok (.own (.l (iL t))) (some o') ∧ Pot o' ∧ goals.Perm (nats 0 n.toNat) ∧ t.length = n.toNat ∧ Rt goals n t := by
  obtain ⟨k, rfl⟩ : ∃ k : Nat, n = k := ⟨n.toNat, by omega⟩
  have hlen := nats_len 0 k
  obtain ⟨goals, o1, e1, p1, q1⟩ := shuffled_ok h (xs := nats 0 k) (by omega)
  have hg : goals.length = k := by rw [q1.length_eq, hlen]
  obtain ⟨o', t, a3, a4, a6, p2, l2, r2, e2⟩ := table_loop hn hw (goals := goals) k 0 o1 [] none (some (.own (.l (iL goals)))) none p1 (by omega) (by omega) rfl (fun j hj => absurd hj (by simp)) (.inl rfl)
  refine ⟨goals, t, o', ?_, p2, by simpa using q1, by simp; omega, r2⟩
  have f1 : ∀ δ : Sl, δ[1]? = some (some (.imm (.int (k : Int)))) → fLRg1 (vI 1) δ = .ok (.own (.l (iL (nats 0 k)))) δ := fun δ hd => fLRg1_ok (by omega) (by simp [hd])
  have f2 : ∀ δ : Sl, δ[1]? = some (some (.imm (.int (k : Int)))) → itRg1 (vI 1) δ = .ok (iL (nats 0 k)) δ := fun δ hd => itRg1_ok (by omega) (by simp [hd])
  have e3 : iL [] = [] := rfl
  rw [e3] at e2
  have s1 : g__law_table_1 [some (.brw o), some (.imm (.int (k : Int))), some (.imm (.int w)), none, none, none, none] = .nx [some (.brw o1), some (.imm (.int (k : Int))), some (.imm (.int w)), none, some (.own (.l (iL goals))), some (.own (.l [])), none] := by
    have q := f1 [some (.brw o), some (.imm (.int (k : Int))), some (.imm (.int w)), none, none, none, none] rfl
    simp [q, e1]
  have s2 : g__law_table_2 [some (.brw o1), some (.imm (.int (k : Int))), some (.imm (.int w)), none, some (.own (.l (iL goals))), some (.own (.l [])), none] = .nx [some (.brw o'), some (.imm (.int (k : Int))), some (.imm (.int w)), a3, a4, some (.own (.l (iL t))), a6] := by
    have q := f2 [some (.brw o1), some (.imm (.int (k : Int))), some (.imm (.int w)), none, some (.own (.l (iL goals))), some (.own (.l [])), none] rfl
    show sFor (itRg1 (vI 1)) (tName 3) g__law_table_2B _ = _
    rw [ap_sFor, q, Res.bindS_ok]
    exact e2
  have s3 : g__law_table [some (.brw o), some (.imm (.int (k : Int))), some (.imm (.int w)), none, none, none, none] = .rt (.own (.l (iL t))) [some (.brw o'), some (.imm (.int (k : Int))), some (.imm (.int w)), a3, a4, none, a6] := by
    unfold g__law_table
    rw [ap_sSeq, s1, SR.bind_nx, ap_sSeq, s2, SR.bind_nx]
    simp
  have s4 : ∀ G : FS, mir 7 3 G (some o) [.int (k : Int), .int w] = outR (some o) (G [some (.brw o), some (.imm (.int (k : Int))), some (.imm (.int w)), none, none, none, none]) := fun G => by simp [mir, ini, ioS, ioN]
  unfold m__law_table
  rw [s4, s3]
  simp [outR, ioOut]
end
end K54

set_option maxHeartbeats 2000000
namespace K54
open PySem L2 TS
noncomputable section
-- needs: table3L
theorem table_good {o : OB} (h : Pot o) {n w : Int} (hn : 0 < n ∧ n ≤ 2520) (hw : 0 ≤ w ∧ w ≤ 2) : ∃ t o', m__law_table (some o) [.int n, .int w] = .ok (.own (.l (iL t))) (some o') ∧ Pot o' ∧ t.length = n.toNat ∧ Good t ∧ ∀ x ∈ t, -10000000000000000000000000 < x ∧ x < 10000000000000000000000000 := by
  obtain ⟨goals, t, o', e, p, q, l, r⟩ := table_ok h hn hw
  have hgl : goals.length = n.toNat := by rw [q.length_eq, nats_len]
  have hgb : ∀ g ∈ goals, 0 ≤ g ∧ g < n := fun g hg => by
    have := q.mem_iff.mp hg
    simp [nats] at this
    obtain ⟨a, ha, rfl⟩ := this
    omega
  have hgn : goals.Nodup := by
    refine (List.Perm.nodup_iff q).mpr ?_
    rw [nodup_iff]
    intro i j hij hj e
    rw [nats_len] at hj
    simp [nats, hj, show i < n.toNat by omega] at e
    omega
  refine ⟨t, o', e, p, l, good_of_rems (by omega) (by omega) ?_, fun x hx => ?_⟩
  · have : rems t.length 0 t = goals := by
      apply List.ext_getElem?
      intro j
      rw [rems_get]
      by_cases hj : j < t.length
      · obtain ⟨g, u, h1, h2, h3, h5⟩ := r j hj
        rw [h5, h1]
        simp only [Option.map_some, Option.some.injEq, Nat.zero_add]
        obtain ⟨g0, g1⟩ := hgb g (List.mem_of_getElem? h1)
        rw [show ((t.length : Nat) : Int) = n by omega, show (j : Int) + (g - j + n * u) = g + n * u by omega, Int.add_mul_emod_self_left, Int.emod_eq_of_lt g0 g1]
      · rw [List.getElem?_eq_none (by omega), List.getElem?_eq_none (by omega)]; rfl
    rw [this]; exact hgn
  · obtain ⟨j, hj, rfl⟩ := List.getElem_of_mem hx
    obtain ⟨g, u, h1, h2, h3, h5⟩ := r j hj
    rw [List.getElem?_eq_getElem hj] at h5
    have h5 := Option.some.inj h5
    rw [h5]
    obtain ⟨g0, g1⟩ := hgb g (List.mem_of_getElem? h1)
    have b1 : n * u ≤ n * 1000000000000000000000 := Int.mul_le_mul_of_nonneg_left (by omega) (by omega)
    have b2 : n * (-1000000000000000000000) ≤ n * u := Int.mul_le_mul_of_nonneg_left (by omega) (by omega)
    omega
end
end K54

set_option maxHeartbeats 2000000
namespace K54
open PySem L2 TS
noncomputable section
-- needs: 
theorem is_int_int : is_int (.inl "int") = some true := by decide +kernel
theorem is_bool_int : is_bool (.inl "int") = some false := by decide +kernel
theorem is_lt_list : is_list_tuple (.inl "list") = some true := by decide +kernel
@[simp] theorem tag_int (i : Int) : tagD (.int i) = some (.inl "int") := rfl
@[simp] theorem tag_lst (xs : List D) : tagD (.lst xs) = some (.inl "list") := rfl
@[simp] theorem tag_obj (n : Nat) (xs : List D) : tagD (.obj n xs) = some (.inr n) := rfl
theorem is_integer_ok (i : Int) : m_is_integer none [.int i] = .ok (.imm (.bl true)) none := by
  simp [m_is_integer, mir, ini, ioS, ioN, outR, ioOut, g_is_integer, is_int_int, is_bool_int]
theorem require1_ok (i : Int) : m_require_integer_d1 none [.int i] = .ok (.imm .non) none := by
  have e : gNotN .non .non = some (.imm (.bl false)) := rfl
  simp [m_require_integer_d1, fmDfl, m_require_integer, mir, ini, ioS, ioN, outR, ioOut, g_require_integer, is_integer_ok, e]
theorem require2_ok {i j : Int} (h : j ≤ i) : m_require_integer none [.int i, .int j] = .ok (.imm .non) none := by
  have e : gNotN (.int j) .non = some (.imm (.bl true)) := rfl
  have h2 : ¬ i < j := by omega
  simp [m_require_integer, mir, ini, ioS, ioN, outR, ioOut, g_require_integer, is_integer_ok, e, h2]
end
end K54

set_option maxHeartbeats 2000000
namespace K54
open PySem L2 TS
noncomputable section
-- needs: ints
abbrev gcT : FT := fTst (fBin gNe (vI 3) (kD (.int 0)))
abbrev gcB : FS := sPar 2 3 (toE (vI 3)) (fBin gMod (vI 2) (vP 3))
theorem gcd_loop {x y : Option TS.R} : ∀ (k : Nat) (a b fuel : Nat), b ≤ k → k < fuel → whileL gcT gcB fuel [x, y, some (.imm (.int (a : Int))), some (.imm (.int (b : Int)))] = .nx [x, y, some (.imm (.int (Nat.gcd a b : Nat))), some (.imm (.int 0))] := by
  intro k
  induction k with
  | zero =>
    intro a b fuel hb hf
    obtain rfl : b = 0 := by omega
    obtain ⟨f, rfl⟩ : ∃ f, fuel = f + 1 := ⟨fuel - 1, by omega⟩
    simp [whileL]
  | succ k ih =>
    intro a b fuel hb hf
    obtain ⟨f, rfl⟩ : ∃ f, fuel = f + 1 := ⟨fuel - 1, by omega⟩
    by_cases h0 : b = 0
    · subst h0; simp [whileL]
    · have e1 : gMod (.int (a : Int)) (.int (b : Int)) = some (.imm (.int ((a % b : Nat) : Int))) := gMod_i (by omega)
      have hlt : a % b < b := Nat.mod_lt _ (by omega)
      have e2 := ih b (a % b) f (by omega) (by omega)
      have hz : ¬ ((b : Int) = 0) := by omega
      have hg : Nat.gcd b (a % b) = Nat.gcd a b := by rw [Nat.gcd_comm a b, Nat.gcd_rec b a, Nat.gcd_comm]
      rw [hg] at e2
      simp only [whileL]
      simp [h0, e1]
      exact e2
theorem ifabs (a : Int) : (if a < 0 then -a else a) = (a.natAbs : Int) := by split <;> omega
theorem divisor_ok (a b : Int) : m_divisor_of_two none [.int a, .int b] = .ok (.imm (.int (Nat.gcd a.natAbs b.natAbs : Nat))) none := by
  have e := gcd_loop (x := some (.imm (.int a))) (y := some (.imm (.int b))) b.natAbs a.natAbs b.natAbs (b.natAbs + 2) (by omega) (by omega)
  simp only [m_divisor_of_two, mir, ini, ioS, ioN, outR, ioOut, g_divisor_of_two]
  simp [ifabs, sWhile, muI, e]
def lcmL (ns : List Nat) : Nat := ns.foldl Nat.lcm 1
theorem foldl_lcm_dvd : ∀ (ns : List Nat) (a : Nat), a ∣ ns.foldl Nat.lcm a ∧ ∀ n ∈ ns, n ∣ ns.foldl Nat.lcm a
  | [], a => ⟨Nat.dvd_refl _, fun _ h => by cases h⟩
  | n :: ns, a => by
    obtain ⟨h1, h2⟩ := foldl_lcm_dvd ns (Nat.lcm a n)
    refine ⟨Nat.dvd_trans (Nat.dvd_lcm_left _ _) h1, fun m hm => ?_⟩
    rcases List.mem_cons.mp hm with rfl | hm
    · exact Nat.dvd_trans (Nat.dvd_lcm_right _ _) h1
    · exact h2 m hm
theorem foldl_lcm_pos : ∀ (ns : List Nat) (a : Nat), 0 < a → (∀ n ∈ ns, 0 < n) → 0 < ns.foldl Nat.lcm a
  | [], a, h, _ => h
  | n :: ns, a, h, hn => foldl_lcm_pos ns _ (Nat.lcm_pos h (hn n (by simp))) fun m hm => hn m (by simp [hm])
def nL (ns : List Nat) : List D := ns.map fun n : Nat => D.int (n : Int)
@[simp] theorem nL_len (ns : List Nat) : (nL ns).length = ns.length := by simp [nL]
abbrev cmA : FS := sExpr (fOwn m_require_integer (aCons (vI 1) (aCons (kD (.int 1)) aNil)))
theorem cm_loop1 {x z : Option TS.R} : ∀ (ns : List Nat) (y : Option TS.R), (∀ n ∈ ns, 0 < n) → ∃ y', forL (tName 1) cmA (nL ns) [x, y, z] = .nx [x, y', z]
  | [], y, _ => ⟨y, rfl⟩
  | n :: ns, y, h => by
    obtain ⟨y', e⟩ := cm_loop1 (x := x) (z := z) ns (some (.imm (.int (n : Int)))) fun m hm => h m (by simp [hm])
    have hn := h n (by simp)
    have r := require2_ok (i := (n : Int)) (j := 1) (by omega)
    refine ⟨y', ?_⟩
    rw [← e]
    simp [nL, forL, r]
abbrev cmB : FS := sAsg (fBin gFdiv (frz (fBin gMul (vI 2) (vP 1))) (frz (fOwn m_divisor_of_two (aCons (vI 2) (aCons (vI 1) aNil))))) (tName 2)
theorem cm_turn {x : Option TS.R} {a n : Nat} (ha : 0 < a) (hn : 0 < n) (ha2 : a < 2 ^ 200) (hn2 : n < 2 ^ 200) : cmB [x, some (.imm (.int (n : Int))), some (.imm (.int (a : Int)))] = .nx [x, some (.imm (.int (n : Int))), some (.imm (.int (Nat.lcm a n : Nat)))] := by
  have e1 : gMul (.int (a : Int)) (.int (n : Int)) = some (.imm (.int ((a : Int) * n))) := gMul_i (by omega) (by omega)
  have hg : 0 < Nat.gcd a n := Nat.gcd_pos_of_pos_left _ ha
  have hg2 : Nat.gcd a n ≤ a := Nat.gcd_le_left _ ha
  have e2 : gFdiv (.int ((a : Int) * n)) (.int (Nat.gcd a n : Nat)) = some (.imm (.int ((a : Int) * n / (Nat.gcd a n : Nat)))) := gFdiv_i (by omega) (by omega)
  have e3 : ((a : Int) * n / (Nat.gcd a n : Nat)) = ((Nat.lcm a n : Nat) : Int) := by
    rw [Nat.lcm, Int.natCast_ediv, Int.natCast_mul]
  rw [e3] at e2
  have d := divisor_ok (a : Int) (n : Int)
  simp only [Int.natAbs_natCast] at d
  unfold cmB
  generalize gMul = gM at *
  generalize gFdiv = gF at *
  simp [e1, e2, d]
theorem cm_loop2 {x : Option TS.R} : ∀ (ns : List Nat) (a : Nat) (y : Option TS.R), (∀ n ∈ ns, 0 < n) → 0 < a → ns.foldl Nat.lcm a < 2 ^ 200 → ∃ y', forL (tName 1) cmB (nL ns) [x, y, some (.imm (.int (a : Int)))] = .nx [x, y', some (.imm (.int (ns.foldl Nat.lcm a : Nat)))]
  | [], a, y, _, _, _ => ⟨y, rfl⟩
  | n :: ns, a, y, h, ha, hb => by
    have hn := h n (by simp)
    have hp := foldl_lcm_pos (n :: ns) a ha h
    obtain ⟨d1, d2⟩ := foldl_lcm_dvd (n :: ns) a
    have l1 := Nat.le_of_dvd hp d1
    have l2 := Nat.le_of_dvd hp (d2 n (by simp))
    obtain ⟨y', e⟩ := cm_loop2 (x := x) ns (Nat.lcm a n) (some (.imm (.int (n : Int)))) (fun m hm => h m (by simp [hm])) (Nat.lcm_pos ha hn) hb
    have t := cm_turn (x := x) ha hn (Nat.lt_of_le_of_lt l1 hb) (Nat.lt_of_le_of_lt l2 hb)
    refine ⟨y', ?_⟩
    simp only [nL, List.map_cons, forL, ap_tNameI, SR.bind_nx, List.set_cons_succ, List.set_cons_zero, t]
    exact e
theorem common_multiple_ok {ns : List Nat} (h : ∀ n ∈ ns, 0 < n) (hb : lcmL ns < 2 ^ 200) (hl : ns.length ≤ 16777216) : m_common_multiple none (nL ns) = .ok (.imm (.int (lcmL ns : Nat))) none := by
  obtain ⟨y1, e1⟩ := cm_loop1 (x := some (.imm (.tup (nL ns)))) (z := none) ns none h
  obtain ⟨y2, e2⟩ := cm_loop2 (x := some (.imm (.tup (nL ns)))) ns 1 y1 h (by omega) hb
  have hd : decide (0 ≤ (nL ns).length ∧ (nL ns).length ≤ 16777216) = true := decide_eq_true ⟨by omega, by simpa [nL] using hl⟩
  have s1 : m_common_multiple none (nL ns) = mir 3 1 g_common_multiple none [.tup (nL ns)] := by
    unfold m_common_multiple fmStar
    simp only [hd, if_true, List.take_zero, List.drop_zero, List.nil_append]
  have e2' : forL (tName 1) cmB (nL ns) [some (.imm (.tup (nL ns))), y1, some (.imm (.int 1))] = .nx [some (.imm (.tup (nL ns))), y2, some (.imm (.int (lcmL ns : Nat)))] := e2
  rw [s1]
  simp only [mir, ini, ioS, ioN, outR, ioOut, g_common_multiple]
  simp [e1, e2']
end
end K54

set_option maxHeartbeats 2000000
namespace K54
open PySem L2 TS
noncomputable section
-- needs: lcm
theorem moved_ok {t : List Int} (h : 0 < t.length) (x : Int) : m_moved none [.lst (iL t), .int x] = .ok (.imm (.int (mv t x))) none := by
  have e1 : gMod (.int x) (.int (t.length : Int)) = some (.imm (.int (x % t.length))) := gMod_i (by omega)
  have e2 := ix_mod h x
  simp [m_moved, mir, ini, ioS, ioN, outR, ioOut, g_moved, e1, e2, mv, -gIx_l]
end
end K54

set_option maxHeartbeats 2000000
namespace K54
open PySem L2 TS
noncomputable section
-- needs: ints
abbrev tg45 : TS.R → Sl → SR := tTup 2 (tsCons (tName 4) (tsCons (tName 5) tsNil))
abbrev ck1 : FS := g_checked_table_4B
theorem ck1_loop {a b c d g : Option TS.R} : ∀ (t : List Int) (i : Nat) (e f : Option TS.R), ∃ e' f', forL tg45 ck1 (enumD i (iL t)) [a, b, c, d, e, f, g] = .nx [a, b, c, d, e', f', g] := by
  intro t
  induction t with
  | nil => intro i e f; exact ⟨e, f, rfl⟩
  | cons x t ih =>
    intro i e f
    obtain ⟨e', f', h⟩ := ih (i + 1) (some (.imm (.int i))) (some (.imm (.int x)))
    refine ⟨e', f', ?_⟩
    rw [← h]
    simp [iL, enumD, forL, is_integer_ok]
abbrev ck2 : FS := g_checked_table_6B
@[simp] theorem toD_dK (ks : List Key) (ds : List D) : (OB.dK ks ds).toD = .dK ks ds := rfl
theorem look_none {ks : List Key} {ds : List D} {k : Key} (h : k ∉ ks) : lookD ks ds k = none := by
  induction ks generalizing ds with
  | nil => cases ds <;> rfl
  | cons a ks ih =>
    simp only [List.mem_cons, not_or] at h
    cases ds with
    | nil => rfl
    | cons d ds => simp only [lookD, if_neg (Ne.symm h.1)]; exact ih h.2
theorem ck2_turn {a c e f g : Option TS.R} {n : Int} (hn : 0 < n) {i : Nat} {x : Int} (hi : i < 3000) {ks : List Key} {ds : List D} (hk : (.inl (((i : Int) + x) % n) : Key) ∉ ks) (hl : ds.length < 3000) :
    ∃ g', ck2 [a, some (.imm (.int 1)), some (.imm (.int n)), some (.own (.dK ks ds)), some (.imm (.int i)), some (.imm (.int x)), g] = .nx [a, some (.imm (.int 1)), some (.imm (.int n)), some (.own (.dK (ks ++ [.inl (((i : Int) + x) % n)]) (ds ++ [.int i]))), some (.imm (.int i)), some (.imm (.int x)), g'] := by
  refine ⟨some (.imm (.int (((i : Int) + x) % n))), ?_⟩
  have m1 : gMul (.int 1) (.int (i : Int)) = some (.imm (.int (1 * (i : Int)))) := gMul_i (by decide) (by omega)
  have md : ∀ z : Int, gMod (.int z) (.int n) = some (.imm (.int (z % n))) := fun z => gMod_i hn
  have gi : gIn (.int (((i : Int) + x) % n)) (.dK ks ds) = some (.imm (.bl false)) := by
    simp [gIn, TS.keyOf, look_none hk]
  have st : setOB (.dK ks ds) (.int (((i : Int) + x) % n)) (.int (i : Int)) = some (.dK (ks ++ [.inl (((i : Int) + x) % n)]) (ds ++ [.int i])) := by
    have h1 : ds.length < 16777216 := by omega
    have h2 : (ks.any fun k' => decide (k' = (.inl (((i : Int) + x) % n) : Key))) = false := by
      rw [List.any_eq_false]
      intro k hkk
      have : k ≠ .inl (((i : Int) + x) % n) := fun z => hk (z ▸ hkk)
      simp [this]
    simp [setOB, TS.keyOf, h1, putD, h2]
  simp [m1, md, gi, st]
theorem ck2_loop {a : Option TS.R} {n : Int} (hn : 0 < n) : ∀ (t : List Int) (i : Nat) (ks : List Int) (ds : List D) (e f g : Option TS.R), i + t.length ≤ 2520 → ds.length = i → (ks ++ rems n i t).Nodup →
    ∃ o' e' f' g', forL tg45 ck2 (enumD i (iL t)) [a, some (.imm (.int 1)), some (.imm (.int n)), some (.own (.dK (ks.map .inl) ds)), e, f, g] = .nx [a, some (.imm (.int 1)), some (.imm (.int n)), some (.own o'), e', f', g'] := by
  intro t
  induction t with
  | nil => intro i ks ds e f g _ _ _; exact ⟨_, e, f, g, rfl⟩
  | cons x t ih =>
    intro i ks ds e f g hl hd hnd
    have hk : (.inl (((i : Int) + x) % n) : Key) ∉ ks.map Sum.inl := by
      intro z
      obtain ⟨y, hy, ez⟩ := List.mem_map.mp z
      cases ez
      have := (List.nodup_append.mp hnd).2.2 _ hy (((i : Int) + x) % n) (by simp [rems])
      exact this rfl
    simp only [List.length_cons] at hl
    obtain ⟨g', e1⟩ := ck2_turn (a := a) (c := none) (e := none) (f := none) (g := g) hn (i := i) (x := x) (by omega) (ds := ds) hk (by omega)
    have hnd' : ((ks ++ [((i : Int) + x) % n]) ++ rems n (i + 1) t).Nodup := by
      rw [List.append_assoc]; exact hnd
    obtain ⟨o', e', f', g2, h⟩ := ih (i + 1) (ks ++ [((i : Int) + x) % n]) (ds ++ [.int i]) (some (.imm (.int i))) (some (.imm (.int x))) g' (by omega) (by simp; omega) hnd'
    refine ⟨o', e', f', g2, ?_⟩
    rw [← h]
    simp only [iL, List.map_cons, enumD, forL, ap_tTup, List.length_cons, List.length_nil, if_true, ap_tsCons, ap_tNameI, SR.bind_nx, ap_tsNil, List.set_cons_succ, List.set_cons_zero, List.map_append, List.map_nil]
    have es : ck2 [a, some (.imm (.int 1)), some (.imm (.int n)), some (.own (.dK (ks.map .inl) ds)), some (.imm (.int i)), some (.imm (.int x)), g] = _ := e1
    simp only [es]
theorem checked_ok {t : List Int} (h : Good t) : m_checked_table none [.lst (iL t), .int 1] = .ok (.own (.l (iL t))) none := by
  obtain ⟨e1, f1, q1⟩ := ck1_loop (a := some (.imm (.lst (iL t)))) (b := some (.imm (.int 1))) (c := some (.imm (.int t.length))) (d := none) (g := none) t 0 none none
  obtain ⟨o', e2, f2, g2, q2⟩ := ck2_loop (a := some (.imm (.lst (iL t)))) (n := t.length) (by have := h.pos; omega) t 0 [] [] e1 f1 none (by have := h.len; omega) rfl (by simpa using h.rems)
  have h0 := h.pos
  have h1 := h.len
  have n0 : ¬ ((t.length : Int) = 0) := by omega
  have n1 : ¬ ((2520 : Int) < t.length) := by omega
  have gl : gList [.lst (iL t)] = some (.own (.l (iL t))) := rfl
  have hl : ((iL t).length : Int) = t.length := by simp [iL]
  have n2 : t ≠ [] := by intro z; subst z; simp at h0
  have q2' := q2
  simp only [List.map_nil] at q2'
  simp [m_checked_table, mir, ini, ioS, ioN, outR, ioOut, g_checked_table, is_lt_list, n0, n1, n2, gl, q1, q2', itEnumLT]
end
end K54

set_option maxHeartbeats 2000000
namespace K54
open PySem L2 TS
noncomputable section
-- needs: 
abbrev ltB : FS := sIf (fAnd (fTst (fBin gEq (frz (fBin gMod (vI 1) (vP 2))) (kD (.int 0)))) (fTst (fBin gEq (frz (fBin gMul (frz (fSl (vI 0) oNone (oSome (vI 2)))) (frz (fBin gFdiv (vI 1) (vP 2))))) (vP 0)))) (sRet (fSl (vI 0) oNone (oSome (vI 2)))) sNil
theorem gSl_to (t : List Int) (p : Nat) : gSl (.lst (iL t)) none (some (p : Int)) = some (.own (.l (iL (t.take p)))) := by
  have e := cut_to t p
  simp only [gSl]
  rw [e]
theorem lt_rep {t : List Int} (ht : t.length ≤ 2520) {p : Nat} (hp : 0 < p) (hl : p ≤ 2520) : gMul (.lst (iL (t.take p))) (.int ((t.length : Int) / p)) = some (.own (.l (iL (repOf p t)))) := by
  have hle : t.length / p ≤ t.length := Nat.div_le_self _ _
  have hc : ((t.length : Int) / p) = ((t.length / p : Nat) : Int) := (Int.natCast_ediv _ _).symm
  have hm : (t.take p).length * (t.length / p) ≤ 16777216 := by
    rw [List.length_take]
    have : min p t.length * (t.length / p) ≤ 2520 * 2520 := Nat.mul_le_mul (by omega) (by omega)
    omega
  rw [hc]
  exact gRep_nat (by omega) hm
abbrev ltd (t : List Int) (p : Nat) : Sl := [some (.imm (.lst (iL t))), some (.imm (.int t.length)), some (.imm (.int p))]
theorem lt_t1 {t : List Int} {p : Nat} (hp : 0 < p) : fTst (fBin gEq (frz (fBin gMod (vI 1) (vP 2))) (kD (.int 0))) (ltd t p) = .ok (decide (t.length % p = 0)) (ltd t p) := by
  have e1 : gMod (.int (t.length : Int)) (.int (p : Int)) = some (.imm (.int ((t.length : Int) % p))) := gMod_i (by omega)
  have hm : decide ((t.length : Int) % p = 0) = decide (t.length % p = 0) := decide_eq_decide.mpr (by omega)
  rw [← hm]
  simp [e1]
theorem lt_t2 {t : List Int} {p : Nat} {gM gF : D → D → Option TS.R} (e2 : gF (.int (t.length : Int)) (.int (p : Int)) = some (.imm (.int ((t.length : Int) / p)))) (e3 : gM (.lst (iL (t.take p))) (.int ((t.length : Int) / p)) = some (.own (.l (iL (repOf p t))))) : fTst (fBin gEq (frz (fBin gM (frz (fSl (vI 0) oNone (oSome (vI 2)))) (frz (fBin gF (vI 1) (vP 2))))) (vP 0)) (ltd t p) = .ok (decide (repOf p t = t)) (ltd t p) := by
  have e4 := gSl_to t p
  simp [e2, e3, e4]
theorem lt_t3 {t : List Int} {p : Nat} : fSl (vI 0) oNone (oSome (vI 2)) (ltd t p) = .ok (.own (.l (iL (t.take p)))) (ltd t p) := by
  have e4 := gSl_to t p
  simp [e4]
theorem lt_turn {t : List Int} (ht : t.length ≤ 2520) {p : Nat} (hp : 0 < p) (hl : p ≤ 2520) :
    ltB (ltd t p) = if isPer t p then .rt (.own (.l (iL (t.take p)))) (ltd t p) else .nx (ltd t p) := by
  have e2 : gFdiv (.int (t.length : Int)) (.int (p : Int)) = some (.imm (.int ((t.length : Int) / p))) := gFdiv_i (by omega) (by omega)
  have q1 := lt_t1 (t := t) hp
  have q2 := lt_t2 e2 (lt_rep ht hp hl)
  have q3 := lt_t3 (t := t) (p := p)
  unfold ltB isPer
  rw [ap_sIf, ap_fAnd, q1, Res.bind_ok]
  cases decide (t.length % p = 0) with
  | false => rfl
  | true =>
    simp only [if_true, Bool.true_and]
    rw [q2, Res.bindS_ok]
    cases decide (repOf p t = t) with
    | false => rfl
    | true => simp only [if_true]; rw [ap_sRet, q3, Res.bindS_ok]
theorem lt_loop {t : List Int} (ht : t.length ≤ 2520) : ∀ (k i : Nat) (s : Option TS.R), 0 < i → i + k ≤ 2520 →
    (∃ s', forL (tName 2) ltB (iL (nats i k)) [some (.imm (.lst (iL t))), some (.imm (.int t.length)), s] = (match (List.range' i k).find? (isPer t) with
      | some p => .rt (.own (.l (iL (t.take p)))) [some (.imm (.lst (iL t))), some (.imm (.int t.length)), s']
      | none => .nx [some (.imm (.lst (iL t))), some (.imm (.int t.length)), s'])) := by
  intro k
  induction k with
  | zero => intro i s _ _; exact ⟨s, by simp [nats, forL, iL]⟩
  | succ k ih =>
    intro i s hi hk
    have e := lt_turn ht hi (by omega)
    rw [nats_succ]
    simp only [forL, ap_tNameI, SR.bind_nx, List.set_cons_succ, List.set_cons_zero, e, List.range'_succ, List.find?_cons]
    cases hp : isPer t i with
    | true => exact ⟨_, rfl⟩
    | false =>
      obtain ⟨s', e2⟩ := ih (i + 1) (some (.imm (.int i))) (by omega) (by omega)
      exact ⟨s', by simp only [Bool.false_eq_true, if_false]; exact e2⟩
theorem least_table_any {t : List Int} (h0 : 0 < t.length) (h1 : t.length ≤ 2520) : ∃ r, (r = .own (.l (iL (least t))) ∨ r = .imm (.lst (iL (least t)))) ∧ m_least_table none [.lst (iL t)] = .ok r none := by
  have f1 : itRg2 (kD (.int 1)) (vI 1) [some (.imm (.lst (iL t))), some (.imm (.int t.length)), none] = .ok (iL (nats 1 (t.length - 1))) [some (.imm (.lst (iL t))), some (.imm (.int t.length)), none] :=
    itRg2_ok (i := 1) (k := t.length) (by omega) (by omega) rfl (by simp)
  obtain ⟨s', e⟩ := lt_loop h1 (t.length - 1) 1 none (by omega) (by omega)
  have hl : ((iL t).length : Int) = t.length := by simp [iL]
  have s4 : ∀ G : FS, mir 3 1 G none [.lst (iL t)] = outR none (G [some (.imm (.lst (iL t))), none, none]) := fun G => by simp [mir, ini, ioS, ioN]
  have s2 : g_least_table_1 [some (.imm (.lst (iL t))), none, none] = .nx [some (.imm (.lst (iL t))), some (.imm (.int t.length)), none] := by simp
  have s3 : g_least_table [some (.imm (.lst (iL t))), none, none] = ((forL (tName 2) ltB (iL (nats 1 (t.length - 1))) [some (.imm (.lst (iL t))), some (.imm (.int t.length)), none])).bind (sRet (vR 0)) := by
    unfold g_least_table
    rw [ap_sSeq, s2, SR.bind_nx, ap_sSeq]
    show (sFor (itRg2 (kD (.int 1)) (vI 1)) (tName 2) ltB _).bind _ = _
    rw [ap_sFor, f1, Res.bindS_ok]
  unfold m_least_table
  rw [s4, s3, e]
  unfold least leastP
  cases q : (List.range' 1 (t.length - 1)).find? (isPer t) with
  | some p => exact ⟨_, .inl rfl, rfl⟩
  | none => exact ⟨_, .inr (by simp), rfl⟩
theorem least_table_ok {t : List Int} (h : Good t) : ∃ r, (r = .own (.l (iL (least t))) ∨ r = .imm (.lst (iL (least t)))) ∧ m_least_table none [.lst (iL t)] = .ok r none := least_table_any h.pos h.len
end
end K54

set_option maxHeartbeats 2000000
namespace K54
open PySem L2 TS
noncomputable section
-- needs: 
abbrev srB : FS := sAsg (toE (vI 2)) (tSub 1 (frz (fBin gMod (frz (fBin gAdd (vI 2) (vP 3))) (frz (fCal gLen (aOne (vP 0)))))))
abbrev tg23 : TS.R → Sl → SR := tTup 2 (tsCons (tName 2) (tsCons (tName 3) tsNil))
theorem src_loop {T : List Int} (h0 : 0 < T.length) : ∀ (t : List Int) (i : Nat) (acc : List Int) (s2 s3 : Option TS.R), acc.length = T.length →
    ∃ s2' s3', forL tg23 srB (enumD i (iL t)) [some (.imm (.lst (iL T))), some (.own (.l (iL acc))), s2, s3] = .nx [some (.imm (.lst (iL T))), some (.own (.l (iL (srcL T.length i t acc)))), s2', s3'] := by
  intro t
  induction t with
  | nil => intro i acc s2 s3 _; exact ⟨s2, s3, rfl⟩
  | cons x t ih =>
    intro i acc s2 s3 hl
    obtain ⟨a, b, e⟩ := ih (i + 1) (acc.set (((i : Int) + x) % T.length).toNat i) (some (.imm (.int i))) (some (.imm (.int x))) (by simp [hl])
    refine ⟨a, b, ?_⟩
    rw [srcL, ← e]
    have b1 := Int.emod_nonneg ((i : Int) + x) (show (T.length : Int) ≠ 0 by omega)
    have b2 := Int.emod_lt_of_pos ((i : Int) + x) (show 0 < (T.length : Int) by omega)
    have md : gMod (.int ((i : Int) + x)) (.int (T.length : Int)) = some (.imm (.int (((i : Int) + x) % T.length))) := gMod_i (by omega)
    have st := setOB_int (acc := acc) b1 (by rw [hl]; exact b2) (i : Int)
    have hL : ((iL T).length : Int) = T.length := by simp [iL]
    simp [iL_cons, enumD, forL, md, st]
theorem sources_ok {t : List Int} (h : Good t) : m_sources_of none [.lst (iL t)] = .ok (.own (.l (iL (srcs t)))) none := by
  have h0 := h.pos
  have h1 := h.len
  have c1 : fLc (stName 3) [3] (itSeq (vI 0)) tTrue (kD (.int 0)) [some (.imm (.lst (iL t))), none, none, none] = .ok (.own (.l (iL (List.replicate t.length 0)))) [some (.imm (.lst (iL t))), none, none, none] := by
    have q := lc_ints (xs := t) (fun _ => 0) (i := 3) (fi := itSeq (vI 0)) (fe := kD (.int 0)) (δ := [some (.imm (.lst (iL t))), none, none, none]) (δ1 := [some (.imm (.lst (iL t))), none, none, none]) (by simp) rfl (by omega) (fun x _ => by simp)
    rw [q, List.map_const']
  obtain ⟨a, b, e⟩ := src_loop h0 t 0 (List.replicate t.length 0) none none (by simp)
  simp [m_sources_of, mir, ini, ioS, ioN, outR, ioOut, g_sources_of, c1, e]
  rfl
end
end K54

set_option maxHeartbeats 2000000
namespace K54
open PySem L2 TS
noncomputable section
-- needs: join checked least srcs
def planD (s : List Int) : List D := [.lst (iL s), .lst (iL (srcs s))]
abbrev pl (t : List Int) : D := .obj 0 (planD (least t))
abbrev plO (t : List Int) : OB := .o 0 (planD (least t))
theorem init_ok {t : List Int} (h : Good t) : m_Plan___init__ (some (.o 0 [])) [.lst (iL t)] = .ok (.imm .non) (some (plO t)) := by
  obtain ⟨r, hr, e⟩ := least_table_ok h
  have c := checked_ok h
  have sr := sources_ok h.least
  rcases hr with rfl | rfl <;>
  simp [m_Plan___init__, mir, ini, ioS, ioN, outR, ioOut, g_Plan___init__, c, e, sr, ix_own_offsets, ix_own_sources, setF, plO, planD]
theorem at_ok {t : List Int} (h : Good t) (x : Int) : m_Plan_at none [pl t, .int x] = .ok (.imm (.int (mv t x))) none := by
  have e := moved_ok h.least.pos x
  rw [mv_least h] at e
  simp [m_Plan_at, mir, ini, ioS, ioN, outR, ioOut, g_Plan_at, pl, planD, ix_own_offsets, require1_ok, e]
theorem good_shift (n : Int) : Good [n] := ⟨by simp, by simp, fun x y e => by
  have : ∀ z, act [n] z = n := fun z => by
    unfold act
    have : z % (([n] : List Int).length : Int) = 0 := by simp [Int.emod_one]
    rw [this]; rfl
  unfold mv at e
  rw [this, this] at e
  omega⟩
theorem act_shift (n : Int) (z : Int) : act [n] z = n := by
  unfold act
  have : z % (([n] : List Int).length : Int) = 0 := by simp [Int.emod_one]
  rw [this]; rfl
end
end K54

set_option maxHeartbeats 2000000
namespace K54
open PySem L2 TS
noncomputable section
-- needs: plan
theorem act_in {t : List Int} (h : 0 < t.length) (x : Int) : act t x ∈ t := by
  have b1 := Int.emod_nonneg x (show (t.length : Int) ≠ 0 by omega)
  have b2 := Int.emod_lt_of_pos x (show 0 < (t.length : Int) by omega)
  obtain ⟨i, ei⟩ := Int.eq_ofNat_of_zero_le b1
  rw [← act_mod, ei]
  exact List.mem_of_getElem? (act_get' (by omega))
theorem good_add {t : List Int} (h : Good t) {a : Nat} (ha : a < t.length) (k : Int) : Good (t.set a (act t a + t.length * k)) := by
  have hl : (t.set a (act t a + t.length * k)).length = t.length := by simp
  refine good_of_rems (by rw [hl]; exact h.pos) (by rw [hl]; exact h.len) ?_
  rw [hl]
  have e : rems t.length 0 (t.set a (act t a + t.length * k)) = rems t.length 0 t := by
    apply List.ext_getElem?
    intro j
    rw [rems_get, rems_get]
    by_cases hj : a = j
    · subst hj
      rw [List.getElem?_set_self ha, act_get' ha]
      simp only [Option.map_some]
      rw [← Int.add_assoc, Int.add_mul_emod_self_left]
    · rw [List.getElem?_set_ne hj]
  rw [e]
  exact h.rems
theorem good_swap {t : List Int} (h : Good t) {a b : Nat} (ha : a < t.length) (hb : b < t.length) (hab : a ≠ b) : Good ((t.set a (act t b + b - a)).set b (act t a + a - b)) := by
  have hl : ((t.set a (act t b + b - a)).set b (act t a + a - b)).length = t.length := by simp
  refine good_of_rems (by rw [hl]; exact h.pos) (by rw [hl]; exact h.len) ?_
  rw [hl, nodup_iff]
  have nd := nodup_iff.mp h.rems
  obtain ⟨σ, hσ⟩ : ∃ σ : Nat → Nat, σ = fun j => if j = a then b else if j = b then a else j := ⟨_, rfl⟩
  have key : ∀ j, j < t.length → σ j < t.length ∧ (rems t.length 0 ((t.set a (act t b + b - a)).set b (act t a + a - b)))[j]? = (rems t.length 0 t)[σ j]? := by
    intro j hj
    rw [rems_get, rems_get]
    subst hσ
    simp only
    by_cases h1 : j = a
    · subst h1
      refine ⟨by simp [hb], ?_⟩
      rw [List.getElem?_set_ne (Ne.symm hab), List.getElem?_set_self ha, if_pos rfl, act_get' hb]
      simp only [Option.map_some, Nat.zero_add]
      congr 2; omega
    · by_cases h2 : j = b
      · subst h2
        refine ⟨by simp [h1, ha], ?_⟩
        rw [List.getElem?_set_self (by simpa using hb), if_neg h1, if_pos rfl, act_get' ha]
        simp only [Option.map_some, Nat.zero_add]
        congr 2; omega
      · refine ⟨by simp [h1, h2, hj], ?_⟩
        rw [List.getElem?_set_ne (Ne.symm h2), List.getElem?_set_ne (Ne.symm h1), if_neg h1, if_neg h2]
  intro i j hij hj e
  rw [rems_len, hl] at hj
  obtain ⟨s1, k1⟩ := key i (by omega)
  obtain ⟨s2, k2⟩ := key j hj
  have hs : σ i ≠ σ j := by
    subst hσ
    simp only
    split <;> split <;> (try split) <;> (try split) <;> omega
  rw [k1, k2] at e
  rcases Nat.lt_or_gt_of_ne hs with q | q
  · exact nd _ _ q (by rw [rems_len]; exact s2) e
  · exact nd _ _ q (by rw [rems_len]; exact s1) e.symm
end
end K54

set_option maxHeartbeats 2000000
namespace K54
open PySem L2 TS
noncomputable section
-- needs: plan
theorem law_at_ok {t : List Int} (h : 0 < t.length) (x : Int) : m__law_at none [.lst (iL t), .int x] = .ok (.imm (.int (mv t x))) none := by
  have e1 : gMod (.int x) (.int (t.length : Int)) = some (.imm (.int (x % t.length))) := gMod_i (by omega)
  have e2 := ix_mod h x
  simp [m__law_at, mir, ini, ioS, ioN, outR, ioOut, g__law_at, e1, e2, mv, -gIx_l]
end
end K54

set_option maxHeartbeats 2000000
namespace K54
open PySem L2 TS
noncomputable section
-- needs: plan
end
end K54

set_option maxHeartbeats 2000000
namespace K54
open PySem L2 TS
noncomputable section
-- needs: lawat inverse
theorem law_inv_loop {t : List Int} (h : Good t) {s1 s4 : Option TS.R} : ∃ (f : List Int) (r1 r4 : Option TS.R), f = invT t ∧ forL (tName 1) g__law_inverse_2B (iL (nats 0 t.length)) [some (.imm (.lst (iL t))), s1, some (.imm (.int (t.length : Int))), some (.own (.l (iL (List.replicate t.length (0 : Int))))), s4] = .nx [some (.imm (.lst (iL t))), r1, some (.imm (.int (t.length : Int))), some (.own (.l (iL f))), r4] := by
  have hp := h.pos
  obtain ⟨δ', ⟨f, r1, r4, fl, hf, ed⟩, e⟩ := for_inv (inj := D.int) (tg := tName 1) (body := g__law_inverse_2B) (xs := nats 0 t.length) (δ := [some (.imm (.lst (iL t))), s1, some (.imm (.int (t.length : Int))), some (.own (.l (iL (List.replicate t.length (0 : Int))))), s4])
    (fun pre δ => ∃ (f : List Int) (r1 r4 : Option TS.R), f.length = t.length ∧ (∀ p : Nat, p < pre.length → f[(mv t p % (t.length : Int)).toNat]? = (invT t)[(mv t p % (t.length : Int)).toNat]?) ∧ δ = [some (.imm (.lst (iL t))), r1, some (.imm (.int (t.length : Int))), some (.own (.l (iL f))), r4])
    ⟨_, s1, s4, by simp, fun p hp => absurd hp (Nat.not_lt_zero _), rfl⟩ (fun pre x post δ hx hI => by
      obtain ⟨f, r1, r4, fl, hf, rfl⟩ := hI
      obtain ⟨rfl, hlt⟩ := nats_pre hx
      have e1 := law_at_ok hp (pre.length : Int)
      have e2 : gMod (.int (mv t (pre.length : Int))) (.int (t.length : Int)) = some (.imm (.int (mv t (pre.length : Int) % t.length))) := gMod_i (by omega)
      have b0 := Int.emod_nonneg (mv t (pre.length : Int)) (show (t.length : Int) ≠ 0 by omega)
      have b1 := Int.emod_lt_of_pos (mv t (pre.length : Int)) (show (0 : Int) < t.length by omega)
      have e3 := setOB_int (acc := f) (j := mv t (pre.length : Int) % t.length) b0 (by rw [fl]; exact b1) ((pre.length : Int) - mv t (pre.length : Int))
      have vI : (invT t)[(mv t (pre.length : Int) % (t.length : Int)).toNat]? = some ((pre.length : Int) - mv t (pre.length : Int)) := by
        have q : (invT t)[(mv t (pre.length : Int) % (t.length : Int)).toNat]? = some (act (invT t) (mv t (pre.length : Int) % (t.length : Int))) := by
          have a := act_get' (t := invT t) (i := (mv t (pre.length : Int) % (t.length : Int)).toNat) (by rw [invT_len]; omega)
          rw [Int.toNat_of_nonneg b0] at a
          exact a
        rw [q]
        have m := act_mod (invT t) (mv t (pre.length : Int))
        rw [invT_len] at m
        rw [m]
        have k := invT_mv h (mv t (pre.length : Int))
        rw [inv_mv h] at k
        unfold mv at k ⊢
        congr 1
        omega
      refine ⟨[some (.imm (.lst (iL t))), some (.imm (.int (pre.length : Int))), some (.imm (.int (t.length : Int))), some (.own (.l (iL (f.set (mv t (pre.length : Int) % (t.length : Int)).toNat ((pre.length : Int) - mv t (pre.length : Int)))))), some (.imm (.int (mv t (pre.length : Int))))], .inl ?_, _, _, _, by simp [fl], fun p hp => ?_, rfl⟩
      · generalize mv t (pre.length : Int) % (t.length : Int) = j at *
        generalize mv t (pre.length : Int) = g at *
        generalize iL (f.set j.toNat ((pre.length : Int) - g)) = F2 at *
        generalize iL f = F1 at *
        generalize iL t = T at *
        simp [e1, e2, e3]
      · rw [List.length_append, List.length_singleton] at hp
        by_cases hj : (mv t (pre.length : Int) % (t.length : Int)).toNat = (mv t (p : Int) % (t.length : Int)).toNat
        · rw [← hj, vI, List.getElem?_set_self (by omega)]
        · rw [List.getElem?_set_ne hj]
          refine hf p ?_
          refine Classical.byContradiction fun w => hj ?_
          rw [show p = pre.length by omega])
  refine ⟨f, r1, r4, ?_, by rw [← ed]; exact e⟩
  apply List.ext_getElem?
  intro j
  by_cases hj : j < t.length
  · have b0 := Int.emod_nonneg (inv t j) (show (t.length : Int) ≠ 0 by omega)
    have b1 := Int.emod_lt_of_pos (inv t j) (show (0 : Int) < t.length by omega)
    have q := hf (inv t j % (t.length : Int)).toNat (by rw [nats_len]; omega)
    rw [Int.toNat_of_nonneg b0] at q
    have m : mv t (inv t j % (t.length : Int)) % (t.length : Int) = j := by
      have a := act_mod t (inv t j)
      have b := mv_inv h (j : Int)
      unfold mv at b ⊢
      rw [a, Int.emod_add_emod, b]
      exact Int.emod_eq_of_lt (by omega) (by omega)
    rw [m, Int.toNat_natCast] at q
    exact q
  · rw [List.getElem?_eq_none (by omega), List.getElem?_eq_none (by rw [invT_len]; omega)]
theorem law_inverse_ok {t : List Int} (h : Good t) : m__law_inverse none [.lst (iL t)] = .ok (.own (.l (iL (invT t)))) none := by
  have hl := h.len
  have gz : gMul (.lst [.int 0]) (.int (t.length : Int)) = some (.own (.l (iL (List.replicate t.length (0 : Int))))) := by
    have e := gRep_nat (xs := [0]) (k := t.length) (by omega) (by simp; omega)
    have e2 : (List.replicate t.length [(0 : Int)]).flatten = List.replicate t.length 0 := by
      generalize t.length = k
      induction k with
      | zero => rfl
      | succ k ih => rw [List.replicate_succ, List.flatten_cons, ih]; rfl
    rw [e2] at e
    exact e
  obtain ⟨f, r1, r4, rfl, e⟩ := law_inv_loop h (s1 := none) (s4 := none)
  have it : itRg1 (vI 2) [some (.imm (.lst (iL t))), none, some (.imm (.int (t.length : Int))), some (.own (.l (iL (List.replicate t.length (0 : Int))))), none] = .ok (iL (nats 0 t.length)) [some (.imm (.lst (iL t))), none, some (.imm (.int (t.length : Int))), some (.own (.l (iL (List.replicate t.length (0 : Int))))), none] := itRg1_ok (by omega) rfl
  have ln : (iL t).length = t.length := by simp [iL]
  generalize iL (List.replicate t.length (0 : Int)) = Z at *
  generalize iL (nats 0 t.length) = N at *
  generalize iL (invT t) = V at *
  generalize iL t = T at *
  (unfold m__law_inverse g__law_inverse; unfold mir; rw [if_pos (by simp [ioN])]; simp only [ini, ioS, ioN, List.replicate, List.map_cons, List.map_nil, List.length_cons, List.length_nil, List.nil_append, List.cons_append, Nat.zero_add, Nat.reduceAdd, Nat.reduceSub])
  (rw [ap_sSeq]; (conv in (SR.bind _ _) => (arg 1; simp [gz, ln])); (try rw [SR.bind_nx]))
  rw [ap_sSeq, show g__law_inverse_2 _ = _ from for_st it e, SR.bind_nx]
  simp [outR, ioOut]
end
end K54

set_option maxHeartbeats 2000000
namespace K54
open PySem L2 TS
noncomputable section
-- needs: lcm
theorem lcm_while : ∀ (k : Nat) (a b fuel : Nat), b ≤ k → k < fuel → whileL (fTst (fBin gGt (vI 1) (kD (.int 0)))) g__law_common_2B fuel [some (.imm (.int (a : Int))), some (.imm (.int (b : Int)))] = .nx [some (.imm (.int (Nat.gcd a b : Nat))), some (.imm (.int 0))] := by
  intro k
  induction k with
  | zero =>
    intro a b fuel hb hf
    obtain rfl : b = 0 := by omega
    obtain ⟨f, rfl⟩ : ∃ f, fuel = f + 1 := ⟨fuel - 1, by omega⟩
    simp [whileL]
  | succ k ih =>
    intro a b fuel hb hf
    obtain ⟨f, rfl⟩ : ∃ f, fuel = f + 1 := ⟨fuel - 1, by omega⟩
    by_cases h0 : b = 0
    · subst h0; simp [whileL]
    · have e1 : gMod (.int (a : Int)) (.int (b : Int)) = some (.imm (.int ((a % b : Nat) : Int))) := gMod_i (by omega)
      have hlt : a % b < b := Nat.mod_lt _ (by omega)
      have e2 := ih b (a % b) f (by omega) (by omega)
      have hz : (0 : Int) < (b : Int) := by omega
      have hz' : 0 < b := by omega
      have hg : Nat.gcd b (a % b) = Nat.gcd a b := by rw [Nat.gcd_comm a b, Nat.gcd_rec b a, Nat.gcd_comm]
      rw [hg] at e2
      simp only [whileL]
      simp [hz', e1]
      exact e2
theorem law_common_ok (a b : Int) : m__law_common none [.int a, .int b] = .ok (.imm (.int (Nat.gcd a.natAbs b.natAbs : Nat))) none := by
  have e := lcm_while b.natAbs a.natAbs b.natAbs (b.natAbs + 2) (by omega) (by omega)
  simp only [m__law_common, mir, ini, ioS, ioN, outR, ioOut, g__law_common]
  simp [ifabs, sWhile, muI, e]
end
end K54

set_option maxHeartbeats 2000000
namespace K54
open PySem L2 TS
noncomputable section
-- needs: plan
theorem period_prop (t : List Int) : m_Plan_period none [pl t] = .ok (.imm (.int ((least t).length : Int))) none := by
  simp [m_Plan_period, mir, ini, ioS, ioN, outR, ioOut, g_Plan_period, planD, ix_own_offsets]
end
end K54

set_option maxHeartbeats 2000000
namespace K54
open PySem L2 TS
noncomputable section
-- needs: inverse pprop
end
end K54

set_option maxHeartbeats 2000000
namespace K54
open PySem L2 TS
noncomputable section
-- needs: lawcommon lawat renamed
theorem rn_turn {t b : List Int} (ht : Good t) (hb : Good b) {n : Nat} (hn : 0 < n) (h1 : t.length ∣ n) (h2 : b.length ∣ n) {p : Nat} {F : List Int} (hF : F.length = n) {s5 : Option TS.R} :
    ∃ s5', g__law_renamed_3B [some (.imm (.lst (iL t))), some (.imm (.lst (iL b))), some (.imm (.int (n : Int))), some (.own (.l (iL F))), some (.imm (.int (p : Int))), s5] =
      .nx [some (.imm (.lst (iL t))), some (.imm (.lst (iL b))), some (.imm (.int (n : Int))), some (.own (.l (iL (F.set (mv b p % n).toNat (renF t b ((mv b p % n).toNat : Nat)))))), some (.imm (.int (p : Int))), s5'] := by
  refine ⟨some (.imm (.int (mv b p))), ?_⟩
  have b0 := Int.emod_nonneg (mv b p) (show (n : Int) ≠ 0 by omega)
  have b1 := Int.emod_lt_of_pos (mv b p) (show 0 < (n : Int) by omega)
  have e1 := law_at_ok hb.pos p
  have e2 := law_at_ok ht.pos p
  have e3 := law_at_ok hb.pos (mv t p)
  have e4 : gMod (.int (mv b p)) (.int (n : Int)) = some (.imm (.int (mv b p % n))) := gMod_i (by omega)
  have val : renF t b ((mv b p % n).toNat : Nat) = mv b (mv t p) - mv b p := by
    rw [show (((mv b p % n).toNat : Nat) : Int) = mv b p % n by omega, per_mod (renF_per hb h1 h2)]
    unfold renF
    rw [inv_mv hb]
  have st := setOB_int (acc := F) (j := mv b p % n) b0 (by omega) (renF t b ((mv b p % n).toNat : Nat))
  rw [val] at st ⊢
  generalize mv b (mv t p) = u at *
  generalize mv t p = w at *
  generalize mv b p = v at *
  simp [e1, e2, e3, e4, st]
theorem law_renamed_ok {t b : List Int} (ht : Good t) (hb : Good b) (hl : t.length ≤ 2520 ∧ b.length ≤ 2520) (hm : Nat.lcm t.length b.length ≤ 2520) : m__law_renamed none [.lst (iL t), .lst (iL b)] = .ok (.own (.l (iL (renT t b)))) none := by
  have hn : 0 < Nat.lcm t.length b.length := Nat.lcm_pos ht.pos hb.pos
  have d1 := Nat.dvd_lcm_left t.length b.length
  have d2 := Nat.dvd_lcm_right t.length b.length
  have g := law_common_ok (t.length : Int) (b.length : Int)
  simp only [Int.natAbs_natCast] at g
  have e1 : gMul (.int (t.length : Int)) (.int (b.length : Int)) = some (.imm (.int ((t.length : Int) * b.length))) := gMul_i (by omega) (by omega)
  have hg : 0 < Nat.gcd t.length b.length := Nat.gcd_pos_of_pos_left _ ht.pos
  have hg2 : Nat.gcd t.length b.length ≤ t.length := Nat.gcd_le_left _ ht.pos
  have e2 : gFdiv (.int ((t.length : Int) * b.length)) (.int (Nat.gcd t.length b.length : Nat)) = some (.imm (.int (Nat.lcm t.length b.length : Nat))) := by
    rw [gFdiv_i (by omega) (by omega), Nat.lcm, Int.natCast_ediv, Int.natCast_mul]
  unfold renT
  generalize hN : Nat.lcm t.length b.length = n at *
  have S1 : g__law_renamed_1 [some (.imm (.lst (iL t))), some (.imm (.lst (iL b))), none, none, none, none] = .nx [some (.imm (.lst (iL t))), some (.imm (.lst (iL b))), some (.imm (.int (n : Int))), none, none, none] := by
    generalize Nat.gcd t.length b.length = q at *
    simp [e1, e2, g]
  have z0 : gMul (.lst [.int 0]) (.int (n : Int)) = some (.own (.l (iL (List.replicate n 0)))) := by
    have q := gRep_nat (xs := [0]) (k := n) (by omega) (by simp; omega)
    have e0 : (List.replicate n [(0 : Int)]).flatten = List.replicate n 0 := by
      generalize n = m
      induction m with
      | zero => rfl
      | succ m ih => simp [List.replicate_succ, ih]
    rw [e0] at q
    exact q
  have S2 : g__law_renamed_2 [some (.imm (.lst (iL t))), some (.imm (.lst (iL b))), some (.imm (.int (n : Int))), none, none, none] = .nx [some (.imm (.lst (iL t))), some (.imm (.lst (iL b))), some (.imm (.int (n : Int))), some (.own (.l (iL (List.replicate n 0)))), none, none] := by
    generalize List.replicate n (0 : Int) = Z at *
    simp [z0]
  have loop : ∀ (k i : Nat) (F : List Int) (s4 s5 : Option TS.R), F.length = n → ∃ F' s4' s5', F'.length = n ∧ (∀ j : Nat, F[j]? = some (renF t b j) → F'[j]? = some (renF t b j)) ∧ (∀ p : Nat, i ≤ p → p < i + k → F'[(mv b p % n).toNat]? = some (renF t b ((mv b p % n).toNat : Nat))) ∧
      forL (tName 4) g__law_renamed_3B (iL (nats i k)) [some (.imm (.lst (iL t))), some (.imm (.lst (iL b))), some (.imm (.int (n : Int))), some (.own (.l (iL F))), s4, s5] = .nx [some (.imm (.lst (iL t))), some (.imm (.lst (iL b))), some (.imm (.int (n : Int))), some (.own (.l (iL F'))), s4', s5'] := by
    intro k
    induction k with
    | zero => intro i F s4 s5 hF; exact ⟨F, s4, s5, hF, fun j hj => hj, fun p h1 h2 => by omega, by simp [nats, forL]⟩
    | succ k ih =>
      intro i F s4 s5 hF
      obtain ⟨a5, e1⟩ := rn_turn ht hb hn d1 d2 (p := i) hF (s5 := s5)
      obtain ⟨F', b4, b5, hF', k1, k2, e2⟩ := ih (i + 1) (F.set (mv b i % n).toNat (renF t b ((mv b i % n).toNat : Nat))) (some (.imm (.int (i : Int)))) a5 (by simp [hF])
      have b0 := Int.emod_nonneg (mv b i) (show (n : Int) ≠ 0 by omega)
      have b1 := Int.emod_lt_of_pos (mv b i) (show 0 < (n : Int) by omega)
      have hset : (F.set (mv b i % n).toNat (renF t b ((mv b i % n).toNat : Nat)))[(mv b i % n).toNat]? = some (renF t b ((mv b i % n).toNat : Nat)) := List.getElem?_set_self (by omega)
      refine ⟨F', b4, b5, hF', fun j hj => k1 j ?_, fun p h1 h2 => ?_, ?_⟩
      · by_cases z : (mv b i % n).toNat = j
        · subst z; exact hset
        · rw [List.getElem?_set_ne z]; exact hj
      · by_cases z : p = i
        · subst z; exact k1 _ hset
        · exact k2 p (by omega) (by omega)
      · rw [nats_succ]
        simp only [forL, ap_tNameI, SR.bind_nx, List.set_cons_succ, List.set_cons_zero, e1]
        exact e2
  obtain ⟨F', a4, a5, hF', _, k2, e3⟩ := loop n 0 (List.replicate n 0) none none (by simp)
  have eF : F' = tabOf n (renF t b) := by
    apply getD_ext (by rw [hF', tabOf_len])
    intro j hj
    rw [tabOf_len] at hj
    have p0 := Int.emod_nonneg (inv b j) (show (n : Int) ≠ 0 by omega)
    have p1 := Int.emod_lt_of_pos (inv b j) (show 0 < (n : Int) by omega)
    have q := k2 (inv b j % n).toNat (by omega) (by omega)
    have ej : (mv b ((inv b j % n).toNat : Nat) % n).toNat = j := by
      have e1 : (((inv b j % n).toNat : Nat) : Int) = inv b j - n * (inv b j / n) := by
        have := Int.emod_add_mul_ediv (inv b j) n
        omega
      obtain ⟨r, hr⟩ := d2
      have e2 : (n : Int) = (r : Int) * b.length := by rw [hr, Int.natCast_mul, Int.mul_comm]
      have e3 : mv b ((inv b j % n).toNat : Nat) = j + (-(inv b j / n)) * n := by
        rw [e1]
        have e4 : inv b j - n * (inv b j / n) = inv b j + (-(inv b j / n) * r) * b.length := by
          rw [Int.mul_assoc, ← e2, Int.neg_mul, Int.mul_comm]; omega
        rw [e4, mv_perk, mv_inv hb, Int.mul_assoc, ← e2]
      rw [e3, Int.add_mul_emod_self_right, Int.emod_eq_of_lt (by omega) (by omega)]
      omega
    rw [ej] at q
    have e3 : (tabOf n (renF t b))[j]? = some (renF t b j) := by simp [tabOf, hj]
    rw [List.getD_eq_getElem?_getD, List.getD_eq_getElem?_getD, q, e3]
  rw [eF] at e3
  have f2 : itRg1 (vI 2) [some (.imm (.lst (iL t))), some (.imm (.lst (iL b))), some (.imm (.int (n : Int))), some (.own (.l (iL (List.replicate n 0)))), none, none] = .ok (iL (nats 0 n)) [some (.imm (.lst (iL t))), some (.imm (.lst (iL b))), some (.imm (.int (n : Int))), some (.own (.l (iL (List.replicate n 0)))), none, none] := by
    generalize List.replicate n (0 : Int) = Z
    exact itRg1_ok (by omega) (by simp)
  have S3 : g__law_renamed_3 [some (.imm (.lst (iL t))), some (.imm (.lst (iL b))), some (.imm (.int (n : Int))), some (.own (.l (iL (List.replicate n 0)))), none, none] = .nx [some (.imm (.lst (iL t))), some (.imm (.lst (iL b))), some (.imm (.int (n : Int))), some (.own (.l (iL (tabOf n (renF t b))))), a4, a5] := by
    show sFor (itRg1 (vI 2)) (tName 4) g__law_renamed_3B _ = _
    rw [ap_sFor, f2, Res.bindS_ok]
    exact e3
  have s4 : ∀ G : FS, mir 6 2 G none [.lst (iL t), .lst (iL b)] = outR none (G [some (.imm (.lst (iL t))), some (.imm (.lst (iL b))), none, none, none, none]) := fun G => by simp [mir, ini, ioS, ioN, List.replicate]
  unfold m__law_renamed g__law_renamed
  rw [s4, ap_sSeq, S1, SR.bind_nx, ap_sSeq, S2, SR.bind_nx, ap_sSeq, S3, SR.bind_nx]
  generalize tabOf n (renF t b) = U
  simp [outR, ioOut]
end
end K54

set_option maxHeartbeats 2000000
namespace K54
open PySem L2 TS
noncomputable section
-- needs: tgood3L goodadd lawinv lawren inverse
theorem act_set {t : List Int} {B C : Int} (hp : 0 < t.length) (bt : ∀ x ∈ t, -B < x ∧ x < B) (hC : B ≤ C) {a : Nat} {v : Int} (hv : -C < v ∧ v < C) : ∀ x ∈ t.set a v, -C < x ∧ x < C := fun x hx => by
  rcases List.mem_or_eq_of_mem_set hx with h | rfl
  · have := bt x h; omega
  · exact hv
theorem memActK {t : List Int} (hp : 0 < t.length) {B : Int} (h : ∀ x, -B < act t x ∧ act t x < B) : ∀ x ∈ t, -B < x ∧ x < B := fun x hx => by
  obtain ⟨i, hi, rfl⟩ := List.getElem_of_mem hx
  have e := act_get' hi
  rw [List.getElem?_eq_getElem hi] at e
  rw [Option.some.inj e]
  exact h i
theorem act_bdK {t : List Int} (hp : 0 < t.length) {B : Int} (hb : ∀ x ∈ t, -B < x ∧ x < B) (x : Int) : -B < act t x ∧ act t x < B := hb _ (act_in hp x)
theorem kin_ok {o : OB} (h : Pot o) {t : List Int} (ht : Good t) {B : Int} (B0 : 0 < B) (B1 : B < 2 ^ 200) (bt : ∀ x, -B < act t x ∧ act t x < B) {m : Int} (hm : 0 < m ∧ m ≤ 2520) (hl : Nat.lcm t.length m.toNat ≤ 2520) :
    ∃ u o', m__law_kin (some o) [.lst (iL t), .int m] = .ok (.own (.l (iL u))) (some o') ∧ Pot o' ∧ Good u ∧ u.length ∣ Nat.lcm t.length m.toNat ∧ ∀ x, -(B + 100000000000000000000000000) < act u x ∧ act u x < B + 100000000000000000000000000 := by
  have p200 : (2 : Int) ^ 200 < 2 ^ 250 := by decide
  have hp := ht.pos
  have hlen := ht.len
  have btm := memActK hp bt
  obtain ⟨w, o1, e1, p1, w0, w1⟩ := draw_ok h (m := 6) (by decide) (by decide)
  have gl : gLen [.lst (iL t)] = some (.imm (.int (t.length : Int))) := by rw [gLen_l, iL_len]
  have gls : gList [.lst (iL t)] = some (.own (.l (iL t))) := rfl
  have S1 : g__law_kin_1 [some (.brw o), some (.imm (.lst (iL t))), some (.imm (.int m)), none, none, none, none, none, none] = .nx [some (.brw o1), some (.imm (.lst (iL t))), some (.imm (.int m)), none, some (.imm (.int w)), some (.imm (.int (t.length : Int))), some (.own (.l (iL t))), none, none] := by
    generalize iL t = T at *
    generalize (t.length : Int) = n at *
    simp [sPar3E, e1, gl, gls, OB.toD, -gLen_l]
  have start : ∀ X, outR (some o) ((sSeq g__law_kin_2 (sSeq g__law_kin_3 (sSeq g__law_kin_4 (sSeq g__law_kin_5 (sSeq g__law_kin_6 (sSeq g__law_kin_7 (sSeq g__law_kin_8 g__law_kin_9))))))) [some (.brw o1), some (.imm (.lst (iL t))), some (.imm (.int m)), none, some (.imm (.int w)), some (.imm (.int (t.length : Int))), some (.own (.l (iL t))), none, none]) = X → m__law_kin (some o) [.lst (iL t), .int m] = X := fun X eX => by
    rw [← eX]
    (unfold m__law_kin g__law_kin; unfold mir; rw [if_pos (by simp [ioN])]; simp only [ini, ioS, ioN, List.replicate, List.map_cons, List.map_nil, List.length_cons, List.length_nil, List.nil_append, List.cons_append, Nat.zero_add, Nat.reduceAdd, Nat.reduceSub])
    rw [ap_sSeq, S1, SR.bind_nx]
  clear S1
  by_cases z0 : w = 0
  · obtain ⟨u, o2, e2, p2, l2, gu, bu⟩ := table_good p1 (n := (t.length : Int)) (w := 1) (by omega) (by decide)
    refine ⟨u, o2, start _ ?_, p2, gu, by rw [l2, Int.toNat_natCast]; exact Nat.dvd_lcm_left _ _, fun x => by have := act_bdK gu.pos bu x; omega⟩
    clear start bt btm bu
    subst z0
    generalize iL t = T at *
    generalize iL u = U at *
    rw [ap_sSeq]
    simp [outR, ioOut, e2]
  by_cases z1 : w = 1
  · have e2 := law_inverse_ok ht
    refine ⟨invT t, o1, start _ ?_, p1, invT_good ht, by rw [show (invT t).length = t.length from tabOf_len _ _]; exact Nat.dvd_lcm_left _ _, fun x => by
      have a := invT_mv ht x
      have b := mv_inv ht x
      have c := bt (inv t x)
      unfold mv at a b
      omega⟩
    clear start bt btm
    subst z1
    generalize iL (invT t) = U at *
    generalize iL t = T at *
    (rw [ap_sSeq]; (conv in (SR.bind _ _) => (arg 1; simp [])); (try rw [SR.bind_nx]))
    rw [ap_sSeq]
    simp [outR, ioOut, e2]
  by_cases z5 : w = 5
  · obtain ⟨b, o2, e2, p2, l2, gb, bb⟩ := table_good p1 (n := m) (w := 1) hm (by decide)
    have hl2 : Nat.lcm t.length b.length ≤ 2520 := by rw [l2]; exact hl
    have e3 := law_renamed_ok ht gb ⟨by omega, by omega⟩ hl2
    have gr := renT_good ht gb hl2
    refine ⟨renT t b, o2, start _ ?_, p2, gr, by rw [show (renT t b).length = Nat.lcm t.length b.length from tabOf_len _ _, l2]; exact Nat.dvd_refl _, fun x => by
      have e := renT_mv ht gb x
      have e' := mv_inv gb x
      have c := bt (inv b x)
      have c1 := act_bdK gb.pos bb (inv b x)
      have c2 := act_bdK gb.pos bb (mv t (inv b x))
      unfold mv at e e' c2
      omega⟩
    clear start bt btm bb
    subst z5
    generalize iL (renT t b) = U at *
    generalize iL b = Bb at *
    generalize iL t = T at *
    (rw [ap_sSeq]; (conv in (SR.bind _ _) => (arg 1; simp [])); (try rw [SR.bind_nx]))
    (rw [ap_sSeq]; (conv in (SR.bind _ _) => (arg 1; simp [])); (try rw [SR.bind_nx]))
    rw [ap_sSeq]
    simp [outR, ioOut, e2, e3, OB.toD]
  obtain ⟨a', o2, e2, p2, a0, a1⟩ := draw_ok p1 (m := (t.length : Int)) (by omega) (by omega)
  obtain ⟨b', o3, e3, p3, b0, b1⟩ := draw_ok p2 (m := (t.length : Int)) (by omega) (by omega)
  obtain ⟨a, rfl⟩ : ∃ a : Nat, a' = a := ⟨a'.toNat, by omega⟩
  obtain ⟨b, rfl⟩ : ∃ b : Nat, b' = b := ⟨b'.toNat, by omega⟩
  have ha : a < t.length := by omega
  have hb : b < t.length := by omega
  have gx : ∀ {ys : List Int} {j : Nat}, j < ys.length → gIx (.lst (iL ys)) (.int (j : Int)) = some (.imm (.int (act ys j))) := fun {ys j} hj => by
    rw [gIx_ints hj]
    have e := act_get' hj
    rw [List.getElem?_eq_getElem hj] at e
    rw [Option.some.inj e]
  by_cases z4 : w < 4
  · -- turns are moved
    have g1 := good_add ht ha 1
    have l1 : (t.set a (act t a + t.length * 1)).length = t.length := by simp
    have g2 := good_add g1 (a := b) (by omega) (-(w - 2))
    have x1 := gx ha
    have x2 := gx (ys := t.set a (act t a + t.length * 1)) (j := b) (by omega)
    have s1 := setOB_int (acc := t) (j := (a : Int)) (by omega) (by omega) (act t a + t.length * 1)
    have s2 := setOB_int (acc := t.set a (act t a + t.length * 1)) (j := (b : Int)) (by omega) (by omega) (act (t.set a (act t a + t.length * 1)) b + (t.set a (act t a + t.length * 1)).length * -(w - 2))
    rw [Int.toNat_natCast] at s1 s2
    have gm := gMul_i (i := (t.length : Int)) (j := w - 2) (by omega) (by omega)
    have c1 := act_set hp btm (show B ≤ B + 5040 by omega) (a := a) (v := act t a + t.length * 1) (by have := bt a; omega)
    have q1 := act_bdK g1.pos c1
    have nw : (t.length : Int) * (w - 2) ≤ t.length * 1 := Int.mul_le_mul_of_nonneg_left (by omega) (by omega)
    have nw0 : 0 ≤ (t.length : Int) * (w - 2) := Int.mul_nonneg (by omega) (by omega)
    have c2 := act_set g1.pos c1 (show B + 5040 ≤ B + 10080 by omega) (a := b) (v := act (t.set a (act t a + t.length * 1)) b + (t.set a (act t a + t.length * 1)).length * -(w - 2)) (by
      have := q1 b
      rw [l1, Int.mul_neg]; omega)
    have q2 := act_bdK g2.pos c2
    refine ⟨_, o3, start _ ?_, p3, g2, by simp only [List.length_set]; exact Nat.dvd_lcm_left _ _, fun x => by have := q2 x; omega⟩
    rw [l1, Int.mul_neg] at s2 ⊢
    rw [Int.mul_one] at *
    clear start bt btm c1 c2 q1 q2 g1 g2 gx gl gls
    generalize (t.set a (act t a + (t.length : Int))) = t1 at *
    have eg : ∀ y : Int, y + -((t.length : Int) * (w - 2)) = y - (t.length : Int) * (w - 2) := fun y => by omega
    rw [eg] at s2 ⊢
    generalize iL (t1.set b (act t1 b - (t.length : Int) * (w - 2))) = U2 at *
    generalize act t1 b = y2 at *
    generalize iL t1 = U1 at *
    generalize act t a = y1 at *
    generalize iL t = T at *
    generalize hn : (t.length : Int) = n at *
    generalize hw2 : w - 2 = w2 at *
    generalize hm2 : n * w2 = m2 at *
    generalize (a : Int) = a at *
    generalize (b : Int) = b at *
    have lw : gLt (.int w) (.int 4) = some (.imm (.bl true)) := by simp [gLt, z4]
    have ga : gAdd (.int y1) (.int n) = some (.imm (.int (y1 + n))) := rfl
    have gs : gSub (.int y2) (.int m2) = some (.imm (.int (y2 - m2))) := rfl
    have gw : gSub (.int w) (.int 2) = some (.imm (.int w2)) := by rw [← hw2]; rfl
    generalize y1 + n = v1 at *
    generalize y2 - m2 = v2 at *
    have e0 : gEq (.int w) (.int 0) = some (.imm (.bl false)) := by simp [z0]
    have e1' : gEq (.int w) (.int 1) = some (.imm (.bl false)) := by simp [z1]
    have e5 : gEq (.int w) (.int 5) = some (.imm (.bl false)) := by simp [z5]
    (rw [ap_sSeq]; (conv in (SR.bind _ _) => (arg 1; simp [e0])); (try rw [SR.bind_nx]))
    (rw [ap_sSeq]; (conv in (SR.bind _ _) => (arg 1; simp [e1'])); (try rw [SR.bind_nx]))
    (rw [ap_sSeq]; (conv in (SR.bind _ _) => (arg 1; simp [e5])); (try rw [SR.bind_nx]))
    (rw [ap_sSeq]; (conv in (SR.bind _ _) => (arg 1; simp [e2, e3])); (try rw [SR.bind_nx]))
    rw [ap_sSeq]
    simp [outR, ioOut, lw, x1, ga, s1, x2, gw, gm, gs, s2]
  · have w4 : w = 4 := by omega
    have la := law_at_ok hp (a : Int)
    have lb := law_at_ok hp (b : Int)
    have e0 : gEq (.int w) (.int 0) = some (.imm (.bl false)) := by simp [z0]
    have e1' : gEq (.int w) (.int 1) = some (.imm (.bl false)) := by simp [z1]
    have e5 : gEq (.int w) (.int 5) = some (.imm (.bl false)) := by simp [z5]
    have lw : gLt (.int w) (.int 4) = some (.imm (.bl false)) := by simp [gLt, z4]
    have s1 := setOB_int (acc := t) (j := (a : Int)) (by omega) (by omega) (mv t b - a)
    have s2 := setOB_int (acc := t.set a (mv t b - a)) (j := (b : Int)) (by omega) (by simp; omega) (mv t a - b)
    rw [Int.toNat_natCast] at s1 s2
    have y0 : ∀ p q : D, gIx (.lst [p, q]) (.int 0) = some (.imm p) := fun _ _ => rfl
    have y1 : ∀ p q : D, gIx (.lst [p, q]) (.int 1) = some (.imm q) := fun _ _ => rfl
    by_cases hab : a = b
    · refine ⟨t, o3, start _ ?_, p3, ht, Nat.dvd_lcm_left _ _, fun x => by have := bt x; omega⟩
      have ne : gNe (.int (a : Int)) (.int (b : Int)) = some (.imm (.bl false)) := by simp [hab]
      clear start bt btm gx gl
      have gs1 : gSub (.int (mv t b)) (.int (a : Int)) = some (.imm (.int (mv t b - a))) := rfl
      have gs2 : gSub (.int (mv t a)) (.int (b : Int)) = some (.imm (.int (mv t a - b))) := rfl
      generalize iL ((t.set a (mv t b - a)).set b (mv t a - b)) = U2 at *
      generalize iL (t.set a (mv t b - a)) = U1 at *
      generalize mv t b - (a : Int) = v1 at *
      generalize mv t a - (b : Int) = v2 at *
      generalize mv t b = vb at *
      generalize mv t a = va at *
      generalize iL t = T at *
      generalize (t.length : Int) = n at *
      generalize (a : Int) = a at *
      generalize (b : Int) = b at *
      (rw [ap_sSeq]; (conv in (SR.bind _ _) => (arg 1; simp [e0])); (try rw [SR.bind_nx]))
      (rw [ap_sSeq]; (conv in (SR.bind _ _) => (arg 1; simp [e1'])); (try rw [SR.bind_nx]))
      (rw [ap_sSeq]; (conv in (SR.bind _ _) => (arg 1; simp [e5])); (try rw [SR.bind_nx]))
      (rw [ap_sSeq]; (conv in (SR.bind _ _) => (arg 1; simp [e2, e3])); (try rw [SR.bind_nx]))
      (rw [ap_sSeq]; (conv in (SR.bind _ _) => (arg 1; simp [lw])); (try rw [SR.bind_nx]))
      (rw [ap_sSeq]; (conv in (SR.bind _ _) => (arg 1; simp [la, lb])); (try rw [SR.bind_nx]))
      (rw [ap_sSeq]; (conv in (SR.bind _ _) => (arg 1; simp [y0, y1, gs1, gs2, s1, s2, OB.toD])); (try rw [SR.bind_nx]))
      simp [outR, ioOut, ne, gls, fIfE]
    · have gg := good_swap ht ha hb hab
      have ea : act t b + (b : Int) - a = mv t b - a := by unfold mv; omega
      have eb : act t a + (a : Int) - b = mv t a - b := by unfold mv; omega
      rw [ea, eb] at gg
      have c1 := act_set hp btm (show B ≤ B + 5040 by omega) (a := a) (v := mv t b - a) (by have := bt b; unfold mv; omega)
      have c2 := act_set (t := t.set a (mv t b - a)) (by simpa using hp) c1 (show B + 5040 ≤ B + 10080 by omega) (a := b) (v := mv t a - b) (by have := bt a; unfold mv; omega)
      have q2 := act_bdK gg.pos c2
      refine ⟨_, o3, start _ ?_, p3, gg, by simp only [List.length_set]; exact Nat.dvd_lcm_left _ _, fun x => by have := q2 x; omega⟩
      have ne : gNe (.int (a : Int)) (.int (b : Int)) = some (.imm (.bl true)) := by simp; omega
      clear start bt btm gx gl c1 c2 q2 gg ea eb
      have gs1 : gSub (.int (mv t b)) (.int (a : Int)) = some (.imm (.int (mv t b - a))) := rfl
      have gs2 : gSub (.int (mv t a)) (.int (b : Int)) = some (.imm (.int (mv t a - b))) := rfl
      generalize iL ((t.set a (mv t b - a)).set b (mv t a - b)) = U2 at *
      generalize iL (t.set a (mv t b - a)) = U1 at *
      generalize mv t b - (a : Int) = v1 at *
      generalize mv t a - (b : Int) = v2 at *
      generalize mv t b = vb at *
      generalize mv t a = va at *
      generalize iL t = T at *
      generalize (t.length : Int) = n at *
      generalize (a : Int) = a at *
      generalize (b : Int) = b at *
      (rw [ap_sSeq]; (conv in (SR.bind _ _) => (arg 1; simp [e0])); (try rw [SR.bind_nx]))
      (rw [ap_sSeq]; (conv in (SR.bind _ _) => (arg 1; simp [e1'])); (try rw [SR.bind_nx]))
      (rw [ap_sSeq]; (conv in (SR.bind _ _) => (arg 1; simp [e5])); (try rw [SR.bind_nx]))
      (rw [ap_sSeq]; (conv in (SR.bind _ _) => (arg 1; simp [e2, e3])); (try rw [SR.bind_nx]))
      (rw [ap_sSeq]; (conv in (SR.bind _ _) => (arg 1; simp [lw])); (try rw [SR.bind_nx]))
      (rw [ap_sSeq]; (conv in (SR.bind _ _) => (arg 1; simp [la, lb])); (try rw [SR.bind_nx]))
      (rw [ap_sSeq]; (conv in (SR.bind _ _) => (arg 1; simp [y0, y1, gs1, gs2, s1, s2, OB.toD])); (try rw [SR.bind_nx]))
      simp [outR, ioOut, ne, fIfE]
end
end K54

set_option maxHeartbeats 2000000
namespace K54
open PySem L2 TS
noncomputable section
-- needs: plan
def RR (xs : List Int) : Str := "Plan(" ++ reprL xs ++ ")"
theorem sh_l {xs : List Int} (h : ∀ x ∈ xs, x.natAbs < 2 ^ 255) (hl : xs.length ≤ 10000) : shOk (.list (xs.map PyData.int)) = true :=
  fine_sh (by unfold fine; exact fine_ints h) (by
    have := depth_ints xs
    simp only [PyData.depth]; omega) (by simp only [PyData.bulk, bulk_ints]; omega)
theorem reprL_len {xs : List Int} (h : ∀ x ∈ xs, x.natAbs < 2 ^ 255) (hl : xs.length ≤ 2520) : (reprL xs).length ≤ 1000000 := by
  have := PyData.shown_le_bulk 80 (by decide) (.list (xs.map PyData.int)) (fine_show _ (by unfold fine; exact fine_ints h)).2.2
  simp only [PyData.bulk, bulk_ints] at this
  unfold reprL
  omega
theorem RR_ok {xs : List Int} (h : ∀ x ∈ xs, x.natAbs < 2 ^ 255) : PyData.strOk (RR xs) = true :=
  strOk_app (strOk_app (strOk_of _) (fine_text (.list _) (by unfold fine; exact fine_ints h))) (strOk_of _)
theorem empty_appG (x : Str) : Str.empty ++ x = x := by
  show Str.append _ _ = _
  simp [Str.append, Str.empty]
theorem len_appG (x y : Str) : (x ++ y).length = x.length + y.length := strLen_append x y
theorem RR_len {xs : List Int} (h : ∀ x ∈ xs, x.natAbs < 2 ^ 255) (hl : xs.length ≤ 2520) : (RR xs).length ≤ 1000010 := by
  have rl := reprL_len h hl
  have l1 : (("Plan(" : Str)).length = 5 := by decide
  have l2 : ((")" : Str)).length = 1 := by decide
  unfold RR
  rw [len_appG, len_appG]; omega
theorem reprG_ok {t : List Int} (hb : ∀ x ∈ least t, x.natAbs < 2 ^ 255) (h : (least t).length ≤ 2520) : itS gtab_repr (pl t) = some (RR (least t)) := by
  have sh := sh_l hb (by omega)
  have rl := reprL_len hb (by omega)
  have l1 : (("Plan(" : Str)).length = 5 := by decide
  have l2 : ((")" : Str)).length = 1 := by decide
  have sz : sizeLine = 2 ^ 24 := rfl
  have c1 : gd ((Str.empty ++ ("Plan(" : Str)).length ≤ sizeLine) = true := gd_true (by decide)
  have c3 : gd ((Str.empty ++ ("Plan(" : Str) ++ reprL (least t)).length ≤ sizeLine) = true := gd_true (by rw [empty_appG, len_appG]; omega)
  have c4 : gd ((Str.empty ++ ("Plan(" : Str) ++ reprL (least t) ++ (")" : Str)).length ≤ sizeLine) = true := gd_true (by rw [empty_appG, len_appG, len_appG]; omega)
  have eT : Str.empty ++ ("Plan(" : Str) ++ reprL (least t) ++ (")" : Str) = RR (least t) := by rw [empty_appG]; rfl
  have tp := toP_l (least t)
  have S2 : fJoined (jCons (kD (.str "Plan(")) (jCons (fFmtL (fFld ix_own_offsets (vP 0))) (jCons (kD (.str ")")) jNil))) [some (.imm (pl t))] = .ok (.str (RR (least t))) [some (.imm (pl t))] := by
    rw [← eT]
    have f : fFmtL (fFld ix_own_offsets (vP 0)) [some (.imm (pl t))] = .ok (.str (reprL (least t))) [some (.imm (pl t))] := by
      simp [fFmtL, planD, ix_own_offsets, tp, sh]
      rfl
    simp [fJoined, jCons, jNil, c1, c3, c4, f]
  have e : m_Plan___repr__ none [pl t] = .ok (.imm (.str (RR (least t)))) none := by
    (unfold m_Plan___repr__ g_Plan___repr__; unfold mir; rw [if_pos (by simp [ioN])]; simp only [ini, ioS, ioN, List.replicate, List.map_cons, List.map_nil, List.length_cons, List.length_nil, List.nil_append, List.cons_append, Nat.zero_add, Nat.reduceAdd, Nat.reduceSub])
    simp [outR, ioOut, S2]
  have g : gU okT gtab_repr (pl t) = some (.str (RR (least t))) := by
    show (match m_Plan___repr__ none [pl t] with
      | .ok (.imm r) _ => if okT r then some r else none
      | _ => none) = _
    rw [e]
    rfl
  show itO gtab_repr (pl t) = _
  unfold itO
  rw [g]
theorem itsG_ok : ∀ {ts : List (List Int)}, (∀ t ∈ ts, (∀ x ∈ least t, x.natAbs < 2 ^ 255) ∧ (least t).length ≤ 2520) → itsS gtab_repr (ts.map pl) = some (ts.map fun t => RR (least t))
  | [], _ => rfl
  | t :: ts, h => by
    have a := h t (by simp)
    have e1 := reprG_ok a.1 a.2
    have e2 := itsG_ok (ts := ts) fun u hu => h u (by simp [hu])
    rw [List.map_cons, List.map_cons]
    unfold itsS
    rw [e1, e2]
theorem sumG_le : ∀ {ts : List (List Int)}, (∀ t ∈ ts, (∀ x ∈ least t, x.natAbs < 2 ^ 255) ∧ (least t).length ≤ 2520) → ((ts.map fun t => RR (least t)).map (·.length)).sum ≤ ts.length * 1000010
  | [], _ => by simp
  | t :: ts, h => by
    have a := h t (by simp)
    have e1 := RR_len a.1 a.2
    have e2 := sumG_le (ts := ts) fun u hu => h u (by simp [hu])
    simp only [List.map_cons, List.sum_cons, List.length_cons]
    rw [Nat.add_mul]
    omega
theorem reprPlans {ts : List (List Int)} (h : ∀ t ∈ ts, (∀ x ∈ least t, x.natAbs < 2 ^ 255) ∧ (least t).length ≤ 2520) (h0 : ts ≠ []) (hl : ts.length ≤ 10) : ∃ X, gReprL gtab_repr (.lst (ts.map pl)) = some X ∧ PyData.strOk X = true := by
  have sz : sizeLine = 2 ^ 24 := rfl
  refine ⟨listText (ts.map fun t => RR (least t)), ?_, ?_⟩
  · have a : (ts.map pl).any isO = true := by
      cases ts with
      | nil => exact absurd rfl h0
      | cons t ts => rfl
    have b := itsG_ok h
    have c := sumG_le h
    have d := textFrom_len_le (ts.map fun t => RR (least t)) 0 "["
    have e : (listText (ts.map fun t => RR (least t))).length ≤ sizeLine := by
      show (textFrom 0 "[" (ts.map fun t => RR (least t)) ++ "]").length ≤ _
      rw [len_appG]
      have l1 : (("[" : Str)).length = 1 := by decide
      have l2 : (("]" : Str)).length = 1 := by decide
      rw [List.length_map] at d
      omega
    show (if (ts.map pl).any isO then _ else _) = _
    rw [a, if_pos rfl, b]
    show (if gd _ then _ else _) = _
    rw [gd_true e]; rfl
  · unfold listText
    refine strOk_app (strOk_from _ _ _ (strOk_of _) ?_) (strOk_of _)
    intro x hx
    obtain ⟨t, ht, rfl⟩ := List.mem_map.mp hx
    exact RR_ok (h t ht).1
end
end K54

set_option maxHeartbeats 2000000
namespace K54
open PySem L2 TS
noncomputable section
-- needs:
set_option exponentiation.threshold 6000
theorem intW_show {i : Int} (h : i.natAbs < 2 ^ 900) : (PyData.int i).showable = true ∧ (PyData.int i).hasDict = false ∧ (PyData.int i).leavesShort 300 = true := by
  have h2 : i.natAbs.log2 < 1920 := by
    by_cases z : i.natAbs = 0
    · rw [z]; decide
    · have := (Nat.log2_lt z).mpr h
      omega
  have h3 : (PyData.shown (.int i)).length ≤ 300 := by
    unfold PyData.shown
    have e := int_text_length_le10 (a := i) (k := 298) (by decide) (Nat.lt_trans h (by decide))
    show (Str.ofString (toString i)).length ≤ 300
    simp only [Str.length, Str.ofString_eq_toList, List.size_toArray, List.length_map]
    rw [String.length_toList]
    omega
  simp [PyData.showable, PyData.hasDict, PyData.leavesShort, h2, h3]
theorem strOk_W (i : Int) : PyData.strOk (PyData.shown (.int i)) = true := by unfold PyData.shown; exact strOk_of _
end
end K54

set_option maxHeartbeats 2000000
namespace K54
open PySem L2 TS
noncomputable section
-- needs: reprW
structure PD (d : D) (n b : Nat) : Prop where
  ex : ∃ p, toP d = some p ∧ p.canLay0 = true ∧ p.showable = true ∧ p.hasDict = false ∧ p.leavesShort 300 = true ∧ PyData.strOk p.shown = true ∧ p.depth ≤ n ∧ p.bulk ≤ b
theorem PD.mono {d : D} {n b n' b' : Nat} (h : PD d n b) (h1 : n ≤ n') (h2 : b ≤ b') : PD d n' b' := by
  obtain ⟨p, e, a1, a2, a3, a4, a5, a6, a7⟩ := h.ex
  exact ⟨⟨p, e, a1, a2, a3, a4, a5, by omega, by omega⟩⟩
theorem pd_non : PD .non 0 0 := ⟨⟨.none, rfl, rfl, rfl, rfl, rfl, strOk_of _, by simp [PyData.depth], by simp [PyData.bulk]⟩⟩
theorem pd_int {i : Int} (h : i.natAbs < 2 ^ 900) : PD (.int i) 0 0 := by
  obtain ⟨h1, h2, h3⟩ := intW_show h
  exact ⟨⟨.int i, rfl, by simp [PyData.canLay0], h1, h2, h3, strOk_W i, by simp [PyData.depth], by simp [PyData.bulk]⟩⟩
theorem pd_all {n b : Nat} : ∀ {xs : List D}, (∀ d ∈ xs, PD d n b) → ∃ ps, toPs xs = some ps ∧ PyData.canLayAll0 ps = true ∧ PyData.showableAll ps = true ∧ PyData.hasDictAll ps = false ∧ PyData.leavesShortAll 300 ps = true ∧ (∀ t ∈ PyData.shownAll ps, PyData.strOk t = true) ∧ PyData.depthAll ps ≤ n ∧ PyData.bulkAll ps ≤ xs.length * (b + 1)
  | [], _ => ⟨[], by simp [toPs], rfl, rfl, rfl, rfl, by simp [PyData.shownAll], by simp [PyData.depthAll], by simp [PyData.bulkAll]⟩
  | d :: xs, h => by
    obtain ⟨p, e, a1, a2, a3, a4, a5, a6, a7⟩ := (h d (by simp)).ex
    obtain ⟨ps, e', b1, b2, b3, b4, b5, b6, b7⟩ := pd_all (xs := xs) fun q hq => h q (by simp [hq])
    refine ⟨p :: ps, by simp [toPs, e, e'], by simp [PyData.canLayAll0, a1, b1], by simp [PyData.showableAll, a2, b2], by simp [PyData.hasDictAll, a3, b3], by simp [PyData.leavesShortAll, a4, b4], ?_, by simp only [PyData.depthAll]; omega, ?_⟩
    · intro t ht
      rw [PyData.shownAll, List.mem_cons] at ht
      rcases ht with rfl | ht
      · exact a5
      · exact b5 t ht
    · simp only [PyData.bulkAll, List.length_cons, Nat.add_mul, Nat.one_mul]
      omega
theorem pd_lst {n b : Nat} {xs : List D} (h : ∀ d ∈ xs, PD d n b) : PD (.lst xs) (n + 1) (xs.length * (b + 1)) := by
  obtain ⟨ps, e, b1, b2, b3, b4, b5, b6, b7⟩ := pd_all h
  exact ⟨⟨.list ps, by unfold toP; rw [e]; rfl, by simp only [PyData.canLay0]; exact b1, by unfold PyData.showable; exact b2, by unfold PyData.hasDict; exact b3, by unfold PyData.leavesShort; exact b4, by
    unfold PyData.shown listText
    exact strOk_app (strOk_from _ _ _ (strOk_of _) b5) (strOk_of _), by simp only [PyData.depth]; omega, by simp only [PyData.bulk]; exact b7⟩⟩
def txD (d : D) : Str := match toP d with
  | some p => p.shown
  | none => ""
theorem repr_PD {d : D} {n b : Nat} (h : PD d n b) (hn : n ≤ 32) (hb : b ≤ 50000) : gRepr [d] = some (.imm (.str (txD d))) := by
  obtain ⟨p, e, a1, a2, a3, a4, a5, a6, a7⟩ := h.ex
  have := PyData.shown_le_bulk 300 (by decide) p a4
  have ok : shOk p = true := gd_true ⟨a2, a3, by omega, by show _ ≤ 2 ^ 24; omega⟩
  simp only [gRepr, e, ok, if_true, txD]
theorem txD_ok {d : D} {n b : Nat} (h : PD d n b) : PyData.strOk (txD d) = true := by
  obtain ⟨p, e, a1, a2, a3, a4, a5, a6, a7⟩ := h.ex
  simp only [txD, e]; exact a5
theorem eq_tx {d : D} {n b : Nat} (h : PD d n b) : gEq (.str (txD d)) (.str (txD d)) = some (.imm (.bl true)) := by
  rw [gEq_str (txD_ok h) (txD_ok h)]; simp
theorem PD.shaped {d : D} {n b : Nat} (h : PD d n b) (hn : n ≤ 64) : ∃ p, toP d = some p ∧ SeqAt.shaped p = true := by
  obtain ⟨p, e, a1, a2, a3, a4, a5, a6, a7⟩ := h.ex
  refine ⟨p, e, ?_⟩
  unfold SeqAt.shaped
  rw [a1, decide_eq_true (by omega)]; rfl
end
end K54

set_option maxHeartbeats 2000000
namespace K54
open PySem L2 TS
noncomputable section
-- needs: draw
theorem pot_ok (ns : List Int) (k : Nat) (hk : k < 100) : ∃ o, m__law_pot none [.scr (ns.map D.int), .int (k : Int)] = .ok (.own o) none ∧ Pot o := by
  have m23 : gMul (.int 29) (.int (k : Int)) = some (.imm (.int (29 * (k : Int)))) := gMul_i (by decide) (by omega)
  have m79 : gMul (.int 7129) (.int (k : Int)) = some (.imm (.int (7129 * (k : Int)))) := gMul_i (by decide) (by omega)
  have e3 : ∀ i : Int, gMod (.int i) (.int 2147483629) = some (.imm (.int (i % 2147483629))) := fun i => gMod_i (by decide)
  have e4 : ∀ i : Int, gMod (.int i) (.int 2147483563) = some (.imm (.int (i % 2147483563))) := fun i => gMod_i (by decide)
  have e5 : ∀ i : Int, gMul (.int (i % 2147483563)) (.int 44017) = some (.imm (.int (i % 2147483563 * 44017))) := fun i => by
    have h1 := Int.emod_nonneg i (show (2147483563 : Int) ≠ 0 by decide)
    have h2 := Int.emod_lt_of_pos i (show (0 : Int) < 2147483563 by decide)
    exact gMul_i (by omega) (by decide)
  have key : ∀ c : Int, Pot (.l [.int (if c - 1000000000000000000 > 0 then c - 1000000000000000000 else 0), .int ((c % 2147483563 * 44017 + 7129 * (k : Int) + 53) % 2147483629 + 1)]) := fun c => by
    refine ⟨_, _, rfl, by split <;> omega, ?_, ?_⟩
    · have := Int.emod_nonneg (c % 2147483563 * 44017 + 7129 * (k : Int) + 53) (show (2147483629 : Int) ≠ 0 by decide); omega
    · have := Int.emod_lt_of_pos (c % 2147483563 * 44017 + 7129 * (k : Int) + 53) (show (0 : Int) < 2147483629 by decide); omega
  by_cases h : k < ns.length
  · have hx : gIx (.scr (ns.map D.int)) (.int (k : Int)) = some (.imm (.int ns[k])) := by
      show (atI (ns.map D.int) (k : Int)).map R.imm = _
      rw [show ns.map D.int = iL ns from rfl, atI_ints, atI_in h]; rfl
    have hl : ((k : Int) < (ns.length : Int)) := by omega
    refine ⟨_, ?_, key (if ns[k] < 0 then -ns[k] else ns[k])⟩
    simp [m__law_pot, mir, ini, ioS, ioN, outR, ioOut, g__law_pot, m23, m79, e3, e4, e5, hx, h, pow_18]
  · refine ⟨_, ?_, key (29 * (k : Int) + 11)⟩
    simp [m__law_pot, mir, ini, ioS, ioN, outR, ioOut, g__law_pot, m23, m79, e3, e4, e5, h, pow_18]
end
end K54

set_option maxHeartbeats 2000000
namespace K54
open PySem L2 TS
noncomputable section
-- needs: draw
end
end K54

set_option maxHeartbeats 2000000
namespace K54
open PySem L2 TS
noncomputable section
-- needs: draw
theorem choice_ok {o : OB} (h : Pot o) {xs : List Int} (h0 : 0 < xs.length) (h1 : xs.length < 1000) : ∃ x o', m__law_choice (some o) [.lst (iL xs)] = .ok (.imm (.int x)) (some o') ∧ Pot o' ∧ x ∈ xs := by
  obtain ⟨r, o1, e1, p1, a1, b1⟩ := draw_ok h (m := (xs.length : Int)) (by omega) (by omega)
  obtain ⟨n, rfl⟩ : ∃ n : Nat, r = n := ⟨r.toNat, by omega⟩
  have hn : n < xs.length := by omega
  refine ⟨xs[n], o1, ?_, p1, List.getElem_mem hn⟩
  have ix := gIx_ints hn
  simp [m__law_choice, mir, ini, ioS, ioN, outR, ioOut, g__law_choice, e1, ix, -gIx_l]
end
end K54

set_option maxHeartbeats 2000000
namespace K54
open PySem L2 TS
noncomputable section
-- needs: kin reprg plainD pot lcm period choice
set_option exponentiation.threshold 6000
theorem foldl_iff : ∀ (ns : List Nat) (a m : Nat), ns.foldl Nat.lcm a ∣ m ↔ a ∣ m ∧ ∀ n ∈ ns, n ∣ m
  | [], a, m => by simp
  | n :: ns, a, m => by
    show ns.foldl Nat.lcm (Nat.lcm a n) ∣ m ↔ _
    rw [foldl_iff ns]
    constructor
    · rintro ⟨h1, h2⟩
      exact ⟨Nat.dvd_trans (Nat.dvd_lcm_left _ _) h1, fun x hx => by
        rcases List.mem_cons.mp hx with rfl | hx
        · exact Nat.dvd_trans (Nat.dvd_lcm_right _ _) h1
        · exact h2 x hx⟩
    · rintro ⟨h1, h2⟩
      exact ⟨Nat.lcm_dvd h1 (h2 n (by simp)), fun x hx => h2 x (by simp [hx])⟩
theorem lcmL_iff {ns : List Nat} {m : Nat} : lcmL ns ∣ m ↔ ∀ n ∈ ns, n ∣ m := by
  unfold lcmL
  rw [foldl_iff]
  exact ⟨fun h => h.2, fun h => ⟨Nat.one_dvd _, h⟩⟩
theorem lcmL_perm {a b : List Nat} (p : a.Perm b) : lcmL a = lcmL b :=
  Nat.dvd_antisymm (lcmL_iff.mpr fun n hn => (lcmL_iff.mp (Nat.dvd_refl _)) n (p.mem_iff.mp hn)) (lcmL_iff.mpr fun n hn => (lcmL_iff.mp (Nat.dvd_refl _)) n (p.mem_iff.mpr hn))
def flt (p : Int → Bool) : List Int → D
  | [] => .non
  | x :: xs => if p x then .int x else flt p xs
theorem flt_none {p : Int → Bool} : ∀ {xs : List Int}, (∀ x ∈ xs, p x = false) → flt p xs = .non
  | [], _ => rfl
  | x :: xs, h => by
    unfold flt
    rw [h x (by simp), if_neg (by simp)]
    exact flt_none fun y hy => h y (by simp [hy])
theorem flt_app {p : Int → Bool} : ∀ {xs ys : List Int}, (∃ x ∈ xs, p x = true) → flt p (xs ++ ys) = flt p xs
  | [], ys, h => by obtain ⟨x, hx, _⟩ := h; cases hx
  | x :: xs, ys, h => by
    show (if p x then D.int x else flt p (xs ++ ys)) = if p x then D.int x else flt p xs
    by_cases e : p x = true
    · rw [if_pos e, if_pos e]
    · rw [if_neg e, if_neg e]
      refine flt_app ?_
      obtain ⟨y, hy, hp⟩ := h
      rcases List.mem_cons.mp hy with rfl | hy
      · exact absurd hp e
      · exact ⟨y, hy, hp⟩
theorem flt_per {p : Int → Bool} {M N : Nat} (hM : 0 < M) (d : M ∣ N) (hN : 0 < N) (per : ∀ x : Int, p (x + M) = p x) : flt p (nats 0 N) = flt p (nats 0 M) := by
  have le := Nat.le_of_dvd hN d
  have perk : ∀ (k : Nat) (x : Int), p (x + k * M) = p x := by
    intro k
    induction k with
    | zero => intro x; rw [show x + ((0 : Nat) : Int) * M = x by omega]
    | succ k ih => intro x; rw [show x + ((k + 1 : Nat) : Int) * M = (x + k * M) + M by rw [Int.natCast_succ, Int.add_mul]; omega, per, ih]
  have sp : nats 0 N = nats 0 M ++ nats M (N - M) := by
    unfold nats
    rw [← List.map_append]
    congr 1
    have := List.range'_append (s := 0) (m := M) (n := N - M) (step := 1)
    rw [show M + (N - M) = N by omega, show 0 + 1 * M = M by omega] at this
    exact this.symm
  by_cases h : ∃ x ∈ nats 0 M, p x = true
  · rw [sp, flt_app h]
  · have z : ∀ x : Int, p x = false := fun x => by
      have b0 := Int.emod_nonneg x (show (M : Int) ≠ 0 by omega)
      have b1 := Int.emod_lt_of_pos x (show (0 : Int) < M by omega)
      have em := Int.emod_add_mul_ediv x (M : Int)
      have e0 : p (x % M) = false := by
        refine Bool.eq_false_iff.mpr fun w => h ⟨x % M, ?_, w⟩
        unfold nats
        refine List.mem_map.mpr ⟨(x % M).toNat, ?_, by omega⟩
        rw [List.mem_range'_1]
        omega
      have key : ∀ (j : Int), p (x % M + M * j) = p (x % M) := fun j => by
        rcases Int.le_total 0 j with w | w
        · obtain ⟨k, rfl⟩ : ∃ k : Nat, j = k := ⟨j.toNat, by omega⟩
          have := perk k (x % M)
          rw [Int.mul_comm] at this
          exact this
        · obtain ⟨k, rfl⟩ : ∃ k : Nat, j = -(k : Int) := ⟨(-j).toNat, by omega⟩
          have := perk k (x % M + M * -(k : Int))
          rw [Int.mul_neg, Int.mul_comm (k : Int) (M : Int), show x % (M : Int) + -((M : Int) * k) + M * k = x % M by omega] at this
          rw [Int.mul_neg]
          exact this.symm
      have := key (x / M)
      rw [em] at this
      rw [this, e0]
    rw [flt_none fun x _ => z x, flt_none fun x _ => z x]
def miss (t u b : List Int) (x : Int) : Bool := decide (mv b (mv t x) ≠ mv u (mv b x))
theorem mv_per {t : List Int} (h : 0 < t.length) {M : Nat} (d : t.length ∣ M) (x : Int) : mv t (x + M) = mv t x + M := by
  obtain ⟨k, rfl⟩ := d
  have : act t (x + ((t.length * k : Nat) : Int)) = act t x := by
    rw [← act_mod, ← act_mod (x := x)]
    congr 1
    rw [Int.natCast_mul]
    exact Int.add_mul_emod_self_left _ _ _
  unfold mv
  rw [this]; omega
theorem miss_per {t u b : List Int} (ht : 0 < t.length) (hu : 0 < u.length) (hb : 0 < b.length) {M : Nat} (d1 : t.length ∣ M) (d2 : u.length ∣ M) (d3 : b.length ∣ M) (x : Int) : miss t u b (x + M) = miss t u b x := by
  unfold miss
  rw [mv_per ht d1, mv_per hb d3, mv_per hb d3, mv_per hu d2, decide_eq_decide]
  omega
theorem miss_least {t u b : List Int} (ht : Good t) (hu : Good u) (hb : Good b) : miss (least t) (least u) (least b) = miss t u b := by
  funext x
  unfold miss
  rw [mv_least ht, mv_least hb, mv_least hu]
section
variable {t u b : List Int} (ht : Good t) (hu : Good u) (hb : Good b)
include ht hu hb
theorem rf_loop {s3 : Option TS.R} : ∀ (xs : List Int) (s4 : Option TS.R), (∃ r4, flt (miss t u b) xs = .non ∧ forL (tName 4) g_renaming_fault_3B (iL xs) [some (.imm (pl t)), some (.imm (pl u)), some (.imm (pl b)), s3, s4] = .nx [some (.imm (pl t)), some (.imm (pl u)), some (.imm (pl b)), s3, r4]) ∨ (∃ δ, forL (tName 4) g_renaming_fault_3B (iL xs) [some (.imm (pl t)), some (.imm (pl u)), some (.imm (pl b)), s3, s4] = .rt (.imm (flt (miss t u b) xs)) δ)
  | [], s4 => .inl ⟨s4, rfl, rfl⟩
  | x :: xs, s4 => by
    have e1 := at_ok ht x
    have e2 := at_ok hb (mv t x)
    have e3 := at_ok hb x
    have e4 := at_ok hu (mv b x)
    have ta0 : tab_at 0 = some m_Plan_at := rfl
    have ih := rf_loop (s3 := s3) xs (some (.imm (.int x)))
    by_cases e : mv b (mv t x) = mv u (mv b x)
    · have fe : flt (miss t u b) (x :: xs) = flt (miss t u b) xs := by
        show (if miss t u b x then D.int x else flt (miss t u b) xs) = _
        rw [show miss t u b x = false from decide_eq_false (by simp [e]), if_neg (by simp)]
      have st : forL (tName 4) g_renaming_fault_3B (iL (x :: xs)) [some (.imm (pl t)), some (.imm (pl u)), some (.imm (pl b)), s3, s4] = forL (tName 4) g_renaming_fault_3B (iL xs) [some (.imm (pl t)), some (.imm (pl u)), some (.imm (pl b)), s3, some (.imm (.int x))] := by
        clear ih fe
        rw [e] at e2
        rw [iL_cons]
        unfold pl at *
        generalize iL xs = K at *
        generalize planD (least t) = P1 at *
        generalize planD (least u) = P2 at *
        generalize planD (least b) = P3 at *
        generalize mv u (mv b x) = v at *
        generalize mv b x = w at *
        generalize mv t x = y at *
        simp [forL, ta0, e1, e2, e3, e4]
      rw [fe, st]
      exact ih
    · have fe : flt (miss t u b) (x :: xs) = .int x := by
        unfold flt miss
        rw [decide_eq_true e, if_pos rfl]
      refine .inr ⟨[some (.imm (pl t)), some (.imm (pl u)), some (.imm (pl b)), s3, some (.imm (.int x))], ?_⟩
      rw [fe]
      clear ih fe
      rw [iL_cons]
      have ne : gNe (.int (mv b (mv t x))) (.int (mv u (mv b x))) = some (.imm (.bl true)) := by simp [e]
      unfold pl at *
      generalize iL xs = K at *
      generalize planD (least t) = P1 at *
      generalize planD (least u) = P2 at *
      generalize planD (least b) = P3 at *
      generalize mv b (mv t x) = z at *
      generalize mv u (mv b x) = v at *
      generalize mv b x = w at *
      generalize mv t x = y at *
      simp [forL, ta0, e1, e2, e3, e4, ne]
theorem rf_ok (hM : lcmL [(least t).length, (least u).length, (least b).length] ≤ 2520) : m_renaming_fault none [pl t, pl u, pl b] = .ok (.imm (flt (miss t u b) (nats 0 (lcmL [(least t).length, (least u).length, (least b).length])))) none := by
  have l1 := ht.least.pos
  have l2 := hu.least.pos
  have l3 := hb.least.pos
  have cm := common_multiple_ok (ns := [(least t).length, (least u).length, (least b).length]) (by simp; omega) (Nat.lt_of_le_of_lt hM (by decide)) (by simp)
  have cm : m_common_multiple none [.int ((least t).length : Int), .int ((least u).length : Int), .int ((least b).length : Int)] = .ok (.imm (.int (lcmL [(least t).length, (least u).length, (least b).length] : Nat))) none := cm
  generalize lcmL [(least t).length, (least u).length, (least b).length] = M at *
  have p1 := period_prop t
  have p2 := period_prop u
  have p3 := period_prop b
  have g : gGt (.int (M : Int)) (.int 2520) = some (.imm (.bl false)) := by simp [gGt]; omega
  have it : itRg1 (vI 3) [some (.imm (pl t)), some (.imm (pl u)), some (.imm (pl b)), some (.imm (.int (M : Int))), none] = .ok (iL (nats 0 M)) [some (.imm (pl t)), some (.imm (pl u)), some (.imm (pl b)), some (.imm (.int (M : Int))), none] := itRg1_ok (k := M) (by omega) rfl
  have tpp0 : ptab_period 0 = some m_Plan_period := rfl
  rcases rf_loop ht hu hb (s3 := some (.imm (.int (M : Int)))) (nats 0 M) none with ⟨r4, fe, e⟩ | ⟨δ, e⟩
  · rw [fe]
    unfold pl at *
    generalize planD (least t) = P1 at *
    generalize planD (least u) = P2 at *
    generalize planD (least b) = P3 at *
    generalize iL (nats 0 M) = NM at *
    (unfold m_renaming_fault g_renaming_fault; unfold mir; rw [if_pos (by simp [ioN])]; simp only [ini, ioS, ioN, List.replicate, List.map_cons, List.map_nil, List.length_cons, List.length_nil, List.nil_append, List.cons_append, Nat.zero_add, Nat.reduceAdd, Nat.reduceSub])
    (rw [ap_sSeq]; (conv in (SR.bind _ _) => (arg 1; simp [tpp0, p1, p2, p3, cm])); (try rw [SR.bind_nx]))
    (rw [ap_sSeq]; (conv in (SR.bind _ _) => (arg 1; simp [g])); (try rw [SR.bind_nx]))
    rw [ap_sSeq, show g_renaming_fault_3 _ = _ from for_st it e, SR.bind_nx]
    simp [outR, ioOut]
  · generalize flt (miss t u b) (nats 0 M) = r at *
    unfold pl at *
    generalize planD (least t) = P1 at *
    generalize planD (least u) = P2 at *
    generalize planD (least b) = P3 at *
    generalize iL (nats 0 M) = NM at *
    (unfold m_renaming_fault g_renaming_fault; unfold mir; rw [if_pos (by simp [ioN])]; simp only [ini, ioS, ioN, List.replicate, List.map_cons, List.map_nil, List.length_cons, List.length_nil, List.nil_append, List.cons_append, Nat.zero_add, Nat.reduceAdd, Nat.reduceSub])
    (rw [ap_sSeq]; (conv in (SR.bind _ _) => (arg 1; simp [tpp0, p1, p2, p3, cm])); (try rw [SR.bind_nx]))
    (rw [ap_sSeq]; (conv in (SR.bind _ _) => (arg 1; simp [g])); (try rw [SR.bind_nx]))
    rw [ap_sSeq, show g_renaming_fault_3 _ = SR.rt (.imm r) δ from by show sFor (itRg1 (vI 3)) (tName 4) g_renaming_fault_3B _ = _; rw [ap_sFor, it, Res.bindS_ok]; exact e]
    rfl
theorem rf_long (hM : 2520 < lcmL [(least t).length, (least u).length, (least b).length]) : m_renaming_fault none [pl t, pl u, pl b] = .exc ⟨115, [.int (lcmL [(least t).length, (least u).length, (least b).length] : Nat)]⟩ none := by
  have l1 := ht.least.pos
  have l2 := hu.least.pos
  have l3 := hb.least.pos
  have b1 := ht.least.len
  have b2 := hu.least.len
  have b3 := hb.least.len
  have lb : lcmL [(least t).length, (least u).length, (least b).length] < 2 ^ 200 := by
    have d : lcmL [(least t).length, (least u).length, (least b).length] ∣ (least t).length * (least u).length * (least b).length := lcmL_iff.mpr (by
      intro n hn
      simp only [List.mem_cons, List.not_mem_nil, or_false] at hn
      rcases hn with rfl | rfl | rfl
      · exact Nat.dvd_mul_right_of_dvd (Nat.dvd_mul_right _ _) _
      · exact Nat.dvd_mul_right_of_dvd (Nat.dvd_mul_left _ _) _
      · exact Nat.dvd_mul_left _ _)
    have := Nat.le_of_dvd (Nat.mul_pos (Nat.mul_pos l1 l2) l3) d
    have m1 : (least t).length * (least u).length ≤ 2520 * 2520 := Nat.mul_le_mul b1 b2
    have m2 : (least t).length * (least u).length * (least b).length ≤ 2520 * 2520 * 2520 := Nat.mul_le_mul m1 b3
    exact Nat.lt_of_le_of_lt (Nat.le_trans this m2) (by decide)
  have cm := common_multiple_ok (ns := [(least t).length, (least u).length, (least b).length]) (by simp; omega) lb (by simp)
  have cm : m_common_multiple none [.int ((least t).length : Int), .int ((least u).length : Int), .int ((least b).length : Int)] = .ok (.imm (.int (lcmL [(least t).length, (least u).length, (least b).length] : Nat))) none := cm
  generalize lcmL [(least t).length, (least u).length, (least b).length] = M at *
  have p1 := period_prop t
  have p2 := period_prop u
  have p3 := period_prop b
  have g : gGt (.int (M : Int)) (.int 2520) = some (.imm (.bl true)) := by simp [gGt]; omega
  have tpp0 : ptab_period 0 = some m_Plan_period := rfl
  unfold pl at *
  generalize planD (least t) = P1 at *
  generalize planD (least u) = P2 at *
  generalize planD (least b) = P3 at *
  (unfold m_renaming_fault g_renaming_fault; unfold mir; rw [if_pos (by simp [ioN])]; simp only [ini, ioS, ioN, List.replicate, List.map_cons, List.map_nil, List.length_cons, List.length_nil, List.nil_append, List.cons_append, Nat.zero_add, Nat.reduceAdd, Nat.reduceSub])
  (rw [ap_sSeq]; (conv in (SR.bind _ _) => (arg 1; simp [tpp0, p1, p2, p3, cm])); (try rw [SR.bind_nx]))
  rw [ap_sSeq]
  simp [g, SR.bind_exc, outR, ioOut]
end
theorem mult_step {s0 : Option TS.R} {v n : Nat} (hv : 0 < v ∧ v ≤ 10000000) (hn : 0 < n ∧ n ≤ 2520) : g__law_multiple_2B [s0, some (.imm (.int (v : Int))), some (.imm (.int (n : Int)))] = .nx [s0, some (.imm (.int (Nat.lcm v n : Nat))), some (.imm (.int (n : Int)))] := by
  have gm := gMul_i (i := (v : Int)) (j := (n : Int)) (by omega) (by omega)
  have lc := law_common_ok (v : Int) (n : Int)
  rw [Int.natAbs_natCast, Int.natAbs_natCast] at lc
  have gp : 0 < Nat.gcd v n := Nat.gcd_pos_of_pos_left _ hv.1
  have gd := gFdiv_i (i := (v : Int) * (n : Int)) (j := (Nat.gcd v n : Nat)) (by omega) (by
    have := Nat.gcd_le_left n hv.1
    have l : (((Nat.gcd v n : Nat) : Int)).natAbs ≤ 10000000 := by omega
    exact Nat.lt_of_le_of_lt l (by decide))
  have e : (v : Int) * (n : Int) / ((Nat.gcd v n : Nat) : Int) = (Nat.lcm v n : Nat) := by
    rw [← Int.natCast_mul, ← Int.natCast_ediv]; rfl
  rw [e] at gd
  generalize (v : Int) * (n : Int) = q at *
  generalize ((Nat.gcd v n : Nat) : Int) = g at *
  generalize ((Nat.lcm v n : Nat) : Int) = l at *
  simp [gm, lc, gd]
theorem law_multiple3 {a b c : Nat} (ha : 0 < a ∧ a ≤ 2520) (hb : 0 < b ∧ b ≤ 2520) (hc : 0 < c ∧ c ≤ 2520) (hm : lcmL [a, b, c] ≤ 2520) : m__law_multiple none [.lst [.int (a : Int), .int (b : Int), .int (c : Int)]] = .ok (.imm (.int (lcmL [a, b, c] : Nat))) none := by
  have s1 := mult_step (s0 := some (.imm (.lst [.int (a : Int), .int (b : Int), .int (c : Int)]))) (v := 1) (n := a) (by decide) ha
  rw [Nat.lcm_one_left] at s1
  have s1 : g__law_multiple_2B [some (.imm (.lst [.int (a : Int), .int (b : Int), .int (c : Int)])), some (.imm (.int 1)), some (.imm (.int (a : Int)))] = .nx [some (.imm (.lst [.int (a : Int), .int (b : Int), .int (c : Int)])), some (.imm (.int (a : Int))), some (.imm (.int (a : Int)))] := s1
  have s2 := mult_step (s0 := some (.imm (.lst [.int (a : Int), .int (b : Int), .int (c : Int)]))) (v := a) (n := b) (by omega) hb
  have l2 : Nat.lcm a b ≤ 2520 * 2520 := Nat.le_trans (Nat.le_of_dvd (Nat.mul_pos ha.1 hb.1) (Nat.lcm_dvd_mul a b)) (Nat.mul_le_mul ha.2 hb.2)
  have s3 := mult_step (s0 := some (.imm (.lst [.int (a : Int), .int (b : Int), .int (c : Int)]))) (v := Nat.lcm a b) (n := c) ⟨Nat.lcm_pos ha.1 hb.1, by omega⟩ hc
  have e : lcmL [a, b, c] = Nat.lcm (Nat.lcm a b) c := by simp [lcmL, Nat.lcm_one_left]
  rw [e]
  have lp : forL (tName 2) g__law_multiple_2B [.int (a : Int), .int (b : Int), .int (c : Int)] [some (.imm (.lst [.int (a : Int), .int (b : Int), .int (c : Int)])), some (.imm (.int 1)), none] = .nx [some (.imm (.lst [.int (a : Int), .int (b : Int), .int (c : Int)])), some (.imm (.int (Nat.lcm (Nat.lcm a b) c : Nat))), some (.imm (.int (c : Int)))] := by
    have fc : ∀ (x : Int) (K : List D) (s0 s1 s2 : Option TS.R), forL (tName 2) g__law_multiple_2B (D.int x :: K) [s0, s1, s2] = (match g__law_multiple_2B [s0, s1, some (.imm (.int x))] with
      | .nx δ' => forL (tName 2) g__law_multiple_2B K δ'
      | .ct δ' => forL (tName 2) g__law_multiple_2B K δ'
      | .bk δ' => .nx δ'
      | r => r) := fun _ _ _ _ _ => rfl
    rw [fc, s1]; dsimp only
    rw [fc, s2]; dsimp only
    rw [fc, s3]
    rfl
  have it : itSeq (vI 0) [some (.imm (.lst [.int (a : Int), .int (b : Int), .int (c : Int)])), some (.imm (.int 1)), none] = .ok [.int (a : Int), .int (b : Int), .int (c : Int)] [some (.imm (.lst [.int (a : Int), .int (b : Int), .int (c : Int)])), some (.imm (.int 1)), none] := by simp
  clear s1 s2 s3
  generalize ((Nat.lcm (Nat.lcm a b) c : Nat) : Int) = l at *
  generalize (a : Int) = x at *
  generalize (b : Int) = y at *
  generalize (c : Int) = z at *
  (unfold m__law_multiple g__law_multiple; unfold mir; rw [if_pos (by simp [ioN])]; simp only [ini, ioS, ioN, List.replicate, List.map_cons, List.map_nil, List.length_cons, List.length_nil, List.nil_append, List.cons_append, Nat.zero_add, Nat.reduceAdd, Nat.reduceSub])
  (rw [ap_sSeq]; (conv in (SR.bind _ _) => (arg 1; simp [])); (try rw [SR.bind_nx]))
  rw [ap_sSeq, show g__law_multiple_2 _ = _ from for_st it lp, SR.bind_nx]
  simp [outR, ioOut]
section
variable {t u b : List Int} (ht : Good t) (hu : Good u) (hb : Good b)
include ht hu hb
theorem ld_loop : ∀ (xs : List Int) (s3 : Option TS.R), (∃ r3, flt (miss t u b) xs = .non ∧ forL (tName 3) g__law_due_1B (iL xs) [some (.imm (.lst (iL t))), some (.imm (.lst (iL u))), some (.imm (.lst (iL b))), s3] = .nx [some (.imm (.lst (iL t))), some (.imm (.lst (iL u))), some (.imm (.lst (iL b))), r3]) ∨ (∃ δ, forL (tName 3) g__law_due_1B (iL xs) [some (.imm (.lst (iL t))), some (.imm (.lst (iL u))), some (.imm (.lst (iL b))), s3] = .rt (.imm (flt (miss t u b) xs)) δ)
  | [], s3 => .inl ⟨s3, rfl, rfl⟩
  | x :: xs, s3 => by
    have e1 := law_at_ok ht.pos x
    have e2 := law_at_ok hb.pos (mv t x)
    have e3 := law_at_ok hb.pos x
    have e4 := law_at_ok hu.pos (mv b x)
    have ih := ld_loop xs (some (.imm (.int x)))
    by_cases e : mv b (mv t x) = mv u (mv b x)
    · have fe : flt (miss t u b) (x :: xs) = flt (miss t u b) xs := by
        show (if miss t u b x then D.int x else flt (miss t u b) xs) = _
        rw [show miss t u b x = false from decide_eq_false (by simp [e]), if_neg (by simp)]
      have st : forL (tName 3) g__law_due_1B (iL (x :: xs)) [some (.imm (.lst (iL t))), some (.imm (.lst (iL u))), some (.imm (.lst (iL b))), s3] = forL (tName 3) g__law_due_1B (iL xs) [some (.imm (.lst (iL t))), some (.imm (.lst (iL u))), some (.imm (.lst (iL b))), some (.imm (.int x))] := by
        clear ih fe
        rw [e] at e2
        rw [iL_cons]
        generalize iL xs = K at *
        generalize iL t = T at *
        generalize iL u = U at *
        generalize iL b = Bb at *
        generalize mv u (mv b x) = v at *
        generalize mv b x = w at *
        generalize mv t x = y at *
        simp [forL, e1, e2, e3, e4]
      rw [fe, st]
      exact ih
    · have fe : flt (miss t u b) (x :: xs) = .int x := by
        unfold flt miss
        rw [decide_eq_true e, if_pos rfl]
      refine .inr ⟨[some (.imm (.lst (iL t))), some (.imm (.lst (iL u))), some (.imm (.lst (iL b))), some (.imm (.int x))], ?_⟩
      rw [fe]
      clear ih fe
      rw [iL_cons]
      have ne : gNe (.int (mv b (mv t x))) (.int (mv u (mv b x))) = some (.imm (.bl true)) := by simp [e]
      generalize iL xs = K at *
      generalize iL t = T at *
      generalize iL u = U at *
      generalize iL b = Bb at *
      generalize mv b (mv t x) = z at *
      generalize mv u (mv b x) = v at *
      generalize mv b x = w at *
      generalize mv t x = y at *
      simp [forL, e1, e2, e3, e4, ne]
theorem due_ok (hM : lcmL [t.length, u.length, b.length] ≤ 2520) : m__law_due none [.lst (iL t), .lst (iL u), .lst (iL b)] = .ok (.imm (flt (miss t u b) (nats 0 (lcmL [t.length, u.length, b.length])))) none := by
  have l1 := ht.pos
  have l2 := hu.pos
  have l3 := hb.pos
  have m3 := law_multiple3 ⟨l1, ht.len⟩ ⟨l2, hu.len⟩ ⟨l3, hb.len⟩ hM
  have g1 : gLen [.lst (iL t)] = some (.imm (.int (t.length : Int))) := by rw [gLen_l, iL_len]
  have g2 : gLen [.lst (iL u)] = some (.imm (.int (u.length : Int))) := by rw [gLen_l, iL_len]
  have g3 : gLen [.lst (iL b)] = some (.imm (.int (b.length : Int))) := by rw [gLen_l, iL_len]
  generalize lcmL [t.length, u.length, b.length] = N at *
  have it : itRg1 (frz (fOwn m__law_multiple (aCons (frz (fLst (aCons (frz (fCal gLen (aOne (vP 0)))) (aCons (frz (fCal gLen (aOne (vP 1)))) (aCons (frz (fCal gLen (aOne (vP 2)))) aNil))))) aNil))) [some (.imm (.lst (iL t))), some (.imm (.lst (iL u))), some (.imm (.lst (iL b))), none] = .ok (iL (nats 0 N)) [some (.imm (.lst (iL t))), some (.imm (.lst (iL u))), some (.imm (.lst (iL b))), none] := itRg1_ok (k := N) (by omega) (by
    generalize iL t = T at *
    generalize iL u = U at *
    generalize iL b = Bb at *
    simp [g1, g2, g3, m3, OB.toD, -gLen_l])
  rcases ld_loop ht hu hb (nats 0 N) none with ⟨r3, fe, e⟩ | ⟨δ, e⟩
  · rw [fe]
    generalize iL t = T at *
    generalize iL u = U at *
    generalize iL b = Bb at *
    generalize iL (nats 0 N) = NM at *
    (unfold m__law_due g__law_due; unfold mir; rw [if_pos (by simp [ioN])]; simp only [ini, ioS, ioN, List.replicate, List.map_cons, List.map_nil, List.length_cons, List.length_nil, List.nil_append, List.cons_append, Nat.zero_add, Nat.reduceAdd, Nat.reduceSub])
    rw [ap_sSeq, show g__law_due_1 _ = _ from for_st it e, SR.bind_nx]
    simp [outR, ioOut]
  · generalize flt (miss t u b) (nats 0 N) = r at *
    generalize iL t = T at *
    generalize iL u = U at *
    generalize iL b = Bb at *
    generalize iL (nats 0 N) = NM at *
    (unfold m__law_due g__law_due; unfold mir; rw [if_pos (by simp [ioN])]; simp only [ini, ioS, ioN, List.replicate, List.map_cons, List.map_nil, List.length_cons, List.length_nil, List.nil_append, List.cons_append, Nat.zero_add, Nat.reduceAdd, Nat.reduceSub])
    rw [ap_sSeq, show g__law_due_1 _ = SR.rt (.imm r) δ from by show sFor _ (tName 3) g__law_due_1B _ = _; rw [ap_sFor, it, Res.bindS_ok]; exact e]
    rfl
end
end
end K54

set_option maxHeartbeats 2000000
namespace K54
open PySem L2 TS
noncomputable section
-- needs: k54a
set_option exponentiation.threshold 6000
structure Tab (t : List Int) : Prop where
  g : Good t
  b : ∀ x, -(2 ^ 90 : Int) < act t x ∧ act t x < 2 ^ 90
theorem Tab.lst {t : List Int} (h : Tab t) : (∀ x ∈ least t, x.natAbs < 2 ^ 255) ∧ (least t).length ≤ 2520 := by
  have g := h.g.least
  refine ⟨fun x hx => ?_, g.len⟩
  have := memActK g.pos (B := 2 ^ 90) (fun x => by rw [least_act h.g.pos]; exact h.b x) x hx
  omega
theorem flt_mem {p : Int → Bool} : ∀ xs : List Int, flt p xs = .non ∨ ∃ x ∈ xs, flt p xs = .int x
  | [] => .inl rfl
  | x :: xs => by
    by_cases e : p x = true
    · refine .inr ⟨x, by simp, ?_⟩
      unfold flt; rw [if_pos e]
    · have fe : flt p (x :: xs) = flt p xs := by
        show (if p x then D.int x else flt p xs) = _
        rw [if_neg e]
      rw [fe]
      rcases flt_mem (p := p) xs with h | ⟨y, hy, h⟩
      · exact .inl h
      · exact .inr ⟨y, by simp [hy], h⟩
theorem least_dv {t : List Int} (h : Good t) : (least t).length ∣ t.length := leastP_dvd_len h
theorem asked_ok {t u b : List Int} (ht : Tab t) (hu : Tab u) (hb : Tab b) (hM : lcmL [t.length, u.length, b.length] ≤ 2520) : m__law_asked none [.lst (iL t), .lst (iL u), .lst (iL b)] = .ok (.imm (.bl true)) none := by
  have N0 : 0 < lcmL [t.length, u.length, b.length] := Nat.pos_of_ne_zero fun z => by
    have := (lcmL_iff (ns := [t.length, u.length, b.length])).mp (Nat.dvd_refl _)
    have d := lcmL_iff (ns := [t.length, u.length, b.length]) (m := t.length * u.length * b.length)
    have q : lcmL [t.length, u.length, b.length] ∣ t.length * u.length * b.length := d.mpr (by
      intro n hn
      simp only [List.mem_cons, List.not_mem_nil, or_false] at hn
      rcases hn with rfl | rfl | rfl
      · exact Nat.dvd_mul_right_of_dvd (Nat.dvd_mul_right _ _) _
      · exact Nat.dvd_mul_right_of_dvd (Nat.dvd_mul_left _ _) _
      · exact Nat.dvd_mul_left _ _)
    rw [z] at q
    have := Nat.eq_zero_of_zero_dvd q
    have p := Nat.mul_pos (Nat.mul_pos ht.g.pos hu.g.pos) hb.g.pos
    omega
  have dv : lcmL [(least t).length, (least u).length, (least b).length] ∣ lcmL [t.length, u.length, b.length] := lcmL_iff.mpr (by
    have q := (lcmL_iff (ns := [t.length, u.length, b.length])).mp (Nat.dvd_refl _)
    intro n hn
    simp only [List.mem_cons, List.not_mem_nil, or_false] at hn
    rcases hn with rfl | rfl | rfl
    · exact Nat.dvd_trans (least_dv ht.g) (q _ (by simp))
    · exact Nat.dvd_trans (least_dv hu.g) (q _ (by simp))
    · exact Nat.dvd_trans (least_dv hb.g) (q _ (by simp)))
  have M0 := Nat.pos_of_dvd_of_pos dv N0
  have hM2 := Nat.le_trans (Nat.le_of_dvd N0 dv) hM
  have q := (lcmL_iff (ns := [(least t).length, (least u).length, (least b).length])).mp (Nat.dvd_refl _)
  have per : ∀ x : Int, miss t u b (x + (lcmL [(least t).length, (least u).length, (least b).length] : Nat)) = miss t u b x := fun x => by
    rw [← miss_least ht.g hu.g hb.g]
    exact miss_per ht.g.least.pos hu.g.least.pos hb.g.least.pos (q _ (by simp)) (q _ (by simp)) (q _ (by simp)) x
  have fe := flt_per (p := miss t u b) M0 dv N0 per
  have r1 := rf_ok ht.g hu.g hb.g hM2
  have r2 := due_ok ht.g hu.g hb.g hM
  rw [← fe] at r1
  have r0 := rf_ok ht.g ht.g ht.g (by
    refine Nat.le_trans (Nat.le_of_dvd ht.g.least.pos (lcmL_iff.mpr ?_)) ht.g.least.len
    intro n hn
    simp only [List.mem_cons, List.not_mem_nil, or_false] at hn
    rcases hn with rfl | rfl | rfl <;> exact Nat.dvd_refl _)
  have z0 : flt (miss t t t) (nats 0 (lcmL [(least t).length, (least t).length, (least t).length])) = .non := flt_none fun x _ => by unfold miss; simp
  rw [z0] at r0
  obtain ⟨d, hd⟩ : ∃ d, d = flt (miss t u b) (nats 0 (lcmL [t.length, u.length, b.length])) := ⟨_, rfl⟩
  have pd : PD d 0 0 := by
    rw [hd]
    rcases flt_mem (p := miss t u b) (nats 0 (lcmL [t.length, u.length, b.length])) with h | ⟨x, hx, h⟩
    · rw [h]; exact pd_non
    · rw [h]
      have hx := nats_mem hx
      refine pd_int ?_
      have : 2520 < 2 ^ 900 := Nat.lt_trans (show 2520 < 2 ^ 12 by decide) (Nat.pow_lt_pow_right (by decide) (by decide))
      omega
  rw [← hd] at r1 r2
  have pl2 : PD (.lst [d, d]) 1 2 := (pd_lst (n := 0) (b := 0) (xs := [d, d]) (by
    intro e he
    simp only [List.mem_cons, List.not_mem_nil, or_false] at he
    rcases he with rfl | rfl <;> exact pd)).mono (Nat.le_refl _) (Nat.le_refl _)
  have rp := repr_PD pl2 (by decide) (by decide)
  have ex := eq_tx pl2
  have gm : gMul (.lst [d]) (.int 2) = some (.own (.l [d, d])) := gRep_d (ds := [d]) (k := 2) (by decide) (by simp)
  have fk : m_fk_renaming_fault_0_by_other_one none [pl b, pl u, pl t] = .ok (.imm d) none := r1
  obtain ⟨X, hX, hS⟩ := reprPlans (ts := [t, u, b]) (fun z hz => by
    simp only [List.mem_cons, List.not_mem_nil, or_false] at hz
    rcases hz with rfl | rfl | rfl
    · exact ht.lst
    · exact hu.lst
    · exact hb.lst) (by simp) (by simp)
  have hX : gReprL gtab_repr (.lst [pl t, pl u, pl b]) = some X := hX
  have eX : gEq (.str X) (.str X) = some (.imm (.bl true)) := by rw [gEq_str hS hS]; simp
  have i1 := init_ok ht.g
  have i2 := init_ok hu.g
  have i3 := init_ok hb.g
  have x0 : ∀ a b c : D, gIx (.lst [a, b, c]) (.int 0) = some (.imm a) := fun _ _ _ => rfl
  have x1 : ∀ a b c : D, gIx (.lst [a, b, c]) (.int 1) = some (.imm b) := fun _ _ _ => rfl
  have x2 : ∀ a b c : D, gIx (.lst [a, b, c]) (.int 2) = some (.imm c) := fun _ _ _ => rfl
  have gn : gNotN .non .non = some (.imm (.bl false)) := rfl
  clear hd fe per dv q M0 N0 hM2 hM pl2 pd z0 ht hu hb
  generalize txD (.lst [d, d]) = TX at *
  unfold pl plO at *
  generalize planD (least t) = P1 at *
  generalize planD (least u) = P2 at *
  generalize planD (least b) = P3 at *
  generalize iL t = T at *
  generalize iL u = U at *
  generalize iL b = Bb at *
  (unfold m__law_asked g__law_asked; unfold mir; rw [if_pos (by simp [ioN])]; simp only [ini, ioS, ioN, List.replicate, List.map_cons, List.map_nil, List.length_cons, List.length_nil, List.nil_append, List.cons_append, Nat.zero_add, Nat.reduceAdd, Nat.reduceSub])
  (rw [ap_sSeq]; (conv in (SR.bind _ _) => (arg 1; simp [i1, i2, i3, OB.toD])); (try rw [SR.bind_nx]))
  (rw [ap_sSeq]; (conv in (SR.bind _ _) => (arg 1; simp [fReprL, hX, OB.toD])); (try rw [SR.bind_nx]))
  (rw [ap_sSeq]; (conv in (SR.bind _ _) => (arg 1; simp [x0, r0, gn, OB.toD])); (try rw [SR.bind_nx]))
  (rw [ap_sSeq]; (conv in (SR.bind _ _) => (arg 1; simp [x0, x1, x2, r1, fOwnK0, fk, OB.toD])); (try rw [SR.bind_nx]))
  simp [outR, ioOut, r2, gm, rp, ex, fReprL, hX, eX, OB.toD]
def zT (n : Nat) : List Int := List.replicate n 0
theorem zT_act (n : Nat) (x : Int) : act (zT n) x = 0 := by
  unfold act zT
  rw [List.getD_eq_getElem?_getD, List.getElem?_replicate]
  split <;> rfl
theorem zT_good {n : Nat} (h : 0 < n) (h2 : n ≤ 2520) : Good (zT n) := ⟨by simp [zT, h], by simp [zT, h2], fun x y e => by
  unfold mv at e
  rw [zT_act, zT_act] at e
  omega⟩
theorem exT_good {n a c : Nat} (h2 : n ≤ 2520) (ha : a < n) (hc : c < n) (hac : a ≠ c) : Good (((zT n).set a ((c : Int) - a)).set c ((a : Int) - c)) := by
  have g := good_swap (zT_good (n := n) (by omega) h2) (a := a) (b := c) (by simp [zT, ha]) (by simp [zT, hc]) hac
  rw [zT_act, zT_act, Int.zero_add, Int.zero_add] at g
  exact g
theorem exT_mem {n a c : Nat} (ha : a < n) (hc : c < n) (h2 : n ≤ 2520) : ∀ x ∈ ((zT n).set a ((c : Int) - a)).set c ((a : Int) - c), -(3000 : Int) < x ∧ x < 3000 := by
  refine act_set (B := 3000) (C := 3000) (by simp [zT]; omega) ?_ (Int.le_refl _) (by omega)
  refine act_set (B := 3000) (C := 3000) (by simp [zT]; omega) ?_ (Int.le_refl _) (by omega)
  intro x hx
  have := List.eq_of_mem_replicate hx
  omega
theorem exT_tab {n a c : Nat} (h2 : n ≤ 2520) (ha : a < n) (hc : c < n) (hac : a ≠ c) : Tab (((zT n).set a ((c : Int) - a)).set c ((a : Int) - c)) := by
  have g := exT_good h2 ha hc hac
  refine ⟨g, fun x => ?_⟩
  have := act_bdK g.pos (exT_mem ha hc h2) x
  omega
theorem ex_per {n c : Nat} (h2 : n ≤ 2520) (c0 : 0 < c) (hc : c < n) : (least (((zT n).set 0 ((c : Int) - (0 : Nat))).set c (((0 : Nat) : Int) - c))).length = n := by
  have g := exT_good (a := 0) h2 (by omega) hc (by omega)
  have ln : (((zT n).set 0 ((c : Int) - (0 : Nat))).set c (((0 : Nat) : Int) - c)).length = n := by simp [zT]
  obtain ⟨t, ht⟩ : ∃ t, t = ((zT n).set 0 ((c : Int) - (0 : Nat))).set c (((0 : Nat) : Int) - c) := ⟨_, rfl⟩
  rw [← ht] at g ln ⊢
  have dv := least_dv g
  have lp := g.least.pos
  rw [ln] at dv
  refine Classical.byContradiction fun ne => ?_
  have lt : (least t).length < n := Nat.lt_of_le_of_ne (Nat.le_of_dvd (by omega) dv) ne
  have a0 : act t 0 = c := by
    have e := act_get' (t := t) (i := 0) (by omega)
    rw [ht, List.getElem?_set_ne (by omega), List.getElem?_set_self (by simp [zT]; omega), ← ht] at e
    have := Option.some.inj e
    have e0 : act t ((0 : Nat) : Int) = act t 0 := rfl
    omega
  have ap : act t (((least t).length : Nat) : Int) = act t 0 := by
    rw [← least_act g.pos, ← act_mod, Int.emod_self]
  have e := act_get' (t := t) (i := (least t).length) (by omega)
  by_cases h : c = (least t).length
  · rw [ht, ← ht, ← h, ht, List.getElem?_set_self (by simp [zT]; omega), ← ht] at e
    have := Option.some.inj e
    rw [← h] at ap
    omega
  · have z : (zT n)[(least t).length]? = some 0 := by
      unfold zT
      rw [List.getElem?_replicate, if_pos lt]
    have q : t[(least t).length]? = some 0 := by
      have q1 : (((zT n).set 0 ((c : Int) - (0 : Nat))).set c (((0 : Nat) : Int) - c))[(least t).length]? = some 0 := (List.getElem?_set_ne h).trans ((List.getElem?_set_ne (by omega)).trans z)
      rwa [← ht] at q1
    rw [q] at e
    have := Option.some.inj e
    omega
theorem zL (n : Nat) : gMul (.lst [.int 0]) (.int (n : Int)) = some (.own (.l (iL (zT n)))) ∨ 16777216 < n := by
  by_cases h : n ≤ 16777216
  · refine .inl ?_
    have e := gRep_nat (xs := [0]) (k := n) h (by simpa using h)
    have z : (List.replicate n [(0 : Int)]).flatten = zT n := by
      unfold zT
      induction n with
      | zero => rfl
      | succ n ih =>
        rw [List.replicate_succ, List.flatten_cons, List.replicate_succ]
        have hn : n ≤ 16777216 := by omega
        rw [ih hn (gRep_nat (xs := [0]) (k := n) hn (by simpa using hn))]; rfl
    rw [z] at e
    exact e
  · exact .inr (by omega)
theorem exchange_ok {o : OB} (h : Pot o) {n : Nat} (h1 : 2 ≤ n) (h2 : n ≤ 2520) : ∃ t o', m__law_exchange (some o) [.int (n : Int)] = .ok (.own (.l (iL t))) (some o') ∧ Pot o' ∧ Good t ∧ (least t).length = n := by
  obtain ⟨r, o1, e1, p1, r0, r1⟩ := draw_ok h (m := (n : Int) - 1) (by omega) (by omega)
  obtain ⟨c, rfl⟩ : ∃ c : Nat, r = (c : Int) - 1 := ⟨(r + 1).toNat, by omega⟩
  have c0 : 0 < c := by omega
  have hc : c < n := by omega
  have g := exT_good (a := 0) h2 (by omega) hc (by omega)
  have lp := ex_per h2 c0 hc
  refine ⟨_, o1, ?_, p1, g, lp⟩
  rcases zL n with zz | zz
  · have s1 := setOB_int (acc := zT n) (j := 0) (by omega) (by simp [zT]; omega) ((c : Int) - (0 : Nat))
    have s2 := setOB_int (acc := (zT n).set 0 ((c : Int) - (0 : Nat))) (j := (c : Int)) (by omega) (by simp [zT]; omega) (((0 : Nat) : Int) - c)
    rw [Int.toNat_natCast] at s2
    rw [show (0 : Int).toNat = 0 from rfl] at s1
    have ec : (1 : Int) + ((c : Int) - 1) = (c : Int) := by omega
    have e0 : (c : Int) - ((0 : Nat) : Int) = c := by omega
    rw [e0] at s1 s2 ⊢
    have gs : gSub (.int 0) (.int (c : Int)) = some (.imm (.int (((0 : Nat) : Int) - c))) := rfl
    clear g lp
    generalize iL (((zT n).set 0 (c : Int)).set c (((0 : Nat) : Int) - c)) = U2 at *
    generalize iL ((zT n).set 0 (c : Int)) = U1 at *
    generalize iL (zT n) = U0 at *
    generalize ((0 : Nat) : Int) - (c : Int) = v at *
    generalize hn1 : (n : Int) - 1 = n1 at *
    generalize hc1 : (c : Int) - 1 = c1 at *
    have gn : gSub (.int (n : Int)) (.int 1) = some (.imm (.int n1)) := by rw [← hn1]; rfl
    generalize (n : Int) = m at *
    generalize (c : Int) = d at *
    (unfold m__law_exchange g__law_exchange; unfold mir; rw [if_pos (by simp [ioN])]; simp only [ini, ioS, ioN, List.replicate, List.map_cons, List.map_nil, List.length_cons, List.length_nil, List.nil_append, List.cons_append, Nat.zero_add, Nat.reduceAdd, Nat.reduceSub])
    (rw [ap_sSeq]; (conv in (SR.bind _ _) => (arg 1; simp [zz, gn, e1, ec])); (try rw [SR.bind_nx]))
    (rw [ap_sSeq]; (conv in (SR.bind _ _) => (arg 1; simp [gs, s1, s2])); (try rw [SR.bind_nx]))
    simp [outR, ioOut]
  · omega
theorem lcm3_le {a b c g : Nat} (g0 : 0 < g) (h1 : a ∣ g) (h2 : b ∣ g) (h3 : c ∣ g) : lcmL [a, b, c] ≤ g := Nat.le_of_dvd g0 (lcmL_iff.mpr (by
  intro n hn
  simp only [List.mem_cons, List.not_mem_nil, or_false] at hn
  rcases hn with rfl | rfl | rfl <;> assumption))
theorem three {α : Type} {xs : List α} (h : xs.length = 3) : ∃ a b c, xs = [a, b, c] := by
  match xs, h with
  | [a, b, c], _ => exact ⟨a, b, c, rfl⟩
theorem long_plans {o : OB} (po : Pot o) {ys : List Int} (hy : ∀ y ∈ ys, 2 ≤ y ∧ y ≤ 2520) (hl : ys.length ≤ 100) {o0 : OB} {s1 s2 s3 s4 s5 s7 : Option TS.R} {fi : FA} (hfi : fi [some (.brw o0), s1, s2, s3, s4, s5, none, s7] = .ok (iL ys) [some (.brw o), s1, s2, s3, s4, s5, none, s7]) : ∃ (o' : OB) (ts : List (List Int)), Pot o' ∧ (∀ t ∈ ts, Good t) ∧ ts.map (fun t => ((least t).length : Int)) = ys ∧ fLc (stName 6) [6] fi tTrue (frz (fMake 0 m_Plan___init__ (aCons (frz (fOwnIo m__law_exchange 0 (aCons (vI 6) aNil))) aNil))) [some (.brw o0), s1, s2, s3, s4, s5, none, s7] = .ok (.own (.l (ts.map pl))) [some (.brw o'), s1, s2, s3, s4, s5, none, s7] := by
  obtain ⟨acc, δ2, hla, ⟨o', ts, p', hg, hm, ha, hd⟩, e⟩ := lc_inv (xs := ys) (inj := D.int) (i := 6) (fi := fi) (fe := frz (fMake 0 m_Plan___init__ (aCons (frz (fOwnIo m__law_exchange 0 (aCons (vI 6) aNil))) aNil)))
    (δ := [some (.brw o0), s1, s2, s3, s4, s5, none, s7]) (δ1 := [some (.brw o), s1, s2, s3, s4, s5, none, s7])
    (fun pre acc δ => ∃ (o' : OB) (ts : List (List Int)), Pot o' ∧ (∀ t ∈ ts, Good t) ∧ ts.map (fun t => ((least t).length : Int)) = pre ∧ acc = ts.map pl ∧ δ = [some (.brw o'), s1, s2, s3, s4, s5, none, s7])
    hfi rfl (by omega) ⟨o, [], po, by simp, rfl, rfl, rfl⟩ (fun pre x post acc δ hx ⟨o3, ts, p3, hg, hm, ha, hd⟩ => by
      subst ha hd
      have hxm := hy x (by rw [hx]; simp)
      obtain ⟨n, rfl⟩ : ∃ n : Nat, x = n := ⟨x.toNat, by omega⟩
      obtain ⟨t, o4, e4, p4, g4, l4⟩ := exchange_ok p3 (n := n) (by omega) (by omega)
      have i1 := init_ok g4
      refine ⟨pl t, [some (.brw o4), s1, s2, s3, s4, s5, some (.imm (.int (n : Int))), s7], ?_, o4, ts ++ [t], p4, ?_, ?_, by simp, rfl⟩
      · clear g4 hg hm hx hy
        unfold pl plO at *
        generalize planD (least t) = P1 at *
        generalize iL t = T at *
        simp [e4, i1, OB.toD]
      · intro z hz
        rcases List.mem_append.mp hz with w | w
        · exact hg z w
        · rw [List.mem_singleton] at w; subst w; exact g4
      · simp [hm, l4])
  subst hd
  rw [ha] at e
  exact ⟨o', ts, p', hg, hm, e⟩
theorem long_ok {o : OB} (h : Pot o) : ∃ io, m__law_long_right (some o) [] = .ok (.imm (.bl true)) (some io) ∧ Pot io := by
  obtain ⟨r, o1, e1, p1, r0, r1⟩ := draw_ok h (m := 2) (by decide) (by decide)
  have go : ∀ (xs : List Int) (N : Nat), xs.length = 3 → (∀ y ∈ xs, 2 ≤ y ∧ y ≤ 2520) → lcmL (xs.map Int.toNat) = N → 2520 < N → gIx (.lst [.tup [.lst [.int 11, .int 13, .int 19], .int 2717], .tup [.lst [.int 41, .int 62, .int 2], .int 2542]]) (.int r) = some (.imm (.tup [.lst (iL xs), .int (N : Int)])) → ∃ io, m__law_long_right (some o) [] = .ok (.imm (.bl true)) (some io) ∧ Pot io := by
    intro xs N hx3 hx hN hN2 ix
    obtain ⟨ys, o2, e2, p2, pm⟩ := shuffled_ok p1 (xs := xs) (by omega)
    have hys : ∀ y ∈ ys, 2 ≤ y ∧ y ≤ 2520 := fun y hy => hx y (pm.mem_iff.mp hy)
    have hl : ys.length = 3 := by rw [pm.length_eq, hx3]
    obtain ⟨o3, ts, p3, hg, hm, S2⟩ := long_plans p2 hys (by omega) (o0 := o1) (s1 := none) (s2 := none) (s3 := none) (s4 := some (.imm (.lst (iL xs)))) (s5 := some (.imm (.int (N : Int)))) (s7 := none) (fi := itSeq (frz (fOwnIo m__law_shuffled 0 (aCons (vI 4) aNil)))) (by
      generalize iL ys = Y at *
      generalize iL xs = XS at *
      simp [e2, OB.toD])
    have tl : ts.length = 3 := by rw [← hl, ← hm, List.length_map]
    obtain ⟨a, b, c, rfl⟩ := three tl
    have ga := hg a (by simp)
    have gb := hg b (by simp)
    have gc := hg c (by simp)
    have lc : lcmL [(least a).length, (least b).length, (least c).length] = N := by
      have e : [(least a).length, (least b).length, (least c).length] = ys.map Int.toNat := by rw [← hm]; simp
      rw [e, lcmL_perm (pm.map _), hN]
    have rl := rf_long ga gb gc (by omega)
    rw [lc] at rl
    refine ⟨o3, ?_, p3⟩
    have S2 : fLc (stName 6) [6] (itSeq (frz (fOwnIo m__law_shuffled 0 (aCons (vI 4) aNil)))) tTrue (frz (fMake 0 m_Plan___init__ (aCons (frz (fOwnIo m__law_exchange 0 (aCons (vI 6) aNil))) aNil))) [some (.brw o1), none, none, none, some (.imm (.lst (iL xs))), some (.imm (.int (N : Int))), none, none] = .ok (.own (.l [pl a, pl b, pl c])) [some (.brw o3), none, none, none, some (.imm (.lst (iL xs))), some (.imm (.int (N : Int))), none, none] := S2
    have x0 : ∀ a b c : D, gIx (.lst [a, b, c]) (.int 0) = some (.imm a) := fun _ _ _ => rfl
    have x1 : ∀ a b c : D, gIx (.lst [a, b, c]) (.int 1) = some (.imm b) := fun _ _ _ => rfl
    have x2 : ∀ a b c : D, gIx (.lst [a, b, c]) (.int 2) = some (.imm c) := fun _ _ _ => rfl
    have ge : gEq (.lst [.int (N : Int), .bl true]) (.lst [.int (N : Int), .bl true]) = some (.imm (.bl true)) := by
      have q : PyData.eqv (.list [.int (N : Int), .bool true]) (.list [.int (N : Int), .bool true]) = true := by
        simp [PyData.eqv, PyData.eqvAll]
      have sh : SeqAt.shaped (.list [.int (N : Int), .bool true]) = true := by
        simp [SeqAt.shaped, PyData.canLay0, PyData.canLayAll0, PyData.depth, PyData.depthAll]
      show (if SeqAt.shaped (.list [.int (N : Int), .bool true]) && SeqAt.shaped (.list [.int (N : Int), .bool true]) then some (TS.R.imm (.bl (PyData.eqv (.list [.int (N : Int), .bool true]) (.list [.int (N : Int), .bool true])))) else none) = _
      rw [sh, q]; rfl
    clear ga gb gc hg hm lc pm hys hx hN hN2 e2
    unfold pl at *
    generalize planD (least a) = P1 at *
    generalize planD (least b) = P2 at *
    generalize planD (least c) = P3 at *
    generalize iL xs = XS at *
    generalize (N : Int) = n at *
    have S4 : g__law_long_right_4 [some (.brw o3), some (.own (.l [.obj 0 P1, .obj 0 P2, .obj 0 P3])), some (.imm .non), none, some (.imm (.lst XS)), some (.imm (.int n)), none, none] = .nx [some (.brw o3), some (.imm (.lst [.obj 0 P1, .obj 0 P2, .obj 0 P3])), some (.own (.l [.int n, .bl true])), none, some (.imm (.lst XS)), some (.imm (.int n)), none, some (.imm (.bl true))] := by
      refine try_exc (δ1 := [some (.brw o3), some (.imm (.lst [.obj 0 P1, .obj 0 P2, .obj 0 P3])), some (.imm .non), none, some (.imm (.lst XS)), some (.imm (.int n)), none, none]) (x := ⟨115, [.int n]⟩) (δ2 := [some (.brw o3), some (.imm (.lst [.obj 0 P1, .obj 0 P2, .obj 0 P3])), some (.own (.l [.int n, .bl true])), none, some (.imm (.lst XS)), some (.imm (.int n)), none, some (.imm (.bl true))]) (by simp [x0, x1, x2, rl, OB.toD]) (hCons_hit rfl) (by simp) (by simp [xFldT, xFld, xf_multiple, xIs, xi_LimitError, xi_ArithmeticError, xi_ThreeswapsError_AbsentError_TooMany])
    (unfold m__law_long_right g__law_long_right; unfold mir; rw [if_pos (by simp [ioN])]; simp only [ini, ioS, ioN, List.replicate, List.map_cons, List.map_nil, List.length_cons, List.length_nil, List.nil_append, List.cons_append, Nat.zero_add, Nat.reduceAdd, Nat.reduceSub])
    (rw [ap_sSeq]; (conv in (SR.bind _ _) => (arg 1; simp [e1, ix, -gIx_l])); (try rw [SR.bind_nx]))
    (rw [ap_sSeq]; (first | rw [show g__law_long_right_2 _ = _ from asg_own S2, SR.bind_nx] | rw [show g__law_long_right_2 _ = _ from asg_imm S2, SR.bind_nx]); (try simp only [List.set_cons_zero, List.set_cons_succ]))
    (rw [ap_sSeq]; (conv in (SR.bind _ _) => (arg 1; simp [])); (try rw [SR.bind_nx]))
    rw [ap_sSeq, S4, SR.bind_nx]
    simp [outR, ioOut, ge, OB.toD]
  rcases (show r = 0 ∨ r = 1 by omega) with rfl | rfl
  · exact go [11, 13, 19] 2717 rfl (by decide) (by decide) (by decide) rfl
  · exact go [41, 62, 2] 2542 rfl (by decide) (by decide) (by decide) rfl
theorem bound_tables {o : OB} (po : Pot o) {ys : List Int} (hy : ∀ y ∈ ys, 1 ≤ y ∧ y ≤ 2520) (hl : ys.length ≤ 100) {o0 : OB} {s1 s2 s3 : Option TS.R} {fi : FA} (hfi : fi [some (.brw o0), s1, s2, s3, none] = .ok (iL ys) [some (.brw o), s1, s2, s3, none]) : ∃ (o' : OB) (ts : List (List Int)), Pot o' ∧ (∀ t ∈ ts, Tab t) ∧ ts.map (fun t => (t.length : Int)) = ys ∧ fLc (stName 4) [4] fi tTrue (frz (fOwnIo m__law_table 0 (aCons (vI 4) (aCons (kD (.int 1)) aNil)))) [some (.brw o0), s1, s2, s3, none] = .ok (.own (.l (ts.map fun t => D.lst (iL t)))) [some (.brw o'), s1, s2, s3, none] := by
  obtain ⟨acc, δ2, hla, ⟨o', ts, p', hg, hm, ha, hd⟩, e⟩ := lc_inv (xs := ys) (inj := D.int) (i := 4) (fi := fi) (fe := frz (fOwnIo m__law_table 0 (aCons (vI 4) (aCons (kD (.int 1)) aNil))))
    (δ := [some (.brw o0), s1, s2, s3, none]) (δ1 := [some (.brw o), s1, s2, s3, none])
    (fun pre acc δ => ∃ (o' : OB) (ts : List (List Int)), Pot o' ∧ (∀ t ∈ ts, Tab t) ∧ ts.map (fun t => (t.length : Int)) = pre ∧ acc = (ts.map fun t => D.lst (iL t)) ∧ δ = [some (.brw o'), s1, s2, s3, none])
    hfi rfl (by omega) ⟨o, [], po, by simp, rfl, rfl, rfl⟩ (fun pre x post acc δ hx ⟨o3, ts, p3, hg, hm, ha, hd⟩ => by
      subst ha hd
      have hxm := hy x (by rw [hx]; simp)
      obtain ⟨t, o4, e4, p4, l4, g4, b4⟩ := table_good p3 (n := x) (w := 1) (by omega) (by decide)
      have b4 := act_bdK g4.pos b4
      refine ⟨.lst (iL t), [some (.brw o4), s1, s2, s3, some (.imm (.int x))], ?_, o4, ts ++ [t], p4, ?_, ?_, by simp, rfl⟩
      · clear g4 hg hm hx hy b4
        generalize iL t = T at *
        simp [e4, OB.toD]
      · intro z hz
        rcases List.mem_append.mp hz with w | w
        · exact hg z w
        · rw [List.mem_singleton] at w; subst w; exact ⟨g4, fun x => by have := b4 x; omega⟩
      · simp [hm, l4]; omega)
  subst hd
  rw [ha] at e
  exact ⟨o', ts, p', hg, hm, e⟩
theorem one_tab : Tab [0] := ⟨good_shift 0, fun x => by rw [act_shift]; omega⟩
theorem bound_ok {o : OB} (h : Pot o) : ∃ io, m__law_bound_right (some o) [] = .ok (.imm (.bl true)) io := by
  obtain ⟨ys, o2, e2, p2, pm⟩ := shuffled_ok h (xs := [8, 9, 35]) (by decide)
  have e2 : m__law_shuffled (some o) [.lst [.int 8, .int 9, .int 35]] = .ok (.own (.l (iL ys))) (some o2) := e2
  have hys : ∀ y ∈ ys, 1 ≤ y ∧ y ≤ 2520 := fun y hy => by
    have := pm.mem_iff.mp hy
    simp only [List.mem_cons, List.not_mem_nil, or_false] at this
    omega
  have hl : ys.length = 3 := by rw [pm.length_eq]; rfl
  obtain ⟨o3, ts, p3, hg, hm, S1⟩ := bound_tables p2 hys (by omega) (o0 := o) (s1 := none) (s2 := none) (s3 := none) (fi := itSeq (frz (fOwnIo m__law_shuffled 0 (aCons (frz (fLst (aCons (kD (.int 8)) (aCons (kD (.int 9)) (aCons (kD (.int 35)) aNil))))) aNil)))) (by
    generalize iL ys = Y at *
    simp [e2, OB.toD])
  have tl : ts.length = 3 := by rw [← hl, ← hm, List.length_map]
  obtain ⟨a, b, c, rfl⟩ := three tl
  have ta := hg a (by simp)
  have tb := hg b (by simp)
  have tc := hg c (by simp)
  have lc : lcmL [a.length, b.length, c.length] = 2520 := by
    have e : [a.length, b.length, c.length] = ys.map Int.toNat := by rw [← hm]; simp
    rw [e, lcmL_perm (pm.map _)]; decide
  have k1 := asked_ok ta tb tc (by omega)
  obtain ⟨r, o4, e4, p4, r0, r1⟩ := draw_ok p3 (m := 990) (by decide) (by decide)
  obtain ⟨d, rfl⟩ : ∃ d : Nat, r = d := ⟨r.toNat, by omega⟩
  have tz := exT_tab (n := 2000) (a := 1000 + d) (c := 1001 + d) (by decide) (by omega) (by omega) (by omega)
  have lz : (((zT 2000).set (1000 + d) (((1001 + d : Nat) : Int) - (1000 + d : Nat))).set (1001 + d) (((1000 + d : Nat) : Int) - (1001 + d : Nat))).length = 2000 := by simp [zT]
  have s1 := setOB_int (acc := zT 2000) (j := ((1000 + d : Nat) : Int)) (by omega) (by simp [zT]; omega) (((1001 + d : Nat) : Int) - (1000 + d : Nat))
  have s2 := setOB_int (acc := (zT 2000).set (1000 + d) (((1001 + d : Nat) : Int) - (1000 + d : Nat))) (j := ((1001 + d : Nat) : Int)) (by omega) (by simp [zT]; omega) (((1000 + d : Nat) : Int) - (1001 + d : Nat))
  rw [Int.toNat_natCast] at s1 s2
  have eA : ((1001 + d : Nat) : Int) - ((1000 + d : Nat) : Int) = 1 := by omega
  have eB : ((1000 + d : Nat) : Int) - ((1001 + d : Nat) : Int) = -1 := by omega
  rw [eA, eB] at tz lz s2
  rw [eA] at s1
  have k2 := asked_ok tz one_tab one_tab (by
    refine Nat.le_trans (lcm3_le (g := 2000) (by decide) (by rw [lz]; exact Nat.dvd_refl _) (by decide) (by decide)) (by decide))
  have k3 := asked_ok one_tab tz one_tab (by
    refine Nat.le_trans (lcm3_le (g := 2000) (by decide) (by decide) (by rw [lz]; exact Nat.dvd_refl _) (by decide)) (by decide))
  have i0 : iL [0] = [D.int 0] := rfl
  rw [i0] at k2 k3
  have z2 : gMul (.lst [.int 0]) (.int 2000) = some (.own (.l (iL (zT 2000)))) := by
    rcases zL 2000 with z | z
    · exact z
    · omega
  have g1 : gAdd (.int 1000) (.int (d : Int)) = some (.imm (.int ((1000 + d : Nat) : Int))) := by
    show some (TS.R.imm (.int (1000 + (d : Int)))) = _
    rw [Int.natCast_add]; rfl
  have g2 : gAdd (.int ((1000 + d : Nat) : Int)) (.int 1) = some (.imm (.int ((1001 + d : Nat) : Int))) := by
    show some (TS.R.imm (.int (((1000 + d : Nat) : Int) + 1))) = _
    rw [show ((1000 + d : Nat) : Int) + 1 = ((1001 + d : Nat) : Int) by omega]
  have x0 : ∀ a b c : D, gIx (.lst [a, b, c]) (.int 0) = some (.imm a) := fun _ _ _ => rfl
  have x1 : ∀ a b c : D, gIx (.lst [a, b, c]) (.int 1) = some (.imm b) := fun _ _ _ => rfl
  have x2 : ∀ a b c : D, gIx (.lst [a, b, c]) (.int 2) = some (.imm c) := fun _ _ _ => rfl
  have S1 : fLc (stName 4) [4] (itSeq (frz (fOwnIo m__law_shuffled 0 (aCons (frz (fLst (aCons (kD (.int 8)) (aCons (kD (.int 9)) (aCons (kD (.int 35)) aNil))))) aNil)))) tTrue (frz (fOwnIo m__law_table 0 (aCons (vI 4) (aCons (kD (.int 1)) aNil)))) [some (.brw o), none, none, none, none] = .ok (.own (.l [.lst (iL a), .lst (iL b), .lst (iL c)])) [some (.brw o3), none, none, none, none] := S1
  refine ⟨some o4, ?_⟩
  clear ta tb tc hg hm lc pm hys e2 tz lz eA eB
  generalize iL (((zT 2000).set (1000 + d) 1).set (1001 + d) (-1)) = U2 at *
  generalize iL ((zT 2000).set (1000 + d) 1) = U1 at *
  generalize iL (zT 2000) = U0 at *
  generalize ((1000 + d : Nat) : Int) = l1 at *
  generalize ((1001 + d : Nat) : Int) = l2 at *
  generalize iL a = A at *
  generalize iL b = Bb at *
  generalize iL c = C at *
  (unfold m__law_bound_right g__law_bound_right; unfold mir; rw [if_pos (by simp [ioN])]; simp only [ini, ioS, ioN, List.replicate, List.map_cons, List.map_nil, List.length_cons, List.length_nil, List.nil_append, List.cons_append, Nat.zero_add, Nat.reduceAdd, Nat.reduceSub])
  (rw [ap_sSeq]; (first | rw [show g__law_bound_right_1 _ = _ from asg_own S1, SR.bind_nx] | rw [show g__law_bound_right_1 _ = _ from asg_imm S1, SR.bind_nx]); (try simp only [List.set_cons_zero, List.set_cons_succ]))
  (rw [ap_sSeq]; (conv in (SR.bind _ _) => (arg 1; simp [x0, x1, x2, k1, OB.toD])); (try rw [SR.bind_nx]))
  (rw [ap_sSeq]; (conv in (SR.bind _ _) => (arg 1; simp [z2, e4, g1, OB.toD])); (try rw [SR.bind_nx]))
  (rw [ap_sSeq]; (conv in (SR.bind _ _) => (arg 1; simp [g2, s1, s2, OB.toD])); (try rw [SR.bind_nx]))
  simp [outR, ioOut, k2, k3, OB.toD]
theorem right_ok {o : OB} (h : Pot o) : ∃ io, m__law_right (some o) [] = .ok (.imm (.bl true)) io := by
  obtain ⟨n1, o1, e1, p1, a1, b1⟩ := draw_ok h (m := 10) (by decide) (by decide)
  obtain ⟨r1, o2, e2, p2, a2, b2⟩ := draw_ok p1 (m := 3) (by decide) (by decide)
  have gi : ∀ r : Int, gInt [.bl (decide (r = 0))] = some (.imm (.int (if r = 0 then 1 else 0))) := fun r => by by_cases z : r = 0 <;> simp [z, gInt]
  obtain ⟨t, o3, e3, p3, l3, gt, bt⟩ := table_good p2 (n := 1 + n1) (w := 1 + (if r1 = 0 then 1 else 0)) (by omega) (by split <;> omega)
  have bt := act_bdK gt.pos bt
  obtain ⟨n4, o4, e4, p4, a4, b4⟩ := draw_ok p3 (m := 10) (by decide) (by decide)
  obtain ⟨r5, o5, e5, p5, a5, b5⟩ := draw_ok p4 (m := 4) (by decide) (by decide)
  obtain ⟨b, o6, e6, p6, l6, gb, bb⟩ := table_good p5 (n := 1 + n4) (w := 1 + (if r5 = 0 then 1 else 0)) (by omega) (by split <;> omega)
  have bb := act_bdK gb.pos bb
  have L1 : t.length ≤ 10 := by omega
  have L2 : b.length ≤ 10 := by omega
  have lcb : Nat.lcm t.length b.length ≤ 100 := Nat.le_trans (Nat.le_of_dvd (Nat.mul_pos gt.pos gb.pos) (Nat.lcm_dvd_mul _ _)) (Nat.mul_le_mul L1 L2)
  have ren := law_renamed_ok gt gb ⟨by omega, by omega⟩ (by omega)
  obtain ⟨w, o7, e7, p7, w0, w1⟩ := draw_ok p6 (m := 6) (by decide) (by decide)
  have gr := renT_good gt gb (by omega)
  have br : ∀ x, -(40000000000000000000000000 : Int) < act (renT t b) x ∧ act (renT t b) x < 40000000000000000000000000 := fun x => by
    have e := renT_mv gt gb x
    have e' := mv_inv gb x
    have c := bt (inv b x)
    have c1 := bb (inv b x)
    have c2 := bb (mv t (inv b x))
    unfold mv at e e' c2
    omega
  have lr : (renT t b).length = Nat.lcm t.length b.length := tabOf_len _ _
  have G0 : 0 < Nat.lcm t.length b.length := Nat.lcm_pos gt.pos gb.pos
  have Tt : Tab t := ⟨gt, fun x => by have := bt x; omega⟩
  have Tb : Tab b := ⟨gb, fun x => by have := bb x; omega⟩
  have Tr : Tab (renT t b) := ⟨gr, fun x => by have := br x; omega⟩
  have k4 := asked_ok Tt Tr Tb (Nat.le_trans (lcm3_le G0 (Nat.dvd_lcm_left _ _) (by rw [lr]; exact Nat.dvd_refl _) (Nat.dvd_lcm_right _ _)) (by omega))
  -- what comes last
  have tail : ∀ {t' u' b' : List Int} {q1 q2 q4 : TS.R} {o' : OB}, Pot o' → Tab t' → Tab u' → Tab b' → t'.length ∣ t.length → u'.length ∣ Nat.lcm t.length b.length → b'.length ∣ b.length →
      (q1 = .own (.l (iL t')) ∨ q1 = .imm (.lst (iL t'))) → (q2 = .own (.l (iL b')) ∨ q2 = .imm (.lst (iL b'))) → (q4 = .own (.l (iL u')) ∨ q4 = .imm (.lst (iL u'))) →
      ∃ io, outR (some o) ((sSeq g__law_right_8 (sSeq g__law_right_9 g__law_right_10)) [some (.brw o'), some q1, some q2, none, some q4, some (.imm (.int w))]) = .ok (.imm (.bl true)) io := by
    intro t' u' b' q1 q2 q4 o' po T1 T2 T3 d1 d2 d3 h1 h2 h4
    have k8 := asked_ok T1 T2 T3 (Nat.le_trans (lcm3_le G0 (Nat.dvd_trans d1 (Nat.dvd_lcm_left _ _)) d2 (Nat.dvd_trans d3 (Nat.dvd_lcm_right _ _))) (by omega))
    have k9 := asked_ok T2 T1 T3 (Nat.le_trans (lcm3_le G0 d2 (Nat.dvd_trans d1 (Nat.dvd_lcm_left _ _)) (Nat.dvd_trans d3 (Nat.dvd_lcm_right _ _))) (by omega))
    obtain ⟨m, o8, e8, p8, hm⟩ := choice_ok po (xs := [5, 7, 9]) (by decide) (by decide)
    have e8 : m__law_choice (some o') [.lst [.int 5, .int 7, .int 9]] = .ok (.imm (.int m)) (some o8) := e8
    have hm : 5 ≤ m ∧ m ≤ 9 := by simp only [List.mem_cons, List.not_mem_nil, or_false] at hm; omega
    obtain ⟨v, o9, e9, p9, l9, gv, bv⟩ := table_good p8 (n := m) (w := 1) (by omega) (by decide)
    have bv := act_bdK gv.pos bv
    have Tv : Tab v := ⟨gv, fun x => by have := bv x; omega⟩
    have k10 := asked_ok T1 Tv T3 (by
      refine Nat.le_trans (lcm3_le (g := Nat.lcm t.length b.length * v.length) (Nat.mul_pos G0 gv.pos) (Nat.dvd_mul_right_of_dvd (Nat.dvd_trans d1 (Nat.dvd_lcm_left _ _)) _) (Nat.dvd_mul_left _ _) (Nat.dvd_mul_right_of_dvd (Nat.dvd_trans d3 (Nat.dvd_lcm_right _ _)) _)) ?_
      exact Nat.le_trans (Nat.mul_le_mul lcb (show v.length ≤ 9 by omega)) (by decide))
    obtain ⟨io, e11, _⟩ := long_ok p9
    refine ⟨some io, ?_⟩
    clear T1 T2 T3 Tv Tt Tb Tr bv gv bt bb br k4 ren
    generalize iL t' = T at *
    generalize iL u' = U at *
    generalize iL b' = Bb at *
    generalize iL v = V at *
    rcases h1 with rfl | rfl <;> rcases h2 with rfl | rfl <;> rcases h4 with rfl | rfl
    all_goals
      (rw [ap_sSeq]; (conv in (SR.bind _ _) => (arg 1; simp [k8, k9, OB.toD])); (try rw [SR.bind_nx]))
      (rw [ap_sSeq]; (conv in (SR.bind _ _) => (arg 1; simp [e8, e9, OB.toD])); (try rw [SR.bind_nx]))
      simp [outR, ioOut, k10, e11, OB.toD]
  have start : ∀ X, outR (some o) ((sSeq g__law_right_5 (sSeq g__law_right_6 (sSeq g__law_right_7 (sSeq g__law_right_8 (sSeq g__law_right_9 g__law_right_10))))) [some (.brw o7), some (.imm (.lst (iL t))), some (.imm (.lst (iL b))), none, some (.imm (.lst (iL (renT t b)))), some (.imm (.int w))]) = X → m__law_right (some o) [] = X := fun X eX => by
    rw [← eX]
    clear eX tail Tt Tb Tr bt bb br
    generalize iL (renT t b) = U at *
    generalize iL t = T at *
    generalize iL b = Bb at *
    (unfold m__law_right g__law_right; unfold mir; rw [if_pos (by simp [ioN])]; simp only [ini, ioS, ioN, List.replicate, List.map_cons, List.map_nil, List.length_cons, List.length_nil, List.nil_append, List.cons_append, Nat.zero_add, Nat.reduceAdd, Nat.reduceSub])
    (rw [ap_sSeq]; (conv in (SR.bind _ _) => (arg 1; simp [e1, e2, gi, e3])); (try rw [SR.bind_nx]))
    (rw [ap_sSeq]; (conv in (SR.bind _ _) => (arg 1; simp [e4, e5, gi, e6])); (try rw [SR.bind_nx]))
    (rw [ap_sSeq]; (conv in (SR.bind _ _) => (arg 1; simp [ren, e7, OB.toD])); (try rw [SR.bind_nx]))
    (rw [ap_sSeq]; (conv in (SR.bind _ _) => (arg 1; simp [k4, OB.toD])); (try rw [SR.bind_nx]))
  have lcm1 : ∀ n : Nat, n ≤ 2520 → Nat.lcm n (1 : Int).toNat ≤ 2520 := fun n hn => by
    show Nat.lcm n 1 ≤ 2520
    rw [Nat.lcm_one_right]; exact hn
  have un1 : ∀ n m : Nat, m ∣ Nat.lcm n (1 : Int).toNat → m ∣ n := fun n m d => by
    have d : m ∣ Nat.lcm n 1 := d
    rwa [Nat.lcm_one_right] at d
  by_cases z0 : w = 0
  · obtain ⟨t', o8, e8, p8, g8, l8, b8⟩ := kin_ok p7 gt (B := 10000000000000000000000000) (by decide) (by decide) bt (m := 1) (by decide) (lcm1 _ (by omega))
    obtain ⟨io, q⟩ := tail p8 ⟨g8, fun x => by have := b8 x; omega⟩ Tr Tb (un1 _ _ l8) (by rw [lr]; exact Nat.dvd_refl _) (Nat.dvd_refl _) (.inl rfl) (.inr rfl) (.inr rfl)
    refine ⟨io, start _ ?_⟩
    rw [← q]
    clear tail start Tt Tb Tr bt bb br b8 q
    subst z0
    generalize iL (renT t b) = U at *
    generalize iL t = T at *
    generalize iL t' = T2 at *
    generalize iL b = Bb at *
    (rw [ap_sSeq]; (conv in (SR.bind _ _) => (arg 1; simp [e8, OB.toD])); (try rw [SR.bind_nx]))
    (rw [ap_sSeq]; (conv in (SR.bind _ _) => (arg 1; simp [])); (try rw [SR.bind_nx]))
    (rw [ap_sSeq]; (conv in (SR.bind _ _) => (arg 1; simp [])); (try rw [SR.bind_nx]))
  by_cases z1 : w = 1
  · obtain ⟨u', o8, e8, p8, g8, l8, b8⟩ := kin_ok p7 gr (B := 40000000000000000000000000) (by decide) (by decide) br (m := 1) (by decide) (lcm1 _ (by rw [lr]; omega))
    obtain ⟨io, q⟩ := tail p8 Tt ⟨g8, fun x => by have := b8 x; omega⟩ Tb (Nat.dvd_refl _) (by have := un1 _ _ l8; rwa [lr] at this) (Nat.dvd_refl _) (.inr rfl) (.inr rfl) (.inl rfl)
    refine ⟨io, start _ ?_⟩
    rw [← q]
    clear tail start Tt Tb Tr bt bb br b8 q
    subst z1
    generalize iL (renT t b) = U at *
    generalize iL t = T at *
    generalize iL u' = T2 at *
    generalize iL b = Bb at *
    (rw [ap_sSeq]; (conv in (SR.bind _ _) => (arg 1; simp [])); (try rw [SR.bind_nx]))
    (rw [ap_sSeq]; (conv in (SR.bind _ _) => (arg 1; simp [e8, OB.toD])); (try rw [SR.bind_nx]))
    (rw [ap_sSeq]; (conv in (SR.bind _ _) => (arg 1; simp [])); (try rw [SR.bind_nx]))
  by_cases z2 : w = 2
  · obtain ⟨b', o8, e8, p8, g8, l8, b8⟩ := kin_ok p7 gb (B := 10000000000000000000000000) (by decide) (by decide) bb (m := 1) (by decide) (lcm1 _ (by omega))
    obtain ⟨io, q⟩ := tail p8 Tt Tr ⟨g8, fun x => by have := b8 x; omega⟩ (Nat.dvd_refl _) (by rw [lr]; exact Nat.dvd_refl _) (un1 _ _ l8) (.inr rfl) (.inl rfl) (.inr rfl)
    refine ⟨io, start _ ?_⟩
    rw [← q]
    clear tail start Tt Tb Tr bt bb br b8 q
    subst z2
    generalize iL (renT t b) = U at *
    generalize iL t = T at *
    generalize iL b' = T2 at *
    generalize iL b = Bb at *
    (rw [ap_sSeq]; (conv in (SR.bind _ _) => (arg 1; simp [])); (try rw [SR.bind_nx]))
    (rw [ap_sSeq]; (conv in (SR.bind _ _) => (arg 1; simp [])); (try rw [SR.bind_nx]))
    (rw [ap_sSeq]; (conv in (SR.bind _ _) => (arg 1; simp [e8, OB.toD])); (try rw [SR.bind_nx]))
  · obtain ⟨io, q⟩ := tail p7 Tt Tr Tb (Nat.dvd_refl _) (by rw [lr]; exact Nat.dvd_refl _) (Nat.dvd_refl _) (.inr rfl) (.inr rfl) (.inr rfl)
    refine ⟨io, start _ ?_⟩
    rw [← q]
    clear tail start Tt Tb Tr bt bb br q
    generalize iL (renT t b) = U at *
    generalize iL t = T at *
    generalize iL b = Bb at *
    (rw [ap_sSeq]; (conv in (SR.bind _ _) => (arg 1; simp [z0])); (try rw [SR.bind_nx]))
    (rw [ap_sSeq]; (conv in (SR.bind _ _) => (arg 1; simp [z1])); (try rw [SR.bind_nx]))
    (rw [ap_sSeq]; (conv in (SR.bind _ _) => (arg 1; simp [z2])); (try rw [SR.bind_nx]))
theorem law_true (ns : List Int) (hl : ns.length ≤ 63) : m_law none [.scr (ns.map D.int)] = .ok (.imm (.bl true)) none := by
  have key : mir 2 1 g_law_2 none [.scr (ns.map D.int)] = .ok (.imm (.bl true)) none := law_of (c := 5) (by decide) ns fun a ha => by
    obtain ⟨o, e, p⟩ := pot_ok ns a ha
    obtain ⟨o', e'⟩ := right_ok p
    simp [e, e', fOwnT]
  obtain ⟨o, e, p⟩ := pot_ok ns 0 (by decide)
  obtain ⟨o', e'⟩ := bound_ok p
  have e : m__law_pot none [.scr (ns.map D.int), .int 0] = .ok (.own o) none := e
  have S1 : g_law_1 (ini 2 none [.scr (ns.map D.int)]) = .nx (ini 2 none [.scr (ns.map D.int)]) := by
    simp [ini, ioS, e, e', fOwnT]
  rw [← key]
  unfold m_law g_law mir
  rw [ap_sSeq, S1, SR.bind_nx]
end
end K54

set_option maxHeartbeats 0
namespace K54
open PySem L2 TS
theorem facts {P : Program} {w : World} {K : PySem.W.Frag} {h : Heap} {mg : Str → Option Value} {f : Addr} (X : K.In h) (G : h.Ns mainGlobals mg) (hfa : mg ("law" : Str) = some (.ref f)) (c : SaysS fa fn K) :
    ∃ fd : FuncData, (∀ (s : Shared) (v : Value), BindsTo s fd ⟨[v], []⟩ [("_law_script", v)]) ∧ ∀ base : Heap, K.In base → base.Ns mainGlobals mg → TS.FnOk P w K mg base (L2.CX P w) 8 f fd ["_law_script"] (spD (MM K) m_law) := by
  obtain ⟨fd, F⟩ := c.def_ 35 (d := d_law) rfl
  have e := hfa.symm.trans (He.glo_ok X G (c.fact 94 (f := .he (.glo "law")) rfl))
  cases e
  have b := FunD.bindsA (ps := ["_law_script"]) F fun _ _ _ _ _ _ us hl => match us, hl with | [_], _ => rfl
  exact ⟨fd, fun s v => b s [v] rfl, fun base hX hG => funD_mir (M := MM K) F S_law (by decide) (fun cdv A outer s H E hr tk hp => b_law (base := base) ⟨c, hX, hG⟩ cdv A outer s H E hr tk hp)⟩
theorem sp_law {K : PySem.W.Frag} {H : Hp} {a : Addr} {ns : List Int} (hl : ns.length ≤ 63) (hS : SqL K H a (ns.map V.int)) : spD (MM K) m_law [.ref a] H (fun v _ => v = .bl true) (fun _ _ _ => False) := by
  obtain ⟨F, s, tb, rs⟩ := entry (M := MM K) hS (fun p hp => by cases hp)
  refine ⟨F, none, 0, [.ref a], [.scr (ns.map D.int)], rfl, s, tb, rs, trivial, ?_⟩
  rw [law_true ns hl]
  intro v F' H' st ra ia
  have z : rep (MM K) F' (.bl true) v := ra
  unfold rep at z
  exact z
end K54
open PySem PySem.W PySem.Calls PyProof.Rows
theorem PySem.Challenge.cw_threeswaps_k54_renaming_faults_holds : PySem.Challenge.rw_threeswaps_k54_renaming_faults.Holds := by
  w_on; o_law
  refine HandSHeadRun.head_any (r := OpenLaw.row PySem.Challenge.rw_threeswaps_k54_renaming_faults) (q := view (OpenLaw.row PySem.Challenge.rw_threeswaps_k54_renaming_faults).prog [45]) (H := K54.hk) (ob := K54.ob) (M := 12000) (loose := K54.loose) (d := HandSHeadRun.topDef (OpenLaw.row PySem.Challenge.rw_threeswaps_k54_renaming_faults).prog 45) (kwd := []) K54.ob_eq
    (by kernel_rfl) (fun s => by kernel_rfl) K54.run (by kernel_rfl) (by kernel_rfl) (by kernel_rfl) (by rfl) (by first | assumption | decide +kernel) (by decide +kernel) ⟨rfl, rfl, rfl, rfl, rfl, by decide +kernel⟩ ?hw ?hc
  case hw => w_witness2
  case hc =>
    refine TS.walk_ofW (l := PySem.Challenge.rw_threeswaps_k54_renaming_faults) (n := 63) (k := 8) (x := "_law_script") (CX := fun w => L2.CX PySem.Challenge.rw_threeswaps_k54_renaming_faults.prog w) rfl (by decide) (by kernel_rfl) ⟨⟨rfl, by decide, by decide⟩, rfl⟩ ?F (fun _ _ _ _ _ z => TS.noCX z)
    intro w mg fa h Y G hmg0
    obtain ⟨K, KX, c⟩ := Y
    have hmg : mg ("law" : PySem.Str) = some (.ref fa) := by
      have e : (HandSHeadRun.topDef (OpenLaw.row PySem.Challenge.rw_threeswaps_k54_renaming_faults).prog 45).name = ("law" : PySem.Str) := by kernel_rfl
      rw [← e]
      exact hmg0
    obtain ⟨fd, hb, hF⟩ := K54.facts (P := (PySem.Challenge.rw_threeswaps_k54_renaming_faults).prog) (w := w) KX G hmg c
    exact ⟨K, fd, _, KX, hb, fun H a ns hl _ hS => K54.sp_law hl hS, hF⟩
