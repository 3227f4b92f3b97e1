import PyProof.Rows.All
import Wide.All
import OpenK.AllK
import Wide.FinOn
import HandS.ForMost
import HandS.ForExc
import HandS.More
import HandS.Star
import HandS.ClsMeth
import HandS.Property
import HandS.Defaults
import HandS.IsInst
import HandS.Wide
import HandS.WideBits
import HandS.Conv
import HandS.Lambda
import KE.KStateDown
import Lean
import HandS.WordsExc
import HandS.Head0
import HandS.Head1
import HandS.Head2
import HandS.HeadEnd
import HandS.HeadHook1
import HandS.HeadHook2
import KE.KExcInit
import KE.KNestM
import KE.KSuper
import HandS.OwnEq
import HandS.MakeKw
import HandS.MakeKwOnly
import HandS.RaiseMore
import HandS.TryOnly
import HandS.Style
import HandS.SortInts
import PyProof.LongRange
import KE.GoesMore
import HandS.ExcInit
import HandS.ExcField
import HandS.ExcIs
import HandS.TryMany
import KE.KExcIs
import HandS.Zip
import KE.OsSetLaws
import HandS.SetKeys
import PyProof.DictMoreH
import HandS.Small
import OpenK.KOps
import KE.KCallOwn
import HandS.FStr
import HandS.Text
import HandS.DictSubView
import HandS.DictTup
import KE.SortKeyHeap
import KE.KSortKey
import HandS.DictComp
import KE.KDictList
import KE.KEqDict
import HandS.Nested
import HandS.Dict
import KE.KEqNest
import PyProof.NeKinds
import OpenK.KOwn
import PyProof.Rows.StrOr
import PyProof.StrHeap
import PyProof.ReprNest
import PyProof.ReprRoads
import OpenK.KWalk
import PyProof.DictFindH
import HandS.EndTab
import PyProof.ReprBulk
import PyProof.FitsInt
import PySem.Challenge.RW_threeswaps_k47_sums_of_profiles
set_option Elab.async false
set_option linter.all false
set_option maxRecDepth 100000
set_option maxRecDepth 100000
set_option maxHeartbeats 4000000
namespace TS
open PySem L2
noncomputable section
noncomputable def gd (p : Prop) [Decidable p] : Bool := Classical.choose (⟨decide p, rfl⟩ : ∃ b, b = decide p)
theorem gd_eq (p : Prop) [Decidable p] : gd p = decide p := Classical.choose_spec (⟨decide p, rfl⟩ : ∃ b, b = decide p)
theorem gd_true {p : Prop} [Decidable p] (h : p) : gd p = true := by rw [gd_eq]; exact decide_eq_true h
theorem of_gd {p : Prop} [Decidable p] (h : gd p = true) : p := by rw [gd_eq] at h; exact of_decide_eq_true h
structure Lm where
  p : Hp → V → Prop
  mono : ∀ {F F' : Hp} {v : V}, Same F F' → p F v → p F' v
  rf : ∀ {F : Hp} {v : V}, p F v → ∃ a, v = .ref a
def L0 : Lm := ⟨fun _ _ => False, fun _ h => h, fun h => h.elim⟩
structure Gm where
  K : PySem.W.Frag
  G : Nat → Option Addr
  nm : Nat → List Str
  T : List (Addr × Str) := []
  lm : Lm := L0
def Gm.wl (M : Gm) (L : Lm) : Gm := { M with lm := L }
def TbOb : HO → Bool
  | .tbl _ => false
  | .ext _ => false
  | _ => true
abbrev TbO (o : HO) : Prop := TbOb o = true
def NTb : HO → Bool
  | .tbl _ => false
  | .ext _ => false
  | .tup _ => false
  | _ => true
abbrev NT (o : HO) : Prop := NTb o = true
theorem NT.tt {o : HO} (n : NT o) : TbO o := by cases o <;> first | rfl | cases n
instance {o : HO} : Coe (NT o) (TbO o) := ⟨NT.tt⟩
structure Tb (M : Gm) (F H : Hp) : Prop where
  tab : LamX.Tabs M.T H
  fr : ∀ p ∈ M.T, F p.1 = none
  nt : ∀ b ps, F b ≠ some (.tbl ps)
theorem Tb.keep {M : Gm} {F H F' H' : Hp} (t : Tb M F H) (k : ∀ b o, H b = some o → ¬ TbO o → H' b = some o) (kf : ∀ b o, H b = some o → ¬ TbO o → F b = none → F' b = none) (kn : ∀ b ps, F' b ≠ some (.tbl ps)) : Tb M F' H' where
  tab := fun p hp => by
    obtain ⟨ps, h1, h2, h3⟩ := t.tab p hp
    exact ⟨ps, k _ _ h1 (by intro z; cases z), h2, fun pos cv hc => by
      obtain ⟨c, e1, e2⟩ := h3 pos cv hc
      exact ⟨c, e1, k _ _ e2 (by intro z; cases z)⟩⟩
  fr := fun p hp => by
    obtain ⟨ps, h1, _⟩ := t.tab p hp
    exact kf _ _ h1 (by intro z; cases z) (t.fr p hp)
  nt := kn
theorem Tb.alloc {M : Gm} {F H : Hp} (t : Tb M F H) {p : Addr} {o : HO} (hp : H p = none) : Tb M F (upd H p o) :=
  t.keep (fun b u e _ => by rw [upd_ne (ne_of_none e hp)]; exact e) (fun _ _ _ _ z => z) t.nt
theorem Tb.frz {M : Gm} {F H : Hp} (t : Tb M F H) {p : Addr} {o u : HO} (hp : H p = some o) (n : TbO o) (n2 : TbO u := by first | rfl | assumption | exact NT.tt (by assumption)) : Tb M (upd F p u) H :=
  t.keep (fun b u e _ => e) (fun b v e z q => by
    rw [upd_ne (fun y => by rw [y, hp] at e; cases e; exact z n)]; exact q) fun b ps e => by
    by_cases z : b = p
    · rw [z, upd_same] at e; cases e; cases n2
    · rw [upd_ne z] at e; exact t.nt b ps e
theorem Tb.write {M : Gm} {F H : Hp} (t : Tb M F H) {p : Addr} {o u : HO} (hp : H p = some o) (n : TbO o) : Tb M F (upd H p u) :=
  t.keep (fun b v e z => by rw [upd_ne (fun y => by rw [y, hp] at e; cases e; exact z n)]; exact e) (fun _ _ _ _ q => q) t.nt
def str0 (H : Hp) : Hp := fun b => match H b with
  | some o => if NTb o then some o else none
  | none => none
theorem str0_nt {H : Hp} {b : Addr} {o : HO} (h : str0 H b = some o) : H b = some o ∧ NT o := by
  unfold str0 at h
  split at h
  · rename_i u e
    split at h
    · rename_i n; cases h; exact ⟨e, n⟩
    · cases h
  · cases h
theorem str0_of {H : Hp} {b : Addr} {o : HO} (h : H b = some o) (n : NT o) : str0 H b = some o := by
  unfold str0
  rw [h]
  simp [show NTb o = true from n]
theorem str0_none {H : Hp} {b : Addr} (h : str0 H b = none) : ∀ o, H b = some o → ¬ NT o := fun o e n => by
  rw [str0_of e n] at h; cases h
inductive D where
  | non | bl (b : Bool) | int (i : Int) | str (x : Str)
  | lst (xs : List D) | tup (xs : List D) | scr (xs : List D)
  | dK (ks : List Key) (vs : List D) | dT (ks : List (List Key)) (vs : List D)
  | obj (c : Nat) (vs : List D)
  | cls (c : Nat)
  | lam
  | ktp (ns : List Int)
inductive OB where
  | l (xs : List D) | dK (ks : List Key) (vs : List D) | dT (ks : List (List Key)) (vs : List D) | o (c : Nat) (vs : List D)
def OB.dic : OB → Bool
  | .dK _ _ => true
  | .dT _ _ => true
  | _ => false
def D.dic : D → Bool
  | .dK _ _ => true
  | .dT _ _ => true
  | _ => false
def OB.toD : OB → D
  | .l xs => .lst xs
  | .dK ks vs => .dK ks vs
  | .dT ks vs => .dT ks vs
  | .o c vs => .obj c vs
inductive R where
  | imm (d : D) | own (o : OB) | brw (o : OB) | nst (tp : Bool) (ps : List (D ⊕ OB))
def R.mu : R → Bool
  | .imm _ => false
  | .own _ => true
  | .brw _ => true
  | .nst _ _ => false
abbrev Sl := List (Option R)
structure XD where
  c : Nat
  vs : List D
inductive Res (α : Type) where
  | ok (a : α) (δ : Sl) | exc (x : XD) (δ : Sl) | bad
inductive SR where
  | nx (δ : Sl) | rt (r : R) (δ : Sl) | bk (δ : Sl) | ct (δ : Sl) | exc (x : XD) (δ : Sl) | bad
inductive FR where
  | ok (r : R) (io : Option OB) | exc (x : XD) (io : Option OB) | bad
abbrev Fm := Option OB → List D → FR
abbrev FE := Sl → Res R
abbrev FD := Sl → Res D
abbrev FA := Sl → Res (List D)
abbrev FT := Sl → Res Bool
abbrev FS := Sl → SR
def Res.bind {α β : Type} (m : Res α) (k : α → Sl → Res β) : Res β := match m with
  | .ok a δ => k a δ
  | .exc x δ => .exc x δ
  | .bad => .bad
def Res.bindS {α : Type} (m : Res α) (k : α → Sl → SR) : SR := match m with
  | .ok a δ => k a δ
  | .exc x δ => .exc x δ
  | .bad => .bad
@[simp] theorem Res.bind_ok {α β : Type} (a : α) (δ : Sl) (k : α → Sl → Res β) : (Res.ok a δ).bind k = k a δ := rfl
@[simp] theorem Res.bindS_ok {α : Type} (a : α) (δ : Sl) (k : α → Sl → SR) : (Res.ok a δ).bindS k = k a δ := rfl
@[simp] theorem Res.bind_exc {α β : Type} (x : XD) (δ : Sl) (k : α → Sl → Res β) : (Res.exc x δ : Res α).bind k = .exc x δ := rfl
@[simp] theorem Res.bindS_exc {α : Type} (x : XD) (δ : Sl) (k : α → Sl → SR) : (Res.exc x δ : Res α).bindS k = .exc x δ := rfl
def KTup (K : PySem.W.Frag) (a : Addr) (ns : List Int) : Prop := ∃ (o : Obj) (its : Array Value) (n : Nat), K.lookup a = some o ∧ o.cls = .type "tuple" ∧ o.data = .seq its n ∧ its.size ≤ 100 ∧ Vals (ns.map V.int) its.toList
mutual
def rep (M : Gm) (F : Hp) : D → V → Prop
  | .non, v => v = .non
  | .bl b, v => v = .bl b
  | .int i, v => v = .int i
  | .str x, v => v = .str x
  | .lst ds, v => ∃ a vs, v = .ref a ∧ F a = some (.lst vs) ∧ reps M F ds vs
  | .scr ds, v => ∃ a vs, v = .ref a ∧ SqL M.K F a vs ∧ reps M F ds vs
  | .tup ds, v => ∃ a vs, v = .ref a ∧ F a = some (.tup vs) ∧ reps M F ds vs
  | .dK ks ds, v => ∃ (a : Addr) (od : Obj) (kvs : List (Key × V)), v = .ref a ∧ F a = some (.frz od (.dK kvs)) ∧ kvs.map (·.1) = ks ∧ reps M F ds (kvs.map (·.2))
  | .dT ks ds, v => ∃ (a : Addr) (od : Obj) (kvs : List (List Key × V)), v = .ref a ∧ F a = some (.frz od (.dT kvs)) ∧ kvs.map (·.1) = ks ∧ reps M F ds (kvs.map (·.2))
  | .obj c ds, v => ∃ (a C dx : Addr) (fs : List (Str × V)), v = .ref a ∧ M.G c = some C ∧ F a = some (.ins C dx fs) ∧ fs.map (·.1) = (M.nm c).take ds.length ∧ reps M F ds (fs.map (·.2))
  | .cls c, v => ∃ C, M.G c = some C ∧ v = .ref C
  | .lam, v => M.lm.p F v
  | .ktp ns, v => ∃ a, v = .ref a ∧ KTup M.K a ns
def reps (M : Gm) (F : Hp) : List D → List V → Prop
  | [], vs => vs = []
  | d :: ds, vs => ∃ v r, vs = v :: r ∧ rep M F d v ∧ reps M F ds r
end
def obAt (M : Gm) (F H : Hp) : OB → Addr → Prop
  | .l ds, a => ∃ vs, H a = some (.lst vs) ∧ reps M F ds vs
  | .dK ks ds, a => ∃ (kvs : List (Key × V)), H a = some (.dK kvs) ∧ kvs.map (·.1) = ks ∧ reps M F ds (kvs.map (·.2))
  | .dT ks ds, a => ∃ (kvs : List (List Key × V)), H a = some (.dT kvs) ∧ kvs.map (·.1) = ks ∧ reps M F ds (kvs.map (·.2))
  | .o c ds, a => ∃ (C dx : Addr) (fs : List (Str × V)), M.G c = some C ∧ H a = some (.ins C dx fs) ∧ fs.map (·.1) = (M.nm c).take ds.length ∧ reps M F ds (fs.map (·.2))
theorem Same.seqT {K : PySem.W.Frag} {H H' : Hp} {a : Addr} {xs : List V} (e : Same H H') (h : SqT K H a xs) : SqT K H' a xs := by
  rcases h with (h | ⟨o, h⟩) | h
  · exact .inl (.inl (e _ _ h))
  · exact .inl (.inr ⟨o, e _ _ h⟩)
  · exact .inr h
section
variable {M : Gm} {F F' H H' : Hp}
mutual
theorem rep_mono (e : Same F F') : ∀ (d : D) (v : V), rep M F d v → rep M F' d v
  | .non, v, h => by unfold rep at h ⊢; exact h
  | .bl _, v, h => by unfold rep at h ⊢; exact h
  | .int _, v, h => by unfold rep at h ⊢; exact h
  | .str _, v, h => by unfold rep at h ⊢; exact h
  | .lst ds, v, h => by
    unfold rep at h ⊢
    obtain ⟨a, vs, h1, h2, h3⟩ := h
    exact ⟨a, vs, h1, e _ _ h2, reps_mono e ds vs h3⟩
  | .scr ds, v, h => by
    unfold rep at h ⊢
    obtain ⟨a, vs, h1, h2, h3⟩ := h
    exact ⟨a, vs, h1, e.seq h2, reps_mono e ds vs h3⟩
  | .tup ds, v, h => by
    unfold rep at h ⊢
    obtain ⟨a, vs, h1, h2, h3⟩ := h
    exact ⟨a, vs, h1, e _ _ h2, reps_mono e ds vs h3⟩
  | .dK ks ds, v, h => by
    unfold rep at h ⊢
    obtain ⟨a, od, vs, h1, h2, h3, h4⟩ := h
    exact ⟨a, od, vs, h1, e _ _ h2, h3, reps_mono e ds _ h4⟩
  | .dT ks ds, v, h => by
    unfold rep at h ⊢
    obtain ⟨a, od, vs, h1, h2, h3, h4⟩ := h
    exact ⟨a, od, vs, h1, e _ _ h2, h3, reps_mono e ds _ h4⟩
  | .obj c ds, v, h => by
    unfold rep at h ⊢
    obtain ⟨a, C, dx, fs, h1, h2, h3, h4, h5⟩ := h
    exact ⟨a, C, dx, fs, h1, h2, e _ _ h3, h4, reps_mono e ds _ h5⟩
  | .cls c, v, h => by unfold rep at h ⊢; exact h
  | .lam, v, h => by unfold rep at h ⊢; exact M.lm.mono e h
  | .ktp ns, v, h => by unfold rep at h ⊢; exact h
theorem reps_mono (e : Same F F') : ∀ (ds : List D) (vs : List V), reps M F ds vs → reps M F' ds vs
  | [], vs, h => by unfold reps at h ⊢; exact h
  | d :: ds, vs, h => by
    unfold reps at h ⊢
    obtain ⟨v, r, h1, h2, h3⟩ := h
    exact ⟨v, r, h1, rep_mono e d v h2, reps_mono e ds r h3⟩
end
theorem reps_length : ∀ {ds : List D} {vs : List V}, reps M F ds vs → vs.length = ds.length
  | [], vs, h => by unfold reps at h; rw [h]; rfl
  | d :: ds, vs, h => by
    unfold reps at h
    obtain ⟨v, r, rfl, _, h3⟩ := h
    simp [reps_length h3]
theorem reps_get : ∀ {ds : List D} {vs : List V} {i : Nat} {d : D}, reps M F ds vs → ds[i]? = some d → ∃ v, vs[i]? = some v ∧ rep M F d v
  | [], vs, i, d, h, e => by simp at e
  | d :: ds, vs, 0, d', h, e => by
    unfold reps at h
    obtain ⟨v, r, rfl, h2, h3⟩ := h
    simp at e; subst e
    exact ⟨v, rfl, h2⟩
  | d :: ds, vs, i + 1, d', h, e => by
    unfold reps at h
    obtain ⟨v, r, rfl, h2, h3⟩ := h
    simp at e
    obtain ⟨w, e1, e2⟩ := reps_get h3 e
    exact ⟨w, by simpa using e1, e2⟩
theorem reps_nil : reps M F [] [] := by unfold reps; rfl
theorem reps_cons {d : D} {ds : List D} {v : V} {vs : List V} (h1 : rep M F d v) (h2 : reps M F ds vs) : reps M F (d :: ds) (v :: vs) := by
  unfold reps; exact ⟨v, vs, rfl, h1, h2⟩
theorem reps_cons_iff {d : D} {ds : List D} {v : V} {vs : List V} : reps M F (d :: ds) (v :: vs) ↔ rep M F d v ∧ reps M F ds vs := by
  constructor
  · intro h
    unfold reps at h
    obtain ⟨v', r, e, h2, h3⟩ := h
    cases e
    exact ⟨h2, h3⟩
  · exact fun h => reps_cons h.1 h.2
theorem reps_append : ∀ {ds es : List D} {vs ws : List V}, reps M F ds vs → reps M F es ws → reps M F (ds ++ es) (vs ++ ws)
  | [], es, vs, ws, h, h' => by unfold reps at h; subst h; exact h'
  | d :: ds, es, vs, ws, h, h' => by
    unfold reps at h
    obtain ⟨v, r, rfl, h2, h3⟩ := h
    exact reps_cons h2 (reps_append h3 h')
theorem reps_take : ∀ {ds : List D} {vs : List V} (n : Nat), reps M F ds vs → reps M F (ds.take n) (vs.take n)
  | _, _, 0, _ => by simp [reps]
  | [], vs, n + 1, h => by unfold reps at h; subst h; simp [reps]
  | d :: ds, vs, n + 1, h => by
    unfold reps at h
    obtain ⟨v, r, rfl, h2, h3⟩ := h
    exact reps_cons h2 (reps_take n h3)
theorem reps_drop : ∀ {ds : List D} {vs : List V} (n : Nat), reps M F ds vs → reps M F (ds.drop n) (vs.drop n)
  | _, _, 0, h => h
  | [], vs, n + 1, h => by unfold reps at h; subst h; simp [reps]
  | d :: ds, vs, n + 1, h => by
    unfold reps at h
    obtain ⟨v, r, rfl, h2, h3⟩ := h
    exact reps_drop n h3
theorem reps_set : ∀ {ds : List D} {vs : List V} {d : D} {v : V} (i : Nat), reps M F ds vs → rep M F d v → reps M F (ds.set i d) (vs.set i v)
  | [], vs, d, v, i, h, _ => by unfold reps at h; subst h; simp [reps]
  | d0 :: ds, vs, d, v, 0, h, hv => by
    unfold reps at h
    obtain ⟨v0, r, rfl, h2, h3⟩ := h
    exact reps_cons hv h3
  | d0 :: ds, vs, d, v, i + 1, h, hv => by
    unfold reps at h
    obtain ⟨v0, r, rfl, h2, h3⟩ := h
    exact reps_cons h2 (reps_set i h3 hv)
theorem obAt_mono (e : Same F F') {o : OB} {a : Addr} (ha : H' a = H a) (h : obAt M F H o a) : obAt M F' H' o a := by
  cases o with
  | l ds => obtain ⟨vs, h1, h2⟩ := h; exact ⟨vs, ha.trans h1, reps_mono e _ _ h2⟩
  | dK ks ds => obtain ⟨vs, h1, h2, h3⟩ := h; exact ⟨vs, ha.trans h1, h2, reps_mono e _ _ h3⟩
  | dT ks ds => obtain ⟨vs, h1, h2, h3⟩ := h; exact ⟨vs, ha.trans h1, h2, reps_mono e _ _ h3⟩
  | o c ds => obtain ⟨C, dx, fs, h1, h2, h3, h4⟩ := h; exact ⟨C, dx, fs, h1, ha.trans h2, h3, reps_mono e _ _ h4⟩
theorem obAt_some {o : OB} {a : Addr} (h : obAt M F H o a) : ∃ u, H a = some u := by
  cases o with
  | l ds => obtain ⟨vs, h1, h2⟩ := h; exact ⟨_, h1⟩
  | dK ks ds => obtain ⟨vs, h1, h2, h3⟩ := h; exact ⟨_, h1⟩
  | dT ks ds => obtain ⟨vs, h1, h2, h3⟩ := h; exact ⟨_, h1⟩
  | o c ds => obtain ⟨C, dx, fs, h1, h2, h3, h4⟩ := h; exact ⟨_, h2⟩
theorem obAt_nt {o : OB} {a : Addr} (h : obAt M F H o a) : ∃ u, H a = some u ∧ NT u := by
  cases o with
  | l ds => obtain ⟨vs, h1, h2⟩ := h; exact ⟨_, h1, rfl⟩
  | dK ks ds => obtain ⟨vs, h1, h2, h3⟩ := h; exact ⟨_, h1, rfl⟩
  | dT ks ds => obtain ⟨vs, h1, h2, h3⟩ := h; exact ⟨_, h1, rfl⟩
  | o c ds => obtain ⟨C, dx, fs, h1, h2, h3, h4⟩ := h; exact ⟨_, h2, rfl⟩
theorem obAt_rep {o : OB} {a : Addr} (hd : o.dic = false) (h : obAt M F F o a) : rep M F o.toD (.ref a) := by
  cases o with
  | l ds => obtain ⟨vs, h1, h2⟩ := h; unfold OB.toD rep; exact ⟨a, vs, rfl, h1, h2⟩
  | dK ks ds => cases hd
  | dT ks ds => cases hd
  | o c ds => obtain ⟨C, dx, fs, h1, h2, h3, h4⟩ := h; unfold OB.toD rep; exact ⟨a, C, dx, fs, rfl, h1, h2, h3, h4⟩
theorem obAt_repD {o : OB} {a : Addr} {u : HO} {od : Obj} (hd : o.dic = true) (hu : H a = some u) (hF : F' a = some (.frz od u)) (g : Same F F') (h : obAt M F H o a) : rep M F' o.toD (.ref a) := by
  cases o with
  | l ds => cases hd
  | dK ks ds =>
    obtain ⟨vs, h1, h2, h3⟩ := h
    rw [hu] at h1; cases h1
    unfold OB.toD rep; exact ⟨a, od, vs, rfl, hF, h2, reps_mono g _ _ h3⟩
  | dT ks ds =>
    obtain ⟨vs, h1, h2, h3⟩ := h
    rw [hu] at h1; cases h1
    unfold OB.toD rep; exact ⟨a, od, vs, rfl, hF, h2, reps_mono g _ _ h3⟩
  | o c ds => cases hd
theorem obAt_mut {o : OB} {a : Addr} (h : obAt M F H o a) : ∃ u, H a = some u ∧ NT u ∧ Mut (some u) := by
  cases o with
  | l ds => obtain ⟨vs, h1, h2⟩ := h; exact ⟨_, h1, rfl, True.intro⟩
  | dK ks ds => obtain ⟨vs, h1, h2, h3⟩ := h; exact ⟨_, h1, rfl, True.intro⟩
  | dT ks ds => obtain ⟨vs, h1, h2, h3⟩ := h; exact ⟨_, h1, rfl, True.intro⟩
  | o c ds => obtain ⟨C, dx, fs, h1, h2, h3, h4⟩ := h; exact ⟨_, h2, rfl, True.intro⟩
end
inductive LkS (Q : Hp → Prop) : Hp → Prop where
  | now {H : Hp} (h : Q H) : LkS Q H
  | lock {H : Hp} (d : Addr) (u : HO) (h : H d = some u) (mu : Mut (some u)) (k : ∀ od, LkS Q (upd H d (.frz od u))) : LkS Q H
theorem LkS.mono {Q R : Hp → Prop} {H : Hp} (l : LkS Q H) (h : ∀ H', Q H' → R H') : LkS R H := by
  induction l with
  | now q => exact .now (h _ q)
  | lock d u e mu _ ih => exact .lock d u e mu ih
theorem LkS.bind {Q R : Hp → Prop} {H : Hp} (l : LkS Q H) (h : ∀ H', Q H' → LkS R H') : LkS R H := by
  induction l with
  | now q => exact h _ q
  | lock d u e mu _ ih => exact .lock d u e mu ih
section
variable {X : Cx} {pins : List (Addr × Obj)} {σ : St} {s : Shared}
theorem LkS.inv {Q : Hp → Prop} {H : Hp} (l : LkS Q H) (I : Inv X pins σ H s) : ∃ H', Inv X pins σ H' s ∧ Q H' := by
  induction l with
  | now q => exact ⟨_, I, q⟩
  | lock d u e mu _ ih =>
    obtain ⟨od, I'⟩ := I.lock e mu
    exact ih od I'
theorem pe_lks {e : Expr} {t : TE} (p : PE X e t) : PE X e (fun σ H Q => t σ H fun v H' => LkS (Q v) H') := by
  refine ⟨fun pins s σ H Q I h => thn (p.run pins s σ H _ I h) fun v s1 ⟨x, H1, I1, r, q⟩ => ?_⟩
  obtain ⟨H2, I2, q2⟩ := q.inv I1
  exact ⟨x, H2, I2, r, q2⟩
end
def nAt (M : Gm) (F H : Hp) : D ⊕ OB → V → Prop
  | .inl d, v => rep M F d v
  | .inr o, v => ∃ b, v = .ref b ∧ obAt M F H o b
def nAdr : List (D ⊕ OB) → List V → List Addr
  | .inr _ :: ps, .ref b :: vs => b :: nAdr ps vs
  | _ :: ps, _ :: vs => nAdr ps vs
  | _, _ => []
def nOwn (tp : Bool) (ps : List (D ⊕ OB)) (a : Addr) (vs : List V) : List Addr := if tp then nAdr ps vs else a :: nAdr ps vs
structure NAt (M : Gm) (F H : Hp) (tp : Bool) (ps : List (D ⊕ OB)) (a : Addr) (vs : List V) : Prop where
  top : if tp then F a = some (.tup vs) else H a = some (.lst vs)
  pts : Paired (nAt M F H) ps vs
  nod : (nOwn tp ps a vs).Nodup
theorem nAts_mono {M : Gm} {F F' H H' : Hp} (g : Same F F') : ∀ {ps : List (D ⊕ OB)} {vs : List V}, (∀ b ∈ nAdr ps vs, H' b = H b) → Paired (nAt M F H) ps vs → Paired (nAt M F' H') ps vs
  | [], _, _, .nil => .nil
  | .inl d :: ps, v :: vs, h, .cons h1 h2 => .cons (rep_mono g _ _ h1) (nAts_mono g (fun b hb => h b (by cases v <;> exact hb)) h2)
  | .inr o :: ps, v :: vs, h, .cons h1 h2 => by
    obtain ⟨b, rfl, h1⟩ := h1
    exact .cons ⟨b, rfl, obAt_mono g (h b (List.mem_cons_self ..)) h1⟩ (nAts_mono g (fun b hb => h b (List.mem_cons_of_mem _ hb)) h2)
theorem NAt.mono {M : Gm} {F F' H H' : Hp} {tp : Bool} {ps : List (D ⊕ OB)} {a : Addr} {vs : List V} (n : NAt M F H tp ps a vs) (g : Same F F') (h : ∀ b ∈ nOwn tp ps a vs, H' b = H b) : NAt M F' H' tp ps a vs where
  top := by
    have t := n.top
    cases tp with
    | true => exact g _ _ t
    | false => exact (h a (List.mem_cons_self ..)).trans t
  pts := nAts_mono g (fun b hb => h b (by cases tp with | true => exact hb | false => exact List.mem_cons_of_mem _ hb)) n.pts
  nod := n.nod
theorem nAdr_nt {M : Gm} {F H : Hp} : ∀ {ps : List (D ⊕ OB)} {vs : List V}, Paired (nAt M F H) ps vs → ∀ b ∈ nAdr ps vs, ∃ u, H b = some u ∧ NT u
  | [], _, .nil, b, hb => by cases hb
  | .inl d :: ps, v :: vs, .cons h1 h2, b, hb => nAdr_nt h2 b (by cases v <;> exact hb)
  | .inr o :: ps, v :: vs, .cons h1 h2, b, hb => by
    obtain ⟨b', rfl, h1⟩ := h1
    rcases List.mem_cons.mp hb with rfl | hb
    · exact obAt_nt h1
    · exact nAdr_nt h2 b hb
theorem NAt.nt {M : Gm} {F H : Hp} {tp : Bool} {ps : List (D ⊕ OB)} {a : Addr} {vs : List V} (n : NAt M F H tp ps a vs) {b : Addr} (hb : b ∈ nOwn tp ps a vs) : ∃ u, H b = some u ∧ NT u := by
  have t := n.top
  cases tp with
  | true => exact nAdr_nt n.pts b hb
  | false =>
    rcases List.mem_cons.mp hb with rfl | hb
    · exact ⟨_, t, rfl⟩
    · exact nAdr_nt n.pts b hb
structure Cn (M : Gm) where
  F0 : Hp
  H0 : Hp
  io : Option Addr
  iob : ∀ a, io = some a → H0 a ≠ none
  nt : ∀ b o, H0 b = some o → NT o
  nd : Option (Addr × List V × List Addr)
  ndh : ∀ z, nd = some z → ∀ b ∈ z.2.2, H0 b ≠ none ∧ F0 b = none ∧ io ≠ some b
def slotOk (c : Cn M) (F H : Hp) : R → V → Prop
  | .imm d, v => rep M F d v
  | .own o, v => ∃ a, v = .ref a ∧ F a = none ∧ c.H0 a = none ∧ obAt M F H o a
  | .brw o, v => ∃ a, v = .ref a ∧ F a = none ∧ c.io = some a ∧ obAt M F H o a
  | .nst tp ps, v => ∃ a vs, v = .ref a ∧ c.nd = some (a, vs, nOwn tp ps a vs) ∧ NAt M F c.H0 tp ps a vs
structure Ok (c : Cn M) (F H : Hp) (σ : St) (δ : Sl) : Prop where
  same : Same F H
  grow : Same c.F0 F
  nofz : ∀ b, c.H0 b ≠ none → c.F0 b = none → F b = none
  kept : ∀ b o, c.H0 b = some o → c.io ≠ some b → H b = some o
  ioh : ∀ a, c.io = some a → ∃ u, H a = some u ∧ NT u
  tb : Tb M F H
  len : σ.length = δ.length
  slot : ∀ (i : Nat) (r : R), δ[i]? = some (some r) → ∃ v, σ[i]? = some (some v) ∧ slotOk c F H r v
  dist : ∀ (i j : Nat) (r r' : R) (v : V), i ≠ j → δ[i]? = some (some r) → δ[j]? = some (some r') → r.mu = true → r'.mu = true → σ[i]? = some (some v) → σ[j]? = some (some v) → False
def repR (c : Cn M) (F H : Hp) (σ : St) (δ : Sl) : R → V → Prop
  | .imm d, v => rep M F d v
  | .own o, v => ∃ a, v = .ref a ∧ F a = none ∧ c.H0 a = none ∧ obAt M F H o a ∧ ∀ (i : Nat) (r : R), δ[i]? = some (some r) → r.mu = true → σ[i]? ≠ some (some (V.ref a))
  | .brw _, _ => False
  | .nst tp ps, v => ∃ a vs, v = .ref a ∧ NAt M F H tp ps a vs ∧ ∀ b ∈ nOwn tp ps a vs, F b = none ∧ c.H0 b = none ∧ ∀ (i : Nat) (r : R), δ[i]? = some (some r) → r.mu = true → σ[i]? ≠ some (some (V.ref b))
section
variable {M : Gm} {c : Cn M} {F F' H H' : Hp} {σ : St} {δ : Sl}
theorem slot_nst {tp : Bool} {ps : List (D ⊕ OB)} {v : V} (g : Same F F') (h : slotOk c F H (.nst tp ps) v) : slotOk c F' H' (.nst tp ps) v := by
  obtain ⟨a, vs, h1, h2, h3⟩ := h
  exact ⟨a, vs, h1, h2, h3.mono g fun _ _ => rfl⟩
theorem Ok.h0 (ok : Ok c F H σ δ) {p : Addr} (hp : H p = none) : c.H0 p = none := by
  cases e : c.H0 p with
  | none => rfl
  | some o =>
    by_cases hi : c.io = some p
    · obtain ⟨u, e1, _⟩ := ok.ioh p hi
      rw [hp] at e1; cases e1
    · rw [ok.kept p o e hi] at hp; cases hp
theorem Ok.hn (ok : Ok c F H σ δ) {p : Addr} (hp : c.H0 p ≠ none) : ∃ u, H p = some u ∧ NT u := by
  by_cases hi : c.io = some p
  · exact ok.ioh p hi
  · cases e : c.H0 p with
    | none => exact absurd e hp
    | some o => exact ⟨o, ok.kept p o e hi, c.nt p o e⟩
theorem Ok.h1 (ok : Ok c F H σ δ) {p : Addr} (hp : ∀ o, H p = some o → ¬ NT o) : c.H0 p = none := by
  cases e : c.H0 p with
  | none => rfl
  | some o =>
    obtain ⟨u, e1, e2⟩ := ok.hn (p := p) (by rw [e]; exact fun z => by cases z)
    exact absurd e2 (hp u e1)
theorem Ok.f (ok : Ok c F H σ δ) {p : Addr} (hp : H p = none) : F p = none := ok.same.free hp
theorem Ok.mus (ok : Ok c F H σ δ) {i : Nat} {r : R} (e : δ[i]? = some (some r)) (hm : r.mu = true) : ∃ a o, σ[i]? = some (some (.ref a)) ∧ F a = none ∧ obAt M F H o a ∧ (r = .own o ∧ c.H0 a = none ∨ r = .brw o ∧ c.io = some a) := by
  obtain ⟨v, e1, e2⟩ := ok.slot i r e
  cases r with
  | imm d => cases hm
  | own o => obtain ⟨a, rfl, h1, h2, h3⟩ := e2; exact ⟨a, o, e1, h1, h3, .inl ⟨rfl, h2⟩⟩
  | brw o => obtain ⟨a, rfl, h1, h2, h3⟩ := e2; exact ⟨a, o, e1, h1, h3, .inr ⟨rfl, h2⟩⟩
  | nst tp ps => cases hm
theorem Ok.fresh1 (ok : Ok c F H σ δ) {p : Addr} (hp : ∀ o, H p = some o → ¬ NT o) : ∀ (i : Nat) (r : R), δ[i]? = some (some r) → r.mu = true → σ[i]? ≠ some (some (V.ref p)) := fun i r e hm q => by
  obtain ⟨a, o, e1, _, h3, _⟩ := ok.mus e hm
  rw [e1] at q
  cases q
  obtain ⟨u, hu, n⟩ := obAt_nt h3
  exact hp u hu n
theorem Ok.fresh (ok : Ok c F H σ δ) {p : Addr} (hp : H p = none) : ∀ (i : Nat) (r : R), δ[i]? = some (some r) → r.mu = true → σ[i]? ≠ some (some (V.ref p)) := fun i r e hm q => by
  obtain ⟨a, o, e1, _, h3, _⟩ := ok.mus e hm
  rw [e1] at q
  cases q
  obtain ⟨u, hu⟩ := obAt_some h3
  rw [hu] at hp; cases hp
theorem Ok.alloc (ok : Ok c F H σ δ) {p : Addr} {o : HO} (hp : H p = none) : Ok c F (upd H p o) σ δ where
  same := fun b u e => by rw [upd_ne (ne_of_none (ok.same b u e) hp)]; exact ok.same b u e
  grow := ok.grow
  nofz := ok.nofz
  kept := fun b u e hi => by
    have := ok.kept b u e hi
    rw [upd_ne (ne_of_none this hp)]; exact this
  ioh := fun a e => by
    obtain ⟨u, e1, e2⟩ := ok.ioh a e
    exact ⟨u, by rw [upd_ne (ne_of_none e1 hp)]; exact e1, e2⟩
  tb := ok.tb.alloc hp
  len := ok.len
  slot := fun i r e => by
    obtain ⟨v, e1, e2⟩ := ok.slot i r e
    refine ⟨v, e1, ?_⟩
    cases r with
    | imm d => exact e2
    | own ob =>
      obtain ⟨a, rfl, h1, h2, h3⟩ := e2
      obtain ⟨u, hu⟩ := obAt_some h3
      exact ⟨a, rfl, h1, h2, obAt_mono (Same.refl _) (upd_ne (ne_of_none hu hp)) h3⟩
    | brw ob =>
      obtain ⟨a, rfl, h1, h2, h3⟩ := e2
      obtain ⟨u, hu⟩ := obAt_some h3
      exact ⟨a, rfl, h1, h2, obAt_mono (Same.refl _) (upd_ne (ne_of_none hu hp)) h3⟩
    | nst tp ps => exact e2
  dist := ok.dist
theorem Ok.made (ok : Ok c F H σ δ) {p : Addr} {o : HO} {ob : OB} (hp : H p = none) (h : obAt M F (upd H p o) ob p) : repR c F (upd H p o) σ δ (.own ob) (.ref p) :=
  ⟨p, rfl, ok.f hp, ok.h0 hp, h, ok.fresh hp⟩
theorem Ok.freeze (ok : Ok c F H σ δ) {ob : OB} {v : V} (r : repR c F H σ δ (.own ob) v) : LkS (fun H' => ∃ F', Same F F' ∧ Ok c F' H' σ δ ∧ rep M F' ob.toD v) H := by
  obtain ⟨a, rfl, h1, h2, h3, h4⟩ := r
  obtain ⟨u, hu, hnu, hmu⟩ := obAt_mut h3
  have key : ∀ (u' : HO) (H' : Hp), NT u' → H' a = some u' → (∀ b, b ≠ a → H' b = H b) → Tb M (upd F a u') H' → Same F (upd F a u') ∧ Ok c (upd F a u') H' σ δ := fun u' H' hn' ea eb htb => by
    have g : Same F (upd F a u') := fun b o e => by rw [upd_ne (ne_of_none e h1)]; exact e
    refine ⟨g, fun b o e => ?_, ok.grow.trans g, fun b e1 e2 => ?_, fun b o e hi => ?_, fun b e => ?_, htb, ok.len, fun i r e => ?_, ok.dist⟩
    · by_cases q : b = a
      · subst q; rw [upd_same] at e; cases e; exact ea
      · rw [upd_ne q] at e; rw [eb b q]; exact ok.same b o e
    · have q : b ≠ a := fun z => e1 (z ▸ h2)
      rw [upd_ne q]; exact ok.nofz b e1 e2
    · have q : b ≠ a := fun z => by rw [z, h2] at e; cases e
      rw [eb b q]; exact ok.kept b o e hi
    · have q : b ≠ a := fun z => c.iob b e (z ▸ h2)
      rw [eb b q]; exact ok.ioh b e
    · obtain ⟨v, e1, e2⟩ := ok.slot i r e
      refine ⟨v, e1, ?_⟩
      cases r with
      | imm d => exact rep_mono g _ _ e2
      | own o =>
        obtain ⟨a', rfl, k1, k2, k3⟩ := e2
        have q : a' ≠ a := fun z => h4 i _ e rfl (by rw [e1, z])
        exact ⟨a', rfl, by rw [upd_ne q]; exact k1, k2, obAt_mono g (eb a' q) k3⟩
      | brw o =>
        obtain ⟨a', rfl, k1, k2, k3⟩ := e2
        have q : a' ≠ a := fun z => h4 i _ e rfl (by rw [e1, z])
        exact ⟨a', rfl, by rw [upd_ne q]; exact k1, k2, obAt_mono g (eb a' q) k3⟩
      | nst tp ps => exact slot_nst g e2
  cases hd : ob.dic with
  | false =>
    obtain ⟨g, ok'⟩ := key u H hnu hu (fun _ _ => rfl) (ok.tb.frz hu hnu)
    exact .now ⟨upd F a u, g, ok', obAt_rep hd (obAt_mono g (upd_same.trans hu.symm) h3)⟩
  | true =>
    refine .lock a u hu hmu fun od => .now ?_
    obtain ⟨g, ok'⟩ := key (.frz od u) (upd H a (.frz od u)) rfl upd_same (fun b z => upd_ne z) ((ok.tb.frz hu hnu rfl).keep (fun b o e z => by
      rw [upd_ne (fun y => by rw [y, hu] at e; cases e; exact z hnu)]; exact e) (fun b o e z q => q) (ok.tb.frz hu hnu rfl).nt)
    exact ⟨upd F a (.frz od u), g, ok', obAt_repD hd hu upd_same g h3⟩
theorem getElem?_set_some {α : Type} {l : List α} {i j : Nat} {x y : α} (h : (l.set i x)[j]? = some y) : (i = j ∧ x = y ∧ i < l.length) ∨ (i ≠ j ∧ l[j]? = some y) := by
  by_cases e : i = j
  · subst e
    by_cases hl : i < l.length
    · rw [List.getElem?_set_self hl] at h
      exact .inl ⟨rfl, Option.some.inj h, hl⟩
    · rw [List.getElem?_eq_none (by simpa using hl)] at h; cases h
  · rw [List.getElem?_set_ne e] at h
    exact .inr ⟨e, h⟩
theorem Ok.setI (ok : Ok c F H σ δ) {d : D} {v : V} (i : Nat) (r : rep M F d v) : Ok c F H (σ.set i (some v)) (δ.set i (some (.imm d))) where
  same := ok.same
  grow := ok.grow
  nofz := ok.nofz
  kept := ok.kept
  ioh := ok.ioh
  tb := ok.tb
  len := by simp [ok.len]
  slot := fun j r' e => by
    rcases getElem?_set_some e with ⟨rfl, e1, hl⟩ | ⟨hn, e1⟩
    · cases e1
      exact ⟨v, List.getElem?_set_self (by rw [ok.len]; exact hl), r⟩
    · rw [List.getElem?_set_ne hn]
      exact ok.slot j r' e1
  dist := fun j k r1 r2 w hjk e1 e2 m1 m2 s1 s2 => by
    rcases getElem?_set_some e1 with ⟨rfl, q, _⟩ | ⟨hn, q1⟩
    · cases q; cases m1
    · rcases getElem?_set_some e2 with ⟨rfl, q, _⟩ | ⟨hn2, q2⟩
      · cases q; cases m2
      · rw [List.getElem?_set_ne hn] at s1
        rw [List.getElem?_set_ne hn2] at s2
        exact ok.dist j k r1 r2 w hjk q1 q2 m1 m2 s1 s2
theorem Ok.setO (ok : Ok c F H σ δ) {ob : OB} {v : V} (i : Nat) (r : repR c F H σ δ (.own ob) v) : Ok c F H (σ.set i (some v)) (δ.set i (some (.own ob))) where
  same := ok.same
  grow := ok.grow
  nofz := ok.nofz
  kept := ok.kept
  ioh := ok.ioh
  tb := ok.tb
  len := by simp [ok.len]
  slot := fun j r' e => by
    rcases getElem?_set_some e with ⟨rfl, e1, hl⟩ | ⟨hn, e1⟩
    · cases e1
      obtain ⟨a, rfl, h1, h2, h3, _⟩ := r
      exact ⟨.ref a, List.getElem?_set_self (by rw [ok.len]; exact hl), a, rfl, h1, h2, h3⟩
    · rw [List.getElem?_set_ne hn]
      exact ok.slot j r' e1
  dist := fun j k r1 r2 w hjk e1 e2 m1 m2 s1 s2 => by
    obtain ⟨a, rfl, h1, h2, h3, h4⟩ := r
    rcases getElem?_set_some e1 with ⟨rfl, q, hl⟩ | ⟨hn, q1⟩
    · rw [List.getElem?_set_self (by rw [ok.len]; exact hl)] at s1
      rcases getElem?_set_some e2 with ⟨rfl, q, _⟩ | ⟨hn2, q2⟩
      · exact hjk rfl
      · rw [List.getElem?_set_ne hn2] at s2
        cases s1
        exact h4 k r2 q2 m2 s2
    · rw [List.getElem?_set_ne hn] at s1
      rcases getElem?_set_some e2 with ⟨rfl, q, hl⟩ | ⟨hn2, q2⟩
      · rw [List.getElem?_set_self (by rw [ok.len]; exact hl)] at s2
        cases s2
        exact h4 j r1 q1 m1 s1
      · rw [List.getElem?_set_ne hn2] at s2
        exact ok.dist j k r1 r2 w hjk q1 q2 m1 m2 s1 s2
theorem Ok.mutate (ok : Ok c F H σ δ) {i : Nat} {r r' : R} {a : Addr} {ob ob' : OB} (e : δ[i]? = some (some r)) (hr : r = .own ob ∧ r' = .own ob' ∨ r = .brw ob ∧ r' = .brw ob') (ea : σ[i]? = some (some (.ref a))) (g : Same F F')
    (hF : ∀ b o, b ≠ a → H b = some o → NT o → F b = none → F' b = none) (hFa : F' a = none)
    (hk : ∀ b o, b ≠ a → NT o → H b = some o → H' b = some o) (hs : Same F' H') (htb : Tb M F' H') (hob : obAt M F' H' ob' a) : Ok c F' H' σ (δ.set i (some r')) := by
  have hm : r.mu = true := by rcases hr with ⟨rfl, _⟩ | ⟨rfl, _⟩ <;> rfl
  have hm' : r'.mu = true := by rcases hr with ⟨_, rfl⟩ | ⟨_, rfl⟩ <;> rfl
  obtain ⟨a', o', q1, q2, q3, q4⟩ := ok.mus e hm
  rw [ea] at q1; cases q1
  have ha0 : c.H0 a = none ∨ c.io = some a := by rcases q4 with ⟨_, z⟩ | ⟨_, z⟩; exact .inl z; exact .inr z
  have hfa : F a = none := q2
  refine ⟨hs, ok.grow.trans g, fun b e1 e2 => ?_, fun b o e1 e2 => ?_, fun b e1 => ?_, htb, by simp [ok.len], fun j r1 e1 => ?_, fun j k r1 r2 w hjk e1 e2 m1 m2 s1 s2 => ?_⟩
  · by_cases z : b = a
    · subst z; exact hFa
    · obtain ⟨u, k1, k2⟩ := ok.hn e1
      exact hF b u z k1 k2 (ok.nofz b e1 e2)
  · have z : b ≠ a := fun z => by
      subst z
      rcases ha0 with z | z
      · rw [z] at e1; cases e1
      · exact e2 z
    exact hk b o z (c.nt b o e1) (ok.kept b o e1 e2)
  · obtain ⟨u, hu, hn⟩ := obAt_nt hob
    by_cases z : b = a
    · subst z; exact ⟨u, hu, hn⟩
    · obtain ⟨o, q1, q2⟩ := ok.ioh b e1
      exact ⟨o, hk b o z q2 q1, q2⟩
  · rcases getElem?_set_some e1 with ⟨rfl, z, hl⟩ | ⟨hn, e1⟩
    · cases z
      refine ⟨.ref a, ea, ?_⟩
      rcases hr with ⟨rfl, rfl⟩ | ⟨rfl, rfl⟩
      · rcases q4 with ⟨_, z⟩ | ⟨z, _⟩
        · exact ⟨a, rfl, hFa, z, hob⟩
        · cases z
      · rcases q4 with ⟨z, _⟩ | ⟨_, z⟩
        · cases z
        · exact ⟨a, rfl, hFa, z, hob⟩
    · obtain ⟨v, s1, s2⟩ := ok.slot j r1 e1
      refine ⟨v, s1, ?_⟩
      cases r1 with
      | imm d => exact rep_mono g _ _ s2
      | own o =>
        obtain ⟨b, rfl, k1, k2, k3⟩ := s2
        have z : b ≠ a := fun z => ok.dist i j r (.own o) (.ref a) hn e e1 hm rfl ea (by rw [s1, z])
        obtain ⟨u, hu, hn⟩ := obAt_nt k3
        exact ⟨b, rfl, hF b u z hu hn k1, k2, obAt_mono g ((hk b u z hn hu).trans hu.symm) k3⟩
      | brw o =>
        obtain ⟨b, rfl, k1, k2, k3⟩ := s2
        have z : b ≠ a := fun z => ok.dist i j r (.brw o) (.ref a) hn e e1 hm rfl ea (by rw [s1, z])
        obtain ⟨u, hu, hn⟩ := obAt_nt k3
        exact ⟨b, rfl, hF b u z hu hn k1, k2, obAt_mono g ((hk b u z hn hu).trans hu.symm) k3⟩
      | nst tp ps => exact slot_nst g s2
  · have f1 : ∃ q, δ[j]? = some (some q) ∧ q.mu = true := by
      rcases getElem?_set_some e1 with ⟨rfl, z, hl⟩ | ⟨hn, z⟩
      · exact ⟨r, e, hm⟩
      · exact ⟨r1, z, m1⟩
    have f2 : ∃ q, δ[k]? = some (some q) ∧ q.mu = true := by
      rcases getElem?_set_some e2 with ⟨rfl, z, hl⟩ | ⟨hn, z⟩
      · exact ⟨r, e, hm⟩
      · exact ⟨r2, z, m2⟩
    obtain ⟨x1, y1, z1⟩ := f1
    obtain ⟨x2, y2, z2⟩ := f2
    exact ok.dist j k x1 x2 w hjk y1 y2 z1 z2 s1 s2
theorem Ok.write (ok : Ok c F H σ δ) {i : Nat} {r r' : R} {a : Addr} {ob ob' : OB} {o : HO} (e : δ[i]? = some (some r)) (hr : r = .own ob ∧ r' = .own ob' ∨ r = .brw ob ∧ r' = .brw ob') (ea : σ[i]? = some (some (.ref a)))
    (hob : obAt M F (upd H a o) ob' a) : Ok c F (upd H a o) σ (δ.set i (some r')) := by
  have hm : r.mu = true := by rcases hr with ⟨rfl, _⟩ | ⟨rfl, _⟩ <;> rfl
  obtain ⟨a', o', q1, q2, q3, q4⟩ := ok.mus e hm
  rw [ea] at q1; cases q1
  obtain ⟨u0, hu0, hn0⟩ := obAt_nt q3
  refine ok.mutate e hr ea (Same.refl _) (fun _ _ _ _ _ z => z) q2 (fun b u z _ h => by rw [upd_ne z]; exact h) (fun b u h => ?_) (ok.tb.write hu0 hn0) hob
  have z : b ≠ a := fun z => by rw [z, q2] at h; cases h
  rw [upd_ne z]; exact ok.same b u h
end
structure Stp (M : Gm) (F H F' H' : Hp) (io : Option Addr) : Prop where
  grow : Same F F'
  nofz : ∀ b o, H b = some o → NT o → F b = none → F' b = none
  kept : ∀ b o, H b = some o → NT o → io ≠ some b → H' b = some o
  same : Same F' H'
  tb : Tb M F' H'
def ioAt (M : Gm) (F H : Hp) : Option OB → Addr → Prop
  | none, _ => True
  | some o, a => F a = none ∧ obAt M F H o a
def ioV : Option OB → Addr → List V
  | none, _ => []
  | some _, a => [.ref a]
def resAt (M : Gm) (H F' H' : Hp) : R → V → Prop
  | .imm d, v => rep M F' d v
  | .own o, v => ∃ a, v = .ref a ∧ F' a = none ∧ (∀ u, H a = some u → ¬ NT u) ∧ obAt M F' H' o a
  | .brw _, _ => False
  | .nst tp ps, v => ∃ a vs, v = .ref a ∧ NAt M F' H' tp ps a vs ∧ ∀ b ∈ nOwn tp ps a vs, F' b = none ∧ ∀ u, H b = some u → ¬ NT u
def xAt (M : Gm) (F : Hp) (x : XD) (cls : Value) (d : Option Addr) (H : Hp) : Prop :=
  ∃ C, M.G x.c = some C ∧ cls = .ref C ∧ (x.vs = [] ∨ ∃ (dd : Addr) (fs : List (Str × V)), d = some dd ∧ F dd = some (.xd fs) ∧ fs.map (·.1) = M.nm x.c ∧ reps M F x.vs (fs.map (·.2)))
def spD (M : Gm) (f : Fm) : Sp := fun vs H Q E => ∃ (F : Hp) (io : Option OB) (a : Addr) (ws : List V) (ds : List D),
  vs = ioV io a ++ ws ∧ Same F H ∧ Tb M F H ∧ reps M F ds ws ∧ ioAt M F H io a ∧
  match f io ds with
  | .ok r io' => ∀ v F' H', Stp M F H F' H' (io.map fun _ => a) → resAt M H F' H' r v → ioAt M F' H' io' a → Q v H'
  | .exc x io' => ∀ cls d F' H', Stp M F H F' H' (io.map fun _ => a) → xAt M F' x cls d H' → ioAt M F' H' io' a → E cls d H'
  | .bad => False
section
variable {M : Gm} {c : Cn M} {F F' H H' : Hp} {σ : St} {δ : Sl}
theorem Ok.stp (ok : Ok c F H σ δ) (st : Stp M F H F' H' none) : Ok c F' H' σ δ := by
  have kp : ∀ b o, H b = some o → NT o → H' b = some o := fun b o e n => st.kept b o e n (fun z => by cases z)
  refine ⟨st.same, ok.grow.trans st.grow, fun b e1 e2 => ?_, fun b o e1 e2 => kp b o (ok.kept b o e1 e2) (c.nt b o e1), fun b e1 => ?_, st.tb, ok.len, fun i r e => ?_, ok.dist⟩
  · obtain ⟨u, k1, k2⟩ := ok.hn e1
    exact st.nofz b u k1 k2 (ok.nofz b e1 e2)
  · obtain ⟨o, q1, q2⟩ := ok.ioh b e1
    exact ⟨o, kp b o q1 q2, q2⟩
  · obtain ⟨v, s1, s2⟩ := ok.slot i r e
    refine ⟨v, s1, ?_⟩
    cases r with
    | imm d => exact rep_mono st.grow _ _ s2
    | own o =>
      obtain ⟨b, rfl, k1, k2, k3⟩ := s2
      obtain ⟨u, hu, hn⟩ := obAt_nt k3
      exact ⟨b, rfl, st.nofz b u hu hn k1, k2, obAt_mono st.grow ((kp b u hu hn).trans hu.symm) k3⟩
    | brw o =>
      obtain ⟨b, rfl, k1, k2, k3⟩ := s2
      obtain ⟨u, hu, hn⟩ := obAt_nt k3
      exact ⟨b, rfl, st.nofz b u hu hn k1, k2, obAt_mono st.grow ((kp b u hu hn).trans hu.symm) k3⟩
    | nst tp ps => exact slot_nst st.grow s2
theorem Ok.stpIo (ok : Ok c F H σ δ) {i : Nat} {r r' : R} {a : Addr} {ob ob' : OB} (e : δ[i]? = some (some r)) (hr : r = .own ob ∧ r' = .own ob' ∨ r = .brw ob ∧ r' = .brw ob') (ea : σ[i]? = some (some (.ref a)))
    (st : Stp M F H F' H' (some a)) (h : ioAt M F' H' (some ob') a) : Ok c F' H' σ (δ.set i (some r')) :=
  ok.mutate e hr ea st.grow (fun b o _ e1 n e2 => st.nofz b o e1 n e2) h.1 (fun b o z n q => st.kept b o q n (fun y => z (Option.some.inj y).symm)) st.same st.tb h.2
theorem Ok.resR (ok : Ok c F H σ δ) (st : Stp M F H F' H' none) {r : R} {v : V} (h : resAt M H F' H' r v) : repR c F' H' σ δ r v := by
  cases r with
  | imm d => exact h
  | own o =>
    obtain ⟨a, rfl, h1, h2, h3⟩ := h
    exact ⟨a, rfl, h1, ok.h1 h2, h3, ok.fresh1 h2⟩
  | brw o => exact h
  | nst tp ps =>
    obtain ⟨a, vs, h1, h2, h3⟩ := h
    exact ⟨a, vs, h1, h2, fun b hb => ⟨(h3 b hb).1, ok.h1 (h3 b hb).2, ok.fresh1 (h3 b hb).2⟩⟩
end
end
end TS

namespace TS
open PySem L2
noncomputable section
def prep (M : Gm) (F H : Hp) (d : D) (v : V) : Prop := rep M F d v ∨ ∃ o a, v = V.ref a ∧ d = OB.toD o ∧ obAt M F H o a
def Post {α β : Type} (c : Cn M) (W : WX) (F : Hp) (σ : St) (ρ : Hp → Hp → Sl → α → β → Prop) (r : Res α) (Q : β → Hp → Prop) : Prop := match r with
  | .ok a δ' => ∀ v F' H', Same F F' → Ok c F' H' σ δ' → ρ F' H' δ' a v → Q v H'
  | .exc x δ' => ∀ cls d F' H', Same F F' → Ok c F' H' σ δ' → xAt M F' x cls d H' → W cls d σ H'
  | .bad => False
abbrev ρD (c : Cn M) : Hp → Hp → Sl → D → V → Prop := fun F _ _ d v => rep M F d v
abbrev ρP (c : Cn M) : Hp → Hp → Sl → D → V → Prop := fun F H _ d v => prep M F H d v
abbrev ρR (c : Cn M) (σ : St) : Hp → Hp → Sl → R → V → Prop := fun F H δ r v => repR c F H σ δ r v
abbrev ρA (c : Cn M) : Hp → Hp → Sl → List D → List V → Prop := fun F _ _ ds vs => reps M F ds vs
abbrev ρB (c : Cn M) : Hp → Hp → Sl → List D → List V → Prop := fun F H _ ds vs => Paired (prep M F H) ds vs
abbrev ρT : Hp → Hp → Sl → Bool → Bool → Prop := fun _ _ _ b k => b = k
section
variable {M : Gm} {c : Cn M} {W : WX} {F F1 H H1 : Hp} {σ : St} {δ : Sl}
theorem Post.shift {α β : Type} {ρ : Hp → Hp → Sl → α → β → Prop} {r : Res α} {Q : β → Hp → Prop} (h : Post c W F σ ρ r Q) (g : Same F F1) : Post c W F1 σ ρ r Q := by
  cases r with
  | ok a δ' => exact fun v F' H' s => h v F' H' (g.trans s)
  | exc x δ' => exact fun cls d F' H' s => h cls d F' H' (g.trans s)
  | bad => exact h
theorem Post.bind {α β γ ζ : Type} {m : Res α} {k : α → Sl → Res γ} {ρ : Hp → Hp → Sl → α → β → Prop} {ρ' : Hp → Hp → Sl → γ → ζ → Prop} {Q : ζ → Hp → Prop} {T : β → Hp → Prop} (h : Post c W F σ ρ' (m.bind k) Q)
    (f : ∀ a δ1 v F1 H1, m = .ok a δ1 → Same F F1 → Ok c F1 H1 σ δ1 → ρ F1 H1 δ1 a v → Post c W F1 σ ρ' (k a δ1) Q → T v H1) : Post c W F σ ρ m T := by
  cases m with
  | ok a δ' => exact fun v F' H' s ok r => f a δ' v F' H' rfl s ok r (Post.shift h s)
  | exc x δ' => exact h
  | bad => exact h
theorem Post.ok {α β : Type} {ρ : Hp → Hp → Sl → α → β → Prop} {a : α} {δ : Sl} {Q : β → Hp → Prop} (h : Post c W F σ ρ (.ok a δ) Q) {v : β} (ok : Ok c F H σ δ) (r : ρ F H δ a v) : Q v H := h v F H (Same.refl _) ok r
end
def DE (M : Gm) (W : WX) (X : Cx) (e : Expr) (f : FE) : Prop := ∃ t, PE X e t ∧ ∀ (c : Cn M) F H σ δ Q, Ok c F H σ δ → Post c W F σ (ρR c σ) (f δ) Q → t σ H Q
def DI (M : Gm) (W : WX) (X : Cx) (e : Expr) (f : FD) : Prop := ∃ t, PE X e t ∧ ∀ (c : Cn M) F H σ δ Q, Ok c F H σ δ → Post c W F σ (ρD c) (f δ) Q → t σ H Q
def DP (M : Gm) (W : WX) (X : Cx) (e : Expr) (f : FD) : Prop := ∃ t, PE X e t ∧ ∀ (c : Cn M) F H σ δ Q, Ok c F H σ δ → Post c W F σ (ρP c) (f δ) Q → t σ H Q
def DT (M : Gm) (W : WX) (X : Cx) (e : Expr) (f : FT) : Prop := ∃ t, PT X e t ∧ ∀ (c : Cn M) F H σ δ Q, Ok c F H σ δ → Post c W F σ ρT (f δ) Q → t σ H Q
def DW (M : Gm) (W : WX) (X : Cx) (e : Expr) (f : FT) : Prop := ∃ t, PW X e t ∧ ∀ (c : Cn M) F H σ δ Q, Ok c F H σ δ → Post c W F σ ρT (f δ) Q → t σ H Q
def DA (M : Gm) (W : WX) (X : Cx) (es : List Expr) (f : FA) : Prop := ∃ t, PA X es t ∧ ∀ (c : Cn M) F H σ δ Q, Ok c F H σ δ → Post c W F σ (ρA c) (f δ) Q → t σ H Q
def DB (M : Gm) (W : WX) (X : Cx) (es : List Expr) (f : FA) : Prop := ∃ t, PA X es t ∧ ∀ (c : Cn M) F H σ δ Q, Ok c F H σ δ → Post c W F σ (ρB c) (f δ) Q → t σ H Q
def toE (f : FD) : FE := fun δ => (f δ).bind fun d δ => .ok (.imm d) δ
def frz (f : FE) : FD := fun δ => (f δ).bind fun r δ => match r with
  | .imm d => .ok d δ
  | .own o => .ok o.toD δ
  | .brw _ => .bad
  | .nst _ _ => .bad
section
variable {M : Gm} {c : Cn M} {W : WX} {X : Cx} {e : Expr}
theorem DI.toE {f : FD} (h : DI M W X e f) : DE M W X e (toE f) := by
  obtain ⟨t, p, h⟩ := h
  exact ⟨t, p, fun c F H σ δ Q ok post => h c F H σ δ Q ok (Post.bind post fun d δ1 v F1 H1 _ s ok1 r post => post.ok ok1 r)⟩
theorem DE.frz {f : FE} (h : DE M W X e f) : DI M W X e (frz f) := by
  obtain ⟨t, p, h⟩ := h
  refine ⟨_, pe_lks p, fun c F H σ δ Q ok post => h c F H σ δ (fun v H' => LkS (Q v) H') ok (Post.bind post fun r δ1 v F1 H1 _ s ok1 rr post => ?_)⟩
  cases r with
  | imm d => exact .now (post.ok ok1 rr)
  | own o => exact (ok1.freeze rr).mono fun H2 ⟨F', g, ok', r'⟩ => post v F' H2 g ok' r'
  | brw o => exact post.elim
  | nst _ _ => exact post.elim
theorem DE.pk {f : FE} (h : DE M W X e f) : DP M W X e (TS.frz f) := by
  obtain ⟨t, p, h⟩ := h
  refine ⟨t, p, fun c F H σ δ Q ok post => h c F H σ δ Q ok (Post.bind post fun r δ1 v F1 H1 _ s ok1 rr post => ?_)⟩
  cases r with
  | imm d => exact post.ok ok1 (.inl rr)
  | own o =>
    obtain ⟨a, rfl, h1, h2, h3, h4⟩ := rr
    exact post.ok ok1 (.inr ⟨o, a, rfl, rfl, h3⟩)
  | brw o => exact post.elim
  | nst _ _ => exact post.elim
theorem DI.pk {f : FD} (h : DI M W X e f) : DP M W X e f := by
  obtain ⟨t, p, h⟩ := h
  refine ⟨t, p, fun c F H σ δ Q ok post => h c F H σ δ Q ok ?_⟩
  cases q : f δ with
  | ok d δ1 => rw [q] at post; exact fun v F' H' s ok' r => post v F' H' s ok' (.inl r)
  | exc x δ1 => rw [q] at post; exact post
  | bad => rw [q] at post; exact post
end
def kD (d : D) : FD := fun δ => .ok d δ
def vI (i : Nat) : FD := fun δ => match δ[i]? with
  | some (some (.imm d)) => .ok d δ
  | some (some (.own o)) => .ok o.toD (δ.set i (some (.imm o.toD)))
  | _ => .bad
def vP (i : Nat) : FD := fun δ => match δ[i]? with
  | some (some (.imm d)) => .ok d δ
  | some (some (.own o)) => .ok o.toD δ
  | some (some (.brw o)) => .ok o.toD δ
  | _ => .bad
def vR (i : Nat) : FE := fun δ => match δ[i]? with
  | some (some (.imm d)) => .ok (.imm d) δ
  | some (some (.own o)) => .ok (.own o) (δ.set i none)
  | _ => .bad
section
variable {M : Gm} {c : Cn M} {W : WX} {X : Cx} {e : Expr}
theorem di_c {v : V} {d : D} (h : PE X e (tC v)) (r : ∀ F, rep M F d v) : DI M W X e (kD d) := ⟨_, h, fun c F H σ δ Q ok post => post.ok ok (r F)⟩
theorem di_int {i j pos} : DI M W X (.Constant (.int i) j pos) (kD (.int i)) := di_c pe_int fun F => by unfold rep; rfl
theorem di_bl {b j pos} : DI M W X (.Constant (.bool b) j pos) (kD (.bl b)) := di_c pe_bl fun F => by unfold rep; rfl
theorem di_non {j pos} : DI M W X (.Constant .none j pos) (kD .non) := di_c pe_non fun F => by unfold rep; rfl
theorem di_str {x j pos} : DI M W X (.Constant (.str x) j pos) (kD (.str x)) := di_c pe_str fun F => by unfold rep; rfl
theorem Ok.drop {F H : Hp} {σ : St} {δ : Sl} (ok : Ok c F H σ δ) (i : Nat) : Ok c F H σ (δ.set i none) where
  same := ok.same
  grow := ok.grow
  nofz := ok.nofz
  kept := ok.kept
  ioh := ok.ioh
  tb := ok.tb
  len := by simp [ok.len]
  slot := fun j r e => by
    rcases getElem?_set_some e with ⟨_, e1, _⟩ | ⟨_, e1⟩
    · cases e1
    · exact ok.slot j r e1
  dist := fun j k r1 r2 w hjk e1 e2 m1 m2 s1 s2 => by
    rcases getElem?_set_some e1 with ⟨_, q, _⟩ | ⟨_, q1⟩
    · cases q
    · rcases getElem?_set_some e2 with ⟨_, q, _⟩ | ⟨_, q2⟩
      · cases q
      · exact ok.dist j k r1 r2 w hjk q1 q2 m1 m2 s1 s2
theorem Ok.take {F H : Hp} {σ : St} {δ : Sl} (ok : Ok c F H σ δ) {i : Nat} {o : OB} (e : δ[i]? = some (some (.own o))) : ∃ v, σ[i]? = some (some v) ∧ repR c F H σ (δ.set i none) (.own o) v := by
  obtain ⟨v, e1, a, rfl, h1, h2, h3⟩ := ok.slot i _ e
  refine ⟨.ref a, e1, a, rfl, h1, h2, h3, fun j r q hm z => ?_⟩
  rcases getElem?_set_some q with ⟨_, q, _⟩ | ⟨hn, q⟩
  · cases q
  · exact ok.dist i j _ r _ hn e q rfl hm e1 z
theorem Ok.setSame {F H : Hp} {σ : St} {δ : Sl} (ok : Ok c F H σ δ) {i : Nat} {d : D} {v : V} (e1 : σ[i]? = some (some v)) (r : rep M F d v) : Ok c F H σ (δ.set i (some (.imm d))) := by
  have h := ok.setI i r
  have e : σ.set i (some v) = σ := by
    apply List.ext_getElem?
    intro j
    by_cases hj : i = j
    · subst hj
      rw [List.getElem?_set_self (List.getElem?_eq_some_iff.mp e1).1, e1]
    · rw [List.getElem?_set_ne hj]
  rw [e] at h
  exact h
theorem di_var {i : Nat} (h : PE X e (tVar i)) : DI M W X e (vI i) := by
  refine ⟨_, pe_lks h, fun c F H σ δ Q ok post => ?_⟩
  unfold vI at post
  split at post
  · rename_i d q
    obtain ⟨v, e1, e2⟩ := ok.slot i _ q
    exact ⟨v, e1, .now (post.ok ok e2)⟩
  · rename_i o q
    obtain ⟨v, e1, e2⟩ := ok.take q
    refine ⟨v, e1, ((ok.drop i).freeze e2).mono fun H2 ⟨F', g, ok', r'⟩ => ?_⟩
    have ok2 := ok'.setSame (i := i) e1 r'
    rw [List.set_set] at ok2
    exact post v F' H2 g ok2 r'
  · exact post.elim
theorem dp_var {i : Nat} (h : PE X e (tVar i)) : DP M W X e (vP i) := by
  refine ⟨_, h, fun c F H σ δ Q ok post => ?_⟩
  unfold vP at post
  split at post
  · rename_i d q
    obtain ⟨v, e1, e2⟩ := ok.slot i _ q
    exact ⟨v, e1, post.ok ok (.inl e2)⟩
  · rename_i o q
    obtain ⟨v, e1, a, rfl, h1, h2, h3⟩ := ok.slot i _ q
    exact ⟨_, e1, post.ok ok (.inr ⟨o, a, rfl, rfl, h3⟩)⟩
  · rename_i o q
    obtain ⟨v, e1, a, rfl, h1, h2, h3⟩ := ok.slot i _ q
    exact ⟨_, e1, post.ok ok (.inr ⟨o, a, rfl, rfl, h3⟩)⟩
  · exact post.elim
theorem de_var {i : Nat} (h : PE X e (tVar i)) : DE M W X e (vR i) := by
  refine ⟨_, h, fun c F H σ δ Q ok post => ?_⟩
  unfold vR at post
  split at post
  · rename_i d q
    obtain ⟨v, e1, e2⟩ := ok.slot i _ q
    exact ⟨v, e1, post.ok ok e2⟩
  · rename_i o q
    obtain ⟨v, e1, e2⟩ := ok.take q
    exact ⟨v, e1, post.ok (ok.drop i) e2⟩
  · exact post.elim
end
section
variable {M : Gm} {c : Cn M} {F H : Hp} {v : V}
theorem prep_non (h : prep M F H .non v) : v = .non := by
  rcases h with h | ⟨o, a, _, e, _⟩
  · unfold rep at h; exact h
  · cases o <;> cases e
theorem prep_bl {b : Bool} (h : prep M F H (.bl b) v) : v = .bl b := by
  rcases h with h | ⟨o, a, _, e, _⟩
  · unfold rep at h; exact h
  · cases o <;> cases e
theorem prep_int {i : Int} (h : prep M F H (.int i) v) : v = .int i := by
  rcases h with h | ⟨o, a, _, e, _⟩
  · unfold rep at h; exact h
  · cases o <;> cases e
theorem prep_str {x : Str} (h : prep M F H (.str x) v) : v = .str x := by
  rcases h with h | ⟨o, a, _, e, _⟩
  · unfold rep at h; exact h
  · cases o <;> cases e
theorem prep_lst {ds : List D} (s : Same F H) (h : prep M F H (.lst ds) v) : ∃ a vs, v = .ref a ∧ H a = some (.lst vs) ∧ reps M F ds vs := by
  rcases h with h | ⟨o, a, ev, e, h⟩
  · unfold rep at h
    obtain ⟨a, vs, h1, h2, h3⟩ := h
    exact ⟨a, vs, h1, s _ _ h2, h3⟩
  · cases o <;> cases e
    obtain ⟨vs, h1, h2⟩ := h
    exact ⟨a, vs, ev, h1, h2⟩
theorem prep_tup {ds : List D} (s : Same F H) (h : prep M F H (.tup ds) v) : ∃ a vs, v = .ref a ∧ SqT M.K H a vs ∧ reps M F ds vs := by
  rcases h with h | ⟨o, a, ev, e, h⟩
  · unfold rep at h
    obtain ⟨a, vs, h1, h2, h3⟩ := h
    exact ⟨a, vs, h1, SqT.of (s _ _ h2), h3⟩
  · cases o <;> cases e
theorem reps_kt {M : Gm} {F : Hp} : ∀ ns : List Int, reps M F (ns.map D.int) (ns.map V.int)
  | [] => reps_nil
  | n :: ns => reps_cons (by unfold rep; rfl) (reps_kt ns)
theorem ktup_sq {K : PySem.W.Frag} {H : Hp} {a : Addr} {ns : List Int} (h : KTup K a ns) : SqT K H a (ns.map V.int) := by
  obtain ⟨o, its, n, h1, h2, h3, h4, h5⟩ := h
  exact .inr ⟨o, its, n, h1, h2, h3, by rw [sizeLine_eq]; omega, h5⟩
theorem prep_ktp {ns : List Int} (h : prep M F H (.ktp ns) v) : ∃ a, v = .ref a ∧ SqT M.K H a (ns.map V.int) ∧ reps M F (ns.map D.int) (ns.map V.int) := by
  rcases h with h | ⟨o, a, ev, e, h⟩
  · unfold rep at h
    obtain ⟨a, h1, h2⟩ := h
    exact ⟨a, h1, ktup_sq h2, reps_kt ns⟩
  · cases o <;> cases e
theorem prep_scr {ds : List D} (s : Same F H) (h : prep M F H (.scr ds) v) : ∃ a vs, v = .ref a ∧ SqL M.K H a vs ∧ reps M F ds vs := by
  rcases h with h | ⟨o, a, ev, e, h⟩
  · unfold rep at h
    obtain ⟨a, vs, h1, h2, h3⟩ := h
    exact ⟨a, vs, h1, s.seq h2, h3⟩
  · cases o <;> cases e
theorem prep_dK {ks : List Key} {ds : List D} (s : Same F H) (h : prep M F H (.dK ks ds) v) : ∃ (a : Addr) (kvs : List (Key × V)), v = .ref a ∧ Rd H a (.dK kvs) ∧ kvs.map (·.1) = ks ∧ reps M F ds (kvs.map (·.2)) := by
  rcases h with h | ⟨o, a, ev, e, h⟩
  · unfold rep at h
    obtain ⟨a, od, vs, h1, h2, h3, h4⟩ := h
    exact ⟨a, vs, h1, .inr ⟨od, s _ _ h2⟩, h3, h4⟩
  · cases o <;> cases e
    obtain ⟨vs, h1, h2, h3⟩ := h
    exact ⟨a, vs, ev, .inl h1, h2, h3⟩
theorem prep_dT {ks : List (List Key)} {ds : List D} (s : Same F H) (h : prep M F H (.dT ks ds) v) : ∃ (a : Addr) (kvs : List (List Key × V)), v = .ref a ∧ Rd H a (.dT kvs) ∧ kvs.map (·.1) = ks ∧ reps M F ds (kvs.map (·.2)) := by
  rcases h with h | ⟨o, a, ev, e, h⟩
  · unfold rep at h
    obtain ⟨a, od, vs, h1, h2, h3, h4⟩ := h
    exact ⟨a, vs, h1, .inr ⟨od, s _ _ h2⟩, h3, h4⟩
  · cases o <;> cases e
    obtain ⟨vs, h1, h2, h3⟩ := h
    exact ⟨a, vs, ev, .inl h1, h2, h3⟩
theorem prep_obj {n : Nat} {ds : List D} (s : Same F H) (h : prep M F H (.obj n ds) v) : ∃ (a C dx : Addr) (fs : List (Str × V)), v = .ref a ∧ M.G n = some C ∧ H a = some (.ins C dx fs) ∧ fs.map (·.1) = (M.nm n).take ds.length ∧ reps M F ds (fs.map (·.2)) := by
  rcases h with h | ⟨o, a, ev, e, h⟩
  · unfold rep at h
    obtain ⟨a, C, dx, fs, h1, h2, h3, h4, h5⟩ := h
    exact ⟨a, C, dx, fs, h1, h2, s _ _ h3, h4, h5⟩
  · cases o <;> cases e
    obtain ⟨C, dx, fs, h1, h2, h3, h4⟩ := h
    exact ⟨a, C, dx, fs, ev, h1, h2, h3, h4⟩
end
@[simp] theorem rep_int' {M : Gm} {F : Hp} (i : Int) : rep M F (.int i) (.int i) := by unfold rep; rfl
@[simp] theorem rep_bl' {M : Gm} {F : Hp} (b : Bool) : rep M F (.bl b) (.bl b) := by unfold rep; rfl
@[simp] theorem rep_str' {M : Gm} {F : Hp} (x : Str) : rep M F (.str x) (.str x) := by unfold rep; rfl
@[simp] theorem rep_non' {M : Gm} {F : Hp} : rep M F .non .non := by unfold rep; rfl
section
variable {M : Gm} {c : Cn M} {F H : Hp} {σ : St} {δ : Sl}
theorem rr_int {i : Int} : repR c F H σ δ (.imm (.int i)) (.int i) := rep_int' (M := M) (F := F) i
theorem rr_bl {b : Bool} : repR c F H σ δ (.imm (.bl b)) (.bl b) := rep_bl' (M := M) (F := F) b
theorem rr_str {x : Str} : repR c F H σ δ (.imm (.str x)) (.str x) := rep_str' (M := M) (F := F) x
end
def OpD (M : Gm) (r : R2) (g : D → D → Option R) : Prop := ∀ (c : Cn M) (F H : Hp) (σ : St) (δ : Sl) (x y : V) (dx dy : D) (z : R) (Q : VK), Ok c F H σ δ → prep M F H dx x → prep M F H dy y → g dx dy = some z →
  (∀ v F' H', Same F F' → Ok c F' H' σ δ → repR c F' H' σ δ z v → Q v H') → r x y H Q
def gOr (g g' : D → D → Option R) : D → D → Option R := fun x y => match g x y with
  | some z => some z
  | none => g' x y
theorem OpD.or {M : Gm} {r r' : R2} {g g' : D → D → Option R} (h : OpD M r g) (h' : OpD M r' g') : OpD M (fun x y H Q => r x y H Q ∨ r' x y H Q) (gOr g g') := by
  intro c F H σ δ x y dx dy z Q ok px py e q
  unfold gOr at e
  cases e1 : g dx dy with
  | some w =>
    rw [e1] at e
    cases e
    exact .inl (h c F H σ δ x y dx dy _ Q ok px py e1 q)
  | none =>
    rw [e1] at e
    exact .inr (h' c F H σ δ x y dx dy z Q ok px py e q)
def gI (C : Int → Int → Bool) (g : Int → Int → Int) : D → D → Option R
  | .int i, .int j => if C i j then some (.imm (.int (g i j))) else none
  | _, _ => none
def gB (g : Int → Int → Bool) : D → D → Option R
  | .int i, .int j => some (.imm (.bl (g i j)))
  | _, _ => none
theorem od_I {M : Gm} {C : Int → Int → Prop} {Cb : Int → Int → Bool} {g : Int → Int → Int} (hC : ∀ i j, Cb i j = true → C i j) : OpD M (rI C fun i j => .int (g i j)) (gI Cb g) := by
  intro c F H σ δ x y dx dy z Q ok px py e q
  unfold gI at e
  split at e
  · rename_i i j
    split at e
    · rename_i hc
      cases e
      exact ⟨i, j, prep_int px, prep_int py, hC i j hc, q _ F H (Same.refl _) ok rr_int⟩
    · cases e
  · cases e
theorem od_I0 {M : Gm} {g : Int → Int → Int} : OpD M (rI0 fun i j => .int (g i j)) (gI (fun _ _ => true) g) := by
  intro c F H σ δ x y dx dy z Q ok px py e q
  unfold gI at e
  split at e
  · rename_i i j
    cases e
    exact ⟨i, j, prep_int px, prep_int py, q _ F H (Same.refl _) ok rr_int⟩
  · cases e
theorem od_B {M : Gm} {g : Int → Int → Bool} : OpD M (rI0 fun i j => .bl (g i j)) (gB g) := by
  intro c F H σ δ x y dx dy z Q ok px py e q
  unfold gB at e
  split at e
  · rename_i i j
    cases e
    exact ⟨i, j, prep_int px, prep_int py, q _ F H (Same.refl _) ok rr_bl⟩
  · cases e
def fBin (g : D → D → Option R) (fa fb : FD) : FE := fun δ => (fa δ).bind fun x δ1 => (fb δ1).bind fun y δ2 => match g x y with
  | some z => .ok z δ2
  | none => .bad
def there (δ : Sl) (i : Nat) : Bool := match δ[i]? with
  | some (some _) => true
  | _ => false
def fBinV (g : D → D → Option R) (i : Nat) (fb : FD) : FE := fun δ => if there δ i then (fb δ).bind fun y δ1 => (vP i δ1).bind fun x δ2 => match g x y with
  | some z => .ok z δ2
  | none => .bad
  else .bad
section
variable {M : Gm} {c : Cn M} {W : WX} {X : Cx} {a b : Expr} {pos : Pos} {fa fb : FD} {r : R2} {g : D → D → Option R}
theorem bin_of (hd : OpD M r g) {F H : Hp} {σ : St} {δ : Sl} {x y : V} {dx dy : D} {Q : VK} (ok : Ok c F H σ δ) (px : prep M F H dx x) (py : prep M F H dy y)
    (post : Post c W F σ (ρR c σ) (match g dx dy with | some z => .ok z δ | none => .bad) Q) : r x y H Q := by
  cases e : g dx dy with
  | none => rw [e] at post; exact post.elim
  | some z => rw [e] at post; exact hd c F H σ δ x y dx dy z Q ok px py e post
theorem d_op {e : Expr} (mk : ∀ {ta tb : TE}, PE X a ta → PE X b tb → PE X e (tOp r ta tb)) (hd : OpD M r g) (ha : DI M W X a fa) (hb : DP M W X b fb) : DE M W X e (fBin g fa fb) := by
  obtain ⟨ta, pa, ha⟩ := ha
  obtain ⟨tb, pb, hb⟩ := hb
  refine ⟨_, mk pa pb, fun c F H σ δ Q ok post => ha c F H σ δ _ ok (Post.bind post fun dx δ1 x F1 H1 _ s1 ok1 rx post => hb c F1 H1 σ δ1 _ ok1 (Post.bind post fun dy δ2 y F2 H2 _ s2 ok2 ry post => ?_))⟩
  exact bin_of hd ok2 (.inl (rep_mono s2 _ _ rx)) ry post
theorem vP_run {i : Nat} {F H : Hp} {σ : St} {δ : Sl} {α β : Type} {k : D → Sl → Res α} {ρ : Hp → Hp → Sl → α → β → Prop} {Q : β → Hp → Prop} {P : Prop} (ok : Ok c F H σ δ) {v : V} (e1 : σ[i]? = some (some v))
    (post : Post c W F σ ρ ((vP i δ).bind k) Q) (h : ∀ d, vP i δ = .ok d δ → prep M F H d v → Post c W F σ ρ (k d δ) Q → P) : P := by
  unfold vP at post h
  split at post
  · rename_i d q
    obtain ⟨v', e2, e3⟩ := ok.slot i _ q
    rw [e1] at e2; cases e2
    exact h d (by rw [q]) (.inl e3) post
  · rename_i o q
    obtain ⟨v', e2, a, rfl, h1, h2, h3⟩ := ok.slot i _ q
    rw [e1] at e2; cases e2
    exact h o.toD (by rw [q]) (.inr ⟨o, a, rfl, rfl, h3⟩) post
  · rename_i o q
    obtain ⟨v', e2, a, rfl, h1, h2, h3⟩ := ok.slot i _ q
    rw [e1] at e2; cases e2
    exact h o.toD (by rw [q]) (.inr ⟨o, a, rfl, rfl, h3⟩) post
  · exact post.elim
theorem there_v {F H : Hp} {σ : St} {δ : Sl} {i : Nat} (ok : Ok c F H σ δ) (h : there δ i = true) : ∃ v, σ[i]? = some (some v) := by
  unfold there at h
  split at h
  · rename_i r q
    obtain ⟨v, e, _⟩ := ok.slot i r q
    exact ⟨v, e⟩
  · cases h
theorem d_opV {e : Expr} {i : Nat} (mk : ∀ {ta tb : TE}, PE X a ta → PE X b tb → PE X e (tOp r ta tb)) (hd : OpD M r g) (ha : PE X a (tVar i)) (hb : DP M W X b fb) : DE M W X e (fBinV g i fb) := by
  obtain ⟨tb, pb, hb⟩ := hb
  refine ⟨_, mk ha pb, fun c F H σ δ Q ok post => ?_⟩
  unfold fBinV at post
  by_cases ht : there δ i = true
  · rw [if_pos ht] at post
    obtain ⟨v, e1⟩ := there_v ok ht
    refine ⟨v, e1, hb c F H σ δ _ ok (Post.bind post fun dy δ2 y F2 H2 _ s2 ok2 ry post => ?_)⟩
    exact vP_run ok2 e1 post fun dx _ px post => bin_of hd ok2 px ry post
  · rw [if_neg ht] at post
    exact post.elim
end
def CMulB (i j : Int) : Bool := gd (i.natAbs.log2 + j.natAbs.log2 < 1000000)
def CDivB (i j : Int) : Bool := gd (0 < j ∧ j.natAbs.log2 < 9000)
def CDivNB (i j : Int) : Bool := gd (j < 0 ∧ j.natAbs.log2 < 9000)
def CModB (i j : Int) : Bool := decide (0 < j)
def CPowB (i j : Int) : Bool := gd (0 ≤ j ∧ j ≤ 1000000 ∧ i.natAbs < 18446744073709551616)
section
variable {M : Gm} {c : Cn M} {W : WX} {X : Cx}
theorem od_sub : OpD M (rI0 fun i j => .int (i - j)) (gI (fun _ _ => true) fun i j => i - j) := od_I0
theorem od_mul : OpD M (rI CMulW fun i j => .int (i * j)) (gI CMulB fun i j => i * j) := od_I fun i j h => of_gd (p := (i.natAbs.log2 + j.natAbs.log2 < 1000000)) h
theorem od_fdiv : OpD M (rI CDivW fun i j => .int (i / j)) (gI CDivB fun i j => i / j) := od_I fun i j h => of_gd (p := (0 < j ∧ j.natAbs.log2 < 9000)) h
theorem od_fdivN : OpD M (rI (fun _ j => j < 0 ∧ j.natAbs.log2 < 9000) fun i j => .int (i.fdiv j)) (gI CDivNB fun i j => i.fdiv j) := od_I fun i j h => of_gd (p := (j < 0 ∧ j.natAbs.log2 < 9000)) h
theorem od_mod : OpD M (rI (fun _ j => 0 < j) fun i j => .int (i % j)) (gI CModB fun i j => i % j) := od_I fun i j h => of_decide_eq_true h
theorem od_pow : OpD M (rI CPow fun i j => .int (i ^ j.toNat)) (gI CPowB fun i j => i ^ j.toNat) := od_I fun i j h => by
  obtain ⟨h1, h2, h3⟩ := of_gd h
  exact ⟨h1, h2, by have e : (2:Nat) ^ 64 = 18446744073709551616 := by decide
                    rw [e]; exact h3⟩
end
def gCat : D → D → Option R
  | .lst xs, .lst ys => if xs.length + ys.length ≤ 16777216 then some (.own (.l (xs ++ ys))) else none
  | _, _ => none
def gRep : D → D → Option R
  | .lst xs, .int k => if gd (0 ≤ k ∧ k < 9223372036854775808 ∧ xs.length * k.toNat ≤ 16777216) then some (.own (.l ((List.replicate k.toNat xs).flatten))) else none
  | _, _ => none
def gCatS : D → D → Option R
  | .str x, .str y => if x.length + y.length ≤ 16777216 then some (.imm (.str (x ++ y))) else none
  | _, _ => none
theorem reps_rep {M : Gm} {F : Hp} {ds : List D} {vs : List V} (h : reps M F ds vs) : ∀ n : Nat, reps M F (List.replicate n ds).flatten (List.replicate n vs).flatten
  | 0 => by simp [reps]
  | n + 1 => by
    rw [List.replicate_succ, List.replicate_succ, List.flatten_cons, List.flatten_cons]
    exact reps_append h (reps_rep h n)
section
variable {M : Gm} {c : Cn M} {W : WX} {X : Cx}
theorem new_list {F H : Hp} {σ : St} {δ : Sl} (ok : Ok c F H σ δ) {p : Addr} (hp : H p = none) {ds : List D} {vs : List V} (r : reps M F ds vs) : Ok c F (upd H p (.lst vs)) σ δ ∧ repR c F (upd H p (.lst vs)) σ δ (.own (.l ds)) (.ref p) :=
  ⟨ok.alloc hp, ok.made hp ⟨vs, upd_same, r⟩⟩
theorem od_cat : OpD M rCat gCat := by
  intro c F H σ δ x y dx dy z Q ok px py e q
  unfold gCat at e
  split at e
  · rename_i xs ys
    split at e
    · rename_i hl
      cases e
      obtain ⟨a, vs, h1, h2, h3⟩ := prep_lst ok.same px
      obtain ⟨b, ws, k1, k2, k3⟩ := prep_lst ok.same py
      refine ⟨a, b, vs, ws, h1, k1, h2, k2, ?_, fun p hp => ?_⟩
      · rw [reps_length h3, reps_length k3, sizeLine_eq]; exact hl
      · obtain ⟨o1, o2⟩ := new_list ok hp (reps_append h3 k3)
        exact q _ F _ (Same.refl _) o1 o2
    · cases e
  · cases e
theorem od_rep : OpD M rRep gRep := by
  intro c F H σ δ x y dx dy z Q ok px py e q
  unfold gRep at e
  split at e
  · rename_i xs k
    split at e
    · rename_i hl
      cases e
      obtain ⟨h0, hk, hz⟩ := of_gd hl
      obtain ⟨a, vs, h1, h2, h3⟩ := prep_lst ok.same px
      refine ⟨a, k, vs, h1, prep_int py, h2, by omega, by omega, ?_, fun p hp => ?_⟩
      · rw [reps_length h3, sizeLine_eq]; exact hz
      · obtain ⟨o1, o2⟩ := new_list ok hp (reps_rep h3 k.toNat)
        exact q _ F _ (Same.refl _) o1 o2
    · cases e
  · cases e
theorem od_catS : OpD M (fun x y H Q => ∃ i j, x = .str i ∧ y = .str j ∧ i.length + j.length ≤ sizeLine ∧ Q (.str (i ++ j)) H) gCatS := by
  intro c F H σ δ x y dx dy z Q ok px py e q
  unfold gCatS at e
  split at e
  · rename_i i j
    split at e
    · rename_i hl
      cases e
      exact ⟨i, j, prep_str px, prep_str py, by rw [sizeLine_eq]; exact hl, q _ F H (Same.refl _) ok rr_str⟩
    · cases e
  · cases e
end
end
end TS

namespace TS
open PySem L2
noncomputable section
mutual
def toP : D → Option PyData
  | .non => some .none
  | .bl b => some (.bool b)
  | .int i => some (.int i)
  | .str x => some (.str x)
  | .lst ds => (toPs ds).map .list
  | .tup ds => (toPs ds).map .tuple
  | .ktp ns => some (.tuple (ns.map PyData.int))
  | _ => none
def toPs : List D → Option (List PyData)
  | [] => some []
  | d :: ds => match toP d, toPs ds with
    | some p, some ps => some (p :: ps)
    | _, _ => none
end
section
variable {M : Gm} {F H : Hp}
mutual
theorem rep_dp (s : Same F H) : ∀ (d : D) (v : V) (p : PyData), rep M F d v → toP d = some p → Dp M.K H v p
  | .non, v, p, h, e => by unfold rep at h; unfold toP at e; cases e; subst h; exact .non
  | .bl b, v, p, h, e => by unfold rep at h; unfold toP at e; cases e; subst h; exact .bl b
  | .int b, v, p, h, e => by unfold rep at h; unfold toP at e; cases e; subst h; exact .int b
  | .str b, v, p, h, e => by unfold rep at h; unfold toP at e; cases e; subst h; exact .str b
  | .lst ds, v, p, h, e => by
    unfold rep at h
    unfold toP at e
    obtain ⟨ps, e1, rfl⟩ := Option.map_eq_some_iff.mp e
    obtain ⟨a, vs, rfl, h2, h3⟩ := h
    exact .lst (SqL.of (s _ _ h2)) (reps_dp s ds vs ps h3 e1)
  | .tup ds, v, p, h, e => by
    unfold rep at h
    unfold toP at e
    obtain ⟨ps, e1, rfl⟩ := Option.map_eq_some_iff.mp e
    obtain ⟨a, vs, rfl, h2, h3⟩ := h
    exact .tup (SqT.of (s _ _ h2)) (reps_dp s ds vs ps h3 e1)
  | .scr ds, v, p, h, e => by unfold toP at e; cases e
  | .dK ks ds, v, p, h, e => by unfold toP at e; cases e
  | .dT ks ds, v, p, h, e => by unfold toP at e; cases e
  | .obj c ds, v, p, h, e => by unfold toP at e; cases e
  | .cls c, v, p, h, e => by unfold toP at e; cases e
  | .lam, v, p, h, e => by unfold toP at e; cases e
  | .ktp ns, v, p, h, e => by
    unfold rep at h
    unfold toP at e
    cases e
    obtain ⟨a, rfl, h2⟩ := h
    refine .tup (ktup_sq h2) ?_
    clear h2
    induction ns with
    | nil => exact .nil
    | cons i ns ih => exact .cons (.int i) ih
theorem reps_dp (s : Same F H) : ∀ (ds : List D) (vs : List V) (ps : List PyData), reps M F ds vs → toPs ds = some ps → DpAll M.K H vs ps
  | [], vs, ps, h, e => by unfold reps at h; unfold toPs at e; cases e; subst h; exact .nil
  | d :: ds, vs, ps, h, e => by
    unfold reps at h
    obtain ⟨v, r, rfl, h2, h3⟩ := h
    unfold toPs at e
    split at e
    · rename_i p qs e1 e2
      cases e
      exact .cons (rep_dp s d v p h2 e1) (reps_dp s ds r qs h3 e2)
    · cases e
end
end
theorem prep_dp {M : Gm} {F H : Hp} {d : D} {v : V} {p : PyData} (s : Same F H) (h : prep M F H d v) (e : toP d = some p) : Dp M.K H v p := by
  rcases h with h | ⟨o, a, rfl, rfl, h⟩
  · exact rep_dp s d v p h e
  · cases o with
    | l ds =>
      obtain ⟨vs, h1, h2⟩ := h
      unfold OB.toD toP at e
      obtain ⟨ps, e1, rfl⟩ := Option.map_eq_some_iff.mp e
      exact .lst (SqL.of h1) (reps_dp s ds vs ps h2 e1)
    | dK ks ds => unfold OB.toD toP at e; cases e
    | dT ks ds => unfold OB.toD toP at e; cases e
    | o n ds => unfold OB.toD toP at e; cases e
def gEq : D → D → Option R := fun x y => match toP x, toP y with
  | some p, some q => if SeqAt.shaped p && SeqAt.shaped q then some (.imm (.bl (PyData.eqv p q))) else none
  | _, _ => none
def gNe : D → D → Option R := fun x y => match toP x, toP y with
  | some p, some q => if SeqAt.shaped p && SeqAt.shaped q then some (.imm (.bl (!PyData.eqv p q))) else none
  | _, _ => none
theorem od_eq {M : Gm} : OpD M (rEqD M.K) gEq := by
  intro c F H σ δ x y dx dy z Q ok px py e q
  unfold gEq at e
  split at e
  · rename_i p p' e1 e2
    split at e
    · rename_i hs
      cases e
      rw [Bool.and_eq_true] at hs
      exact ⟨p, p', prep_dp ok.same px e1, prep_dp ok.same py e2, hs.1, hs.2, q _ F H (Same.refl _) ok rr_bl⟩
    · cases e
  · cases e
theorem od_ne {M : Gm} : OpD M (rNeD M.K) gNe := by
  intro c F H σ δ x y dx dy z Q ok px py e q
  unfold gNe at e
  split at e
  · rename_i p p' e1 e2
    split at e
    · rename_i hs
      cases e
      rw [Bool.and_eq_true] at hs
      exact ⟨p, p', prep_dp ok.same px e1, prep_dp ok.same py e2, hs.1, hs.2, q _ F H (Same.refl _) ok rr_bl⟩
    · cases e
  · cases e
def gNotN : D → D → Option R
  | .non, .non => some (.imm (.bl false))
  | _, .non => some (.imm (.bl true))
  | _, _ => none
theorem prep_ne_non {M : Gm} {F H : Hp} {d : D} {v : V} (h : prep M F H d v) (hd : d ≠ .non) : v ≠ .non := by
  rcases h with h | ⟨o, a, rfl, _, _⟩
  · cases d <;> unfold rep at h <;> first | exact absurd rfl hd | (rintro rfl; cases h; done) | (rintro rfl; obtain ⟨_, _, h, _⟩ := h; cases h; done) | (rintro rfl; obtain ⟨_, _, _, _, h, _⟩ := h; cases h; done) | (rintro rfl; obtain ⟨_, _, _, h, _⟩ := h; cases h; done) | (rintro rfl; obtain ⟨_, _, h⟩ := h; cases h; done) | (rintro rfl; obtain ⟨_, h, _⟩ := h; cases h; done) | (rintro rfl; obtain ⟨_, h⟩ := M.lm.rf h; cases h; done)
  · intro h; cases h
theorem od_notN {M : Gm} : OpD M (fun x y H Q => y = .non ∧ Q (.bl (!decide (x = .non))) H) gNotN := by
  intro c F H σ δ x y dx dy z Q ok px py e q
  unfold gNotN at e
  split at e
  · cases e
    have h1 := prep_non px
    subst h1
    exact ⟨prep_non py, q _ F H (Same.refl _) ok rr_bl⟩
  · rename_i hn
    cases e
    refine ⟨prep_non py, ?_⟩
    rw [decide_eq_false (prep_ne_non px hn)]
    exact q _ F H (Same.refl _) ok rr_bl
  · cases e
def keyOf : D → Option Key
  | .int i => some (.inl i)
  | .str x => some (.inr x)
  | _ => none
def keysOf : List D → Option (List Key)
  | [] => some []
  | d :: ds => match keyOf d, keysOf ds with
    | some k, some ks => some (k :: ks)
    | _, _ => none
def lookD {κ : Type} [DecidableEq κ] : List κ → List D → κ → Option D
  | k' :: ks, d :: ds, k => if k' = k then some d else lookD ks ds k
  | _, _, _ => none
theorem keyOf_v {M : Gm} {F H : Hp} {d : D} {v : V} {k : Key} (h : prep M F H d v) (e : keyOf d = some k) : v = kV k := by
  cases d <;> simp [keyOf] at e
  · subst e; exact prep_int h
  · subst e; exact prep_str h
theorem lookD_val {M : Gm} {F : Hp} {κ : Type} [DecidableEq κ] : ∀ {kvs : List (κ × V)} {ds : List D} (k : κ), reps M F ds (kvs.map (·.2)) → (∀ d, lookD (kvs.map (·.1)) ds k = some d → ∃ v, valV kvs k = some v ∧ rep M F d v) ∧ (lookD (kvs.map (·.1)) ds k = none → valV kvs k = none)
  | [], ds, k, h => by
    constructor
    · intro d e; simp [lookD] at e
    · intro _; rfl
  | p :: kvs, ds, k, h => by
    cases ds with
    | nil => unfold reps at h; cases h
    | cons d ds =>
      rw [List.map_cons, reps_cons_iff] at h
      obtain ⟨h1, h2⟩ := h
      have ih := lookD_val k h2
      unfold valV at ih ⊢
      by_cases e : p.1 = k
      · constructor
        · intro d' e'
          simp only [List.map_cons, lookD, if_pos e] at e'
          cases e'
          exact ⟨p.2, by simp [List.find?_cons, e], h1⟩
        · intro e'
          simp only [List.map_cons, lookD, if_pos e] at e'
          cases e'
      · constructor
        · intro d' e'
          simp only [List.map_cons, lookD, if_neg e] at e'
          obtain ⟨v, q1, q2⟩ := ih.1 d' e'
          exact ⟨v, by simp only [List.find?_cons, decide_eq_false e]; exact q1, q2⟩
        · intro e'
          simp only [List.map_cons, lookD, if_neg e] at e'
          simp only [List.find?_cons, decide_eq_false e]
          exact ih.2 e'
theorem atI_reps {M : Gm} {F : Hp} {ds : List D} {vs : List V} {i : Int} {d : D} (h : reps M F ds vs) (e : atI ds i = some d) : ∃ v, atI vs i = some v ∧ rep M F d v := by
  unfold atI at e ⊢
  rw [reps_length h]
  cases q : ixN ds.length i with
  | none => rw [q] at e; cases e
  | some j =>
    rw [q] at e
    exact reps_get h e
theorem keysOf_v {M : Gm} {F : Hp} : ∀ {ds : List D} {vs : List V} {ks : List Key}, reps M F ds vs → keysOf ds = some ks → vs = ks.map kV
  | [], vs, ks, h, e => by unfold reps at h; unfold keysOf at e; cases e; subst h; rfl
  | d :: ds, vs, ks, h, e => by
    unfold reps at h
    obtain ⟨v, r, rfl, h2, h3⟩ := h
    unfold keysOf at e
    split at e
    · rename_i k ks' e1 e2
      cases e
      rw [keyOf_v (M := M) (F := F) (H := F) (.inl h2) e1, keysOf_v h3 e2]; rfl
    · cases e
theorem prep_tupK {M : Gm} {F H : Hp} {v : V} {ds : List D} {ks : List Key} (s : Same F H) (h : prep M F H (.tup ds) v) (e : keysOf ds = some ks) : ∃ b, v = .ref b ∧ H b = some (.tup (ks.map kV)) := by
  rcases h with h | ⟨o, a, ev, e, h⟩
  · unfold rep at h
    obtain ⟨a, vs, h1, h2, h3⟩ := h
    have := keysOf_v h3 e
    subst this
    exact ⟨a, h1, s _ _ h2⟩
  · cases o <;> cases e
def gIx : D → D → Option R
  | .dT ks ds, .tup kds => (keysOf kds).bind fun k => (lookD ks ds k).map .imm
  | .lst xs, .int i => (atI xs i).map .imm
  | .tup xs, .int i => (atI xs i).map .imm
  | .ktp ns, .int i => (atI (ns.map D.int) i).map .imm
  | .scr xs, .int i => (atI xs i).map .imm
  | .str z, .int i => if z.length ≤ 16777216 then (atI z.cps.toList i).map (fun c => .imm (.str ⟨#[c]⟩)) else none
  | .dK ks ds, k => (keyOf k).bind fun k => (lookD ks ds k).map .imm
  | _, _ => none
def rIxD : R2 := fun x y H Q => ∃ a v, x = .ref a ∧ DGet H a y (some v) ∧ Q v H
theorem ix_dict {X : Cx} (hu : X.A.units + 1 < cLine) : IxR X rIxD := by
  intro value slice pins s σ H x y v u Q I rx ry h hs
  obtain ⟨a, z, rfl, g, q⟩ := h
  cases rx
  exact PyProof.Rows.tail_any (dict_typeIs I g) PySem.F.slot_dict_getitem.lookup (d_getItem hu I g ry fun w' s3 I3 rw' => ⟨z, H, I3, rw', q⟩) hs
def rIxAll (K : PySem.W.Frag) : R2 := fun x y H Q => rIx K x y H Q ∨ rIxD x y H Q
theorem ix_all {X : Cx} {M : Gm} (hK : X.K = M.K) (hu : X.A.units + 1 < cLine) : IxR X (rIxAll M.K) := by rw [← hK]; exact ix_seq.or (ix_dict hu)
theorem od_ix {M : Gm} : OpD M (rIxAll M.K) gIx := by
  intro c F H σ δ x y dx dy z Q ok px py e q
  unfold gIx at e
  split at e
  · rename_i ks ds kds
    obtain ⟨kk, e1, e2⟩ := Option.bind_eq_some_iff.mp e
    obtain ⟨d, e3, rfl⟩ := Option.map_eq_some_iff.mp e2
    obtain ⟨a, kvs, rfl, h2, h3, h4⟩ := prep_dT ok.same px
    obtain ⟨b, rfl, hb⟩ := prep_tupK ok.same py e1
    subst h3
    obtain ⟨v, k1, k2⟩ := (lookD_val kk h4).1 d e3
    refine .inr ⟨a, v, rfl, ?_, q _ F H (Same.refl _) ok k2⟩
    rw [← k1]
    exact .inr ⟨_, _, _, h2, rfl, hb, rfl⟩
  · rename_i xs i
    obtain ⟨d, e1, rfl⟩ := Option.map_eq_some_iff.mp e
    obtain ⟨a, vs, rfl, h2, h3⟩ := prep_lst ok.same px
    obtain ⟨v, k1, k2⟩ := atI_reps h3 e1
    exact .inl (.inl ⟨a, vs, i, v, rfl, prep_int py, SqL.of h2, k1, q _ F H (Same.refl _) ok k2⟩)
  · rename_i xs i
    obtain ⟨d, e1, rfl⟩ := Option.map_eq_some_iff.mp e
    obtain ⟨a, vs, rfl, h2, h3⟩ := prep_tup ok.same px
    obtain ⟨v, k1, k2⟩ := atI_reps h3 e1
    exact .inl (.inr (.inl ⟨a, vs, i, v, rfl, prep_int py, h2, k1, q _ F H (Same.refl _) ok k2⟩))
  · rename_i xs i
    obtain ⟨d, e1, rfl⟩ := Option.map_eq_some_iff.mp e
    obtain ⟨a, rfl, h2, h3⟩ := prep_ktp px
    obtain ⟨v, k1, k2⟩ := atI_reps h3 e1
    exact .inl (.inr (.inl ⟨a, _, i, v, rfl, prep_int py, h2, k1, q _ F H (Same.refl _) ok k2⟩))
  · rename_i xs i
    obtain ⟨d, e1, rfl⟩ := Option.map_eq_some_iff.mp e
    obtain ⟨a, vs, rfl, h2, h3⟩ := prep_scr ok.same px
    obtain ⟨v, k1, k2⟩ := atI_reps h3 e1
    exact .inl (.inl ⟨a, vs, i, v, rfl, prep_int py, h2, k1, q _ F H (Same.refl _) ok k2⟩)
  · rename_i zz i
    split at e
    · rename_i hl
      obtain ⟨cc, e1, rfl⟩ := Option.map_eq_some_iff.mp e
      exact .inl (.inr (.inr ⟨zz, i, cc, prep_str px, prep_int py, by rw [sizeLine_eq]; exact hl, e1, q _ F H (Same.refl _) ok rr_str⟩))
    · cases e
  · rename_i ks ds k
    obtain ⟨kk, e1, e2⟩ := Option.bind_eq_some_iff.mp e
    obtain ⟨d, e3, rfl⟩ := Option.map_eq_some_iff.mp e2
    obtain ⟨a, kvs, rfl, h2, h3, h4⟩ := prep_dK ok.same px
    subst h3
    obtain ⟨v, k1, k2⟩ := (lookD_val kk h4).1 d e3
    refine .inr ⟨a, v, rfl, ?_, q _ F H (Same.refl _) ok k2⟩
    rw [keyOf_v py e1, ← k1]
    exact .inl ⟨_, _, h2, rfl, rfl⟩
  · cases e
def flatD : D → Bool
  | .non => true
  | .bl _ => true
  | .int _ => true
  | .str _ => true
  | _ => false
end
end TS

namespace TS
open PySem L2
noncomputable section
abbrev RE (M : Gm) (W : WX) (t : TE) (f : FE) : Prop := ∀ (c : Cn M) F H σ δ Q, Ok c F H σ δ → Post c W F σ (ρR c σ) (f δ) Q → t σ H Q
def fTst (f : FE) : FT := fun δ => (f δ).bind fun r δ => match r with
  | .imm (.bl b) => .ok b δ
  | _ => .bad
section
variable {M : Gm} {c : Cn M} {W : WX} {X : Cx} {e a b : Expr} {pos : Pos}
theorem tst_of {t : TE} {f : FE} (h : RE M W t f) : ∀ (c : Cn M) F H σ δ Q, Ok c F H σ δ → Post c W F σ ρT (fTst f δ) Q → tTest t σ H Q := fun c F H σ δ Q ok post =>
  h c F H σ δ _ ok (Post.bind post fun r δ1 v F1 H1 _ s ok1 rr post => by
    split at post
    · rename_i b0 _
      have e : v = .bl b0 := by
        have z : rep M F1 (.bl b0) v := rr
        unfold rep at z; exact z
      subst e
      exact ⟨b0, rfl, post.ok ok1 rfl⟩
    · exact post.elim)
theorem dt_val {f : FE} (h : DE M W X e f) (he : ∀ whole, isTrue e X.env whole = (do let v ← whole; standAt e.pos; holding [v] (truthy v)) := by intro _; rfl) : DT M W X e (fTst f) := by
  obtain ⟨t, p, h⟩ := h
  exact ⟨_, pt_val p he, tst_of h⟩
theorem dt_op {r : R2} {g : D → D → Option R} {fa fb : FD} (mk : ∀ {ta tb : TE}, PE X a ta → PE X b tb → PT X e (tTest (tOp r ta tb))) (hd : OpD M r g) (ha : DI M W X a fa) (hb : DP M W X b fb) : DT M W X e (fTst (fBin g fa fb)) := by
  obtain ⟨ta, pa, ha⟩ := ha
  obtain ⟨tb, pb, hb⟩ := hb
  refine ⟨_, mk pa pb, tst_of fun c F H σ δ Q ok post => ha c F H σ δ _ ok (Post.bind post fun dx δ1 x F1 H1 _ s1 ok1 rx post => hb c F1 H1 σ δ1 _ ok1 (Post.bind post fun dy δ2 y F2 H2 _ s2 ok2 ry post => ?_))⟩
  exact bin_of hd ok2 (.inl (rep_mono s2 _ _ rx)) ry post
theorem dt_opV {i : Nat} {r : R2} {g : D → D → Option R} {fb : FD} (mk : ∀ {ta tb : TE}, PE X a ta → PE X b tb → PT X e (tTest (tOp r ta tb))) (hd : OpD M r g) (ha : PE X a (tVar i)) (hb : DP M W X b fb) : DT M W X e (fTst (fBinV g i fb)) := by
  obtain ⟨tb, pb, hb⟩ := hb
  refine ⟨_, mk ha pb, tst_of fun c F H σ δ Q ok post => ?_⟩
  unfold fBinV at post
  by_cases ht : there δ i = true
  · rw [if_pos ht] at post
    obtain ⟨v, e1⟩ := there_v ok ht
    refine ⟨v, e1, hb c F H σ δ _ ok (Post.bind post fun dy δ2 y F2 H2 _ s2 ok2 ry post => ?_)⟩
    exact vP_run ok2 e1 post fun dx _ px post => bin_of hd ok2 px ry post
  · rw [if_neg ht] at post
    exact post.elim
def fNot (f : FT) : FT := fun δ => (f δ).bind fun b δ => .ok (!b) δ
def fAnd (f g : FT) : FT := fun δ => (f δ).bind fun b δ => if b then g δ else .ok false δ
def fOr (f g : FT) : FT := fun δ => (f δ).bind fun b δ => if b then .ok true δ else g δ
theorem dt_not {f : FT} (h : DT M W X a f) : DT M W X (.UnaryOp .Not a pos) (fNot f) := by
  obtain ⟨t, p, h⟩ := h
  refine ⟨_, pt_not p, fun c F H σ δ Q ok post => h c F H σ δ _ ok (Post.bind post fun b δ1 k F1 H1 _ s ok1 e post => ?_)⟩
  cases (show b = k from e)
  exact post.ok ok1 rfl
theorem DW.pt {f : FT} (h : DW M W X e f) : DT M W X e f := by
  obtain ⟨t, p, h⟩ := h
  exact ⟨t, p.pt, h⟩
theorem dw_and1 {f : FT} (h : DT M W X a f) : DW M W X (.BoolOp .And [a] pos) f := by
  obtain ⟨t, p, h⟩ := h
  exact ⟨t, pw_and1 p, h⟩
theorem dw_or1 {f : FT} (h : DT M W X a f) : DW M W X (.BoolOp .Or [a] pos) f := by
  obtain ⟨t, p, h⟩ := h
  exact ⟨t, pw_or1 p, h⟩
theorem dw_and {f g : FT} {rest : List Expr} (h : DT M W X a f) (h' : DW M W X (.BoolOp .And (b :: rest) pos) g) : DW M W X (.BoolOp .And (a :: b :: rest) pos) (fAnd f g) := by
  obtain ⟨t, p, h⟩ := h
  obtain ⟨t', p', h'⟩ := h'
  refine ⟨_, pw_and p p', fun c F H σ δ Q ok post => h c F H σ δ _ ok (Post.bind post fun b δ1 k F1 H1 _ s ok1 e post => ?_)⟩
  cases (show b = k from e)
  cases b with
  | true => exact h' c F1 H1 σ δ1 Q ok1 post
  | false => exact post.ok ok1 rfl
theorem dw_or {f g : FT} {rest : List Expr} (h : DT M W X a f) (h' : DW M W X (.BoolOp .Or (b :: rest) pos) g) : DW M W X (.BoolOp .Or (a :: b :: rest) pos) (fOr f g) := by
  obtain ⟨t, p, h⟩ := h
  obtain ⟨t', p', h'⟩ := h'
  refine ⟨_, pw_or p p', fun c F H σ δ Q ok post => h c F H σ δ _ ok (Post.bind post fun b δ1 k F1 H1 _ s ok1 e post => ?_)⟩
  cases (show b = k from e)
  cases b with
  | false => exact h' c F1 H1 σ δ1 Q ok1 post
  | true => exact post.ok ok1 rfl
def fAndV (f : FD) (g : FE) : FE := fun δ => (f δ).bind fun d δ => match d with
  | .bl true => g δ
  | .bl false => .ok (.imm (.bl false)) δ
  | _ => .bad
def fOrV (f : FD) (g : FE) : FE := fun δ => (f δ).bind fun d δ => match d with
  | .bl true => .ok (.imm (.bl true)) δ
  | .bl false => g δ
  | _ => .bad
def fNotV (f : FD) : FD := fun δ => (f δ).bind fun d δ => match d with
  | .bl b => .ok (.bl (!b)) δ
  | _ => .bad
theorem de_one {op} {f : FE} (h : DE M W X a f) : DE M W X (.BoolOp op [a] pos) f := by
  obtain ⟨t, p, h⟩ := h
  exact ⟨t, pe_one p, h⟩
theorem de_and {f : FD} {g : FE} {rest : List Expr} (h : DI M W X a f) (h' : DE M W X (.BoolOp .And (b :: rest) pos) g) : DE M W X (.BoolOp .And (a :: b :: rest) pos) (fAndV f g) := by
  obtain ⟨t, p, h⟩ := h
  obtain ⟨t', p', h'⟩ := h'
  refine ⟨_, pe_and p p', fun c F H σ δ Q ok post => h c F H σ δ _ ok (Post.bind post fun d δ1 v F1 H1 _ s ok1 r post => ?_)⟩
  split at post
  · have e : v = .bl true := by unfold ρD rep at r; exact r
    subst e
    exact ⟨true, rfl, h' c F1 H1 σ δ1 Q ok1 post⟩
  · have e : v = .bl false := by unfold ρD rep at r; exact r
    subst e
    exact ⟨false, rfl, post.ok ok1 rr_bl⟩
  · exact post.elim
theorem di_not {f : FD} (h : DI M W X a f) : DI M W X (.UnaryOp .Not a pos) (fNotV f) := by
  obtain ⟨t, p, h⟩ := h
  refine ⟨_, pe_not p, fun c F H σ δ Q ok post => h c F H σ δ _ ok (Post.bind post fun d δ1 v F1 H1 _ s ok1 r post => ?_)⟩
  split at post
  · rename_i b0 _
    have e : v = .bl b0 := by unfold ρD rep at r; exact r
    subst e
    exact ⟨b0, rfl, post.ok ok1 (rep_bl' _)⟩
  · exact post.elim
def fIfE (f : FT) (g h : FE) : FE := fun δ => (f δ).bind fun b δ => if b then g δ else h δ
theorem de_if {f : FT} {g g' : FE} {t : Expr} (h : DT M W X t f) (ha : DE M W X a g) (hb : DE M W X b g') : DE M W X (.IfExp t a b pos) (fIfE f g g') := by
  obtain ⟨t, p, h⟩ := h
  obtain ⟨ta, pa, ha⟩ := ha
  obtain ⟨tb, pb, hb⟩ := hb
  refine ⟨_, pe_ifExp p pa pb, fun c F H σ δ Q ok post => h c F H σ δ _ ok (Post.bind post fun b δ1 k F1 H1 _ s ok1 e post => ?_)⟩
  cases (show b = k from e)
  cases b with
  | true => exact ha c F1 H1 σ δ1 Q ok1 post
  | false => exact hb c F1 H1 σ δ1 Q ok1 post
end
def aNil : FA := fun δ => .ok [] δ
def aCons (f : FD) (g : FA) : FA := fun δ => (f δ).bind fun d δ1 => (g δ1).bind fun ds δ2 => .ok (d :: ds) δ2
def aOne (f : FD) : FA := fun δ => (f δ).bind fun d δ1 => .ok [d] δ1
section
variable {M : Gm} {c : Cn M} {W : WX} {X : Cx} {e : Expr} {es : List Expr}
theorem da_nil : DA M W X [] aNil := ⟨_, pa_nil, fun c F H σ δ Q ok post => post.ok ok reps_nil⟩
theorem da_cons {f : FD} {g : FA} (h : DI M W X e f) (h' : DA M W X es g) (hs : starEach (e :: es) X.env = (false, eval e X.env) :: starEach es X.env := by rfl) : DA M W X (e :: es) (aCons f g) := by
  obtain ⟨t, p, h⟩ := h
  obtain ⟨t', p', h'⟩ := h'
  exact ⟨_, pa_cons p p' hs, fun c F H σ δ Q ok post => h c F H σ δ _ ok (Post.bind post fun d δ1 v F1 H1 _ s ok1 r post => h' c F1 H1 σ δ1 _ ok1 (Post.bind post fun ds δ2 vs F2 H2 _ s2 ok2 rs post => post.ok ok2 (reps_cons (rep_mono s2 _ _ r) rs)))⟩
theorem reps_paired {F H : Hp} : ∀ {ds : List D} {vs : List V}, reps M F ds vs → Paired (prep M F H) ds vs
  | [], vs, h => by unfold reps at h; subst h; exact .nil
  | d :: ds, vs, h => by
    unfold reps at h
    obtain ⟨v, r, rfl, h2, h3⟩ := h
    exact .cons (.inl h2) (reps_paired h3)
theorem DA.b {f : FA} (h : DA M W X es f) : DB M W X es f := by
  obtain ⟨t, p, h⟩ := h
  refine ⟨t, p, fun c F H σ δ Q ok post => h c F H σ δ Q ok ?_⟩
  cases q : f δ with
  | ok d δ1 => rw [q] at post; exact fun v F' H' s ok' r => post v F' H' s ok' (reps_paired r)
  | exc x δ1 => rw [q] at post; exact post
  | bad => rw [q] at post; exact post
theorem db_one {f : FD} (h : DP M W X e f) (hs : starEach (e :: []) X.env = (false, eval e X.env) :: starEach [] X.env := by rfl) : DB M W X [e] (aOne f) := by
  obtain ⟨t, p, h⟩ := h
  exact ⟨_, pa_cons p pa_nil hs, fun c F H σ δ Q ok post => h c F H σ δ _ ok (Post.bind post fun d δ1 v F1 H1 _ s ok1 r post => post.ok ok1 (.cons r .nil))⟩
end
abbrev RC := List V → Hp → VK → Prop
def CallD (M : Gm) (r : RC) (g : List D → Option R) : Prop := ∀ (c : Cn M) (F H : Hp) (σ : St) (δ : Sl) (xs : List V) (ds : List D) (z : R) (Q : VK), Ok c F H σ δ → Paired (prep M F H) ds xs → g ds = some z →
  (∀ v F' H', Same F F' → Ok c F' H' σ δ → repR c F' H' σ δ z v → Q v H') → r xs H Q
def fCal (g : List D → Option R) (fa : FA) : FE := fun δ => (fa δ).bind fun ds δ1 => match g ds with
  | some z => .ok z δ1
  | none => .bad
section
variable {M : Gm} {c : Cn M} {W : WX} {X : Cx} {e : Expr} {es : List Expr} {r : RC} {g : List D → Option R} {fa : FA}
theorem d_call (mk : ∀ {t : TA}, PA X es t → PE X e (tCB r t)) (hd : CallD M r g) (ha : DB M W X es fa) : DE M W X e (fCal g fa) := by
  obtain ⟨t, p, h⟩ := ha
  refine ⟨_, mk p, fun c F H σ δ Q ok post => h c F H σ δ _ ok (Post.bind post fun ds δ1 vs F1 H1 _ s ok1 rs post => ?_)⟩
  cases q : g ds with
  | none => rw [q] at post; exact post.elim
  | some z => rw [q] at post; exact hd c F1 H1 σ δ1 vs ds z Q ok1 rs q post
theorem CallR.or {f : Value} {r r' : RC} (h : CallR X f r) (h' : CallR X f r') : CallR X f (fun xs H Q => r xs H Q ∨ r' xs H Q) := by
  intro pins s σ H xs us Q I rs q
  rcases q with q | q
  · exact h pins s σ H xs us Q I rs q
  · exact h' pins s σ H xs us Q I rs q
def gcOr (g g' : List D → Option R) : List D → Option R := fun ds => match g ds with
  | some z => some z
  | none => g' ds
theorem CallD.or {r r' : RC} {g g' : List D → Option R} (h : CallD M r g) (h' : CallD M r' g') : CallD M (fun xs H Q => r xs H Q ∨ r' xs H Q) (gcOr g g') := by
  intro c F H σ δ xs ds z Q ok pxs e q
  unfold gcOr at e
  cases e1 : g ds with
  | some w => rw [e1] at e; cases e; exact .inl (h c F H σ δ xs ds _ Q ok pxs e1 q)
  | none => rw [e1] at e; exact .inr (h' c F H σ δ xs ds z Q ok pxs e q)
theorem p1 {F H : Hp} {d : D} {xs : List V} (h : Paired (prep M F H) [d] xs) : ∃ x, xs = [x] ∧ prep M F H d x := by
  cases h with
  | cons a b => cases b; exact ⟨_, rfl, a⟩
theorem p2 {F H : Hp} {d d' : D} {xs : List V} (h : Paired (prep M F H) [d, d'] xs) : ∃ x y, xs = [x, y] ∧ prep M F H d x ∧ prep M F H d' y := by
  cases h with
  | cons a b =>
    cases b with
    | cons a' b' => cases b'; exact ⟨_, _, rfl, a, a'⟩
def lenD : D → Option Nat
  | .lst xs => some xs.length
  | .tup xs => some xs.length
  | .ktp ns => some ns.length
  | .scr xs => some xs.length
  | .str z => if z.length ≤ 16777216 then some z.length else none
  | .dK ks ds => some ds.length
  | _ => none
def gLen : List D → Option R
  | [d] => (lenD d).map fun n => .imm (.int n)
  | _ => none
def rLenAll (K : PySem.W.Frag) : RC := fun xs H Q => (∃ x n, xs = [x] ∧ LenV K x H n ∧ Q (.int n) H) ∨ ∃ a kvs, xs = [V.ref a] ∧ Rd H a (.dK kvs) ∧ Q (.int kvs.length) H
theorem call_lenRd : CallR X (.builtin "len") (fun xs H Q => ∃ a kvs, xs = [V.ref a] ∧ Rd H a (.dK kvs) ∧ Q (.int kvs.length) H) := by
  intro pins s σ H xs us Q I r h
  obtain ⟨a, kvs, rfl, ha, q⟩ := h
  obtain ⟨u, rfl, ru⟩ := vals1 r
  cases ru
  exact d_len I ha fun t s' I' => ⟨.int kvs.length, H, I', ⟨t, rfl⟩, q⟩
theorem call_lenAll (hK : X.K = M.K) : CallR X (.builtin "len") (rLenAll M.K) := by rw [← hK]; exact CallR.or call_len call_lenRd
theorem cd_len : CallD M (rLenAll M.K) gLen := by
  intro c F H σ δ xs ds z Q ok pxs e q
  unfold gLen at e
  split at e
  · rename_i d
    obtain ⟨n, e1, rfl⟩ := Option.map_eq_some_iff.mp e
    obtain ⟨x, rfl, px⟩ := p1 pxs
    have fin := q (.int n) F H (Same.refl _) ok rr_int
    unfold lenD at e1
    split at e1
    · cases e1
      obtain ⟨a, vs, rfl, h2, h3⟩ := prep_lst ok.same px
      exact .inl ⟨_, _, rfl, .inl ⟨vs, SqL.of h2, (reps_length h3).symm⟩, fin⟩
    · cases e1
      obtain ⟨a, vs, rfl, h2, h3⟩ := prep_tup ok.same px
      exact .inl ⟨_, _, rfl, .inr ⟨vs, h2, (reps_length h3).symm⟩, fin⟩
    · cases e1
      obtain ⟨a, rfl, h2, h3⟩ := prep_ktp px
      exact .inl ⟨_, _, rfl, .inr ⟨_, h2, by rw [List.length_map]⟩, fin⟩
    · cases e1
      obtain ⟨a, vs, rfl, h2, h3⟩ := prep_scr ok.same px
      exact .inl ⟨_, _, rfl, .inl ⟨vs, h2, (reps_length h3).symm⟩, fin⟩
    · split at e1
      · rename_i hl
        cases e1
        have ex := prep_str px
        subst ex
        exact .inl ⟨_, _, rfl, ⟨by rw [sizeLine_eq]; exact hl, rfl⟩, fin⟩
      · cases e1
    · cases e1
      obtain ⟨a, kvs, rfl, h2, h3, h4⟩ := prep_dK ok.same px
      refine .inr ⟨a, kvs, rfl, h2, ?_⟩
      have := reps_length h4
      rw [List.length_map] at this
      rw [this]; exact fin
    · cases e1
  · cases e
def gAbs : List D → Option R
  | [.int i] => some (.imm (.int (if i < 0 then -i else i)))
  | _ => none
theorem cd_abs : CallD M (fun xs H Q => ∃ i, xs = [.int i] ∧ Q (.int (if i < 0 then -i else i)) H) gAbs := by
  intro c F H σ δ xs ds z Q ok pxs e q
  unfold gAbs at e
  split at e
  · cases e
    obtain ⟨x, rfl, px⟩ := p1 pxs
    cases prep_int px
    exact ⟨_, rfl, q _ F H (Same.refl _) ok rr_int⟩
  · cases e
def gMax2 : List D → Option R
  | [.int i, .int j] => some (.imm (.int (if j > i then j else i)))
  | _ => none
def gMin2 : List D → Option R
  | [.int i, .int j] => some (.imm (.int (if j < i then j else i)))
  | _ => none
theorem cd_max2 : CallD M (fun xs H Q => ∃ i j, xs = [.int i, .int j] ∧ Q (.int (if j > i then j else i)) H) gMax2 := by
  intro c F H σ δ xs ds z Q ok pxs e q
  unfold gMax2 at e
  split at e
  · cases e
    obtain ⟨x, y, rfl, px, py⟩ := p2 pxs
    cases prep_int px
    cases prep_int py
    exact ⟨_, _, rfl, q _ F H (Same.refl _) ok rr_int⟩
  · cases e
theorem cd_min2 : CallD M (fun xs H Q => ∃ i j, xs = [.int i, .int j] ∧ Q (.int (if j < i then j else i)) H) gMin2 := by
  intro c F H σ δ xs ds z Q ok pxs e q
  unfold gMin2 at e
  split at e
  · cases e
    obtain ⟨x, y, rfl, px, py⟩ := p2 pxs
    cases prep_int px
    cases prep_int py
    exact ⟨_, _, rfl, q _ F H (Same.refl _) ok rr_int⟩
  · cases e
def gInt : List D → Option R
  | [.int i] => some (.imm (.int i))
  | [.bl k] => some (.imm (.int (if k then 1 else 0)))
  | _ => none
theorem cd_int : CallD M (fun xs H Q => (∃ i, xs = [.int i] ∧ Q (.int i) H) ∨ ∃ k, xs = [.bl k] ∧ Q (.int (if k then 1 else 0)) H) gInt := by
  intro c F H σ δ xs ds z Q ok pxs e q
  unfold gInt at e
  split at e
  · cases e
    obtain ⟨x, rfl, px⟩ := p1 pxs
    cases prep_int px
    exact .inl ⟨_, rfl, q _ F H (Same.refl _) ok rr_int⟩
  · cases e
    obtain ⟨x, rfl, px⟩ := p1 pxs
    cases prep_bl px
    exact .inr ⟨_, rfl, q _ F H (Same.refl _) ok rr_int⟩
  · cases e
def gList : List D → Option R
  | [.lst xs] => some (.own (.l xs))
  | [.tup xs] => some (.own (.l xs))
  | _ => none
theorem cd_list {K : PySem.W.Frag} (hK : K = M.K) : CallD M (fun xs H Q => ∃ p ys, xs = [.ref p] ∧ (SqL K H p ys ∨ SqT K H p ys) ∧ ∀ l, H l = none → Q (.ref l) (upd H l (.lst ys))) gList := by
  intro c F H σ δ xs ds z Q ok pxs e q
  subst hK
  unfold gList at e
  split at e
  · cases e
    obtain ⟨x, rfl, px⟩ := p1 pxs
    obtain ⟨a, vs, rfl, h2, h3⟩ := prep_lst ok.same px
    refine ⟨a, vs, rfl, .inl (SqL.of h2), fun p hp => ?_⟩
    obtain ⟨o1, o2⟩ := new_list ok hp h3
    exact q _ F _ (Same.refl _) o1 o2
  · cases e
    obtain ⟨x, rfl, px⟩ := p1 pxs
    obtain ⟨a, vs, rfl, h2, h3⟩ := prep_tup ok.same px
    refine ⟨a, vs, rfl, .inr h2, fun p hp => ?_⟩
    obtain ⟨o1, o2⟩ := new_list ok hp h3
    exact q _ F _ (Same.refl _) o1 o2
  · cases e
theorem new_tup {F H : Hp} {σ : St} {δ : Sl} (ok : Ok c F H σ δ) {p : Addr} (hp : H p = none) {ds : List D} {vs : List V} (r : reps M F ds vs) : ∃ F', Same F F' ∧ Ok c F' (upd H p (.tup vs)) σ δ ∧ rep M F' (.tup ds) (.ref p) := by
  have ok1 : Ok c F (upd H p (.tup vs)) σ δ := ok.alloc hp
  have hF := ok.f hp
  have g : Same F (upd F p (.tup vs)) := fun b o e => by rw [upd_ne (ne_of_none e hF)]; exact e
  refine ⟨upd F p (.tup vs), g, ⟨fun b o e => ?_, ok.grow.trans g, fun b e1 e2 => ?_, ok1.kept, ok1.ioh, ok1.tb.frz upd_same rfl, ok.len, fun i r e => ?_, ok.dist⟩, ?_⟩
  · by_cases q : b = p
    · subst q; rw [upd_same] at e ⊢; exact e
    · rw [upd_ne q] at e ⊢; exact ok.same b o e
  · have q : b ≠ p := fun z => e1 (z ▸ ok.h0 hp)
    rw [upd_ne q]; exact ok.nofz b e1 e2
  · obtain ⟨v, e1, e2⟩ := ok1.slot i r e
    refine ⟨v, e1, ?_⟩
    cases r with
    | imm d => exact rep_mono g _ _ e2
    | own o =>
      obtain ⟨a', rfl, k1, k2, k3⟩ := e2
      have q : a' ≠ p := fun z => ok.fresh hp i _ e rfl (by rw [e1, z])
      exact ⟨a', rfl, by rw [upd_ne q]; exact k1, k2, obAt_mono g rfl k3⟩
    | brw o =>
      obtain ⟨a', rfl, k1, k2, k3⟩ := e2
      have q : a' ≠ p := fun z => ok.fresh hp i _ e rfl (by rw [e1, z])
      exact ⟨a', rfl, by rw [upd_ne q]; exact k1, k2, obAt_mono g rfl k3⟩
    | nst tp ps => exact slot_nst g e2
  · unfold rep
    exact ⟨p, vs, rfl, upd_same, reps_mono g _ _ r⟩
def intsD : List D → Option (List Int)
  | [] => some []
  | .int i :: r => (intsD r).map (i :: ·)
  | _ :: _ => none
def blsOf : List D → Option (List Bool)
  | [] => some []
  | .bl i :: r => (blsOf r).map (i :: ·)
  | _ :: _ => none
theorem intsD_v {M : Gm} {F : Hp} : ∀ {ds : List D} {vs : List V} {ns : List Int}, reps M F ds vs → intsD ds = some ns → vs = ns.map V.int
  | [], vs, ns, h, e => by unfold reps at h; unfold intsD at e; cases e; subst h; rfl
  | d :: ds, vs, ns, h, e => by
    unfold reps at h
    obtain ⟨v, r, rfl, h2, h3⟩ := h
    cases d <;> simp [intsD] at e
    obtain ⟨ms, e1, rfl⟩ := e
    unfold rep at h2
    subst h2
    rw [intsD_v h3 e1]; rfl
theorem blsOf_v {M : Gm} {F : Hp} : ∀ {ds : List D} {vs : List V} {ns : List Bool}, reps M F ds vs → blsOf ds = some ns → vs = ns.map V.bl
  | [], vs, ns, h, e => by unfold reps at h; unfold blsOf at e; cases e; subst h; rfl
  | d :: ds, vs, ns, h, e => by
    unfold reps at h
    obtain ⟨v, r, rfl, h2, h3⟩ := h
    cases d <;> simp [blsOf] at e
    obtain ⟨ms, e1, rfl⟩ := e
    unfold rep at h2
    subst h2
    rw [blsOf_v h3 e1]; rfl
def maxL : List Int → Int
  | [] => 0
  | [x] => x
  | x :: r => max x (maxL r)
def minL : List Int → Int
  | [] => 0
  | [x] => x
  | x :: r => min x (minL r)
theorem maxL_ok : ∀ {ns : List Int}, 0 < ns.length → maxL ns ∈ ns ∧ ∀ y ∈ ns, y ≤ maxL ns
  | [], h => by simp at h
  | [x], _ => by simp [maxL]
  | x :: y :: r, _ => by
    obtain ⟨h1, h2⟩ := maxL_ok (ns := y :: r) (by simp)
    unfold maxL
    constructor
    · rcases Int.le_total x (maxL (y :: r)) with h | h
      · rw [Int.max_eq_right h]; exact List.mem_cons_of_mem _ h1
      · rw [Int.max_eq_left h]; exact List.mem_cons_self
    · intro z hz
      rcases List.mem_cons.mp hz with rfl | hz
      · exact Int.le_max_left _ _
      · exact Int.le_trans (h2 z hz) (Int.le_max_right _ _)
theorem minL_ok : ∀ {ns : List Int}, 0 < ns.length → minL ns ∈ ns ∧ ∀ y ∈ ns, minL ns ≤ y
  | [], h => by simp at h
  | [x], _ => by simp [minL]
  | x :: y :: r, _ => by
    obtain ⟨h1, h2⟩ := minL_ok (ns := y :: r) (by simp)
    unfold minL
    constructor
    · rcases Int.le_total x (minL (y :: r)) with h | h
      · rw [Int.min_eq_left h]; exact List.mem_cons_self
      · rw [Int.min_eq_right h]; exact List.mem_cons_of_mem _ h1
    · intro z hz
      rcases List.mem_cons.mp hz with rfl | hz
      · exact Int.min_le_left _ _
      · exact Int.le_trans (Int.min_le_right _ _) (h2 z hz)
def gMaxL : List D → Option R
  | [.lst xs] => (intsD xs).bind fun ns => if 0 < ns.length then some (.imm (.int (maxL ns))) else none
  | _ => none
def gMinL : List D → Option R
  | [.lst xs] => (intsD xs).bind fun ns => if 0 < ns.length then some (.imm (.int (minL ns))) else none
  | _ => none
def gAll : List D → Option R
  | [.lst xs] => (blsOf xs).map fun bs => .imm (.bl (bs.all id))
  | _ => none
theorem cd_maxL {K : PySem.W.Frag} : CallD M (rMax K) gMaxL := by
  intro c F H σ δ xs ds z Q ok pxs e q
  unfold gMaxL at e
  split at e
  · obtain ⟨ns, e1, e2⟩ := Option.bind_eq_some_iff.mp e
    split at e2
    · rename_i hl
      cases e2
      obtain ⟨x, rfl, px⟩ := p1 pxs
      obtain ⟨a, vs, rfl, h2, h3⟩ := prep_lst ok.same px
      have ev := intsD_v h3 e1
      subst ev
      refine ⟨a, ns, rfl, SqL.of h2, hl, fun m hm hy => ?_⟩
      obtain ⟨k1, k2⟩ := maxL_ok hl
      have em : m = maxL ns := Int.le_antisymm (k2 m hm) (hy _ k1)
      rw [em]
      exact q _ F H (Same.refl _) ok rr_int
    · cases e2
  · cases e
theorem cd_minL {K : PySem.W.Frag} : CallD M (rMin K) gMinL := by
  intro c F H σ δ xs ds z Q ok pxs e q
  unfold gMinL at e
  split at e
  · obtain ⟨ns, e1, e2⟩ := Option.bind_eq_some_iff.mp e
    split at e2
    · rename_i hl
      cases e2
      obtain ⟨x, rfl, px⟩ := p1 pxs
      obtain ⟨a, vs, rfl, h2, h3⟩ := prep_lst ok.same px
      have ev := intsD_v h3 e1
      subst ev
      refine ⟨a, ns, rfl, SqL.of h2, hl, fun m hm hy => ?_⟩
      obtain ⟨k1, k2⟩ := minL_ok hl
      have em : m = minL ns := Int.le_antisymm (hy _ k1) (k2 m hm)
      rw [em]
      exact q _ F H (Same.refl _) ok rr_int
    · cases e2
  · cases e
theorem cd_all {K : PySem.W.Frag} : CallD M (rAll K) gAll := by
  intro c F H σ δ xs ds z Q ok pxs e q
  unfold gAll at e
  split at e
  · obtain ⟨ns, e1, rfl⟩ := Option.map_eq_some_iff.mp e
    obtain ⟨x, rfl, px⟩ := p1 pxs
    obtain ⟨a, vs, rfl, h2, h3⟩ := prep_lst ok.same px
    have ev := blsOf_v h3 e1
    subst ev
    exact ⟨a, ns, rfl, SqL.of h2, q _ F H (Same.refl _) ok rr_bl⟩
  · cases e
def gDivmod : List D → Option R
  | [.int i, .int j] => if decide (0 < j ∧ j.natAbs.log2 < 9000) then some (.imm (.tup [.int (i / j), .int (i % j)])) else none
  | _ => none
end
end
end TS

namespace TS
open PySem L2
noncomputable section
def fLst (fa : FA) : FE := fun δ => (fa δ).bind fun ds δ => if ds.length ≤ 16777216 then .ok (.own (.l ds)) δ else .bad
def fTup (fa : FA) : FD := fun δ => (fa δ).bind fun ds δ => if ds.length ≤ 16777216 then .ok (.tup ds) δ else .bad
section
variable {M : Gm} {c : Cn M} {W : WX} {X : Cx} {es : List Expr} {pos : Pos} {fa : FA}
theorem de_lst (h : DA M W X es fa) : DE M W X (.List es pos) (fLst fa) := by
  obtain ⟨t, p, h⟩ := h
  refine ⟨_, pe_lst p, fun c F H σ δ Q ok post => h c F H σ δ _ ok (Post.bind post fun ds δ1 vs F1 H1 _ s ok1 rs post => ?_)⟩
  split at post
  · rename_i hl
    refine ⟨by rw [reps_length rs, sizeLine_eq]; exact hl, fun q hq => ?_⟩
    obtain ⟨o1, o2⟩ := new_list ok1 hq rs
    exact post.ok o1 o2
  · exact post.elim
theorem di_tup {x1} (h : DA M W X es fa) : DI M W X (.Tuple es x1 pos) (fTup fa) := by
  obtain ⟨t, p, h⟩ := h
  refine ⟨_, pe_tup p, fun c F H σ δ Q ok post => h c F H σ δ _ ok (Post.bind post fun ds δ1 vs F1 H1 _ s ok1 rs post => ?_)⟩
  split at post
  · rename_i hl
    refine ⟨by rw [reps_length rs, sizeLine_eq]; exact hl, fun q hq => ?_⟩
    obtain ⟨F', g, o1, o2⟩ := new_tup ok1 hq rs
    exact post _ F' _ g o1 o2
  · exact post.elim
theorem call_divmodP {X : Cx} : CallR X (.builtin "divmod") (fun xs H Q => ∃ i j, xs = [.int i, .int j] ∧ CDivP i j ∧ ∀ p, H p = none → Q (.ref p) (upd H p (.tup [.int (i / j), .int (i % j)]))) := call_divmodW
theorem cd_divmod : CallD M (fun xs H Q => ∃ i j, xs = [.int i, .int j] ∧ CDivP i j ∧ ∀ p, H p = none → Q (.ref p) (upd H p (.tup [.int (i / j), .int (i % j)]))) gDivmod := by
  intro c F H σ δ xs ds z Q ok pxs e q
  unfold gDivmod at e
  split at e
  · rename_i i j
    split at e
    · rename_i hc
      cases e
      obtain ⟨h1, h2⟩ := of_decide_eq_true hc
      obtain ⟨x, y, rfl, px, py⟩ := p2 pxs
      cases prep_int px
      cases prep_int py
      refine ⟨_, _, rfl, ⟨h1, PyProof.noPylong_of_log2 h2⟩, fun p hp => ?_⟩
      obtain ⟨F', g, o1, o2⟩ := new_tup ok hp (ds := [.int (i / j), .int (i % j)]) (reps_cons (rep_int' _) (reps_cons (rep_int' _) reps_nil))
      exact q _ F' _ g o1 o2
    · cases e
  · cases e
end
abbrev FO := Sl → Res (Option Int)
def oNone : FO := fun δ => .ok none δ
def oSome (f : FD) : FO := fun δ => (f δ).bind fun d δ => match d with
  | .int i => .ok (some i) δ
  | _ => .bad
def cutD (xs : List D) (lo hi : Option Int) : List D := (xs.drop (HT.sIx xs.length 0 lo)).take (HT.sIx xs.length xs.length hi - HT.sIx xs.length 0 lo)
def gSl : D → Option Int → Option Int → Option R
  | .lst xs, lo, hi => some (.own (.l (cutD xs lo hi)))
  | .tup xs, lo, hi => if HT.sIx xs.length 0 lo = 0 ∧ HT.sIx xs.length xs.length hi = xs.length then none else some (.imm (.tup (cutD xs lo hi)))
  | _, _, _ => none
def fSl (fe : FD) (fl fh : FO) : FE := fun δ => (fe δ).bind fun d δ => (fl δ).bind fun lo δ => (fh δ).bind fun hi δ => match gSl d lo hi with
  | some r => .ok r δ
  | none => .bad
def fSlV (i : Nat) (fl fh : FO) : FE := fun δ => if there δ i then (fl δ).bind fun lo δ => (fh δ).bind fun hi δ => (vP i δ).bind fun d δ => match gSl d lo hi with
  | some r => .ok r δ
  | none => .bad
  else .bad
section
variable {M : Gm} {c : Cn M} {W : WX} {X : Cx} {e : Expr} {lo hi : Option Expr} {pos p2 : Pos}
def rgD (a b : Int) : List D := (List.range (b - a).toNat).map fun i => D.int (a + (i : Nat))
end
abbrev RM := V → List V → Hp → VK → Prop
def MutD (M : Gm) (r : RM) (m : List D → List D → Option (D × List D)) : Prop := ∀ (F H : Hp) (a : Addr) (vs xs : List V) (ds as : List D) (z : D) (ds' : List D) (Q : VK), Same F H → F a = none → H a = some (.lst vs) → reps M F ds vs → reps M F as xs →
  m ds as = some (z, ds') → (∀ v vs', rep M F z v → reps M F ds' vs' → Q v (upd H a (.lst vs'))) → r (.ref a) xs H Q
def getL (δ : Sl) (i : Nat) : Option (List D) := match δ[i]? with
  | some (some (.own (.l ds))) => some ds
  | some (some (.brw (.l ds))) => some ds
  | _ => none
def fMut (i : Nat) (m : List D → List D → Option (D × List D)) (fa : FA) : FD := fun δ => match getL δ i with
  | none => .bad
  | some _ => (fa δ).bind fun as δ1 => match getL δ1 i with
    | none => .bad
    | some ds => match m ds as with
      | none => .bad
      | some (z, ds') => .ok z (match δ1[i]? with
        | some (some (.own _)) => δ1.set i (some (.own (.l ds')))
        | _ => δ1.set i (some (.brw (.l ds'))))
section
variable {M : Gm} {c : Cn M} {W : WX} {X : Cx}
theorem getL_at {F H : Hp} {σ : St} {δ : Sl} {i : Nat} {ds : List D} (ok : Ok c F H σ δ) (h : getL δ i = some ds) : ∃ a vs, σ[i]? = some (some (.ref a)) ∧ F a = none ∧ H a = some (.lst vs) ∧ reps M F ds vs ∧ (δ[i]? = some (some (.own (.l ds))) ∨ δ[i]? = some (some (.brw (.l ds)))) := by
  unfold getL at h
  split at h
  · rename_i ds0 q
    cases h
    obtain ⟨v, e1, a, rfl, h1, h2, vs, h3, h4⟩ := ok.slot i _ q
    exact ⟨a, vs, e1, h1, h3, h4, .inl q⟩
  · rename_i ds0 q
    cases h
    obtain ⟨v, e1, a, rfl, h1, h2, vs, h3, h4⟩ := ok.slot i _ q
    exact ⟨a, vs, e1, h1, h3, h4, .inr q⟩
  · cases h
theorem putL_ok {F H : Hp} {σ : St} {δ : Sl} {i : Nat} {ds ds' : List D} {a : Addr} {vs' : List V} (ok : Ok c F H σ δ) (ea : σ[i]? = some (some (.ref a))) (hd : δ[i]? = some (some (.own (.l ds))) ∨ δ[i]? = some (some (.brw (.l ds)))) (r : reps M F ds' vs') :
    Ok c F (upd H a (.lst vs')) σ (match δ[i]? with
        | some (some (.own _)) => δ.set i (some (.own (.l ds')))
        | _ => δ.set i (some (.brw (.l ds')))) := by
  rcases hd with q | q
  · rw [q]
    exact ok.write (ob := .l ds) (ob' := .l ds') q (.inl ⟨rfl, rfl⟩) ea ⟨vs', upd_same, r⟩
  · rw [q]
    exact ok.write (ob := .l ds) (ob' := .l ds') q (.inr ⟨rfl, rfl⟩) ea ⟨vs', upd_same, r⟩
theorem d_mut {e o : Expr} {es : List Expr} {i : Nat} {r : RM} {m : List D → List D → Option (D × List D)} {fa : FA} (mk : ∀ {t : TA}, PA X es t → PE X e (tBM X.K "list" r (tVar i) t)) (hd : MutD M r m) (ha : DA M W X es fa) : DI M W X e (fMut i m fa) := by
  obtain ⟨t, p, h⟩ := ha
  refine ⟨_, mk p, fun c F H σ δ Q ok post => ?_⟩
  unfold fMut at post
  split at post
  · exact post.elim
  · rename_i ds0 q0
    obtain ⟨a, vs, ea, _, hl, _, _⟩ := getL_at ok q0
    refine ⟨.ref a, ea, .inl ⟨rfl, vs, SqL.of hl⟩, h c F H σ δ _ ok (Post.bind post fun as δ1 xs F1 H1 _ s1 ok1 rs post => ?_)⟩
    split at post
    · exact post.elim
    · rename_i ds q1
      obtain ⟨a', vs', ea', hf', hl', hr', hs'⟩ := getL_at ok1 q1
      rw [ea] at ea'; cases ea'
      split at post
      · exact post.elim
      · rename_i z ds' q2
        exact hd F1 H1 a vs' xs ds as z ds' Q ok1.same hf' hl' hr' rs q2 fun v vs2 rv rv2 => post.ok (putL_ok ok1 ea hs' rv2) rv
def mAppend : List D → List D → Option (D × List D)
  | ds, [d] => if ds.length < 16777216 then some (.non, ds ++ [d]) else none
  | _, _ => none
theorem md_append : MutD M rAppend mAppend := by
  intro F H a vs xs ds as z ds' Q s hf hl hr ha e q
  unfold mAppend at e
  split at e
  · split at e
    · rename_i d hlen
      cases e
      obtain ⟨v, r, rfl, h2, h3⟩ := (show ∃ v r, xs = v :: r ∧ rep M F d v ∧ reps M F [] r by unfold reps at ha; exact ha)
      unfold reps at h3
      subst h3
      exact ⟨a, vs, v, rfl, rfl, hl, by rw [reps_length hr, sizeLine_eq]; exact hlen, q _ _ rep_non' (reps_append hr (reps_cons h2 reps_nil))⟩
    · cases e
  · cases e
def mPop : List D → List D → Option (D × List D)
  | ds, [] => (ds[ds.length - 1]?).map fun d => (d, ds.dropLast)
  | ds, [.int i] => if gd (0 ≤ i ∧ i < ds.length ∧ i < 9223372036854775808) then (ds[i.toNat]?).map fun d => (d, ds.eraseIdx i.toNat) else none
  | _, _ => none
theorem reps_erase {M : Gm} {F : Hp} : ∀ {ds : List D} {vs : List V} (i : Nat), reps M F ds vs → reps M F (ds.eraseIdx i) (vs.eraseIdx i)
  | [], vs, i, h => by unfold reps at h; subst h; simp [reps]
  | d :: ds, vs, 0, h => by
    unfold reps at h
    obtain ⟨v, r, rfl, h2, h3⟩ := h
    exact h3
  | d :: ds, vs, i + 1, h => by
    unfold reps at h
    obtain ⟨v, r, rfl, h2, h3⟩ := h
    exact reps_cons h2 (reps_erase i h3)
theorem reps_dropLast {M : Gm} {F : Hp} {ds : List D} {vs : List V} (h : reps M F ds vs) : reps M F ds.dropLast vs.dropLast := by
  rw [List.dropLast_eq_take, List.dropLast_eq_take, reps_length h]
  exact reps_take _ h
def rPopAll : RM := fun x vs H Q => rPop x vs H Q ∨ rPopAt x vs H Q
theorem mt_popAll : MtM X "list.pop" rPopAll := fun pins s σ H x xs v us Q I rx rs h => h.elim (mt_pop pins s σ H x xs v us Q I rx rs) (mt_popAt pins s σ H x xs v us Q I rx rs)
theorem md_pop : MutD M rPopAll mPop := by
  intro F H a vs xs ds as z ds' Q s hf hl hr ha e q
  unfold mPop at e
  split at e
  · obtain ⟨d, e1, e2⟩ := Option.map_eq_some_iff.mp e
    cases e2
    unfold reps at ha
    subst ha
    obtain ⟨v, e3, e4⟩ := reps_get hr e1
    exact .inl ⟨a, vs, v, rfl, rfl, hl, by rw [reps_length hr]; exact e3, q _ _ e4 (reps_dropLast hr)⟩
  · rename_i i
    split at e
    · rename_i hc
      obtain ⟨h0, h1, h2⟩ := of_gd hc
      obtain ⟨d, e1, e2⟩ := Option.map_eq_some_iff.mp e
      cases e2
      obtain ⟨v, r, rfl, k2, k3⟩ := (show ∃ v r, xs = v :: r ∧ rep M F (.int i) v ∧ reps M F [] r by unfold reps at ha; exact ha)
      unfold reps at k3
      subst k3
      unfold rep at k2
      subst k2
      obtain ⟨w, e3, e4⟩ := reps_get hr e1
      refine .inr ⟨a, vs, i, i.toNat, w, rfl, rfl, hl, by omega, by omega, ?_, e3, q _ _ e4 (reps_erase _ hr)⟩
      rw [reps_length hr]
      exact seqIndex_of h0 h1
    · cases e
  · cases e
end
end
end TS

namespace TS
open PySem L2
noncomputable section
structure Room (k : Nat) (A : Around) : Prop where
  lo : L2.Room k A
  gu : A.guards = some []
theorem Room.mono {j k : Nat} {A : Around} (r : Room k A) (h : j ≤ k) : Room j A := ⟨L2.Room.mono r.lo h, r.gu⟩
theorem Room.deeper {k : Nat} {A : Around} (r : Room (k + 1) A) (env : Env) : Room k (A.deeper env) := ⟨L2.Room.deeper r.lo env, r.gu⟩
theorem Room.in1 {k : Nat} {A : Around} (r : Room (k + 1) A) : Room k A.in1 := ⟨L2.Room.in1 r.lo, r.gu⟩
theorem Room.make {k : Nat} {A : Around} (r : Room (k + 1) A) (C : Addr) (us : List Value) (kw : List (Str × Value)) : Room k (A.under (.builtin "type.__call__" ⟨.ref C :: us, kw⟩)) := by
  refine ⟨L2.Room.make r.lo C us kw, ?_⟩
  have e : (Code.builtin "type.__call__" ⟨.ref C :: us, kw⟩).isGuard = false := by
    show guardIds.contains "type.__call__" = false
    decide +kernel
  simp [Around.under, Code.guards, e, pushGuards, r.gu]
theorem Room.hd {k : Nat} {A : Around} (r : Room k A) : A.handled = none := r.lo.hd
theorem Room.depth {k : Nat} {A : Around} (r : Room k A) : A.depth < recursionLimit := L2.Room.depth r.lo
theorem Room.units {k : Nat} {A : Around} (r : Room k A) : A.units + 64 < cLine := L2.Room.units r.lo
theorem hu_of {A : Around} {k : Nat} (hr : Room k A) : A.units + 1 < cLine := L2.hu_of hr.lo
def FnR (P : Program) (w : World) (K : PySem.W.Frag) (mg : Str → Option Value) (base : Heap) (CX : CXT) (k : Nat) (f : Addr) (sp : Sp) : Prop :=
  ∀ (A : Around) (outer : List Env) (s : Shared) (H : Hp) (us : List Value) (vs : List V) (Q : VK) (E : XK), Room k A → Env0 P w K mg base A outer s H → Vals vs us → sp vs H Q E → codeAny (model P w) A (.call (.ref f) ⟨us, []⟩) (CR CX outer P w H s Q E) s
structure FnOk (P : Program) (w : World) (K : PySem.W.Frag) (mg : Str → Option Value) (base : Heap) (CX : CXT) (k : Nat) (f : Addr) (fd : FuncData) (ps : List Str) (sp : Sp) : Prop where
  len : ∀ vs H Q E, sp vs H Q E → vs.length = ps.length
  run : ∀ (A : Around) (outer : List Env) (s : Shared) (H : Hp) (args : Args) (us : List Value) (vs : List V) (Q : VK) (E : XK), Room k A → Env0 P w K mg base A outer s H → BindsTo s fd args (ps.zip us) → Vals vs us → sp vs H Q E → codeAny (model P w) A (.call (.ref f) args) (CR CX outer P w H s Q E) s
section
variable {P : Program} {w : World} {K : PySem.W.Frag} {mg : Str → Option Value} {base : Heap} {CX : CXT} {j k : Nat} {f : Addr} {fd : FuncData} {ps : List Str} {sp sp' : Sp}
theorem FnR.mono (F : FnR P w K mg base CX j f sp) (h : j ≤ k) : FnR P w K mg base CX k f sp := fun A outer s H us vs Q E hr e0 => F A outer s H us vs Q E (Room.mono hr h) e0
theorem FnR.imp (F : FnR P w K mg base CX k f sp) (h : ∀ vs H Q E, sp' vs H Q E → sp vs H Q E) : FnR P w K mg base CX k f sp' := fun A outer s H us vs Q E hr e0 rv hs => F A outer s H us vs Q E hr e0 rv (h vs H Q E hs)
theorem FnOk.mono (F : FnOk P w K mg base CX j f fd ps sp) (h : j ≤ k) : FnOk P w K mg base CX k f fd ps sp where
  len := F.len
  run := fun A outer s H args us vs Q E hr => F.run A outer s H args us vs Q E (Room.mono hr h)
theorem FnOk.raw {ds : List Value} {dvs : List V} (F : FnOk P w K mg base CX k f fd ps sp) (hb : Binds K fd ps ds) (hd : Vals dvs ds) : FnR P w K mg base CX k f (fun vs H Q E => sp (vs ++ dvs) H Q E) := by
  intro A outer s H us vs Q E hr e0 rv hs
  have rr := rv.append hd
  have lr : (us ++ ds).length = ps.length := rr.length.symm.trans (F.len _ _ _ _ hs)
  have kin : K.In s.heap := e0.mod.kin.keeps fun b o e => (e0.bs b o e).1
  exact F.run A outer s H ⟨us, []⟩ (us ++ ds) (vs ++ dvs) Q E hr e0 (hb s us kin lr) rr hs
def CodeAt (K : PySem.W.Frag) (f : Addr) (x qual : Str) (params : Arguments) (body : List Stmt) (scope : Scope) (cdv : Value) : Prop := ∃ (oc : Value) (od : Option Addr) (dV kV doc pm ct : Value) (an : Option Addr) (osl : Array (Option Value)), K.lookup f = some ⟨oc, od, .func (PySem.W.fnOf x qual params body scope dV kV doc pm an cdv ct), osl⟩
theorem FnOk.ofC {x qual : Str} {params : Arguments} {body : List Stmt} {scope : Scope} {dvs : List V} {kws : List (Str × V)} {N : List Str} (F : FunD K x qual params body scope dvs kws f fd) (S : FnScope N ps scope) (len : ∀ vs H Q E, sp vs H Q E → vs.length = ps.length)
    (hb : ∀ (cdv : Value), CodeAt K f x qual params body scope cdv → ∀ (A : Around) (outer : List Env) (s : Shared) (H : Hp) (vs : List V) (Q : VK) (E : XK), Room k (A.deeper (PyProof.Rows.envOfC qual scope s.heap.objs.size f cdv)) → sp vs H Q E →
      ∃ t, PSs (cxOf CX P w K mg base N qual scope f cdv A outer s H E) body t ∧ t { rt := Q, nx := fun _ H' => Q .non H' } (start N vs) H) : FnOk P w K mg base CX (k + 1) f fd ps sp := by
  obtain ⟨oc, od, dV, kV, doc, pm, an, cdv, ct, osl, rfl, lk, hcd, _, _⟩ := F.ex
  refine ⟨len, ?_⟩
  intro A outer s H args us vs Q E hr e0 hbn rv hs
  have kin : K.In s.heap := e0.mod.kin.keeps fun b o e => (e0.bs b o e).1
  have nl : s.heap.NoLimit := e0.mod.nolimit.keeps fun b o e => (e0.bs b o e).1
  have kinds : ∀ y ∈ ps.zip us, scope.names.lookup y.1 = some .local ∨ (scope.names.lookup y.1 = some .cell ∧ ((cellsFrom (s.heap.objs.size + 1) scope.names []).lookup y.1).isSome = true) := by
    rintro ⟨n, v⟩ hy
    have := S.par n (List.of_mem_zip hy).1
    exact this.elim Or.inl fun q => Or.inr ⟨q, PySem.W.cellsFrom_some _ _ _ (Or.inl q)⟩
  refine codeAny_call_function hr.depth (kin _ _ lk) rfl S.co S.gen rfl (PySem.W.codeRec_of kin hcd) (hbn _ _ _ _ (PySem.wpAny_newFunctionEnv_cells S.kind kinds ?_))
  rintro env rfl s1 x1
  refine ⟨nl.keeps x1.toInCall.keep, codeAny_func ?_⟩
  obtain ⟨t, pt, ht⟩ := hb cdv ⟨oc, od, dV, kV, doc, pm, ct, an, osl, lk⟩ A outer s H vs Q E (Room.deeper hr _) hs
  have I1 := inv_start (CX := CX) (E := E) S hr.hd e0 (len _ _ _ _ hs) rv x1
  refine wpAny_mono (pt.run [] s1 _ H _ I1 ht) (fun fl s2 z => ?_) fun _ _ z => z
  cases fl with
  | ret u => obtain ⟨v, σ2, H2, J, ru, q⟩ := z; exact ⟨v, H2, J.os, J.bare, J.base, J.hok, ru, q⟩
  | next => obtain ⟨σ2, H2, J, q⟩ := z; exact ⟨V.non, H2, J.os, J.bare, J.base, J.hok, rfl, q⟩
  | brk => obtain ⟨_, _, _, q⟩ := z; exact q.elim
  | cont => obtain ⟨_, _, _, q⟩ := z; exact q.elim
theorem FnOk.of {x qual : Str} {params : Arguments} {body : List Stmt} {scope : Scope} {dvs : List V} {kws : List (Str × V)} {N : List Str} (F : FunD K x qual params body scope dvs kws f fd) (S : FnScope N ps scope) (len : ∀ vs H Q E, sp vs H Q E → vs.length = ps.length)
    (hb : ∀ (cdv : Value) (A : Around) (outer : List Env) (s : Shared) (H : Hp) (vs : List V) (Q : VK) (E : XK), Room k (A.deeper (PyProof.Rows.envOfC qual scope s.heap.objs.size f cdv)) → sp vs H Q E →
      ∃ t, PSs (cxOf CX P w K mg base N qual scope f cdv A outer s H E) body t ∧ t { rt := Q, nx := fun _ H' => Q .non H' } (start N vs) H) : FnOk P w K mg base CX (k + 1) f fd ps sp := FnOk.ofC F S len fun cdv _ => hb cdv
theorem FnR.star {name qual : Str} {params : Arguments} {body : List Stmt} {scope : Scope} {dV kV doc pm cdv ct oc : Value} {an od : Option Addr} {osl : Array (Option Value)} {N : List Str} {pv : Str} (lk : K.lookup f = some ⟨oc, od, .func (PySem.W.fnOf name qual params body scope dV kV doc pm an cdv ct), osl⟩) (hcd : PySem.W.codeIn K cdv qual = true)
    (S : FnScope N (ps ++ [pv]) scope) (hCX : StX.CXUp CX)
    (hbi : ∀ us rest : List Value, us.length = ps.length → bindArgs (PySem.W.fnOf name qual params body scope dV kV doc pm an cdv ct) ⟨us ++ rest, []⟩ = (newTuple rest >>= fun t => pure (ps.zip us ++ [(pv, t)])))
    (hb : ∀ (A : Around) (outer : List Env) (s : Shared) (H : Hp) (vs : List V) (Q : VK) (E : XK), Room k (A.deeper (PyProof.Rows.envOfC qual scope s.heap.objs.size f cdv)) → sp vs H Q E →
      ∃ t, PSs (cxOf CX P w K mg base N qual scope f cdv A outer s H E) body t ∧ t { rt := Q, nx := fun _ H' => Q .non H' } (start N vs) H) :
    FnR P w K mg base CX (k + 1) f (fun vs H Q E => ∃ ws rest, vs = ws ++ rest ∧ ws.length = ps.length ∧ rest.length ≤ sizeLine ∧ ∀ p, H p = Option.none → sp (ws ++ [V.ref p]) (upd H p (.tup rest)) Q E) := by
  rintro A outer s H us _ Q E hr e0 rv ⟨ws, rest, rfl, hl, hz, hq⟩
  obtain ⟨u1, u2, rfl, r1, r2⟩ := StX.vals_split rv
  have l1 : u1.length = ps.length := r1.length.symm.trans hl
  have l2 : u2.length ≤ sizeLine := by have := r2.length; omega
  have hn : H s.heap.objs.size = Option.none := e0.hok.fresh (Nat.le_refl _)
  have kin : K.In s.heap := e0.mod.kin.keeps fun b o e => (e0.bs b o e).1
  refine codeAny_call_function hr.depth (kin _ _ lk) rfl S.co S.gen rfl (PySem.W.codeRec_of kin hcd) ?_
  rw [hbi u1 u2 l1]
  refine wpAny_bind (wpAny_newTuple (wpAny_pure ?_) l2)
  let ob : Obj := { cls := .type "tuple", data := .seq u2.toArray }
  have nw : ObjOk P w (upd H s.heap.objs.size (.tup rest)) (s.heap.push ob) s.heap.objs.size (.tup rest) := ⟨hz, u2, r2, ⟨_, Heap.get?_push_size _ rfl, rfl, _, rfl⟩⟩
  have e2 := StX.env0_laid (o := ob) e0 nw
  have un := StX.un_laid (fs := frs outer) (s := s) (o := ob) (u := .tup rest) hn
  have lz : (ws ++ [V.ref s.heap.objs.size]).length = (ps ++ [pv]).length := by simp [hl]
  have rz : Vals (ws ++ [V.ref s.heap.objs.size]) (u1 ++ [Value.ref s.heap.objs.size]) := r1.append (.cons rfl .nil)
  have ez : ps.zip u1 ++ [(pv, Value.ref s.heap.objs.size)] = (ps ++ [pv]).zip (u1 ++ [Value.ref s.heap.objs.size]) := by rw [List.zip_append l1.symm]; rfl
  rw [ez]
  have nl : (s.heap.push ob).NoLimit := e0.mod.nolimit.keeps fun b o e => (e2.bs b o e).1
  have kinds : ∀ y ∈ (ps ++ [pv]).zip (u1 ++ [Value.ref s.heap.objs.size]), scope.names.lookup y.1 = some .local ∨ (scope.names.lookup y.1 = some .cell ∧ ((cellsFrom ((s.heap.push ob).objs.size + 1) scope.names []).lookup y.1).isSome = true) := by
    rintro ⟨n, v⟩ hy
    have := S.par n (List.of_mem_zip hy).1
    exact this.elim Or.inl fun q => Or.inr ⟨q, PySem.W.cellsFrom_some _ _ _ (Or.inl q)⟩
  refine PySem.wpAny_newFunctionEnv_cells (s := { s with heap := s.heap.push ob }) S.kind kinds ?_
  rintro env rfl s1 x1
  refine ⟨nl.keeps x1.toInCall.keep, codeAny_func ?_⟩
  obtain ⟨t, pt, ht⟩ := hb A outer { s with heap := s.heap.push ob } _ _ Q E (Room.deeper hr _) (hq _ hn)
  have I1 := inv_start (CX := CX) (E := E) S hr.hd e2 lz rz x1
  refine wpAny_mono (pt.run [] s1 _ _ _ I1 ht) (fun fl s2 z => ?_) fun e s2 z => ?_
  · cases fl with
    | ret u => obtain ⟨v, σ2, H2, J, ru, q⟩ := z; exact ⟨v, H2, J.os, J.bare, un.trans J.base, J.hok, ru, q⟩
    | next => obtain ⟨σ2, H2, J, q⟩ := z; exact ⟨V.non, H2, J.os, J.bare, un.trans J.base, J.hok, rfl, q⟩
    | brk => obtain ⟨_, _, _, q⟩ := z; exact q.elim
    | cont => obtain ⟨_, _, _, q⟩ := z; exact q.elim
  · have up : ∀ e' s', CX outer (upd H s.heap.objs.size (.tup rest)) { s with heap := s.heap.push ob } E e' s' → CX outer H s E e' s' := fun e' s' => hCX outer s H _ _ E e' s' un (fun b o q => Heap.get?_push_of_some _ q) rfl
    exact wpAny_mono z (fun _ s3 y => up e s3 y) fun e' s3 y => up e' s3 y
end
abbrev CXX (X : Cx) : CXT := L2.CX X.prog X.w
section
variable {X : Cx} {W : WX} {pins : List (Addr × Obj)} {σ : St} {H : Hp} {s : Shared}
theorem run_fnRS {k : Nat} {f : Addr} {sp : Sp} {Q : VK} {us : List Value} {vs : List V} (F : FnR X.prog X.w X.K X.mg X.base (CXX X) k f sp) (hr : Room k X.A) (tk : Takes X W) (I : Inv X pins σ H s) (r : Vals vs us) (h : sp vs H Q (WE W σ)) :
    codeAny (model X.prog X.w) X.A (.call (.ref f) ⟨us, []⟩) (fun r s' => match r with | .ok (.ret v) => EP X pins σ Q v s' | .ok _ => False | .error e => X.xe e s') s := by
  refine codeAny_mono (F X.A X.stack s H us vs Q (WE W σ) hr I.env0 r h) fun r s' hq => ?_
  cases r with
  | error e => exact passAt tk σ pins H s e s' I hq
  | ok fl =>
    cases fl with
    | ret u => exact I.after hq
    | next => exact False.elim hq
    | brk => exact False.elim hq
    | cont => exact False.elim hq
theorem run_makeRS {k : Nat} {f C : Addr} {sp : Sp} {Q : VK} {us : List Value} {vs : List V} (M : Mk X.K C f) (F : FnR X.prog X.w X.K X.mg X.base (CXX X) k f sp) (hr : Room (k + 1) X.A) (tk : Takes X W) (I : Inv X pins σ H s) (r : Vals vs us)
    (h : ∀ x dx, H x = Option.none → H dx = Option.none → dx ≠ x → sp (V.ref x :: vs) (upd (upd H dx (.own x)) x (.ins C dx [])) (fun v H2 => v = .non ∧ Q (.ref x) H2) (WE W σ)) :
    wpAny (model X.prog X.w) X.A (call (.ref C) us) (EP X pins σ Q) X.xe s := by
  have hq := h (s.heap.objs.size + 1) s.heap.objs.size (I.hok.fresh (Nat.le_succ _)) (I.hok.fresh (Nat.le_refl _)) (Nat.ne_of_lt (Nat.lt_succ_self _))
  have I2 := Inv.made (C := C) I
  have r2 : Vals (V.ref (s.heap.objs.size + 1) :: vs) (Value.ref (s.heap.objs.size + 1) :: us) := .cons rfl r
  refine wpAny_call (make_map (f := f) I.kIn M.makes M.init (beq_iff_eq.mp M.fn) (codeAny_mono (F _ X.stack _ _ (Value.ref (s.heap.objs.size + 1) :: us) _ _ (WE W σ) (hr.make C us []) (I2.env0.make C us []) r2 hq) fun r s' hq' => ?_))
  cases r with
  | error e => exact passAt tk σ pins _ _ e s' I2 hq'
  | ok fl =>
    cases fl with
    | ret u =>
      obtain ⟨v, H', I3, rv, ev, q3⟩ := I2.after hq'
      subst ev
      exact ⟨rv, ⟨V.ref (s.heap.objs.size + 1), H', I3, rfl, q3⟩⟩
    | next => exact False.elim hq'
    | brk => exact False.elim hq'
    | cont => exact False.elim hq'
end
section
variable {X : Cx} {W : WX} {k : Nat} {f C : Addr} {sp : Sp} {x m : Str} {e o : Expr} {es : List Expr} {ta : TE} {t : TA} {p pos apos : Pos}
def tOwn (W : WX) (sp : Sp) (t : TA) : TE := fun σ H Q => t σ H fun vs H1 => sp vs H1 Q (WE W σ)
theorem pe_own (F : FnR X.prog X.w X.K X.mg X.base (CXX X) k f sp) (hr : Room k X.A) (tk : Takes X W) (hg : Gl X x) (hm : X.mg x = some (.ref f)) (hk : PySem.W.keepIn X.K (.ref f) = true) (ha : PA X (e :: es) t)
    (hdb : (x == ("__debug__" : Str)) = false := by decide) (he : starEach (e :: es) X.env = (false, eval e X.env) :: starEach es X.env := by rfl) (hpl : (backTo pos (starEach es X.env)).any (·.1) = false := by rfl) :
    PE X (.Call (.Name x p) (e :: es) [] pos) (tOwn W sp t) := by
  refine ⟨fun pins s σ H Q I h => ?_⟩
  refine wpAny_Call_Name_kw (ld_glob I hg hm ?_ hdb)
  refine PySem.W.callWith_K (h₀ := X.base) I.ok.mod.kin hk (thn (ha.run pos pins s σ H _ I h) fun us s1 ⟨vs, H1, I1, r, q⟩ => ⟨I1.kIn, ?_⟩) he hpl
  exact wpAny_call (run_fnRS F hr tk I1 r q)
theorem pe_ownS {te : TE} {sp_ : Pos} (F : FnR X.prog X.w X.K X.mg X.base (CXX X) k f sp) (hr : Room k X.A) (tk : Takes X W) (hg : Gl X x) (hm : X.mg x = some (.ref f)) (hk : PySem.W.keepIn X.K (.ref f) = true) (he : PE X e te)
    (hd : (x == ("__debug__" : Str)) = false := by decide) (hst : starEach [.Starred e sp_] X.env = [(true, eval e X.env)] := by rfl) :
    PE X (.Call (.Name x p) [.Starred e sp_] [] pos) (fun σ H Q => te σ H fun y H1 => ∃ a xs, y = V.ref a ∧ (SqT X.K H1 a xs ∨ SqL X.K H1 a xs) ∧ sp xs H1 Q (WE W σ)) := by
  refine ⟨fun pins s σ H Q I h => ?_⟩
  refine wpAny_Call_Name_kw (ld_glob I hg hm ?_ hd)
  refine PySem.W.callWith_S (h₀ := X.base) I.ok.mod.kin hk (thn (he.run pins s σ H _ I h) fun v s1 ⟨y, H1, I1, ry, a, xs, ey, hxs, q⟩ => ?_) hst
  subst ey
  obtain rfl : v = Value.ref a := ry
  exact StX.star_any I1 hxs fun us s2 I2 rv => ⟨I2.kIn, wpAny_call (run_fnRS F hr tk I2 rv q)⟩
def tMakeS (W : WX) (C : Addr) (sp : Sp) (t : TA) : TE := fun σ H Q => t σ H fun vs H1 => ∀ x dx, H1 x = Option.none → H1 dx = Option.none → dx ≠ x →
  sp (V.ref x :: vs) (upd (upd H1 dx (.own x)) x (.ins C dx [])) (fun v H2 => v = .non ∧ Q (.ref x) H2) (WE W σ)
theorem pe_makeS (M : Mk X.K C f) (F : FnR X.prog X.w X.K X.mg X.base (CXX X) k f sp) (hr : Room (k + 1) X.A) (tk : Takes X W) (hg : Gl X x) (hm : X.mg x = some (.ref C)) (ha : PA X (e :: es) t) (hdb : (x == ("__debug__" : Str)) = false := by decide)
    (he : starEach (e :: es) X.env = (false, eval e X.env) :: starEach es X.env := by rfl) (hpl : (backTo pos (starEach es X.env)).any (·.1) = false := by rfl) : PE X (.Call (.Name x p) (e :: es) [] pos) (tMakeS W C sp t) := by
  refine ⟨fun pins s σ H Q I h => ?_⟩
  refine wpAny_Call_Name_kw (ld_glob I hg hm ?_ hdb)
  refine PySem.W.callWith_K (h₀ := X.base) I.ok.mod.kin M.kp (thn (ha.run pos pins s σ H _ I h) fun us s1 ⟨vs, H1, I1, r, q⟩ => ⟨I1.kIn, ?_⟩) he hpl
  exact run_makeRS M F hr tk I1 r q
def tMethD (W : WX) (ok : Addr → Sp → Prop) (m : Str) (ta : TE) (t : TA) : TE := fun σ H Q => ta σ H fun x H1 => ∃ a C dx fs sp, x = .ref a ∧ H1 a = some (.ins C dx fs) ∧ ok C sp ∧ fs.lookup m = none ∧ t σ H1 fun vs H2 => sp (x :: vs) H2 Q (WE W σ)
structure MethOk (X : Cx) (k : Nat) (m : Str) (ok : Addr → Sp → Prop) : Prop where
  at_ : ∀ C sp, ok C sp → ∃ g, Cls X.K C ∧ Meth X.K C m g ∧ FnR X.prog X.w X.K X.mg X.base (CXX X) k g sp
theorem pe_methD0 {ok : Addr → Sp → Prop} {pl : Sem Bool} (he : PE X o ta) (T : MethOk X k m ok) (hr : Room k X.A) (tk : Takes X W)
    (ht : eval (.Call (.Attribute o m apos) [] [] pos) X.env = (do
      let ov ← eval o X.env
      standAt apos.atName
      let (f, first) ← holding [ov] (getMethod ov m pl)
      callWith pos f first (backTo pos (starEach [] X.env)) (backToKw pos (keywordEach [] X.env))) := by rfl) :
    PE X (.Call (.Attribute o m apos) [] [] pos) (tMethD W ok m ta tNil) := by
  refine ⟨fun pins s σ H Q I h => ?_⟩
  refine PySem.W.methodCall_KW (pl := pl) (thn (he.run pins s σ H _ I h) fun u s1 ⟨x, H1, I1, rx, a, C, dx, fs, sp, ex, ea, hok, l, q⟩ => ?_) ht
  obtain ⟨g, c, hm, F⟩ := T.at_ C sp hok
  subst ex
  obtain rfl : u = Value.ref a := rx
  refine getmeth_ok I1 ea c hm l ?_
  exact PySem.W.callWith_K0 (first := [.ref a]) I1.kIn hm.kp (wpAny_call (run_fnRS (us := [.ref a]) (vs := [.ref a]) F hr tk I1 (.cons rfl .nil) q))
end
section
variable {M : Gm} {c : Cn M} {F F' H H' : Hp} {σ : St} {δ δ' : Sl}
theorem Ok.stpTmp (ok : Ok c F H σ δ) {x : Addr} (hx : c.H0 x = none) (hns : ∀ (i : Nat) (r : R), δ[i]? = some (some r) → r.mu = true → σ[i]? ≠ some (some (V.ref x))) (st : Stp M F H F' H' (some x)) : Ok c F' H' σ δ := by
  have hio : c.io ≠ some x := fun z => c.iob x z hx
  have kp : ∀ b o, b ≠ x → H b = some o → NT o → H' b = some o := fun b o hb e n => st.kept b o e n (fun z => hb (Option.some.inj z).symm)
  refine ⟨st.same, ok.grow.trans st.grow, fun b e1 e2 => ?_, fun b o e1 e2 => ?_, fun b e1 => ?_, st.tb, ok.len, fun i r e => ?_, ok.dist⟩
  · obtain ⟨u, k1, k2⟩ := ok.hn e1
    exact st.nofz b u k1 k2 (ok.nofz b e1 e2)
  · exact kp b o (fun z => by rw [z, hx] at e1; cases e1) (ok.kept b o e1 e2) (c.nt b o e1)
  · have hb : b ≠ x := fun z => hio (z ▸ e1)
    obtain ⟨o, q1, q2⟩ := ok.ioh b e1
    exact ⟨o, kp b o hb q1 q2, q2⟩
  · obtain ⟨v, s1, s2⟩ := ok.slot i r e
    refine ⟨v, s1, ?_⟩
    cases r with
    | imm d => exact rep_mono st.grow _ _ s2
    | own o =>
      obtain ⟨b, rfl, k1, k2, k3⟩ := s2
      obtain ⟨u, hu, hn⟩ := obAt_nt k3
      have hb : b ≠ x := fun z => hns i _ e rfl (by rw [s1, z])
      exact ⟨b, rfl, st.nofz b u hu hn k1, k2, obAt_mono st.grow ((kp b u hb hu hn).trans hu.symm) k3⟩
    | brw o =>
      obtain ⟨b, rfl, k1, k2, k3⟩ := s2
      obtain ⟨u, hu, hn⟩ := obAt_nt k3
      have hb : b ≠ x := fun z => hns i _ e rfl (by rw [s1, z])
      exact ⟨b, rfl, st.nofz b u hu hn k1, k2, obAt_mono st.grow ((kp b u hb hu hn).trans hu.symm) k3⟩
    | nst tp ps => exact slot_nst st.grow s2
theorem Ok.resR' (ok : Ok c F H σ δ) (hm : ∀ (j : Nat) (r : R), δ'[j]? = some (some r) → r.mu = true → ∃ r0, δ[j]? = some (some r0) ∧ r0.mu = true) {r : R} {v : V} (h : resAt M H F' H' r v) : repR c F' H' σ δ' r v := by
  cases r with
  | imm d => exact h
  | own o =>
    obtain ⟨a, rfl, h1, h2, h3⟩ := h
    refine ⟨a, rfl, h1, ok.h1 h2, h3, fun i r e m => ?_⟩
    obtain ⟨r0, e0, m0⟩ := hm i r e m
    exact ok.fresh1 h2 i r0 e0 m0
  | brw o => exact h
  | nst tp ps =>
    obtain ⟨a, vs, h1, h2, h3⟩ := h
    refine ⟨a, vs, h1, h2, fun b hb => ⟨(h3 b hb).1, ok.h1 (h3 b hb).2, fun i r e m => ?_⟩⟩
    obtain ⟨r0, e0, m0⟩ := hm i r e m
    exact ok.fresh1 (h3 b hb).2 i r0 e0 m0
theorem set_mu {i : Nat} {r r' : R} (e : δ[i]? = some (some r)) (h : r.mu = true) : ∀ (j : Nat) (q : R), (δ.set i (some r'))[j]? = some (some q) → q.mu = true → ∃ r0, δ[j]? = some (some r0) ∧ r0.mu = true := fun j q e1 m => by
  rcases getElem?_set_some e1 with ⟨rfl, _, _⟩ | ⟨_, e2⟩
  · exact ⟨r, e, h⟩
  · exact ⟨q, e2, m⟩
end
def outE (r : FR) (δ : Sl) : Res R := match r with
  | .ok r _ => .ok r δ
  | .exc x _ => .exc x δ
  | .bad => .bad
def fOwn (f : Fm) (fa : FA) : FE := fun δ => (fa δ).bind fun ds δ1 => outE (f none ds) δ1
def fOwnIo (f : Fm) (i : Nat) (fa : FA) : FE := fun δ => match δ[i]? with
  | some (some r0) => if r0.mu then (fa δ).bind fun ds δ1 => match δ1[i]? with
      | some (some (.own o)) => (match f (some o) ds with
        | .ok r (some o') => .ok r (δ1.set i (some (.own o')))
        | .exc x (some o') => .exc x (δ1.set i (some (.own o')))
        | _ => .bad)
      | some (some (.brw o)) => (match f (some o) ds with
        | .ok r (some o') => .ok r (δ1.set i (some (.brw o')))
        | .exc x (some o') => .exc x (δ1.set i (some (.brw o')))
        | _ => .bad)
      | _ => .bad
    else .bad
  | _ => .bad
def fOwnT (f : Fm) (fe : FE) : FE := fun δ => (fe δ).bind fun r δ1 => match r with
  | .own o => outE (f (some o) []) δ1
  | _ => .bad
def fMake (n : Nat) (f : Fm) (fa : FA) : FE := fun δ => (fa δ).bind fun ds δ1 => match f (some (.o n [])) ds with
  | .ok (.imm .non) (some (.o n' vs)) => if n' = n then .ok (.own (.o n vs)) δ1 else .bad
  | .exc x _ => .exc x δ1
  | _ => .bad
def fMakeL (n i : Nat) (f : Fm) (fa : FA) : FE := fun δ => match δ[i]? with
  | some (some (.imm (.cls n'))) => if n' = n then fMake n f fa δ else .bad
  | _ => .bad
def fMeth (tab : Nat → Option Fm) (fo : FD) (fa : FA) : FE := fun δ => (fo δ).bind fun d δ1 => match d with
  | .obj n vs => (match tab n with
    | some f => (fa δ1).bind fun ds δ2 => outE (f none (.obj n vs :: ds)) δ2
    | none => .bad)
  | _ => .bad
section
variable {M : Gm} {c : Cn M} {W : WX} {X : Cx} {e : Expr} {es : List Expr} {fa : FA} {f : Fm}
theorem own_of {F H : Hp} {σ : St} {δ : Sl} {vs : List V} {ds : List D} {Q : VK} (ok : Ok c F H σ δ) (rs : reps M F ds vs) (post : Post c W F σ (ρR c σ) (outE (f none ds) δ) Q) : spD M f vs H Q (WE W σ) := by
  refine ⟨F, none, 0, vs, ds, rfl, ok.same, ok.tb, rs, trivial, ?_⟩
  unfold outE at post
  cases q : f none ds with
  | ok r io => rw [q] at post; exact fun v F' H' st ra _ => post v F' H' st.grow (ok.stp st) (ok.resR st ra)
  | exc x io => rw [q] at post; exact fun cls d F' H' st xa _ => post cls d F' H' st.grow (ok.stp st) xa
  | bad => rw [q] at post; exact post
theorem make_of {n : Nat} {C : Addr} {F1 H1 : Hp} {σ : St} {δ1 : Sl} {vs : List V} {ds : List D} {Q : VK} (ok1 : Ok c F1 H1 σ δ1) (hG : M.G n = some C) (rs : reps M F1 ds vs)
    (post : Post c W F1 σ (ρR c σ) (match f (some (.o n [])) ds with
      | .ok (.imm .non) (some (.o n' vs)) => if n' = n then .ok (.own (.o n vs)) δ1 else .bad
      | .exc x _ => .exc x δ1
      | _ => .bad) Q) {x dx : Addr} (hx : H1 x = none) (hdx : H1 dx = none) (hne : dx ≠ x) :
    spD M f (V.ref x :: vs) (upd (upd H1 dx (.own x)) x (.ins C dx [])) (fun v H2 => v = .non ∧ Q (.ref x) H2) (WE W σ) := by
  have ok2 : Ok c F1 (upd H1 dx (.own x)) σ δ1 := ok1.alloc hdx
  have hx2 : (upd H1 dx (.own x)) x = none := by rw [upd_ne (Ne.symm hne)]; exact hx
  have ok3 : Ok c F1 (upd (upd H1 dx (.own x)) x (.ins C dx [])) σ δ1 := ok2.alloc hx2
  refine ⟨F1, some (.o n []), x, vs, ds, rfl, ok3.same, ok3.tb, rs, ⟨ok1.f hx, C, dx, [], hG, upd_same, rfl, reps_nil⟩, ?_⟩
  have h0 := ok1.h0 hx
  have hns := ok1.fresh hx
  cases q : f (some (.o n [])) ds with
  | bad => rw [q] at post; exact post
  | exc xx io => rw [q] at post; exact fun cls d F' H' st xa _ => post cls d F' H' st.grow (ok3.stpTmp h0 hns st) xa
  | ok r io =>
    rw [q] at post
    intro v F' H' st ra ia
    split at post
    · rename_i n' vs' e1
      cases e1
      split at post
      · rename_i hn
        subst hn
        have ev : v = .non := by
          have z : rep M F' .non v := ra
          unfold rep at z; exact z
        refine ⟨ev, post _ F' H' st.grow (ok3.stpTmp h0 hns st) ⟨x, rfl, ia.1, h0, ia.2, hns⟩⟩
      · exact post.elim
    · rename_i e1
      cases e1
    · exact post.elim
theorem d_own (mk : ∀ {t : TA}, PA X es t → PE X e (tOwn W (spD M f) t)) (ha : DA M W X es fa) : DE M W X e (fOwn f fa) := by
  obtain ⟨t, p, h⟩ := ha
  exact ⟨_, mk p, fun c F H σ δ Q ok post => h c F H σ δ _ ok (Post.bind post fun ds δ1 vs F1 H1 _ s ok1 rs post => own_of ok1 rs post)⟩
theorem d_ownS {e1 : Expr} {fe : FD} (mk : ∀ {te : TE}, PE X e1 te → PE X e (fun σ H Q => te σ H fun y H1 => ∃ a xs, y = V.ref a ∧ (SqT X.K H1 a xs ∨ SqL X.K H1 a xs) ∧ spD M f xs H1 Q (WE W σ))) (ha : DP M W X e1 fe) (hK : X.K = M.K := by rfl) :
    DE M W X e (fun δ => (fe δ).bind fun d δ1 => match d with | .lst ds => outE (f none ds) δ1 | .tup ds => outE (f none ds) δ1 | _ => .bad) := by
  obtain ⟨t, p, h⟩ := ha
  refine ⟨_, mk p, fun c F H σ δ Q ok post => h c F H σ δ _ ok (Post.bind post fun d δ1 v F1 H1 _ s ok1 r post => ?_)⟩
  split at post
  · obtain ⟨a, vs, rfl, h2, h3⟩ := prep_lst ok1.same r
    exact ⟨a, vs, rfl, .inr (SqL.of h2), own_of ok1 h3 post⟩
  · obtain ⟨a, vs, rfl, h2, h3⟩ := prep_tup ok1.same r
    exact ⟨a, vs, rfl, .inl (by rw [hK]; exact h2), own_of ok1 h3 post⟩
  · exact post.elim
theorem d_ownIo {e0 : Expr} {i : Nat} (mk : ∀ {t : TA}, PA X (e0 :: es) t → PE X e (tOwn W (spD M f) t)) (h0 : PE X e0 (tVar i)) (ha : DA M W X es fa) (hs : starEach (e0 :: es) X.env = (false, eval e0 X.env) :: starEach es X.env := by rfl) : DE M W X e (fOwnIo f i fa) := by
  obtain ⟨t, p, h⟩ := ha
  refine ⟨_, mk (pa_cons h0 p hs), fun c F H σ δ Q ok post => ?_⟩
  unfold fOwnIo at post
  split at post
  · rename_i r0 q0
    split at post
    · rename_i hm0
      obtain ⟨a, ob0, ea, _, _, _⟩ := ok.mus q0 hm0
      refine ⟨.ref a, ea, h c F H σ δ _ ok (Post.bind post fun ds δ1 vs F1 H1 _ s1 ok1 rs post => ?_)⟩
      have fin : ∀ (r r1 : R) (ob : OB) (mkr : OB → R), δ1[i]? = some (some r1) → r1 = mkr ob → (∀ o, (mkr o).mu = true) → (mkr = R.own ∨ mkr = R.brw) →
          Post c W F1 σ (ρR c σ) (match f (some ob) ds with | .ok r (some o') => .ok r (δ1.set i (some (mkr o'))) | .exc x (some o') => .exc x (δ1.set i (some (mkr o'))) | _ => .bad) Q → spD M f (V.ref a :: vs) H1 Q (WE W σ) := by
        intro r r1 ob mkr q1 e1 hm hk post
        subst e1
        obtain ⟨a', ob1, ea', hf1, hob1, hk1⟩ := ok1.mus q1 (hm ob)
        rw [ea] at ea'; cases ea'
        have eob : ob1 = ob := by
          rcases hk with rfl | rfl
          · rcases hk1 with ⟨z, _⟩ | ⟨z, _⟩ <;> cases z; rfl
          · rcases hk1 with ⟨z, _⟩ | ⟨z, _⟩ <;> cases z; rfl
        subst eob
        have rel : ∀ o', (mkr ob1 = R.own ob1 ∧ mkr o' = R.own o') ∨ (mkr ob1 = R.brw ob1 ∧ mkr o' = R.brw o') := fun o' => by
          rcases hk with rfl | rfl
          · exact .inl ⟨rfl, rfl⟩
          · exact .inr ⟨rfl, rfl⟩
        refine ⟨F1, some ob1, a, vs, ds, rfl, ok1.same, ok1.tb, rs, ⟨hf1, hob1⟩, ?_⟩
        cases q : f (some ob1) ds with
        | bad => rw [q] at post; exact post
        | ok r io =>
          rw [q] at post
          cases io with
          | none => exact post.elim
          | some o' =>
            intro v F' H' st ra ia
            exact post v F' H' st.grow (ok1.stpIo q1 (rel o') ea st ia) (ok1.resR' (set_mu q1 (hm _)) ra)
        | exc x io =>
          rw [q] at post
          cases io with
          | none => exact post.elim
          | some o' =>
            intro cls d F' H' st xa ia
            exact post cls d F' H' st.grow (ok1.stpIo q1 (rel o') ea st ia) xa
      split at post
      · rename_i o q1
        exact fin (.imm .non) _ o R.own q1 rfl (fun _ => rfl) (.inl rfl) post
      · rename_i o q1
        exact fin (.imm .non) _ o R.brw q1 rfl (fun _ => rfl) (.inr rfl) post
      · exact post.elim
    · exact post.elim
  · exact post.elim
theorem d_make {n : Nat} {C : Addr} (mk : ∀ {t : TA}, PA X es t → PE X e (tMakeS W C (spD M f) t)) (hG : M.G n = some C) (ha : DA M W X es fa) : DE M W X e (fMake n f fa) := by
  obtain ⟨t, p, h⟩ := ha
  refine ⟨_, mk p, fun c F H σ δ Q ok post => h c F H σ δ _ ok (Post.bind post fun ds δ1 vs F1 H1 _ s1 ok1 rs post => fun x dx hx hdx hne => ?_)⟩
  exact make_of ok1 hG rs post hx hdx hne
theorem lookup_none {α : Type} : ∀ {fs : List (Str × α)} {m : Str}, m ∉ fs.map (·.1) → fs.lookup m = none
  | [], m, _ => rfl
  | (k, v) :: r, m, h => by
    have h1 : m ≠ k := fun z => h (by simp [z])
    have h2 : m ∉ r.map (·.1) := fun z => h (by simp [z])
    have e : (m == k) = false := by simpa using h1
    simp only [List.lookup, e]
    exact lookup_none h2
def okM (M : Gm) (tab : Nat → Option Fm) : Addr → Sp → Prop := fun C sp => ∃ n f, tab n = some f ∧ M.G n = some C ∧ sp = spD M f
theorem methOk_of {k : Nat} {m : Str} {tab : Nat → Option Fm} {M : Gm} (h : ∀ n f, tab n = some f → ∃ C g, M.G n = some C ∧ Cls X.K C ∧ Meth X.K C m g ∧ FnR X.prog X.w X.K X.mg X.base (CXX X) k g (spD M f)) : MethOk X k m (okM M tab) := ⟨fun C sp ⟨n, f, h1, h2, h3⟩ => by
  obtain ⟨C', g, k1, k2, k3, k4⟩ := h n f h1
  rw [h2] at k1; cases k1
  subst h3
  exact ⟨g, k2, k3, k4⟩⟩
theorem lookup_at {α : Type} : ∀ {fs : List (Str × α)} {j : Nat} {f : Str} {v : α}, (fs.map (·.1))[j]? = some f → f ∉ (fs.map (·.1)).take j → (fs.map (·.2))[j]? = some v → fs.lookup f = some v
  | [], j, f, v, h, _, _ => by simp at h
  | (k, w) :: r, 0, f, v, h, _, hv => by
    simp at h hv
    subst h hv
    simp [List.lookup]
  | (k, w) :: r, j + 1, f, v, h, hn, hv => by
    simp at h hv
    simp only [List.map_cons, List.take_succ_cons, List.mem_cons, not_or] at hn
    have e : (f == k) = false := by simpa using hn.1
    simp only [List.lookup, e]
    exact lookup_at (by simpa using h) hn.2 (by simpa using hv)
def fFld (ix : Nat → Option Nat) (fo : FD) : FD := fun δ => (fo δ).bind fun d δ1 => match d with
  | .obj n vs => (match ix n with
    | some j => (match vs[j]? with
      | some d => .ok d δ1
      | none => .bad)
    | none => .bad)
  | _ => .bad
def FldT (M : Gm) (f : Str) (ix : Nat → Option Nat) : Prop := ∀ n j, ix n = some j → (∀ C, M.G n = some C → Cls M.K C ∧ NoAttr M.K C f) ∧ (M.nm n)[j]? = some f ∧ f ∉ (M.nm n).take j
theorem fld_look {M : Gm} {f : Str} {ix : Nat → Option Nat} (T : FldT M f ix) {F : Hp} {n j : Nat} {vs : List D} {fs : List (Str × V)} {d : D} (hj : ix n = some j) (h3 : fs.map (·.1) = (M.nm n).take vs.length) (h4 : reps M F vs (fs.map (·.2))) (hd : vs[j]? = some d) : ∃ v, fs.lookup f = some v ∧ rep M F d v := by
  obtain ⟨_, k1, k2⟩ := T n j hj
  obtain ⟨v, e1, e2⟩ := reps_get h4 hd
  have hl : j < vs.length := (List.getElem?_eq_some_iff.mp hd).1
  refine ⟨v, lookup_at (j := j) ?_ ?_ e1, e2⟩
  · rw [h3, List.getElem?_take_of_lt hl]; exact k1
  · rw [h3, List.take_take, Nat.min_eq_left (Nat.le_of_lt hl)]; exact k2
theorem di_fld {o : Expr} {f : Str} {pos : Pos} {ix : Nat → Option Nat} {fo : FD} (T : FldT M f ix) (ho : DP M W X o fo) (hK : X.K = M.K := by rfl) (hb : attributeBase o f X.env (eval o X.env) = eval o X.env := by rfl) : DI M W X (.Attribute o f pos) (fFld ix fo) := by
  obtain ⟨ta, pa, ho⟩ := ho
  refine ⟨_, pe_fld pa hb, fun c F H σ δ Q ok post => ho c F H σ δ _ ok (Post.bind post fun d δ1 v F1 H1 _ s1 ok1 r post => ?_)⟩
  split at post
  · rename_i n vs _
    split at post
    · rename_i j hj
      split at post
      · rename_i d hd
        obtain ⟨a, C, dx, fs, rfl, h1, h2, h3, h4⟩ := prep_obj ok1.same r
        obtain ⟨w, e1, e2⟩ := fld_look T hj h3 h4 hd
        obtain ⟨k1, k2⟩ := (T n j hj).1 C h1
        exact ⟨a, C, dx, fs, w, rfl, h2, by rw [hK]; exact k1, by rw [hK]; exact k2, e1, post.ok ok1 e2⟩
      · exact post.elim
    · exact post.elim
  · exact post.elim
def fProp (tab : Nat → Option Fm) (fo : FD) : FD := fun δ => (fo δ).bind fun d δ1 => match d with
  | .obj n vs => (match tab n with
    | some f => (match f none [.obj n vs] with
      | .ok (.imm d) _ => .ok d δ1
      | _ => .bad)
    | none => .bad)
  | _ => .bad
end
end
end TS

namespace TS
open PySem L2
noncomputable section
section
variable {M : Gm} {c : Cn M} {W : WX} {X : Cx}
section
variable {X : Cx} {pins : List (Addr × Obj)} {σ : St} {H : Hp} {s : Shared} {k : Nat} {C p g : Addr} {mc : Value} {sp : Sp} {o e : Expr} {es : List Expr} {m : Str} {pos apos : Pos} {ta : TE} {t : TA} {pl : Sem Bool}
end
def fCMeth (n : Nat) (f : Fm) (fa : FA) : FE := fun δ => (fa δ).bind fun ds δ1 => outE (f none (.cls n :: ds)) δ1
end
def PostS (c : Cn M) (W : WX) (F : Hp) (r : SR) (E : Ends) : Prop := match r with
  | .nx δ' => ∀ F' H' σ', Same F F' → Ok c F' H' σ' δ' → E.nx σ' H'
  | .rt r δ' => ∀ v F' H' σ', Same F F' → Ok c F' H' σ' δ' → repR c F' H' σ' δ' r v → E.rt v H'
  | .bk δ' => ∀ F' H' σ', Same F F' → Ok c F' H' σ' δ' → E.bk σ' H'
  | .ct δ' => ∀ F' H' σ', Same F F' → Ok c F' H' σ' δ' → E.ct σ' H'
  | .exc x δ' => ∀ cls d F' H' σ', Same F F' → Ok c F' H' σ' δ' → xAt M F' x cls d H' → W cls d σ' H'
  | .bad => False
def DS (M : Gm) (W : WX) (X : Cx) (s : Stmt) (g : FS) : Prop := ∃ t, PS X s t ∧ ∀ (c : Cn M) F H σ δ E, Ok c F H σ δ → PostS c W F (g δ) E → t E σ H
def DSs (M : Gm) (W : WX) (X : Cx) (s : List Stmt) (g : FS) : Prop := ∃ t, PSs X s t ∧ ∀ (c : Cn M) F H σ δ E, Ok c F H σ δ → PostS c W F (g δ) E → t E σ H
def SR.bind (m : SR) (k : Sl → SR) : SR := match m with
  | .nx δ => k δ
  | r => r
@[simp] theorem SR.bind_nx (δ : Sl) (k : Sl → SR) : (SR.nx δ).bind k = k δ := rfl
@[simp] theorem SR.bind_rt (r : R) (δ : Sl) (k : Sl → SR) : (SR.rt r δ).bind k = .rt r δ := rfl
@[simp] theorem SR.bind_exc (r : XD) (δ : Sl) (k : Sl → SR) : (SR.exc r δ).bind k = .exc r δ := rfl
section
variable {M : Gm} {c : Cn M} {W : WX} {X : Cx} {F F1 H H1 : Hp} {σ : St} {δ : Sl}
theorem PostS.shift {r : SR} {E : Ends} (h : PostS c W F r E) (g : Same F F1) : PostS c W F1 r E := by
  cases r with
  | nx δ' => exact fun F' H' σ' s => h F' H' σ' (g.trans s)
  | rt r δ' => exact fun v F' H' σ' s => h v F' H' σ' (g.trans s)
  | bk δ' => exact fun F' H' σ' s => h F' H' σ' (g.trans s)
  | ct δ' => exact fun F' H' σ' s => h F' H' σ' (g.trans s)
  | exc x δ' => exact fun cls d F' H' σ' s => h cls d F' H' σ' (g.trans s)
  | bad => exact h
theorem PostS.bind {m : SR} {k : Sl → SR} {E : Ends} {N : St → Hp → Prop} (h : PostS c W F (m.bind k) E) (f : ∀ δ1 F1 H1 σ1, m = .nx δ1 → Same F F1 → Ok c F1 H1 σ1 δ1 → PostS c W F1 (k δ1) E → N σ1 H1) : PostS c W F m { E with nx := N } := by
  cases m with
  | nx δ' => exact fun F' H' σ' s ok => f δ' F' H' σ' rfl s ok (PostS.shift h s)
  | rt r δ' => exact h
  | bk δ' => exact h
  | ct δ' => exact h
  | exc x δ' => exact h
  | bad => exact h
theorem PostS.ofE {α β : Type} {ρ : Hp → Hp → Sl → α → β → Prop} {m : Res α} {k : α → Sl → SR} {E : Ends} {T : β → Hp → Prop} (h : PostS c W F (m.bindS k) E)
    (f : ∀ a δ1 v F1 H1, m = .ok a δ1 → Same F F1 → Ok c F1 H1 σ δ1 → ρ F1 H1 δ1 a v → PostS c W F1 (k a δ1) E → T v H1) : Post c W F σ ρ m T := by
  cases m with
  | ok a δ' => exact fun v F' H' s ok r => f a δ' v F' H' rfl s ok r (PostS.shift h s)
  | exc x δ' => exact fun cls d F' H' s ok r => h cls d F' H' σ s ok r
  | bad => exact h
def sSeq (f g : FS) : FS := fun δ => (f δ).bind g
def sNil : FS := fun δ => .nx δ
theorem dss_nil : DSs M W X [] sNil := ⟨_, pss_nil, fun c F H σ δ E ok post => post F H σ (Same.refl _) ok⟩
theorem dss_cons {s : Stmt} {ss : List Stmt} {f g : FS} (h : DS M W X s f) (h' : DSs M W X ss g) : DSs M W X (s :: ss) (sSeq f g) := by
  obtain ⟨t, p, h⟩ := h
  obtain ⟨t', p', h'⟩ := h'
  exact ⟨_, pss_cons p p', fun c F H σ δ E ok post => h c F H σ δ _ ok (PostS.bind post fun δ1 F1 H1 σ1 _ s1 ok1 post => h' c F1 H1 σ1 δ1 E ok1 post)⟩
theorem dss_one {s : Stmt} {f : FS} (h : DS M W X s f) : DSs M W X [s] f := by
  obtain ⟨t, p, h⟩ := h
  exact ⟨_, pss_one p, h⟩
def sRet (f : FE) : FS := fun δ => (f δ).bindS fun r δ1 => .rt r δ1
theorem ds_ret {e : Expr} {pos : Pos} {f : FE} (h : DE M W X e f) : DS M W X (.Return (some e) pos) (sRet f) := by
  obtain ⟨t, p, h⟩ := h
  exact ⟨_, ps_ret p, fun c F H σ δ E ok post => h c F H σ δ _ ok (PostS.ofE post fun r δ1 v F1 H1 _ s ok1 rr post => post v F1 H1 σ (Same.refl _) ok1 rr)⟩
def sExpr (f : FE) : FS := fun δ => (f δ).bindS fun _ δ1 => .nx δ1
theorem ds_expr {e : Expr} {pos : Pos} {f : FE} (h : DE M W X e f) (hs : swapsWith e none pos.line X.env = pure false := by rfl) : DS M W X (.Expr e pos) (sExpr f) := by
  obtain ⟨t, p, h⟩ := h
  exact ⟨_, ps_expr p hs, fun c F H σ δ E ok post => h c F H σ δ _ ok (PostS.ofE post fun r δ1 v F1 H1 _ s ok1 rr post => post F1 H1 σ (Same.refl _) ok1)⟩
def sIf (t : FT) (f g : FS) : FS := fun δ => (t δ).bindS fun b δ1 => if b then f δ1 else g δ1
theorem ds_if {e : Expr} {ss ss' : List Stmt} {pos : Pos} {t : FT} {f g : FS} (h : DT M W X e t) (ha : DSs M W X ss f) (hb : DSs M W X ss' g) : DS M W X (.If e ss ss' pos) (sIf t f g) := by
  obtain ⟨t, p, h⟩ := h
  obtain ⟨ta, pa, ha⟩ := ha
  obtain ⟨tb, pb, hb⟩ := hb
  refine ⟨_, ps_if p pa pb, fun c F H σ δ E ok post => h c F H σ δ _ ok (PostS.ofE post fun b δ1 k F1 H1 _ s ok1 e post => ?_)⟩
  cases (show b = k from e)
  cases b with
  | true => exact ha c F1 H1 σ δ1 E ok1 post
  | false => exact hb c F1 H1 σ δ1 E ok1 post
def sNev : FS := fun _ => .bad
def DG (M : Gm) (W : WX) (X : Cx) (tg : Expr) (h : R → Sl → SR) : Prop := ∃ g, PG X tg g ∧ ∀ (c : Cn M) F H σ δ v r (Q : St → Hp → Prop), Ok c F H σ δ → repR c F H σ δ r v → PostS c W F (h r δ) ⟨Q, fun _ _ => False, fun _ _ => False, fun _ _ => False⟩ → g v σ H Q
def tName (i : Nat) : R → Sl → SR := fun r δ => match r with
  | .brw _ => .bad
  | .nst _ _ => .bad
  | r => .nx (δ.set i (some r))
theorem dg_name {tg : Expr} {i : Nat} (h : PG X tg (gName i)) : DG M W X tg (tName i) := by
  refine ⟨_, h, fun c F H σ δ v r Q ok rr post => ?_⟩
  unfold tName at post
  cases r with
  | imm d => exact post F H _ (Same.refl _) (ok.setI i rr)
  | own o => exact post F H _ (Same.refl _) (ok.setO i rr)
  | brw o => exact post.elim
  | nst _ _ => exact post.elim
def DGs (M : Gm) (W : WX) (X : Cx) (ts : List Expr) (h : List D → Sl → SR) : Prop := ∃ g, PGs X ts g ∧ ∀ (c : Cn M) F H σ δ vs ds (Q : St → Hp → Prop), Ok c F H σ δ → reps M F ds vs → PostS c W F (h ds δ) ⟨Q, fun _ _ => False, fun _ _ => False, fun _ _ => False⟩ → g vs σ H Q
def tsNil : List D → Sl → SR := fun ds δ => match ds with
  | [] => .nx δ
  | _ => .bad
def tsCons (h : R → Sl → SR) (hs : List D → Sl → SR) : List D → Sl → SR := fun ds δ => match ds with
  | d :: ds => (h (.imm d) δ).bind (hs ds)
  | [] => .bad
theorem dgs_nil : DGs M W X [] tsNil := ⟨_, pgs_nil, fun c F H σ δ vs ds Q ok rs post => by
  unfold tsNil at post
  split at post
  · unfold reps at rs
    exact ⟨rs, post F H σ (Same.refl _) ok⟩
  · exact post.elim⟩
theorem dgs_cons {e : Expr} {es : List Expr} {h : R → Sl → SR} {hs : List D → Sl → SR} (h1 : DG M W X e h) (h2 : DGs M W X es hs) (hq : (assignEach (e :: es) X.env).map (·.2) = assign e X.env :: (assignEach es X.env).map (·.2) := by rfl) : DGs M W X (e :: es) (tsCons h hs) := by
  obtain ⟨g, p, h1⟩ := h1
  obtain ⟨g', p', h2⟩ := h2
  refine ⟨_, pgs_cons p p' hq, fun c F H σ δ vs ds Q ok rs post => ?_⟩
  unfold tsCons at post
  split at post
  · rename_i d ds
    unfold reps at rs
    obtain ⟨v, r, rfl, k1, k2⟩ := rs
    exact ⟨v, r, rfl, h1 c F H σ δ v (.imm d) _ ok k1 (PostS.bind post fun δ1 F1 H1 σ1 _ s1 ok1 post => h2 c F1 H1 σ1 δ1 r ds Q ok1 (reps_mono s1 _ _ k2) post)⟩
  · exact post.elim
def tTup (n : Nat) (hs : List D → Sl → SR) : R → Sl → SR := fun r δ => match r with
  | .imm (.tup ds) => if ds.length = n then hs ds δ else .bad
  | .imm (.ktp ns) => if ns.length = n then hs (ns.map D.int) δ else .bad
  | _ => .bad
theorem dg_tup {es : List Expr} {k n : Nat} {pos : Pos} {hs : List D → Sl → SR} (hc : X.calm = true) (h : DGs M W X es hs) (hK : X.K = M.K := by rfl) (hn : (assignEach es X.env).length = n := by rfl) (hst : (assignEach es X.env).findIdx? (·.1) = none := by rfl) : DG M W X (.Tuple es k pos) (tTup n hs) := by
  obtain ⟨g, p, h⟩ := h
  refine ⟨_, pg_tup hc p hn hst, fun c F H σ δ v r Q ok rr post => ?_⟩
  unfold tTup at post
  split at post
  · split at post
    · rename_i ds hl
      have z : rep M F (.tup ds) v := rr
      unfold rep at z
      obtain ⟨a, vs, rfl, h2, h3⟩ := z
      exact ⟨a, vs, rfl, by rw [hK]; exact SqT.of (ok.same _ _ h2), by rw [reps_length h3]; exact hl, h c F H σ δ vs ds Q ok h3 post⟩
    · exact post.elim
  · split at post
    · rename_i ns hl
      have z : rep M F (.ktp ns) v := rr
      unfold rep at z
      obtain ⟨a, rfl, h2⟩ := z
      exact ⟨a, _, rfl, by rw [hK]; exact ktup_sq h2, by rw [List.length_map]; exact hl, h c F H σ δ _ _ Q ok (reps_kt ns) post⟩
    · exact post.elim
  · exact post.elim
def rSetAll : V → V → V → Hp → (Hp → Prop) → Prop := fun o i v H Q => rSetL o i v H Q ∨ ∃ a H', o = .ref a ∧ DPut H a i v H' ∧ Q H'
theorem set_all (hu : X.A.units + 1 < cLine) : PSet X rSetAll := by
  intro pins s σ H o i v ov iv u Q I ro ri rv h
  rcases h with h | ⟨a, H', rfl, g, q⟩
  · exact set_list pins s σ H o i v ov iv u Q I ro ri rv h
  · obtain rfl : ov = Value.ref a := ro
    exact d_setItem hu I g ri rv fun s4 I4 => ⟨H', I4, q⟩
def repD {κ : Type} [DecidableEq κ] (k : κ) (d : D) : List κ → List D → List D
  | k' :: ks, d' :: ds => (if k' = k then d else d') :: repD k d ks ds
  | _, ds => ds
def putD {κ : Type} [DecidableEq κ] (ks : List κ) (ds : List D) (k : κ) (d : D) : List κ × List D := if (ks.any fun k' => decide (k' = k)) = true then (ks, repD k d ks ds) else (ks ++ [k], ds ++ [d])
theorem putD_v {M : Gm} {F : Hp} {κ : Type} [DecidableEq κ] {v : V} {d : D} (hv : rep M F d v) (k : κ) {kvs : List (κ × V)} {ds : List D} (h : reps M F ds (kvs.map (·.2))) : (putK kvs k v).map (·.1) = (putD (kvs.map (·.1)) ds k d).1 ∧ reps M F (putD (kvs.map (·.1)) ds k d).2 ((putK kvs k v).map (·.2)) := by
  unfold putK putD
  have e : ((kvs.map (·.1)).any fun k' => decide (k' = k)) = kvs.any fun kv => decide (kv.1 = k) := by rw [List.any_map]; rfl
  rw [e]
  by_cases hc : (kvs.any fun kv => decide (kv.1 = k)) = true
  · rw [if_pos hc, if_pos hc]
    clear hc e
    constructor
    · rw [List.map_map]
      refine List.map_congr_left fun p _ => ?_
      simp only [Function.comp]
      split <;> rfl
    · show reps M F (repD k d (kvs.map (·.1)) ds) _
      induction kvs generalizing ds with
      | nil =>
        unfold reps at h
        cases ds with
        | nil => simp [repD, reps]
        | cons d' ds => obtain ⟨_, _, z, _⟩ := h; cases z
      | cons p r ih =>
        cases ds with
        | nil => unfold reps at h; cases h
        | cons d' ds =>
          rw [List.map_cons, reps_cons_iff] at h
          simp only [List.map_cons, repD]
          refine reps_cons ?_ (ih h.2)
          by_cases z : p.1 = k
          · rw [if_pos z, if_pos z]; exact hv
          · rw [if_neg z, if_neg z]; exact h.1
  · rw [if_neg hc, if_neg hc]
    exact ⟨by simp, by rw [List.map_append]; exact reps_append h (reps_cons hv reps_nil)⟩
def setOB : OB → D → D → Option OB
  | .l ds, .int i, d => (ixN ds.length i).map fun j => .l (ds.set j d)
  | .dK ks ds, k, d => (keyOf k).bind fun k => if ds.length < 16777216 then some (.dK (putD ks ds k d).1 (putD ks ds k d).2) else none
  | .dT ks ds, .tup kds, d => (keysOf kds).bind fun k => if ds.length < 16777216 then some (.dT (putD ks ds k d).1 (putD ks ds k d).2) else none
  | _, _, _ => none
def tSub (x : Nat) (fi : FD) : R → Sl → SR := fun r δ => match r with
  | .imm d => (match δ[x]? with
    | some (some r0) => if r0.mu then (fi δ).bindS fun i δ1 => match δ1[x]? with
      | some (some (.own o)) => (match setOB o i d with
        | some o' => .nx (δ1.set x (some (.own o')))
        | none => .bad)
      | some (some (.brw o)) => (match setOB o i d with
        | some o' => .nx (δ1.set x (some (.brw o')))
        | none => .bad)
      | _ => .bad
      else .bad
    | _ => .bad)
  | _ => .bad
theorem setOB_ok {F H : Hp} {ob ob' : OB} {a : Addr} {vi vd : V} {di d : D} {Q : Hp → Prop} (s : Same F H) (hob : obAt M F H ob a) (ri : rep M F di vi) (rd : rep M F d vd) (e : setOB ob di d = some ob') (q : ∀ o, obAt M F (upd H a o) ob' a → Q (upd H a o)) : rSetAll (.ref a) vi vd H Q := by
  unfold setOB at e
  split at e
  · rename_i ds i
    obtain ⟨j, e1, rfl⟩ := Option.map_eq_some_iff.mp e
    obtain ⟨vs, h1, h2⟩ := hob
    unfold rep at ri
    refine .inl ⟨a, vs, i, j, rfl, ri, h1, by rw [reps_length h2]; exact e1, q _ ⟨_, upd_same, reps_set j h2 rd⟩⟩
  · rename_i ks ds k
    obtain ⟨kk, e1, e2⟩ := Option.bind_eq_some_iff.mp e
    split at e2
    · rename_i hl
      cases e2
      obtain ⟨kvs, h1, h2, h3⟩ := hob
      subst h2
      obtain ⟨p1, p2⟩ := putD_v rd kk h3
      have ek := keyOf_v (M := M) (H := H) (.inl ri) e1
      subst ek
      refine .inr ⟨a, _, rfl, DPut.k h1 ?_, q _ ⟨_, upd_same, p1, p2⟩⟩
      have z := reps_length h3
      rw [List.length_map] at z
      rw [z, sizeLine_eq]; exact hl
    · cases e2
  · rename_i ks ds kds
    obtain ⟨kk, e1, e2⟩ := Option.bind_eq_some_iff.mp e
    split at e2
    · rename_i hl
      cases e2
      obtain ⟨kvs, h1, h2, h3⟩ := hob
      subst h2
      obtain ⟨p1, p2⟩ := putD_v rd kk h3
      obtain ⟨b, rfl, hb⟩ := prep_tupK s (.inl ri) e1
      refine .inr ⟨a, _, rfl, DPut.t h1 hb ?_, q _ ⟨_, upd_same, p1, p2⟩⟩
      have z := reps_length h3
      rw [List.length_map] at z
      rw [z, sizeLine_eq]; exact hl
    · cases e2
  · cases e
theorem dg_sub {o ie : Expr} {x : Nat} {pos : Pos} {fi : FD} (ho : PE X o (tVar x)) (hi : DI M W X ie fi) (hu : X.A.units + 1 < cLine)
    (ha : ∀ v, assign (.Subscript o ie pos) X.env v = (do
      let ov ← holding [v] (eval o X.env)
      let iv ← holding [v, ov] (eval ie X.env)
      standAt pos
      holding [v, ov, iv] (setItem ov iv v)
      release [v, ov, iv] []) := by intro _; rfl) : DG M W X (.Subscript o ie pos) (tSub x fi) := by
  obtain ⟨ti, pi, hi⟩ := hi
  refine ⟨_, pg_sub ho pi (set_all hu) ha, fun c F H σ δ v r Q ok rr post => ?_⟩
  unfold tSub at post
  cases r with
  | own o => exact post.elim
  | brw o => exact post.elim
  | nst _ _ => exact post.elim
  | imm d =>
    simp only at post
    split at post
    · rename_i r0 q0
      split at post
      · rename_i hm
        obtain ⟨a, ob0, ea, _, _, _⟩ := ok.mus q0 hm
        refine ⟨.ref a, ea, hi c F H σ δ _ ok (PostS.ofE post fun di δ1 vi F1 H1 _ s1 ok1 ri post => ?_)⟩
        split at post
        · rename_i ob q1
          split at post
          · rename_i ob' e1
            obtain ⟨a', ob1, ea', hf, hob, hk⟩ := ok1.mus q1 rfl
            rw [ea] at ea'; cases ea'
            rcases hk with ⟨z, _⟩ | ⟨z, _⟩ <;> cases z
            refine setOB_ok ok1.same hob ri (rep_mono s1 _ _ rr) e1 fun o' hob' => post F1 _ σ (Same.refl _) (ok1.write q1 (.inl ⟨rfl, rfl⟩) ea hob')
          · exact post.elim
        · rename_i ob q1
          split at post
          · rename_i ob' e1
            obtain ⟨a', ob1, ea', hf, hob, hk⟩ := ok1.mus q1 rfl
            rw [ea] at ea'; cases ea'
            rcases hk with ⟨z, _⟩ | ⟨z, _⟩ <;> cases z
            refine setOB_ok ok1.same hob ri (rep_mono s1 _ _ rr) e1 fun o' hob' => post F1 _ σ (Same.refl _) (ok1.write q1 (.inr ⟨rfl, rfl⟩) ea hob')
          · exact post.elim
        · exact post.elim
      · exact post.elim
    · exact post.elim
def sAsg (f : FE) (h : R → Sl → SR) : FS := fun δ => (f δ).bindS h
theorem asg_of {t : TE} {g : TG} {f : FE} {h : R → Sl → SR} (he : RE M W t f) (hg : ∀ (c : Cn M) F H σ δ v r (Q : St → Hp → Prop), Ok c F H σ δ → repR c F H σ δ r v → PostS c W F (h r δ) ⟨Q, fun _ _ => False, fun _ _ => False, fun _ _ => False⟩ → g v σ H Q)
    (hn : ∀ r δ, (∃ δ', h r δ = .nx δ') ∨ (∃ x δ', h r δ = .exc x δ') ∨ h r δ = .bad) : ∀ (c : Cn M) F H σ δ E, Ok c F H σ δ → PostS c W F (sAsg f h δ) E → tAsg t g E σ H := fun c F H σ δ E ok post =>
  he c F H σ δ _ ok (PostS.ofE post fun r δ1 v F1 H1 _ s ok1 rr post => hg c F1 H1 σ δ1 v r _ ok1 rr (by
    rcases hn r δ1 with ⟨δ', e⟩ | ⟨x, δ', e⟩ | e
    · rw [e] at post ⊢; exact post
    · rw [e] at post ⊢; exact post
    · rw [e] at post ⊢; exact post))
def Tgt (h : R → Sl → SR) : Prop := ∀ r δ, (∃ δ', h r δ = .nx δ') ∨ (∃ x δ', h r δ = .exc x δ') ∨ h r δ = .bad
def Tgs (h : List D → Sl → SR) : Prop := ∀ r δ, (∃ δ', h r δ = .nx δ') ∨ (∃ x δ', h r δ = .exc x δ') ∨ h r δ = .bad
theorem tgt_name (i : Nat) : Tgt (tName i) := fun r δ => by
  unfold tName
  cases r with
  | imm d => exact .inl ⟨_, rfl⟩
  | own d => exact .inl ⟨_, rfl⟩
  | brw d => exact .inr (.inr rfl)
  | nst _ _ => exact .inr (.inr rfl)
theorem tgs_nil : Tgs tsNil := fun r δ => by
  unfold tsNil
  cases r with
  | nil => exact .inl ⟨_, rfl⟩
  | cons d ds => exact .inr (.inr rfl)
theorem tgs_cons {h : R → Sl → SR} {hs : List D → Sl → SR} (h1 : Tgt h) (h2 : Tgs hs) : Tgs (tsCons h hs) := fun r δ => by
  unfold tsCons
  cases r with
  | nil => exact .inr (.inr rfl)
  | cons d ds =>
    simp only
    rcases h1 (.imm d) δ with ⟨δ', e⟩ | ⟨x, δ', e⟩ | e
    · rw [e]; exact h2 ds δ'
    · rw [e]; exact .inr (.inl ⟨x, δ', rfl⟩)
    · rw [e]; exact .inr (.inr rfl)
theorem tgt_tup {n : Nat} {hs : List D → Sl → SR} (h : Tgs hs) : Tgt (tTup n hs) := fun r δ => by
  unfold tTup
  split
  · split
    · exact h _ _
    · exact .inr (.inr rfl)
  · split
    · exact h _ _
    · exact .inr (.inr rfl)
  · exact .inr (.inr rfl)
theorem tgt_sub {x : Nat} {fi : FD} : Tgt (tSub x fi) := fun r δ => by
  unfold tSub
  split
  · split
    · split
      · cases fi δ with
        | bad => exact .inr (.inr rfl)
        | exc x δ' => exact .inr (.inl ⟨x, δ', rfl⟩)
        | ok d δ1 =>
          simp only [Res.bindS_ok]
          split
          · split
            · exact .inl ⟨_, rfl⟩
            · exact .inr (.inr rfl)
          · split
            · exact .inl ⟨_, rfl⟩
            · exact .inr (.inr rfl)
          · exact .inr (.inr rfl)
      · exact .inr (.inr rfl)
    · exact .inr (.inr rfl)
  · exact .inr (.inr rfl)
theorem ds_asg {tg e : Expr} {pos : Pos} {f : FE} {h : R → Sl → SR} (he : DE M W X e f) (hg : DG M W X tg h) (hn : Tgt h) (hs : swapsWithSole [tg] e pos.line X.env = pure false := by rfl) (hw : swappedStores [tg] e X.env = pure none := by rfl)
    (h1 : (assignEach [tg] X.env).map (·.2) = [assign tg X.env] := by rfl) : DS M W X (.Assign [tg] e pos) (sAsg f h) := by
  obtain ⟨t, p, he⟩ := he
  obtain ⟨g, pg, hg⟩ := hg
  exact ⟨_, ps_asg p pg hs hw h1, asg_of he hg hn⟩
theorem ds_set {i : Nat} {x : Str} {e : Expr} {pos pos' : Pos} {f : FE} (hN : X.N.Nodup) (hi : X.N[i]? = some x) (hx : Loc X.env.scope x) (he : DE M W X e f) (hs : swapsWith e (some (.Name x pos')) pos.line X.env = pure false := by rfl) (hf : X.fn x = true ∨ X.env.scope.names.lookup x = some .local := by first | exact .inl rfl | exact .inr rfl | assumption) :
    DS M W X (.Assign [.Name x pos'] e pos) (sAsg f (tName i)) := by
  obtain ⟨t, p, he⟩ := he
  refine ⟨_, ps_set hN hi hx p hs hf, asg_of he (fun c F H σ δ v r Q ok rr post => ?_) (tgt_name i)⟩
  unfold tName at post
  cases r with
  | imm d => exact post F H _ (Same.refl _) (ok.setI i rr)
  | own o => exact post F H _ (Same.refl _) (ok.setO i rr)
  | brw o => exact post.elim
  | nst _ _ => exact post.elim
def Cn.guard (c : Cn M) (a : Addr) (o : HO) (hn : NT o) : Cn M := ⟨c.F0, fun b => if b = a then some o else c.H0 b, c.io, fun b h => by
  by_cases e : b = a
  · simp [e]
  · simp only [if_neg e]; exact c.iob b h, fun b u h => by
  by_cases e : b = a
  · simp only [if_pos e] at h; cases h; exact hn
  · simp only [if_neg e] at h; exact c.nt b u h, c.nd, fun z hz b hb => by
  obtain ⟨h1, h2, h3⟩ := c.ndh z hz b hb
  refine ⟨?_, h2, h3⟩
  by_cases e : b = a
  · simp [e]
  · simp only [if_neg e]; exact h1⟩
theorem Ok.guard {a : Addr} {o : HO} (ok : Ok c F H σ δ) (hF : F a = none) (h0 : c.H0 a = none) (ho : H a = some o) (hn : NT o) (hns : ∀ (i : Nat) (r : R), δ[i]? = some (some r) → r.mu = true → σ[i]? ≠ some (some (V.ref a))) : Ok (c.guard a o hn) F H σ δ := by
  have hio : c.io ≠ some a := fun z => c.iob a z h0
  have g0 : ∀ b, b ≠ a → (c.guard a o hn).H0 b = c.H0 b := fun b hb => if_neg hb
  refine ⟨ok.same, ok.grow, fun b e1 e2 => ?_, fun b u e1 e2 => ?_, ok.ioh, ok.tb, ok.len, fun i r e => ?_, ok.dist⟩
  · by_cases z : b = a
    · rw [z]; exact hF
    · rw [g0 b z] at e1; exact ok.nofz b e1 e2
  · by_cases z : b = a
    · subst z
      have : (c.guard b o hn).H0 b = some o := if_pos rfl
      rw [this] at e1; cases e1
      exact ho
    · rw [g0 b z] at e1; exact ok.kept b u e1 e2
  · obtain ⟨v, e1, e2⟩ := ok.slot i r e
    refine ⟨v, e1, ?_⟩
    cases r with
    | imm d => exact e2
    | own ob =>
      obtain ⟨b, rfl, k1, k2, k3⟩ := e2
      have z : b ≠ a := fun z => hns i _ e rfl (by rw [e1, z])
      exact ⟨b, rfl, k1, by rw [g0 b z]; exact k2, k3⟩
    | brw ob => exact e2
    | nst tp ps =>
      obtain ⟨b, vs, h1, h2, h3⟩ := e2
      exact ⟨b, vs, h1, h2, h3.mono (Same.refl _) fun b' hb => g0 b' fun z => (c.ndh _ h2 b' hb).1 (z ▸ h0)⟩
theorem Ok.unguard {a : Addr} {o : HO} {hn : NT o} (ok : Ok (c.guard a o hn) F H σ δ) (h0 : c.H0 a = none) : Ok c F H σ δ ∧ (c.F0 a = none → F a = none) ∧ H a = some o ∧ (∀ (i : Nat) (r : R), δ[i]? = some (some r) → r.mu = true → σ[i]? ≠ some (some (V.ref a))) := by
  have hio : c.io ≠ some a := fun z => c.iob a z h0
  have g0 : ∀ b, b ≠ a → (c.guard a o hn).H0 b = c.H0 b := fun b hb => if_neg hb
  have ga : (c.guard a o hn).H0 a = some o := if_pos rfl
  have ne : ∀ b, c.H0 b ≠ none → b ≠ a := fun b h z => h (z ▸ h0)
  refine ⟨⟨ok.same, ok.grow, fun b e1 e2 => ok.nofz b (by rw [g0 b (ne b e1)]; exact e1) e2, fun b u e1 e2 => ok.kept b u (by rw [g0 b (ne b (by rw [e1]; exact fun z => by cases z))]; exact e1) e2, ok.ioh, ok.tb, ok.len, fun i r e => ?_, ok.dist⟩, fun hF => ok.nofz a (by rw [ga]; exact fun z => by cases z) hF, ok.kept a o ga hio, fun i r e m z => ?_⟩
  · obtain ⟨v, e1, e2⟩ := ok.slot i r e
    refine ⟨v, e1, ?_⟩
    cases r with
    | imm d => exact e2
    | own ob =>
      obtain ⟨b, rfl, k1, k2, k3⟩ := e2
      have z : b ≠ a := fun z => by rw [z, ga] at k2; cases k2
      exact ⟨b, rfl, k1, by rw [← g0 b z]; exact k2, k3⟩
    | brw ob => exact e2
    | nst tp ps =>
      obtain ⟨b, vs, h1, h2, h3⟩ := e2
      exact ⟨b, vs, h1, h2, h3.mono (Same.refl _) fun b' hb => (g0 b' fun z => (c.ndh _ h2 b' hb).1 (z ▸ h0)).symm⟩
  · obtain ⟨b, ob, e1, e2, e3, e4⟩ := ok.mus e m
    rw [e1] at z; cases z
    rcases e4 with ⟨_, k⟩ | ⟨_, k⟩
    · rw [ga] at k; cases k
    · exact hio k
def sPar (i j : Nat) (f g : FE) : FS := fun δ => (f δ).bindS fun r δ1 => match r with
  | .brw _ => .bad
  | .nst _ _ => .bad
  | r => (g δ1).bindS fun r' δ2 => match r' with
    | .brw _ => .bad
    | .nst _ _ => .bad
    | r' => .nx ((δ2.set i (some r)).set j (some r'))
theorem repR_setI {d : D} {v w : V} {r : R} {i : Nat} (h : repR c F H σ δ r w) : repR c F H (σ.set i (some v)) (δ.set i (some (.imm d))) r w := by
  have key : ∀ a : Addr, (∀ (k : Nat) (r : R), δ[k]? = some (some r) → r.mu = true → σ[k]? ≠ some (some (V.ref a))) → ∀ (k : Nat) (r : R), (δ.set i (some (.imm d)))[k]? = some (some r) → r.mu = true → (σ.set i (some v))[k]? ≠ some (some (V.ref a)) := fun a h4 k r e m => by
    rcases getElem?_set_some e with ⟨_, z, _⟩ | ⟨hn, e⟩
    · cases z; cases m
    · rw [List.getElem?_set_ne hn]; exact h4 k r e m
  cases r with
  | imm d' => exact h
  | brw o => exact h
  | own o =>
    obtain ⟨a, rfl, h1, h2, h3, h4⟩ := h
    exact ⟨a, rfl, h1, h2, h3, key a h4⟩
  | nst tp ps =>
    obtain ⟨a, vs, h1, h2, h3⟩ := h
    exact ⟨a, vs, h1, h2, fun b hb => ⟨(h3 b hb).1, (h3 b hb).2.1, key b (h3 b hb).2.2⟩⟩
theorem ds_par {i j : Nat} {x y : Str} {a b : Expr} {f g : FE} {px py pt pos : Pos} {kt k2 pt2} (hc : X.calm = true) (hN : X.N.Nodup) (hi : X.N[i]? = some x) (hj : X.N[j]? = some y) (hij : i ≠ j)
    (hx : X.env.scope.names.lookup x = some .local) (hy : X.env.scope.names.lookup y = some .local) (ha : DE M W X a f) (hb : DE M W X b g)
    (hw : swappedStores [.Tuple [.Name x px, .Name y py] kt pt] (.Tuple [a, b] k2 pt2) X.env = pure (some [x, y]))
    (hs : swapsWithSole [.Tuple [.Name x px, .Name y py] kt pt] (.Tuple [a, b] k2 pt2) pos.line X.env = pure false := by rfl)
    (h1 : starEach (a :: [b]) X.env = (false, eval a X.env) :: starEach [b] X.env := by rfl) (h2 : starEach (b :: []) X.env = (false, eval b X.env) :: starEach [] X.env := by rfl) :
    DS M W X (.Assign [.Tuple [.Name x px, .Name y py] kt pt] (.Tuple [a, b] k2 pt2) pos) (sPar i j f g) := by
  obtain ⟨t, p, ha⟩ := ha
  obtain ⟨t', p', hb⟩ := hb
  refine ⟨_, ps_par hc hN hi hj hij hx hy (pa_cons p (pa_cons p' pa_nil h2) h1) hw hs, fun c F H σ δ E ok post => ha c F H σ δ _ ok (PostS.ofE post fun r δ1 v F1 H1 _ s1 ok1 rr post => ?_)⟩
  cases r with
  | brw o => exact post.elim
  | nst _ _ => exact post.elim
  | imm d =>
    refine hb c F1 H1 σ δ1 _ ok1 (PostS.ofE post fun r' δ2 w F2 H2 _ s2 ok2 rr' post => ⟨v, w, rfl, ?_⟩)
    have rv : rep M F2 d v := rep_mono s2 _ _ rr
    cases r' with
    | brw o => exact post.elim
    | nst _ _ => exact post.elim
    | imm d' => exact post F2 H2 _ (Same.refl _) ((ok2.setI i rv).setI j rr')
    | own o' => exact post F2 H2 _ (Same.refl _) ((ok2.setI i rv).setO j (repR_setI rr'))
  | own o =>
    obtain ⟨a, rfl, k1, k2, k3, k4⟩ := rr
    obtain ⟨u, hu, hn⟩ := obAt_nt k3
    have okg := ok1.guard k1 k2 hu hn k4
    have f0 : c.F0 a = none := by
      cases z : c.F0 a with
      | none => rfl
      | some q => rw [ok1.grow a q z] at k1; cases k1
    have un : ∀ {F2 H2 : Hp} {δ2 : Sl}, Same F1 F2 → Ok (c.guard a u hn) F2 H2 σ δ2 → Ok c F2 H2 σ δ2 ∧ repR c F2 H2 σ δ2 (.own o) (.ref a) := fun {F2 H2 δ2} g ok2 => by
      obtain ⟨q1, q2, q3, q4⟩ := ok2.unguard k2
      exact ⟨q1, a, rfl, q2 f0, k2, obAt_mono g (q3.trans hu.symm) k3, q4⟩
    refine hb (c.guard a u hn) F1 H1 σ δ1 _ okg ?_
    cases q : g δ1 with
    | bad => rw [q] at post; exact post
    | exc x δ2 => rw [q] at post; exact fun cls d F2 H2 g ok2 xa => post cls d F2 H2 σ g (un g ok2).1 xa
    | ok r' δ2 =>
      rw [q] at post
      intro w F2 H2 s2 ok2 rr'
      refine ⟨.ref a, w, rfl, ?_⟩
      obtain ⟨ok3, ro⟩ := un s2 ok2
      cases r' with
      | brw o => exact post.elim
      | nst _ _ => exact post.elim
      | imm d' => exact post F2 H2 _ s2 ((ok3.setO i ro).setI j rr')
      | own o' =>
        obtain ⟨b, rfl, l1, l2, l3, l4⟩ := rr'
        have hba : b ≠ a := fun z => by
          have : (c.guard a u hn).H0 a = some u := if_pos rfl
          rw [z, this] at l2; cases l2
        have l2' : c.H0 b = none := by
          have : (c.guard a u hn).H0 b = c.H0 b := if_neg hba
          rw [← this]; exact l2
        refine post F2 H2 _ s2 ((ok3.setO i ro).setO j ⟨b, rfl, l1, l2', l3, fun k r e m => ?_⟩)
        rcases getElem?_set_some e with ⟨rfl, z, hl⟩ | ⟨hn, e⟩
        · rw [List.getElem?_set_self (by rw [ok3.len]; exact hl)]
          intro z; cases z; exact hba rfl
        · rw [List.getElem?_set_ne hn]; exact l4 k r e m
end
end
end TS

namespace TS
open PySem L2
noncomputable section
def ovH (F fr : Hp) : Hp := fun b => match F b with
  | some o => some o
  | none => fr b
def Yl (M : Gm) (F H : Hp) (x : V) (H' : Hp) (d : D) : Prop := ∃ fr : Hp, (∀ b o, fr b = some o → (∃ ws, o = HO.tup ws) ∧ H' b = some o) ∧ Same H H' ∧ rep M (ovH F fr) d x
theorem ovH_grow {F fr : Hp} : Same F (ovH F fr) := fun b o e => by unfold ovH; rw [e]
theorem Yl.same {M : Gm} {F H : Hp} {x : V} {H' : Hp} {d : D} (e : H' = H) (r : rep M F d x) : Yl M F H x H' d :=
  ⟨fun _ => none, (fun _ _ z => by cases z), by rw [e]; exact Same.refl _, rep_mono ovH_grow _ _ r⟩
theorem Yl.new {M : Gm} {F H : Hp} {x : V} {H' : Hp} {d : D} (s : Same F H) {p : Addr} {ws : List V} {es : List D} (k1 : H p = none) (k2 : x = V.ref p) (k3 : H' = upd H p (.tup ws)) (k4 : d = .tup es) (r : reps M F es ws) : Yl M F H x H' d := by
  subst k2 k3 k4
  refine ⟨fun b => if b = p then some (.tup ws) else none, fun b o e => ?_, fun b o e => by rw [upd_ne (ne_of_none e k1)]; exact e, ?_⟩
  · dsimp only at e
    by_cases z : b = p
    · subst z; rw [if_pos rfl] at e; cases e; exact ⟨⟨_, rfl⟩, upd_same⟩
    · rw [if_neg z] at e; cases e
  · unfold rep
    refine ⟨p, ws, rfl, ?_, reps_mono ovH_grow _ _ r⟩
    unfold ovH
    rw [s.free k1]
    simp
theorem Yl.stp {M : Gm} {F F2 H : Hp} {x : V} {H' : Hp} {d : D} (y : Yl M F H x H' d) (g : Same F F2) (s : Same F2 H) (tb : Tb M F2 H) : ∃ F3, Stp M F2 H F3 H' none ∧ rep M F3 d x := by
  obtain ⟨fr, h1, h2, h3⟩ := y
  have sm : Same (ovH F2 fr) H' := fun b o e => by
    unfold ovH at e
    split at e
    · rename_i o' e'; cases e; exact h2 _ _ (s _ _ e')
    · exact (h1 b o e).2
  refine ⟨ovH F2 fr, ⟨ovH_grow, fun b o e n z => ?_, fun b o e n _ => h2 b o e, sm, ?_⟩, rep_mono (fun b o e => ?_) _ _ h3⟩
  · unfold ovH
    rw [z]
    cases q : fr b with
    | none => rfl
    | some o' =>
      obtain ⟨⟨ws, rfl⟩, q2⟩ := h1 b o' q
      rw [h2 b o e] at q2; cases q2; cases n
  · refine (tb.keep (fun b o e _ => h2 b o e) (fun b o e n z => z) tb.nt).keep (fun b o e _ => e) (fun b o e n z => ?_) fun b ps e => ?_
    · unfold ovH
      rw [z]
      cases q : fr b with
      | none => rfl
      | some o' =>
        obtain ⟨⟨ws, rfl⟩, q2⟩ := h1 b o' q
        rw [e] at q2; cases q2; exact absurd rfl n
    · unfold ovH at e
      split at e
      · rename_i o' e'; cases e; exact tb.nt b ps e'
      · obtain ⟨⟨ws, z⟩, _⟩ := h1 b _ e; cases z
  · unfold ovH at e ⊢
    split at e
    · rename_i o' e'; cases e; rw [g _ _ e']
    · cases q : F2 b with
      | none => exact e
      | some o2 =>
        have := h2 _ _ (s _ _ q)
        rw [(h1 b o e).2] at this
        cases this; rfl
def Walks (M : Gm) (J : It) (F : Hp) (ds : List D) : Prop := ∀ (i : Nat) (H : Hp), Same F H →
  (∀ d, ds[i]? = some d → J.go i H ∧ ∀ x H', J.yld i H x H' → Yl M F H x H' d) ∧ (ds[i]? = none → J.stop i H)
abbrev ρI (M : Gm) : Hp → Hp → Sl → List D → It → Prop := fun F _ _ ds J => Walks M J F ds
def DIt (M : Gm) (W : WX) (X : Cx) (tg e : Expr) (f : FA) : Prop := ∃ wi, PI X tg e wi ∧ ∀ (c : Cn M) F H σ δ (Q : It → Hp → Prop), Ok c F H σ δ → Post c W F σ (ρI M) (f δ) Q → wi σ H Q
section
variable {M : Gm} {c : Cn M} {W : WX} {X : Cx} {tg e : Expr} {F F1 H H1 : Hp} {σ : St} {δ : Sl}
theorem walks_list {a : Addr} {vs : List V} {ds : List D} (hK : X.K = M.K) (hF : F a = some (.lst vs)) (r : reps M F ds vs) : Walks M (Itl X.K a) F ds := fun i H s => by
  have hq : SqL X.K H a vs := SqL.of (s _ _ hF)
  refine ⟨fun d hd => ?_, fun hn => ⟨vs, hq, by rw [reps_length r]; exact List.getElem?_eq_none_iff.mp hn⟩⟩
  obtain ⟨v, e1, e2⟩ := reps_get r hd
  refine ⟨⟨vs, v, hq, e1⟩, fun x H' y => Yl.same y.1 ?_⟩
  have := y.2 vs hq
  rw [e1] at this; cases this
  exact e2
theorem walks_tup {a : Addr} {vs : List V} {ds : List D} (hK : X.K = M.K) (hF : SqT M.K F a vs) (r : reps M F ds vs) : Walks M (Itt X.K a) F ds := fun i H s => by
  have hq : SqT X.K H a vs := by rw [hK]; exact Same.seqT s hF
  refine ⟨fun d hd => ?_, fun hn => ⟨vs, hq, by rw [reps_length r]; exact List.getElem?_eq_none_iff.mp hn⟩⟩
  obtain ⟨v, e1, e2⟩ := reps_get r hd
  refine ⟨⟨vs, v, hq, e1⟩, fun x H' y => Yl.same y.1 ?_⟩
  have := y.2 vs hq
  rw [e1] at this; cases this
  exact e2
theorem rgD_get {lo : Int} {n i : Nat} : ((List.range n).map fun i => D.int (lo + (i : Nat)))[i]? = if i < n then some (.int (lo + (i : Nat))) else none := by
  rw [List.getElem?_map]
  by_cases h : i < n
  · rw [if_pos h, List.getElem?_range h]; rfl
  · rw [if_neg h, List.getElem?_eq_none (by simpa using h)]; rfl
theorem walks_range (lo : Int) (n : Nat) : Walks M (Itr lo n) F ((List.range n).map fun i => D.int (lo + (i : Nat))) := fun i H s => by
  rw [rgD_get]
  refine ⟨fun d hd => ?_, fun hn => ?_⟩
  · by_cases h : i < n
    · rw [if_pos h] at hd
      cases hd
      refine ⟨h, fun x H' y => Yl.same y.1 ?_⟩
      rw [y.2]; exact rep_int' _
    · rw [if_neg h] at hd; cases hd
  · by_cases h : i < n
    · rw [if_pos h] at hn; cases hn
    · exact Nat.le_of_not_lt h
def enumD (k : Nat) : List D → List D
  | [] => []
  | d :: ds => .tup [.int k, d] :: enumD (k + 1) ds
def zipD : List D → List D → List D
  | a :: as, b :: bs => .tup [a, b] :: zipD as bs
  | _, _ => []
theorem zipD_get : ∀ (as bs : List D) (i : Nat), (zipD as bs)[i]? = match as[i]?, bs[i]? with | some a, some b => some (.tup [a, b]) | _, _ => none
  | [], bs, i => by simp [zipD]
  | a :: as, [], i => by
    simp only [zipD]
    cases (a :: as)[i]? <;> simp
  | a :: as, b :: bs, 0 => by simp [zipD]
  | a :: as, b :: bs, i + 1 => by
    simp only [zipD, List.getElem?_cons_succ]
    exact zipD_get as bs i
def itSeq (f : FD) : FA := fun δ => (f δ).bind fun d δ => match d with
  | .lst ds => .ok ds δ
  | _ => .bad
def itTup (f : FD) : FA := fun δ => (f δ).bind fun d δ => match d with
  | .tup ds => .ok ds δ
  | .ktp ns => .ok (ns.map D.int) δ
  | _ => .bad
def itRg1 (f : FD) : FA := fun δ => (f δ).bind fun d δ => match d with
  | .int n => if gd (-4611686018427387904 ≤ n ∧ n < 4611686018427387904) then .ok (rgD 0 n) δ else .bad
  | _ => .bad
def itEnum (f : FD) : FA := fun δ => (f δ).bind fun d δ => match d with
  | .lst ds => .ok (enumD 0 ds) δ
  | _ => .bad
theorem dit_list {f : FD} (h : DI M W X e f) (hK : X.K = M.K := by rfl) : DIt M W X tg e (itSeq f) := by
  obtain ⟨t, p, h⟩ := h
  refine ⟨_, pi_list p, fun c F H σ δ Q ok post => h c F H σ δ _ ok (Post.bind post fun d δ1 v F1 H1 _ s1 ok1 r post => ?_)⟩
  split at post
  · unfold ρD rep at r
    obtain ⟨a, vs, rfl, h2, h3⟩ := r
    exact ⟨a, rfl, ⟨vs, SqL.of (ok1.same _ _ h2)⟩, post.ok ok1 (walks_list hK h2 h3)⟩
  · exact post.elim
theorem dit_tup {f : FD} (h : DI M W X e f) (hK : X.K = M.K := by rfl) : DIt M W X tg e (itTup f) := by
  obtain ⟨t, p, h⟩ := h
  refine ⟨_, pi_tup p, fun c F H σ δ Q ok post => h c F H σ δ _ ok (Post.bind post fun d δ1 v F1 H1 _ s1 ok1 r post => ?_)⟩
  split at post
  · unfold ρD rep at r
    obtain ⟨a, vs, rfl, h2, h3⟩ := r
    exact ⟨a, rfl, ⟨vs, by rw [hK]; exact SqT.of (ok1.same _ _ h2)⟩, post.ok ok1 (walks_tup hK (SqT.of h2) h3)⟩
  · unfold ρD rep at r
    obtain ⟨a, rfl, h2⟩ := r
    exact ⟨a, rfl, ⟨_, by rw [hK]; exact ktup_sq h2⟩, post.ok ok1 (walks_tup hK (ktup_sq h2) (reps_kt _))⟩
  · exact post.elim
theorem dit_rg1 {a : Expr} {f : FD} {p pos : Pos} (hg : Gl X "range") (hm : X.mg "range" = none) (h : DI M W X a f) (hs : starEach [a] X.env = [(false, eval a X.env)] := by rfl) (hs2 : starEach (a :: []) X.env = (false, eval a X.env) :: starEach [] X.env := by rfl) : DIt M W X tg (.Call (.Name "range" p) [a] [] pos) (itRg1 f) := by
  obtain ⟨t, pp, h⟩ := h
  refine ⟨_, pi_range1 hg hm (pa_cons pp pa_nil hs2) hs, fun c F H σ δ Q ok post => h c F H σ δ _ ok (Post.bind post fun d δ1 v F1 H1 _ s1 ok1 r post => ?_)⟩
  split at post
  · rename_i n _
    split at post
    · rename_i hc
      obtain ⟨h1, h2⟩ := of_gd hc
      unfold ρD rep at r
      subst r
      refine ⟨n, rfl, by omega, by omega, post.ok ok1 ?_⟩
      have := walks_range (M := M) (F := F1) 0 n.toNat
      unfold rgD
      rw [Int.sub_zero]
      exact this
    · exact post.elim
  · exact post.elim
def forL (tg : R → Sl → SR) (body : FS) : List D → FS
  | [], δ => .nx δ
  | d :: ds, δ => match (tg (.imm d) δ).bind body with
    | .nx δ' => forL tg body ds δ'
    | .ct δ' => forL tg body ds δ'
    | .bk δ' => .nx δ'
    | r => r
def sFor (fi : FA) (tg : R → Sl → SR) (body : FS) : FS := fun δ => (fi δ).bindS fun ds δ1 => forL tg body ds δ1
theorem Walks.turn {J : It} {F0 : Hp} {ds : List D} (w : Walks M J F0 ds) (g : Same F0 F) (ok : Ok c F H σ δ) {i : Nat} {d : D} (hd : ds[i]? = some d) : J.go i H ∧ ∀ x H', J.yld i H x H' → ∃ F', Same F F' ∧ Ok c F' H' σ δ ∧ rep M F' d x := by
  obtain ⟨h1, h2⟩ := (w i H (g.trans ok.same)).1 d hd
  refine ⟨h1, fun x H' y => ?_⟩
  obtain ⟨F3, st, r⟩ := (h2 x H' y).stp g ok.same ok.tb
  exact ⟨F3, st.grow, ok.stp st, r⟩
theorem ds_for {iter : Expr} {ss : List Stmt} {pos : Pos} {fi : FA} {ft : R → Sl → SR} {body : FS} (hp : PassesOwn (model X.prog X.w) X.A X.env X.xe) (hc : X.calm = true) (hi : DIt M W X tg iter fi) (hg : DG M W X tg ft) (hn : Tgt ft) (hb : DSs M W X ss body)
    (hs : ∀ x, foldedSetIterable iter X.env x = pure x := by intro _; rfl) : DS M W X (.For tg iter ss [] pos) (sFor fi ft body) := by
  obtain ⟨wi, pi, hi⟩ := hi
  obtain ⟨g, pg, hg⟩ := hg
  obtain ⟨tb, pb, hb⟩ := hb
  refine ⟨_, ps_for hp hc pi pg pb hs, fun c F H σ δ E ok post => hi c F H σ δ _ ok (PostS.ofE post fun ds δ1 J F1 H1 _ s1 ok1 wk post => ?_)⟩
  refine ⟨fun i m σ H => i ≤ ds.length ∧ m = ds.length - i ∧ ∃ F' δ', Same F1 F' ∧ Ok c F' H σ δ' ∧ PostS c W F' (forL ft body (ds.drop i) δ') E, ⟨ds.length, Nat.zero_le _, rfl, F1, δ1, Same.refl _, ok1, post⟩, ?_⟩
  rintro i m σ2 H2 ⟨hi, rfl, F2, δ2, g2, ok2, post⟩
  by_cases hl : i < ds.length
  · right
    have hd : ds[i]? = some ds[i] := List.getElem?_eq_getElem hl
    obtain ⟨k1, k2⟩ := Walks.turn wk g2 ok2 hd
    refine ⟨k1, fun σ' H' => ∃ F' δ', Same F1 F' ∧ Ok c F' H' σ' δ' ∧ PostS c W F' (forL ft body (ds.drop (i + 1)) δ') E, fun σ' H' h => ⟨ds.length - (i + 1), by omega, by omega, rfl, h⟩, fun x H' y => ?_⟩
    obtain ⟨F3, g3, ok3, r3⟩ := k2 x H' y
    rw [List.drop_eq_getElem_cons hl] at post
    unfold forL at post
    refine hg c F3 H' σ2 δ2 x (.imm ds[i]) _ ok3 r3 ?_
    have post := PostS.shift post g3
    rcases hn (.imm ds[i]) δ2 with ⟨δ3, e3⟩ | ⟨xx, δ3, e3⟩ | e3
    · rw [e3] at post ⊢
      simp only [SR.bind_nx] at post
      intro F4 H4 σ4 g4 ok4
      refine hb c F4 H4 σ4 δ3 _ ok4 ?_
      have post := PostS.shift post g4
      have gg : Same F1 F4 := (g2.trans g3).trans g4
      cases q : body δ3 with
      | nx δ5 => rw [q] at post; exact fun F5 H5 σ5 g5 ok5 => ⟨F5, δ5, gg.trans g5, ok5, PostS.shift post g5⟩
      | ct δ5 => rw [q] at post; exact fun F5 H5 σ5 g5 ok5 => ⟨F5, δ5, gg.trans g5, ok5, PostS.shift post g5⟩
      | bk δ5 => rw [q] at post; exact post
      | rt r δ5 => rw [q] at post; exact post
      | exc x δ5 => rw [q] at post; exact post
      | bad => rw [q] at post; exact post
    · rw [e3] at post ⊢; exact post
    · rw [e3] at post; exact post.elim
  · left
    have hi' : i = ds.length := by omega
    subst hi'
    refine ⟨(wk _ H2 (g2.trans ok2.same)).2 (List.getElem?_eq_none (Nat.le_refl _)), ?_⟩
    rw [List.drop_length] at post
    exact post F2 H2 σ2 (Same.refl _) ok2
def whileL (t : FT) (body : FS) : Nat → FS
  | 0, _ => .bad
  | n + 1, δ => (t δ).bindS fun b δ1 => if b then (match body δ1 with
    | .nx δ' => whileL t body n δ'
    | .ct δ' => whileL t body n δ'
    | .bk δ' => .nx δ'
    | r => r) else .nx δ1
def sWhile (μ : Sl → Nat) (t : FT) (body : FS) : FS := fun δ => whileL t body (μ δ) δ
theorem ds_while {cnd : Expr} {ss : List Stmt} {pos : Pos} {t : FT} {body : FS} (μ : Sl → Nat) (hp : PassesOwn (model X.prog X.w) X.A X.env X.xe) (hc : DT M W X cnd t) (hb : DSs M W X ss body) : DS M W X (.While cnd ss [] pos) (sWhile μ t body) := by
  obtain ⟨tc, pc, hc⟩ := hc
  obtain ⟨tb, pb, hb⟩ := hb
  refine ⟨_, ps_while hp pc pb, fun c F H σ δ E ok post => ?_⟩
  refine ⟨fun m σ H => ∃ F' δ', Same F F' ∧ Ok c F' H σ δ' ∧ PostS c W F' (whileL t body m δ') E, ⟨μ δ, F, δ, Same.refl _, ok, post⟩, ?_⟩
  rintro m σ2 H2 ⟨F2, δ2, g2, ok2, post⟩
  cases m with
  | zero => exact post.elim
  | succ n =>
    unfold whileL at post
    refine hc c F2 H2 σ2 δ2 _ ok2 (PostS.ofE post fun b δ3 k F3 H3 _ g3 ok3 e post => ?_)
    cases (show b = k from e)
    cases b with
    | false => exact post F3 H3 σ2 (Same.refl _) ok3
    | true =>
      refine ⟨fun σ' H' => ∃ F' δ', Same F F' ∧ Ok c F' H' σ' δ' ∧ PostS c W F' (whileL t body n δ') E, fun σ' H' h => ⟨n, Nat.lt_succ_self n, h⟩, hb c F3 H3 σ2 δ3 _ ok3 ?_⟩
      have gg : Same F F3 := g2.trans g3
      cases q : body δ3 with
      | nx δ5 => simp only [q, if_true] at post; exact fun F5 H5 σ5 g5 ok5 => ⟨F5, δ5, gg.trans g5, ok5, PostS.shift post g5⟩
      | ct δ5 => simp only [q, if_true] at post; exact fun F5 H5 σ5 g5 ok5 => ⟨F5, δ5, gg.trans g5, ok5, PostS.shift post g5⟩
      | bk δ5 => simp only [q, if_true] at post; exact post
      | rt r δ5 => simp only [q, if_true] at post; exact post
      | exc x δ5 => simp only [q, if_true] at post; exact post
      | bad => simp only [q, if_true] at post; exact post
end
end
end TS

namespace TS
open PySem L2
noncomputable section
abbrev W0 : WX := fun _ _ _ _ => False
def canD (M : Gm) (W : WX) (f : FD) : TE := fun σ H Q => ∃ (c : Cn M) (F : Hp) (δ : Sl), Ok c F H σ δ ∧ Post c W F σ (ρD c) (f δ) Q
def canT (M : Gm) (W : WX) (f : FT) : TT := fun σ H Q => ∃ (c : Cn M) (F : Hp) (δ : Sl), Ok c F H σ δ ∧ Post c W F σ ρT (f δ) Q
section
variable {M : Gm} {c : Cn M} {W : WX} {X : Cx} {tg e : Expr} {F F1 H H1 : Hp} {σ : St} {δ : Sl}
theorem DI.can {f : FD} (h : DI M W X e f) : PE X e (canD M W f) := by
  obtain ⟨t, p, h⟩ := h
  exact ⟨fun pins s σ H Q I ⟨c, F, δ, ok, post⟩ => p.run pins s σ H Q I (h c F H σ δ Q ok post)⟩
theorem DT.can {f : FT} (h : DT M W X e f) : PT X e (canT M W f) := by
  obtain ⟨t, p, h⟩ := h
  exact ⟨fun pins s σ H Q I ⟨c, F, δ, ok, post⟩ => p.run pins s σ H Q I (h c F H σ δ Q ok post)⟩
def wipeD (δ : Sl) : List Nat → Sl
  | [] => δ
  | v :: vs => (wipeD δ vs).set v none
theorem Ok.clr (ok : Ok c F H σ δ) (i : Nat) : Ok c F H (σ.set i none) (δ.set i none) where
  same := ok.same
  grow := ok.grow
  nofz := ok.nofz
  kept := ok.kept
  ioh := ok.ioh
  tb := ok.tb
  len := by simp [ok.len]
  slot := fun j r e => by
    rcases getElem?_set_some e with ⟨_, z, _⟩ | ⟨hn, e⟩
    · cases z
    · rw [List.getElem?_set_ne hn]; exact ok.slot j r e
  dist := fun j k r1 r2 w hjk e1 e2 m1 m2 s1 s2 => by
    rcases getElem?_set_some e1 with ⟨_, z, _⟩ | ⟨hn, e1⟩
    · cases z
    · rcases getElem?_set_some e2 with ⟨_, z, _⟩ | ⟨hn2, e2⟩
      · cases z
      · rw [List.getElem?_set_ne hn] at s1
        rw [List.getElem?_set_ne hn2] at s2
        exact ok.dist j k r1 r2 w hjk e1 e2 m1 m2 s1 s2
theorem Ok.wipe (ok : Ok c F H σ δ) : ∀ vs : List Nat, Ok c F H (L2.wipe σ vs) (wipeD δ vs)
  | [] => ok
  | v :: vs => (Ok.wipe ok vs).clr v
theorem Ok.unwipe {vs : List Nat} (ok : Ok c F H (L2.wipe σ vs) δ) : Ok c F H σ δ where
  same := ok.same
  grow := ok.grow
  nofz := ok.nofz
  kept := ok.kept
  ioh := ok.ioh
  tb := ok.tb
  len := by rw [← ok.len, wipe_length]
  slot := fun j r e => by
    obtain ⟨v, e1, e2⟩ := ok.slot j r e
    exact ⟨v, (wipe_some e1).1, e2⟩
  dist := fun j k r1 r2 w hjk e1 e2 m1 m2 s1 s2 => by
    obtain ⟨v, k1, _⟩ := ok.slot j r1 e1
    obtain ⟨v', k2, _⟩ := ok.slot k r2 e2
    have z1 := (wipe_some k1).1
    have z2 := (wipe_some k2).1
    rw [s1] at z1; cases z1
    rw [s2] at z2; cases z2
    exact ok.dist j k r1 r2 w hjk e1 e2 m1 m2 k1 k2
theorem Ok.poke (ok : Ok c F H σ δ) {p : Addr} {o : HO} (hp : ∀ u, H p = some u → NT u) (hF : F p = none) (h0 : c.H0 p = none) (hns : ∀ (i : Nat) (r : R), δ[i]? = some (some r) → r.mu = true → σ[i]? ≠ some (some (V.ref p))) : Ok c F (upd H p o) σ δ where
  same := fun b u e => by
    have : b ≠ p := fun z => by rw [z, hF] at e; cases e
    rw [upd_ne this]; exact ok.same b u e
  grow := ok.grow
  nofz := ok.nofz
  kept := fun b u e hi => by
    have : b ≠ p := fun z => by rw [z, h0] at e; cases e
    rw [upd_ne this]; exact ok.kept b u e hi
  ioh := fun a e => by
    have q : a ≠ p := fun z => c.iob a e (z ▸ h0)
    rw [upd_ne q]; exact ok.ioh a e
  tb := ok.tb.keep (fun b u e z => by rw [upd_ne (fun (y : b = p) => z (hp u (by rw [← y]; exact e)))]; exact e) (fun _ _ _ _ q => q) ok.tb.nt
  len := ok.len
  slot := fun i r e => by
    obtain ⟨v, e1, e2⟩ := ok.slot i r e
    refine ⟨v, e1, ?_⟩
    cases r with
    | imm d => exact e2
    | own ob =>
      obtain ⟨a, rfl, h1, h2, h3⟩ := e2
      have : a ≠ p := fun z => hns i _ e rfl (by rw [e1, z])
      exact ⟨a, rfl, h1, h2, obAt_mono (Same.refl _) (upd_ne this) h3⟩
    | brw ob =>
      obtain ⟨a, rfl, h1, h2, h3⟩ := e2
      have : a ≠ p := fun z => hns i _ e rfl (by rw [e1, z])
      exact ⟨a, rfl, h1, h2, obAt_mono (Same.refl _) (upd_ne this) h3⟩
    | nst tp ps => exact e2
  dist := ok.dist
theorem f0_none (ok : Ok c F H σ δ) {a : Addr} (h : F a = none) : c.F0 a = none := by
  cases z : c.F0 a with
  | none => rfl
  | some q => rw [ok.grow a q z] at h; cases h
def noX {α : Type} (r : Res α) : Res α := match r with
  | .exc _ _ => .bad
  | r => r
def lcL (setT : D → Sl → Option Sl) (vs : List Nat) (ft : FT) (fe : FD) : List D → List D → Sl → Res (List D)
  | [], acc, δ => .ok acc δ
  | d :: ds, acc, δ => match setT d δ with
    | none => .bad
    | some δ0 => (noX (ft δ0)).bind fun b δ1 => if b then (noX (fe δ1)).bind fun y δ2 => if acc.length < 16777216 then lcL setT vs ft fe ds (acc ++ [y]) (wipeD δ2 vs) else .bad else lcL setT vs ft fe ds acc (wipeD δ1 vs)
def freeS (δ : Sl) (i : Nat) : Bool := match δ[i]? with
  | some none => true
  | some (some (.imm _)) => true
  | _ => false
def restD (δ1 : Sl) : List Nat → Sl → Sl
  | [], δ => δ
  | v :: vs, δ => restD δ1 vs (δ.set v ((δ1[v]?).join))
def fLc (setT : D → Sl → Option Sl) (vs : List Nat) (fi : FA) (ft : FT) (fe : FD) : FE := fun δ => (fi δ).bind fun ds δ1 => if vs.all (freeS δ1) then
    (lcL setT vs ft fe ds [] (wipeD δ1 vs)).bind fun acc δ2 => .ok (.own (.l acc)) (restD δ1 vs δ2) else .bad
def SetT (M : Gm) (vs : List Nat) (g : TG) (setT : D → Sl → Option Sl) : Prop := ∀ (c : Cn M) (F H : Hp) (σ : St) (δ δ' : Sl) (x : V) (d : D) (k : St → Hp → Prop), Ok c F H σ δ → rep M F d x → setT d δ = some δ' → L2.wipe σ vs = σ →
  (∀ σ2, Ok c F H σ2 δ' → L2.wipe σ2 vs = σ → k σ2 H) → g x σ H k
theorem restD_ok {δ1 : Sl} (ok1 : Ok c F1 H1 σ δ1) (g : Same F1 F) : ∀ (vs : List Nat) {δ : Sl}, vs.all (freeS δ1) = true → Ok c F H σ δ → Ok c F H σ (restD δ1 vs δ) ∧ (∀ (i : Nat) (r : R), (restD δ1 vs δ)[i]? = some (some r) → r.mu = true → ∃ r0, δ[i]? = some (some r0) ∧ r0.mu = true)
  | [], δ, _, ok => ⟨ok, fun i r e m => ⟨r, e, m⟩⟩
  | v :: vs, δ, hf, ok => by
    rw [List.all_cons, Bool.and_eq_true] at hf
    have key : Ok c F H σ (δ.set v ((δ1[v]?).join)) ∧ (∀ (i : Nat) (r : R), (δ.set v ((δ1[v]?).join))[i]? = some (some r) → r.mu = true → ∃ r0, δ[i]? = some (some r0) ∧ r0.mu = true) := by
      have h := hf.1
      unfold freeS at h
      split at h
      · rename_i q
        rw [q]
        refine ⟨ok.drop v, fun i r e m => ?_⟩
        rcases getElem?_set_some e with ⟨_, z, _⟩ | ⟨_, e⟩
        · cases z
        · exact ⟨r, e, m⟩
      · rename_i d q
        rw [q]
        obtain ⟨w, e1, e2⟩ := ok1.slot v _ q
        refine ⟨ok.setSame e1 (rep_mono g _ _ e2), fun i r e m => ?_⟩
        rcases getElem?_set_some e with ⟨_, z, _⟩ | ⟨_, e⟩
        · have z' : (R.imm d) = r := by simpa using z
          subst z'; cases m
        · exact ⟨r, e, m⟩
      · cases h
    obtain ⟨k1, k2⟩ := restD_ok ok1 g vs hf.2 key.1
    refine ⟨k1, fun i r e m => ?_⟩
    obtain ⟨r0, e0, m0⟩ := k2 i r e m
    exact key.2 i r0 e0 m0
theorem wipe_idem (σ : St) : ∀ vs : List Nat, L2.wipe (L2.wipe σ vs) vs = L2.wipe σ vs := fun vs => by
  apply List.ext_getElem?
  intro j
  by_cases hj : j ∈ vs
  · have key : ∀ (τ : St) (us : List Nat), j ∈ us → (L2.wipe τ us)[j]? = if j < τ.length then some none else none := by
      intro τ us
      induction us with
      | nil => intro h; cases h
      | cons u us ih =>
        intro h
        unfold L2.wipe
        by_cases e : u = j
        · subst e
          by_cases hl : u < τ.length
          · rw [List.getElem?_set_self (by rw [wipe_length]; exact hl), if_pos hl]
          · rw [if_neg hl, List.getElem?_eq_none (by rw [List.length_set, wipe_length]; omega)]
        · rw [List.getElem?_set_ne e]
          rcases List.mem_cons.mp h with z | z
          · exact absurd z.symm e
          · exact ih z
    rw [key _ _ hj, key _ _ hj, wipe_length]
  · rw [wipe_out hj]
theorem lc_read {wi : TI} {g : TG} {fi : FA} {ft : FT} {fe : FD} {setT : D → Sl → Option Sl} {vs : List Nat} (hi : ∀ (c : Cn M) F H σ δ (Q : It → Hp → Prop), Ok c F H σ δ → Post c W F σ (ρI M) (fi δ) Q → wi σ H Q) (hg : SetT M vs g setT) :
    RE M W (tLc wi g (canT M W0 ft) (canD M W0 fe) vs) (fLc setT vs fi ft fe) := fun c F H σ δ Q ok post => by
  refine hi c F H σ δ _ ok (Post.bind post fun ds δ1 J F1 H1 _ s1 ok1 wk post => fun D hD => ?_)
  split at post
  · rename_i hfree
    have okA : Ok c F1 (upd H1 D (.lst [])) σ δ1 := ok1.alloc hD
    have okW : Ok c F1 (upd H1 D (.lst [])) (L2.wipe σ vs) (wipeD δ1 vs) := okA.wipe vs
    have h0 : c.H0 D = none := ok1.h0 hD
    refine ⟨fun k m H => k ≤ ds.length ∧ m = ds.length - k ∧ ∃ F' δ' acc as, Same F1 F' ∧ Ok c F' H (L2.wipe σ vs) δ' ∧ F' D = none ∧ H D = some (.lst as) ∧ reps M F' acc as ∧
        (∀ (i : Nat) (r : R), δ'[i]? = some (some r) → r.mu = true → (L2.wipe σ vs)[i]? ≠ some (some (V.ref D))) ∧
        Post c W F' σ (ρR c σ) ((lcL setT vs ft fe (ds.drop k) acc δ').bind fun acc δ2 => .ok (.own (.l acc)) (restD δ1 vs δ2)) Q,
      ⟨ds.length, Nat.zero_le _, rfl, F1, wipeD δ1 vs, [], [], Same.refl _, okW, ok1.f hD, upd_same, reps_nil, ?_, post⟩, ?_⟩
    · intro i r e m z
      obtain ⟨v, k1, k2⟩ := okW.slot i r e
      rw [k1] at z; cases z
      have k3 := (wipe_some k1).1
      -- the slot's object stood before D
      cases r with
      | imm d => cases m
      | own o =>
        obtain ⟨a, ea, q1, q2, q3⟩ := k2
        cases ea
        have ok1w := (ok1.wipe vs).slot i _ e
        obtain ⟨v', z1, a', ea', w1, w2, w3⟩ := ok1w
        rw [k1] at z1; cases z1; cases ea'
        obtain ⟨u, hu⟩ := obAt_some w3
        rw [hD] at hu; cases hu
      | brw o =>
        obtain ⟨a, ea, q1, q2, q3⟩ := k2
        cases ea
        have ok1w := (ok1.wipe vs).slot i _ e
        obtain ⟨v', z1, a', ea', w1, w2, w3⟩ := ok1w
        rw [k1] at z1; cases z1; cases ea'
        obtain ⟨u, hu⟩ := obAt_some w3
        rw [hD] at hu; cases hu
      | nst tp ps => cases m
    rintro k m H2 ⟨hk, rfl, F2, δ2, acc, as, g2, ok2, f2, d2, r2, n2, post⟩
    by_cases hl : k < ds.length
    · right
      have hd : ds[k]? = some ds[k] := List.getElem?_eq_getElem hl
      -- the list is held aside while the item comes and while the block runs
      have okg := ok2.guard f2 h0 d2 rfl n2
      obtain ⟨k1, k2⟩ := Walks.turn wk g2 okg hd
      rw [List.drop_eq_getElem_cons hl] at post
      unfold lcL at post
      refine ⟨k1, fun H' => ∃ F' δ' acc as, Same F1 F' ∧ Ok c F' H' (L2.wipe σ vs) δ' ∧ F' D = none ∧ H' D = some (.lst as) ∧ reps M F' acc as ∧
        (∀ (i : Nat) (r : R), δ'[i]? = some (some r) → r.mu = true → (L2.wipe σ vs)[i]? ≠ some (some (V.ref D))) ∧
        Post c W F' σ (ρR c σ) ((lcL setT vs ft fe (ds.drop (k + 1)) acc δ').bind fun acc δ2 => .ok (.own (.l acc)) (restD δ1 vs δ2)) Q, fun H' h => ⟨ds.length - (k + 1), by omega, by omega, rfl, h⟩, fun x H' y => ?_⟩
      obtain ⟨F3, g3, ok3, r3⟩ := k2 x H' y
      split at post
      · exact post.elim
      · rename_i δ0 e0
        refine hg (c.guard D (.lst as) rfl) F3 H' (L2.wipe σ vs) δ2 δ0 x ds[k] _ ok3 r3 e0 (wipe_idem σ vs) fun σ2 okS hw => ⟨hw, ?_⟩
        refine ⟨c.guard D (.lst as) rfl, F3, δ0, okS, ?_⟩
        cases q : ft δ0 with
        | bad => rw [q] at post; exact post.elim
        | exc x δ => rw [q] at post; exact post.elim
        | ok b δ4 =>
          rw [q] at post
          intro b' F4 H4 g4 ok4 eb
          cases (show b = b' from eb)
          have post : Post c W F2 σ (ρR c σ) ((if b then (noX (fe δ4)).bind fun y δ2 => if acc.length < 16777216 then lcL setT vs ft fe (ds.drop (k + 1)) (acc ++ [y]) (wipeD δ2 vs) else .bad else lcL setT vs ft fe (ds.drop (k + 1)) acc (wipeD δ4 vs)).bind fun acc δ2 => .ok (.own (.l acc)) (restD δ1 vs δ2)) Q := post
          cases b with
          | false =>
            obtain ⟨q1, q2, q3, q4⟩ := ok4.unguard h0
            have qw := q1.wipe vs
            rw [hw] at qw
            refine ⟨F4, wipeD δ4 vs, acc, as, (g2.trans g3).trans g4, qw, q2 (f0_none ok2 f2), q3, reps_mono (g3.trans g4) _ _ r2, fun i r e m z => ?_, Post.shift post (g3.trans g4)⟩
            obtain ⟨v, z1, z2⟩ := qw.slot i r e
            rw [z1] at z; cases z
            rw [← hw] at z1
            have z3 := (wipe_some z1)
            have e' : δ4[i]? = some (some r) := by
              have key : ∀ (us : List Nat), i ∉ us → (wipeD δ4 us)[i]? = δ4[i]? := by
                intro us
                induction us with
                | nil => intro _; rfl
                | cons u us ih =>
                  intro h
                  simp only [List.mem_cons, not_or] at h
                  unfold wipeD
                  rw [List.getElem?_set_ne (Ne.symm h.1)]
                  exact ih h.2
              rw [key vs z3.2] at e
              exact e
            exact q4 i r e' m z3.1
          | true =>
            refine ⟨c.guard D (.lst as) rfl, F4, δ4, ok4, ?_⟩
            cases q5 : fe δ4 with
            | bad => rw [q5] at post; exact post.elim
            | exc x δ => rw [q5] at post; exact post.elim
            | ok yd δ5 =>
              rw [q5] at post
              intro y F5 H5 g5 ok5 ry
              have post : Post c W F2 σ (ρR c σ) ((if acc.length < 16777216 then lcL setT vs ft fe (ds.drop (k + 1)) (acc ++ [yd]) (wipeD δ5 vs) else .bad).bind fun acc δ2 => .ok (.own (.l acc)) (restD δ1 vs δ2)) Q := post
              obtain ⟨q1, q2, q3, q4⟩ := ok5.unguard h0
              split at post
              · rename_i hlen
                have r5 : reps M F5 acc as := reps_mono ((g3.trans g4).trans g5) _ _ r2
                have f5 := q2 (f0_none ok2 f2)
                refine ⟨as, q3, by rw [reps_length r5, sizeLine_eq]; exact hlen, ?_⟩
                have qp : Ok c F5 (upd H5 D (.lst (as ++ [y]))) σ2 δ5 := q1.poke (fun u e => by rw [q3] at e; cases e; rfl) f5 h0 q4
                have qw := qp.wipe vs
                rw [hw] at qw
                refine ⟨F5, wipeD δ5 vs, acc ++ [yd], as ++ [y], ((g2.trans g3).trans g4).trans g5, qw, f5, upd_same, reps_append r5 (reps_cons ry reps_nil), fun i r e m z => ?_, Post.shift post ((g3.trans g4).trans g5)⟩
                obtain ⟨v, z1, z2⟩ := qw.slot i r e
                rw [z1] at z; cases z
                rw [← hw] at z1
                have z3 := (wipe_some z1)
                have e' : δ5[i]? = some (some r) := by
                  have key : ∀ (us : List Nat), i ∉ us → (wipeD δ5 us)[i]? = δ5[i]? := by
                    intro us
                    induction us with
                    | nil => intro _; rfl
                    | cons u us ih =>
                      intro h
                      simp only [List.mem_cons, not_or] at h
                      unfold wipeD
                      rw [List.getElem?_set_ne (Ne.symm h.1)]
                      exact ih h.2
                  rw [key vs z3.2] at e
                  exact e
                exact q4 i r e' m z3.1
              · exact post.elim
    · left
      have hk' : k = ds.length := by omega
      subst hk'
      refine ⟨(wk _ H2 (g2.trans ok2.same)).2 (List.getElem?_eq_none (Nat.le_refl _)), ?_⟩
      rw [List.drop_length] at post
      unfold lcL at post
      simp only [Res.bind_ok] at post
      have ok3 : Ok c F2 H2 σ δ2 := ok2.unwipe
      obtain ⟨ok4, m4⟩ := restD_ok ok1 g2 vs hfree ok3
      refine post.ok ok4 ⟨D, rfl, f2, h0, ⟨as, d2, r2⟩, fun i r e m z => ?_⟩
      obtain ⟨r0, e0, m0⟩ := m4 i r e m
      obtain ⟨v, z1, z2⟩ := ok2.slot i r0 e0
      have z3 := (wipe_some z1).1
      rw [z] at z3; cases z3
      exact n2 i r0 e0 m0 z1
  · exact post.elim
def stName (i : Nat) : D → Sl → Option Sl := fun d δ => some (δ.set i (some (.imm d)))
theorem st_name (i : Nat) : SetT M [i] (gName i) (stName i) := fun c F H σ δ δ' x d k ok r e hw q => by
  cases e
  refine q _ (ok.setI i r) ?_
  show (σ.set i (some x)).set i none = σ
  rw [List.set_set]
  exact hw
def stPair (i j : Nat) : D → Sl → Option Sl := fun d δ => match d with
  | .tup [a, b] => some ((δ.set i (some (.imm a))).set j (some (.imm b)))
  | .ktp [a, b] => some ((δ.set i (some (.imm (.int a)))).set j (some (.imm (.int b))))
  | _ => none
theorem st_pair {i j : Nat} (hij : i ≠ j) : SetT M [i, j] (gTup M.K 2 (gCons (gName i) (gCons (gName j) gNil))) (stPair i j) := fun c F H σ δ δ' x d k ok r e hw q => by
  unfold stPair at e
  split at e
  · rename_i a b
    cases e
    unfold rep at r
    obtain ⟨p, vs, rfl, h2, h3⟩ := r
    unfold reps at h3
    obtain ⟨v, r1, rfl, k1, h3⟩ := h3
    unfold reps at h3
    obtain ⟨w, r2, rfl, k2, h3⟩ := h3
    unfold reps at h3
    subst h3
    refine ⟨p, _, rfl, SqT.of (ok.same _ _ h2), rfl, v, _, rfl, w, _, rfl, rfl, q _ ((ok.setI i k1).setI j k2) ?_⟩
    show (((σ.set i (some v)).set j (some w)).set j none).set i none = σ
    rw [List.set_set, List.set_comm _ _ hij, List.set_set, List.set_comm _ _ (Ne.symm hij)]
    have : (σ.set j none).set i none = σ := hw
    rw [List.set_comm _ _ hij]
    exact this
  · rename_i a b
    cases e
    unfold rep at r
    obtain ⟨p, rfl, h2⟩ := r
    refine ⟨p, _, rfl, ktup_sq h2, rfl, .int a, _, rfl, .int b, _, rfl, rfl, q _ ((ok.setI i (rep_int' a)).setI j (rep_int' b)) ?_⟩
    show (((σ.set i (some (V.int a))).set j (some (V.int b))).set j none).set i none = σ
    rw [List.set_set, List.set_comm _ _ hij, List.set_set, List.set_comm _ _ (Ne.symm hij)]
    have : (σ.set j none).set i none = σ := hw
    rw [List.set_comm _ _ hij]
    exact this
  · cases e
abbrev blkX (X : Cx) (scope : Scope) : Shared → Hp → Addr → List (Str × Addr) → List Addr → Cx := fun s H C cl fp => X.blk s H scope (compEnvC scope cl C X.env) fp
theorem de_lc {elt iter : Expr} {ifs : List Expr} {scope : Scope} {own : List (Str × Nat)} {pos : Pos} {g : TG} {fi : FA} {ft : FT} {fe : FD} {setT : D → Sl → Option Sl} {vs : List Nat} (hvs : own.map (·.2) = vs) (hc : X.calm = true) (hN : X.N.Nodup) (hi : DIt M W X tg iter fi) (ok : BlkOk X.N X.env.scope scope own)
    (hS : SetT M vs g setT) (hg : ∀ s H C cl fp, PG (blkX X scope s H C cl fp) tg g) (ht : ∀ s H C cl fp, PTs (blkX X scope s H C cl fp) ifs (canT M W0 ft)) (he : ∀ s H C cl fp, DI M W0 (blkX X scope s H C cl fp) elt fe) (hs : ∀ x, foldedSetIterable iter X.env x = pure x := by intro _; rfl) :
    DE M W X (.ListComp elt [⟨tg, iter, ifs, 0⟩] scope pos) (fLc setT vs fi ft fe) := by
  obtain ⟨wi, pi, hi⟩ := hi
  subst hvs
  exact ⟨_, pe_lc hc hN pi ok hg ht (fun s H C cl fp => (he s H C cl fp).can) hs, lc_read hi hS⟩
def tTrue : FT := fun δ => .ok true δ
theorem pts_no {X : Cx} : PTs X [] (canT M W0 tTrue) := ⟨fun pins s σ H Q I ⟨c, F, δ, ok, post⟩ => pts_nil.run pins s σ H Q I (post.ok ok rfl)⟩
theorem ds_setLc {i : Nat} {y : Str} {py : Pos} {elt iter : Expr} {ifs : List Expr} {scope : Scope} {own : List (Str × Nat)} {pos spos : Pos} {g : TG} {fi : FA} {ft : FT} {fe : FD} {setT : D → Sl → Option Sl} {vs : List Nat} (hvs : own.map (·.2) = vs) (hc : X.calm = true) (hN : X.N.Nodup) (hy : X.N[i]? = some y) (hyl : X.env.scope.names.lookup y = some .local)
    (hsw : swapsWith (.ListComp elt [⟨tg, iter, ifs, 0⟩] scope pos) (some (.Name y py)) spos.line X.env = pure true) (hi : DIt M W X tg iter fi) (ok : BlkOk X.N X.env.scope scope own)
    (hS : SetT M vs g setT) (hg : ∀ s H C cl fp, PG (blkX X scope s H C cl fp) tg g) (ht : ∀ s H C cl fp, PTs (blkX X scope s H C cl fp) ifs (canT M W0 ft)) (he : ∀ s H C cl fp, DI M W0 (blkX X scope s H C cl fp) elt fe) (hs : ∀ x, foldedSetIterable iter X.env x = pure x := by intro _; rfl) :
    DS M W X (.Assign [.Name y py] (.ListComp elt [⟨tg, iter, ifs, 0⟩] scope pos) spos) (sAsg (fLc setT vs fi ft fe) (tName i)) := by
  obtain ⟨wi, pi, hi⟩ := hi
  subst hvs
  refine ⟨_, ps_setLc hc hN hy hyl hsw pi ok hg ht (fun s H C cl fp => (he s H C cl fp).can) hs, asg_of (lc_read hi hS) (fun c F H σ δ v r Q ok rr post => ?_) (tgt_name i)⟩
  unfold tName at post
  cases r with
  | imm d => exact post F H _ (Same.refl _) (ok.setI i rr)
  | own o => exact post F H _ (Same.refl _) (ok.setO i rr)
  | brw o => exact post.elim
  | nst _ _ => exact post.elim
def ioN : Option OB → Nat
  | none => 0
  | some _ => 1
def ioS : Option OB → Sl
  | none => []
  | some o => [some (R.brw o)]
def ini (n : Nat) (io : Option OB) (ds : List D) : Sl := ioS io ++ ds.map (fun d => some (R.imm d)) ++ List.replicate (n - (ioN io + ds.length)) none
def ioOut (io : Option OB) (δ : Sl) : Option (Option OB) := match io with
  | none => some none
  | some _ => match δ[0]? with
    | some (some (R.brw o)) => some (some o)
    | _ => none
def outR (io : Option OB) : SR → FR
  | .rt r δ => (match ioOut io δ with
    | some io' => .ok r io'
    | none => .bad)
  | .nx δ => (match ioOut io δ with
    | some io' => .ok (.imm .non) io'
    | none => .bad)
  | .exc x δ => (match ioOut io δ with
    | some io' => .exc x io'
    | none => .bad)
  | _ => .bad
def mir (n np : Nat) (g : FS) : Fm := fun io ds => if ioN io + ds.length = np ∧ np ≤ n then outR io (g (ini n io ds)) else .bad
end
end
end TS

namespace TS
open PySem L2
noncomputable section
section
variable {M : Gm} {P : Program} {w : World} {mg : Str → Option Value} {base : Heap}
theorem ini_get_none {n : Nat} {ds : List D} {i : Nat} {r : R} (h : (ini n none ds)[i]? = some (some r)) : ∃ d, ds[i]? = some d ∧ r = .imm d := by
  unfold ini ioS at h
  simp only [List.nil_append] at h
  by_cases hl : i < ds.length
  · rw [List.getElem?_append_left (by simpa using hl), List.getElem?_map, List.getElem?_eq_getElem hl] at h
    simp only [Option.map_some, Option.some.injEq] at h
    exact ⟨ds[i], List.getElem?_eq_getElem hl, h.symm⟩
  · rw [List.getElem?_append_right (by simpa using hl)] at h
    rw [List.getElem?_replicate] at h
    split at h
    · cases h
    · cases h
theorem ini_get_some {n : Nat} {o : OB} {ds : List D} {i : Nat} {r : R} (h : (ini n (some o) ds)[i]? = some (some r)) : (i = 0 ∧ r = .brw o) ∨ ∃ j d, i = j + 1 ∧ ds[j]? = some d ∧ r = .imm d := by
  unfold ini ioS at h
  cases i with
  | zero =>
    simp only [List.cons_append, List.getElem?_cons_zero, Option.some.injEq] at h
    exact .inl ⟨rfl, h.symm⟩
  | succ j =>
    simp only [List.cons_append, List.nil_append, List.getElem?_cons_succ] at h
    right
    by_cases hl : j < ds.length
    · rw [List.getElem?_append_left (by simpa using hl), List.getElem?_map, List.getElem?_eq_getElem hl] at h
      simp only [Option.map_some, Option.some.injEq] at h
      exact ⟨j, ds[j], rfl, List.getElem?_eq_getElem hl, h.symm⟩
    · rw [List.getElem?_append_right (by simpa using hl), List.getElem?_replicate] at h
      split at h
      · cases h
      · cases h
theorem ini_len {n : Nat} {io : Option OB} {ds : List D} (h : ioN io + ds.length ≤ n) : (ini n io ds).length = n := by
  unfold ini
  cases io with
  | none => simp [ioS, ioN] at h ⊢; omega
  | some o => simp [ioS, ioN] at h ⊢; omega
theorem mir_ok {n np : Nat} {g : FS} {vs : List V} {H : Hp} {Q : VK} {E : XK} (h : spD M (mir n np g) vs H Q E) : vs.length = np := by
  obtain ⟨F, io, a, ws, ds, rfl, s, tb, rs, ia, h⟩ := h
  unfold mir at h
  by_cases hn : ioN io + ds.length = np ∧ np ≤ n
  · rw [List.length_append, reps_length rs]
    cases io <;> simp [ioV, ioN] at hn ⊢ <;> omega
  · rw [if_neg hn] at h
    exact h.elim
def cnOf (F H : Hp) (io : Option OB) (a : Addr) (ha : ∀ b, (io.map fun _ => a) = some b → ∃ u, H b = some u ∧ NT u) : Cn M := ⟨F, str0 H, io.map fun _ => a, fun b e z => by
  obtain ⟨u, h1, h2⟩ := ha b e
  exact str0_none z u h1 h2, fun _ _ h => (str0_nt h).2, none, fun _ z => nomatch z⟩
theorem body_ok {N : List Str} {np : Nat} {g : FS} {t : TS} {vs : List V} {H : Hp} {Q : VK} {E : XK} (hN : np ≤ N.length) (h : spD M (mir N.length np g) vs H Q E)
    (ht : ∀ (c : Cn M) F H σ δ D, Ok c F H σ δ → PostS c (fun cls d _ H => E cls d H) F (g δ) D → t D σ H) : t { nx := fun _ H' => Q .non H', rt := Q } (start N vs) H := by
  have hv := mir_ok h
  obtain ⟨F, io, a, ws, ds, rfl, s, tb, rs, ia, h⟩ := h
  have hio : ∀ b, (io.map fun _ => a) = some b → ∃ u, H b = some u ∧ NT u := fun b e => by
    cases io with
    | none => cases e
    | some o =>
      cases e
      exact obAt_nt ia.2
  unfold mir at h
  have hcond : ioN io + ds.length = np ∧ np ≤ N.length := by
    refine ⟨?_, hN⟩
    rw [List.length_append, reps_length rs] at hv
    cases io <;> simp [ioV, ioN] at hv ⊢ <;> omega
  rw [if_pos hcond] at h
  have hle : ioN io + ds.length ≤ N.length := by rw [hcond.1]; exact hcond.2
  have ok : Ok (cnOf (M := M) F H io a hio) F H (start N (ioV io a ++ ws)) (ini N.length io ds) := by
    refine ⟨s, Same.refl _, fun _ _ z => z, fun _ _ z _ => (str0_nt z).1, hio, tb, ?_, fun i r e => ?_, fun i j r r' v hij e1 e2 m1 m2 _ _ => ?_⟩
    · rw [ini_len hle]
      unfold L2.start
      rw [List.length_append, List.length_map, List.length_replicate]
      rw [hv]; omega
    · cases io with
      | none =>
        obtain ⟨d, hd, rfl⟩ := ini_get_none e
        obtain ⟨v, e1, e2⟩ := reps_get rs hd
        refine ⟨v, ?_, e2⟩
        unfold L2.start
        have hl : i < ws.length := (List.getElem?_eq_some_iff.mp e1).1
        simp only [ioV, List.nil_append]
        rw [List.getElem?_append_left (by simpa using hl), List.getElem?_map, e1]; rfl
      | some o =>
        rcases ini_get_some e with ⟨rfl, rfl⟩ | ⟨j, d, rfl, hd, rfl⟩
        · exact ⟨.ref a, rfl, a, rfl, ia.1, rfl, ia.2⟩
        · obtain ⟨v, e1, e2⟩ := reps_get rs hd
          refine ⟨v, ?_, e2⟩
          unfold L2.start
          have hl : j < ws.length := (List.getElem?_eq_some_iff.mp e1).1
          simp only [ioV, List.cons_append, List.nil_append, List.map_cons, List.getElem?_cons_succ]
          rw [List.getElem?_append_left (by simpa using hl), List.getElem?_map, e1]; rfl
    · cases io with
      | none => obtain ⟨d, _, rfl⟩ := ini_get_none e1; cases m1
      | some o =>
        rcases ini_get_some e1 with ⟨rfl, rfl⟩ | ⟨j1, d, rfl, hd, rfl⟩
        · rcases ini_get_some e2 with ⟨rfl, rfl⟩ | ⟨j1, d, rfl, hd, rfl⟩
          · exact hij rfl
          · cases m2
        · cases m1
  have stp : ∀ {F' H' : Hp} {σ' : St} {δ' : Sl}, Ok (cnOf (M := M) F H io a hio) F' H' σ' δ' → Stp M F H F' H' (io.map fun _ => a) := fun o => ⟨o.grow, fun b u e n z => o.nofz b (by show str0 H b ≠ none; rw [str0_of e n]; exact fun z => by cases z) z, fun b u e n i => o.kept b u (str0_of e n) i, o.same, o.tb⟩
  have iout : ∀ {F' H' : Hp} {σ' : St} {δ' : Sl} {io' : Option OB}, Ok (cnOf (M := M) F H io a hio) F' H' σ' δ' → ioOut io δ' = some io' → ioAt M F' H' io' a := fun {F' H' σ' δ' io'} o e => by
    unfold ioOut at e
    cases io with
    | none => cases e; trivial
    | some ob =>
      simp only at e
      split at e
      · rename_i o' q
        cases e
        obtain ⟨v, k1, b, rfl, k2, k3, k4⟩ := o.slot 0 _ q
        have : a = b := Option.some.inj k3
        subst this
        exact ⟨k2, k4⟩
      · cases e
  refine ht _ F H _ _ _ ok ?_
  cases q : g (ini N.length io ds) with
  | bad => rw [q] at h; exact h.elim
  | bk δ => rw [q] at h; exact h.elim
  | ct δ => rw [q] at h; exact h.elim
  | nx δ =>
    rw [q] at h
    unfold outR at h
    intro F' H' σ' g' ok'
    cases e : ioOut io δ with
    | none => simp only [e] at h
    | some io' =>
      simp only [e] at h
      exact h .non F' H' (stp ok') (rep_non' (M := M) (F := F')) (iout ok' e)
  | rt r δ =>
    rw [q] at h
    unfold outR at h
    intro v F' H' σ' g' ok' rr
    cases e : ioOut io δ with
    | none => simp only [e] at h
    | some io' =>
      simp only [e] at h
      refine h v F' H' (stp ok') ?_ (iout ok' e)
      cases r with
      | imm d => exact rr
      | own o =>
        obtain ⟨b, rfl, k1, k2, k3, _⟩ := rr
        exact ⟨b, rfl, k1, str0_none k2, k3⟩
      | brw o => exact rr
      | nst tp ps =>
        obtain ⟨b, vs', h1, h2, h3⟩ := rr
        exact ⟨b, vs', h1, h2, fun b hb => ⟨(h3 b hb).1, str0_none (h3 b hb).2.1⟩⟩
  | exc x δ =>
    rw [q] at h
    unfold outR at h
    intro cls d F' H' σ' g' ok' xa
    cases e : ioOut io δ with
    | none => simp only [e] at h
    | some io' =>
      simp only [e] at h
      exact h cls d F' H' (stp ok') xa (iout ok' e)
theorem funD_mir {x qual : Str} {params : Arguments} {body : List Stmt} {scope : Scope} {dvs : List V} {kws : List (Str × V)} {f : Addr} {fd : FuncData} {N ps : List Str} {k : Nat} {g : FS} (F : FunD M.K x qual params body scope dvs kws f fd) (S : FnScope N ps scope) (hN : ps.length ≤ N.length)
    (hb : ∀ (cdv : Value) (A : Around) (outer : List Env) (s : Shared) (H : Hp) (E : XK), Room k (A.deeper (PyProof.Rows.envOfC qual scope s.heap.objs.size f cdv)) →
      Takes (cxOf (L2.CX P w) P w M.K mg base N qual scope f cdv A outer s H E) (fun cls d _ H => E cls d H) →
      PassesOwn (model P w) (A.deeper (PyProof.Rows.envOfC qual scope s.heap.objs.size f cdv)) (PyProof.Rows.envOfC qual scope s.heap.objs.size f cdv) (cxOf (L2.CX P w) P w M.K mg base N qual scope f cdv A outer s H E).xe →
      DSs M (fun cls d _ H => E cls d H) (cxOf (L2.CX P w) P w M.K mg base N qual scope f cdv A outer s H E) body g) :
    FnOk P w M.K mg base (L2.CX P w) (k + 1) f fd ps (spD M (mir N.length ps.length g)) := by
  refine FnOk.of F S (fun vs H Q E h => mir_ok h) (fun cdv A outer s H vs Q E hr h => ?_)
  obtain ⟨t, p, ht⟩ := hb cdv A outer s H E hr (takes_of rfl rfl rfl rfl) (passes_of rfl)
  exact ⟨t, p, body_ok hN h ht⟩
theorem funD_mirC {x qual : Str} {params : Arguments} {body : List Stmt} {scope : Scope} {dvs : List V} {kws : List (Str × V)} {f : Addr} {fd : FuncData} {N ps : List Str} {k : Nat} {g : FS} (F : FunD M.K x qual params body scope dvs kws f fd) (S : FnScope N ps scope) (hN : ps.length ≤ N.length)
    (hb : ∀ (cdv : Value), CodeAt M.K f x qual params body scope cdv → ∀ (A : Around) (outer : List Env) (s : Shared) (H : Hp) (E : XK), Room k (A.deeper (PyProof.Rows.envOfC qual scope s.heap.objs.size f cdv)) →
      Takes (cxOf (L2.CX P w) P w M.K mg base N qual scope f cdv A outer s H E) (fun cls d _ H => E cls d H) →
      PassesOwn (model P w) (A.deeper (PyProof.Rows.envOfC qual scope s.heap.objs.size f cdv)) (PyProof.Rows.envOfC qual scope s.heap.objs.size f cdv) (cxOf (L2.CX P w) P w M.K mg base N qual scope f cdv A outer s H E).xe →
      DSs M (fun cls d _ H => E cls d H) (cxOf (L2.CX P w) P w M.K mg base N qual scope f cdv A outer s H E) body g) :
    FnOk P w M.K mg base (L2.CX P w) (k + 1) f fd ps (spD M (mir N.length ps.length g)) := by
  refine FnOk.ofC F S (fun vs H Q E h => mir_ok h) (fun cdv hcd A outer s H vs Q E hr h => ?_)
  obtain ⟨t, p, ht⟩ := hb cdv hcd A outer s H E hr (takes_of rfl rfl rfl rfl) (passes_of rfl)
  exact ⟨t, p, body_ok hN h ht⟩
end
end
end TS

namespace TS
open PySem L2
noncomputable section
structure DefE where
  at_ : PySem.W.Frag → Addr
  name : Str
  qual : Str
  params : Arguments
  body : List Stmt
  scope : Scope
  dfl : List He.Dv := []
  sup : Bool := false
def fnE (sup : Bool) (K : PySem.W.Frag) (a : Addr) : He.FnW := match K.lookup a with
  | some ⟨_, _, .func fd, _⟩ => some (fd.name, fd.qualname, fd.params, fd.body, fd.scope, fd.globals, if sup then [] else fd.closure, fd.builtins)
  | _ => none
def DefE.val (d : DefE) : He.FnW := some (d.name, d.qual, d.params, .stmts d.body, d.scope, mainGlobals, [], builtinsNs)
def DefE.dvs (K : PySem.W.Frag) (d : DefE) : List V := d.dfl.map (He.Dv.v K)
def DefE.ok (K : PySem.W.Frag) (d : DefE) : Bool := PySem.W.keepIn K (.ref (d.at_ K)) && (match K.lookup (d.at_ K) with
  | some ⟨_, _, .func fd, _⟩ => PySem.W.codeIn K fd.code d.qual && He.dflB K fd.defaults (d.dvs K)
  | _ => false)
theorem DefE.funD {K : PySem.W.Frag} {d : DefE} (e : fnE false K (d.at_ K) = d.val) (c : d.ok K = true) : ∃ fd, FunD K d.name d.qual d.params d.body d.scope (d.dvs K) [] (d.at_ K) fd := by
  obtain ⟨kp, c2⟩ := He.ba c
  unfold fnE at e
  cases q : K.lookup (d.at_ K) with
  | none =>
    rw [q] at c2
    cases c2
  | some o =>
    obtain ⟨oc, od, dt, osl⟩ := o
    rw [q] at c2 e
    cases dt with
    | func fd =>
      obtain ⟨n1, n2, n3, n4, n5, n6, n7, n8, n9, n10, n11, n12, n13, n14, n15⟩ := fd
      have e2 : (some (n1, n2, n3, n4, n5, n6, n7, n15) : He.FnW) = some (d.name, d.qual, d.params, .stmts d.body, d.scope, mainGlobals, [], builtinsNs) := e
      simp only [Option.some.injEq, Prod.mk.injEq] at e2
      obtain ⟨h1, h2, h3, h4, h5, h6, h7, h8⟩ := e2
      subst h1 h2 h3 h4 h5 h6 h7 h8
      have c3 : (PySem.W.codeIn K n13 d.qual && He.dflB K n8 (d.dvs K)) = true := c2
      obtain ⟨k1, k3⟩ := He.ba c3
      exact ⟨_, ⟨oc, od, n8, n9, n10, n11, n12, n13, n14, osl, rfl, q, k1, He.dflB_ok k3, .inl rfl⟩, kp⟩
    | _ => cases c2
abbrev gA (x : Str) : PySem.W.Frag → Addr := fun K => He.ga K x
abbrev mA (x m : Str) : PySem.W.Frag → Addr := fun K => He.ma K (He.ga K x) m
def dA (x m : Str) : PySem.W.Frag → Addr := fun K => He.ma K (He.ga K x) m
def uA (T : String) (x m : Str) : PySem.W.Frag → Addr := fun K => match PySem.W.recIn K (dA x m K) T with
  | some (.ref g :: _) => g
  | _ => 0
def refOf : Value → Addr
  | .ref c => c
  | _ => 0
def isRef : Value → Bool
  | .ref _ => true
  | _ => false
def cdA (f : PySem.W.Frag → Addr) (K : PySem.W.Frag) : Addr := match K.lookup (f K) with
  | some ⟨_, _, .func fd, _⟩ => refOf fd.code
  | _ => 0
def fnRef (f : PySem.W.Frag → Addr) (K : PySem.W.Frag) : Bool := match K.lookup (f K) with
  | some ⟨_, _, .func fd, _⟩ => isRef fd.code
  | _ => false
def clO (f : PySem.W.Frag → Addr) (K : PySem.W.Frag) : Option Addr := match K.lookup (f K) with
  | some ⟨_, _, .func fd, _⟩ => (match fd.closure with
    | [(x, cc)] => if x = ("__class__" : Str) then some cc else none
    | _ => none)
  | _ => none
def clA (f : PySem.W.Frag → Addr) (K : PySem.W.Frag) : Addr := (clO f K).getD 0
def cellOf (o : Option Obj) (d : Addr) : Bool := match o with
  | some ⟨_, _, .cell (some (.ref e)), _⟩ => decide (e = d)
  | _ => false
def fileOf (o : Option Obj) (z : Str) : Bool := match o with
  | some ⟨_, _, .fields vs, _⟩ => (match (vs[2]? : Option Value) with
    | some (Value.str y _) => decide (y = z)
    | _ => false)
  | _ => false
inductive Fx where
  | he (f : He.Fa)
  | prop (x f : Str)
  | cmet (x m : Str)
  | cread (x : Str)
  | cint (x f : Str) (i : Int)
  | kit (x y : Str) (b : Bool)
  | kitT (t : String) (y : Str) (b : Bool)
  | kitC (x : Str) (t : String) (b : Bool)
  | ity (x : Str)
  | neb (x : Str)
  | nfT (x : Str) (t : String)
  | nfC (x y : Str)
  | sfx (x : Str)
  | exc (x : Str) (B : String)
  | exm (x y : Str) (b : Bool)
  | smd
  | dgt
  | gtup (x : Str) (ns : List Int)
  | sup (x y : Str) (z : Str)
  | same (x y m : Str)
def intOf : Value → Option Int
  | .int i _ => some i
  | _ => none
def bmOf : String → List Value := fun B => [.type B, .type "Exception", .type "BaseException", .type "object"]
def headRef : Option (List Value) → Addr → Bool
  | some (.ref g :: _), a => decide (g = a)
  | _, _ => false
def tyT : Value := .type "type"
def Fx.ok (K : PySem.W.Frag) : Fx → Bool
  | .he f => f.ok K
  | .prop x f => He.eqO (PySem.W.findIn K (.ref (He.ga K x)) f) (some (some (.ref (dA x f K)))) && (He.eqO (PySem.W.specialIn K (.ref (dA x f K)) "__get__") (some (some (.builtin "property.__get__"))) && (decide (PySem.W.takesIn K (.ref (dA x f K)) = some true) && headRef (PySem.W.recIn K (dA x f K) "property") (uA "property" x f K)))
  | .cmet x m => (match PySem.W.findCls K (.ref (He.ga K x)) tyT m with
    | some (.get (.builtin b) (.ref p) .none (.ref C)) => decide (b = "classmethod.__get__") && (decide (p = dA x m K) && decide (C = He.ga K x))
    | _ => false) && (headRef (PySem.W.recIn K (dA x m K) "classmethod") (uA "classmethod" x m K) && PySem.W.fnIn K (uA "classmethod" x m K))
  | .cread x => PySem.W.readsIn K (He.ga K x) tyT && He.eqO (PySem.W.specialIn K (.ref (He.ga K x)) "__getattribute__") (some (some (.builtin "type.__getattribute__")))
  | .cint x f i => (match PySem.W.findCls K (.ref (He.ga K x)) tyT f with
    | some (.val (.int j _)) => decide (j = i)
    | _ => false)
  | .kit x y b => decide (PySem.W.kitOne K (.ref (He.ga K x)) (.ref (He.ga K y)) = some b)
  | .kitT t y b => decide (PySem.W.kitOne K (.type t) (.ref (He.ga K y)) = some b)
  | .kitC x t b => decide (PySem.W.kitOne K (.ref (He.ga K x)) (.type t) = some b)
  | .ity x => He.eqO (PySem.W.findIn K (.ref (He.ga K x)) "__class__") (some (some (.builtin "object.__class__"))) && (He.eqO (PySem.W.specialIn K (.builtin "object.__class__") "__get__") (some (some (.builtin "getset_descriptor.__get__"))) && (decide (PySem.W.takesIn K (.builtin "object.__class__") = some true) && decide (PySem.W.mroIn K (He.ga K x) (.type "object") = some true)))
  | .neb x => He.eqO (PySem.W.findIn K (.ref (He.ga K x)) "__ne__") (some (some (.builtin "object.__ne__")))
  | .nfT x t => PySem.W.notFirst K (He.ga K x) (.type t)
  | .nfC x y => PySem.W.notFirst K (He.ga K x) (.ref (He.ga K y))
  | .sfx x => PySem.W.selfFirst K (He.ga K x)
  | .exc x B => PySem.W.excInitIn K (He.ga K x) (bmOf B) (B ++ ".__new__") && (PySem.W.excOver K (He.ga K x) (bmOf B) && (PySem.W.hasDictIn K (He.ga K x) && (He.eqO (PySem.W.findIn K (.ref (He.ga K x)) "__setattr__") (some (some (.builtin "object.__setattr__"))) && (decide (PySem.W.subIn K (.ref (He.ga K x)) (.type "BaseException") = some true) && (decide (PySem.W.typeIn K (.ref (He.ga K x)) = some (.type "type")) && (PySem.W.keepIn K (.ref (He.ga K x)) &&
    (He.eqO (PySem.W.findIn K (.ref (He.ga K x)) "__init__") (some (some (.ref (He.ma K (He.ga K x) "__init__")))) && (decide (PySem.W.typeIn K (.ref (He.ma K (He.ga K x) "__init__")) = some (.type "function")) && (He.eqO (PySem.W.findIn K (.ref (He.ga K x)) "__getattribute__") (some (some (.builtin "BaseException.__getattribute__"))) && (He.eqO (PySem.W.findIn K (.ref (He.ga K x)) "__getattr__") (some none) &&
    (He.eqO (PySem.W.findIn K (.ref (He.ga K x)) "__class__") (some (some (.builtin "object.__class__"))) && (He.eqO (PySem.W.specialIn K (.builtin "object.__class__") "__get__") (some (some (.builtin "getset_descriptor.__get__"))) && (decide (PySem.W.takesIn K (.builtin "object.__class__") = some true) && decide (PySem.W.mroIn K (He.ga K x) (.type "object") = some true))))))))))))))
  | .sup x y z => (clO (mA x "__init__") K).isSome && (fnRef (mA x "__init__") K && (cellOf (K.lookup (clA (mA x "__init__") K)) (He.ga K x) && (fileOf (K.lookup (cdA (mA x "__init__") K)) z && ((PySem.W.clsIn K (He.ga K x)).isSome && (decide (PySem.W.mroIn K (He.ga K x) (.ref (He.ga K x)) = some true) && (He.eqO (PySem.W.ks_superIn K (He.ga K x) (He.ga K x) "__init__") (some (some (.ref (He.ma K (He.ga K y) "__init__")))) && (decide (PySem.W.typeIn K (.ref (He.ma K (He.ga K y) "__init__")) = some (.type "function")) && (PySem.W.fnIn K (He.ma K (He.ga K y) "__init__") && He.eqO (PySem.W.nsIn K cStatics "thirdparty.any") (some none)))))))))
  | .same x y m => decide (He.ma K (He.ga K x) m = He.ma K (He.ga K y) m)
  | .dgt => PySem.W.nsOkIn K cStatics && He.eqO (PySem.W.nsIn K cStatics "sys.int_max_str_digits") (some none)
  | .smd => (match K.lookup sysModules with
    | some ⟨.type c, _, _, _⟩ => decide (c = "dict")
    | _ => false)
  | .exm x y b => decide (PySem.W.exmOne K (.ref (He.ga K x)) (.ref (He.ga K y)) = some b)
  | .gtup x ns => (match K.lookup (He.ga K x) with
    | some ⟨.type c, _, .seq its _, _⟩ => decide (c = "tuple") && (decide (its.size ≤ 100) && decide (its.toList.map intOf = ns.map some))
    | _ => false)
section
variable {K : PySem.W.Frag}
theorem vals_ofI : ∀ {ns : List Int} {its : List Value}, its.map intOf = ns.map some → Vals (ns.map V.int) its
  | [], [], _ => .nil
  | n :: ns, [], h => by simp at h
  | [], v :: its, h => by simp at h
  | n :: ns, v :: its, h => by
    rw [List.map_cons, List.map_cons] at h
    injection h with h1 h2
    refine .cons ?_ (vals_ofI h2)
    cases v <;> simp [intOf] at h1
    subst h1
    exact ⟨_, rfl⟩
theorem gtup_ok {x : Str} {ns : List Int} (c : (Fx.gtup x ns).ok K = true) : KTup K (He.ga K x) ns := by
  have c : (match K.lookup (He.ga K x) with
    | some ⟨.type c, _, .seq its _, _⟩ => decide (c = "tuple") && (decide (its.size ≤ 100) && decide (its.toList.map intOf = ns.map some))
    | _ => false) = true := c
  split at c
  · rename_i cl od its n sl e
    rw [Bool.and_eq_true, Bool.and_eq_true] at c
    obtain ⟨c1, c2, c3⟩ := c
    have c1 := of_decide_eq_true c1
    subst c1
    exact ⟨_, its, n, e, rfl, rfl, of_decide_eq_true c2, vals_ofI (of_decide_eq_true c3)⟩
  · cases c
end
def obsS (fa : List Fx) (fn : List DefE) (K : PySem.W.Frag) : He.AlD := ((fa.all fun f => f.ok K) && fn.all fun d => d.ok K, fn.map fun d => fnE d.sup K (d.at_ K))
def valS (fn : List DefE) : He.AlD := (true, fn.map DefE.val)
def SaysS (fa : List Fx) (fn : List DefE) (K : PySem.W.Frag) : Prop := obsS fa fn K = valS fn
section
variable {fa : List Fx} {fn : List DefE} {K : PySem.W.Frag}
theorem SaysS.fact (c : SaysS fa fn K) (i : Nat) {f : Fx} (h : fa[i]? = some f := by rfl) : f.ok K = true := by
  have c1 := (He.ba (show ((fa.all fun f => f.ok K) && fn.all fun d => d.ok K) = true from congrArg (fun z : He.AlD => z.1) c)).1
  exact List.all_eq_true.mp c1 f (List.mem_of_getElem? h)
theorem SaysS.def_ (c : SaysS fa fn K) (i : Nat) {d : DefE} (h : fn[i]? = some d := by rfl) (hs : d.sup = false := by rfl) : ∃ fd, FunD K d.name d.qual d.params d.body d.scope (d.dvs K) [] (d.at_ K) fd := by
  have c2 := (He.ba (show ((fa.all fun f => f.ok K) && fn.all fun d => d.ok K) = true from congrArg (fun z : He.AlD => z.1) c)).2
  have e : fn.map (fun d => fnE d.sup K (d.at_ K)) = fn.map DefE.val := congrArg (fun z : He.AlD => z.2) c
  have e2 : (fn.map fun d => fnE d.sup K (d.at_ K))[i]? = (fn.map DefE.val)[i]? := by rw [e]
  rw [List.getElem?_map, List.getElem?_map, h] at e2
  have e3 : fnE d.sup K (d.at_ K) = d.val := Option.some.inj e2
  rw [hs] at e3
  exact DefE.funD e3 (List.all_eq_true.mp c2 d (List.mem_of_getElem? h))
end
def tbA (f : PySem.W.Frag → Addr) (K : PySem.W.Frag) : Addr := match K.lookup (cdA f K) with
  | some ⟨_, _, .fields vs, _⟩ => refOf (vs.getD 11 .none)
  | _ => 0
def isTab : Option Obj → Bool
  | some ⟨.none, .none, .fields vs, sl⟩ => vs.isEmpty && sl.isEmpty
  | _ => false
theorem isTab_ok {o : Option Obj} (h : isTab o = true) : o = some (PySem.W.tabObj #[]) := by
  unfold isTab at h
  split at h
  · rename_i vs sl
    rw [Bool.and_eq_true] at h
    obtain ⟨h1, h2⟩ := h
    rw [Array.isEmpty_iff] at h1 h2
    subst h1 h2
    rfl
  · cases h
abbrev Mk2 := (PySem.W.Frag → Addr) × Str
def mkOk (g : Addr → Option Obj) (K : PySem.W.Frag) (x : Mk2) : Bool := fnRef x.1 K && (PySem.W.codeHdIn K (cdA x.1 K) (tbA x.1 K) && (isTab (g (tbA x.1 K)) && (K.lookup (tbA x.1 K)).isNone))
def uqOk (tn : List Mk2) (K : PySem.W.Frag) : Bool := tn.all fun x => tn.all fun y => !decide (tbA x.1 K = tbA y.1 K) || decide (x.2 = y.2)
def asT (g : Addr → Option Obj) (n : Nat) : List Addr := (List.range n).filter fun a => !isTab (g a)
def obsT (n : Nat) (fa : List Fx) (fn : List DefE) (tn : List Mk2) (g : Addr → Option Obj) : He.AlD :=
  let K := He.frG g (asT g n)
  ((fa.all fun f => f.ok K) && ((fn.all fun d => d.ok K) && (tn.all (mkOk g K) && uqOk tn K)), fn.map fun d => fnE d.sup K (d.at_ K))
structure SaysT (fa : List Fx) (fn : List DefE) (tn : List Mk2) (K : PySem.W.Frag) (h : Heap) : Prop where
  s : SaysS fa fn K
  m : ∀ x ∈ tn, fnRef x.1 K = true ∧ PySem.W.codeHdIn K (cdA x.1 K) (tbA x.1 K) = true ∧ h.get? (tbA x.1 K) = some (PySem.W.tabObj #[]) ∧ K.lookup (tbA x.1 K) = none
  u : ∀ x ∈ tn, ∀ y ∈ tn, tbA x.1 K = tbA y.1 K → x.2 = y.2
theorem saysT_of {n : Nat} {fa : List Fx} {fn : List DefE} {tn : List Mk2} {h : Heap} (e : obsT n fa fn tn h.get? = valS fn) : ∃ K : PySem.W.Frag, K.In h ∧ SaysT fa fn tn K h := by
  refine ⟨He.frG h.get? (asT h.get? n), He.frG_in, ?_⟩
  unfold obsT valS at e
  dsimp only at e
  generalize He.frG h.get? (asT h.get? n) = K at e
  obtain ⟨e1, e2⟩ := Prod.mk.inj e
  obtain ⟨k1, k⟩ := He.ba e1
  obtain ⟨k2, k⟩ := He.ba k
  obtain ⟨k3, k4⟩ := He.ba k
  refine ⟨?_, fun x hx => ?_, fun x hx y hy z => ?_⟩
  · unfold SaysS obsS valS
    rw [k1, k2, e2]; rfl
  · have q := List.all_eq_true.mp k3 x hx
    obtain ⟨q1, q⟩ := He.ba q
    obtain ⟨q2, q⟩ := He.ba q
    obtain ⟨q3, q4⟩ := He.ba q
    exact ⟨q1, q2, isTab_ok q3, by simpa using q4⟩
  · have q := List.all_eq_true.mp (List.all_eq_true.mp k4 x hx) y hy
    simp [z] at q
    exact q
def hookT (n : Nat) (fa : List Fx) (fn : List DefE) (tn : List Mk2) : PySem.W.Hook where
  α := He.AlD
  obs := fun s => obsT n fa fn tn s.heap.get?
  val := fun _ => valS fn
  says := fun _ h => ∃ K : PySem.W.Frag, K.In h ∧ SaysT fa fn tn K h
  of := fun _ _ e => saysT_of e
  keeps := fun _ _ _ ⟨K, hK, c⟩ k => ⟨K, PySem.W.Frag.In.keeps hK k, c.s, fun x hx => ⟨(c.m x hx).1, (c.m x hx).2.1, k _ _ (c.m x hx).2.2.1, (c.m x hx).2.2.2⟩, c.u⟩
theorem obsT_eq {n : Nat} {fa : List Fx} {fn : List DefE} {tn : List Mk2} {g : Addr → Option Obj} {s : Shared} (h : ∀ a, g a = s.heap.get? a) : obsT n fa fn tn g = (hookT n fa fn tn).obs s := by
  have e : g = s.heap.get? := funext h
  rw [e] <;> rfl
theorem code_of {f : PySem.W.Frag → Addr} {K : PySem.W.Frag} {name qual : Str} {params : Arguments} {body : List Stmt} {scope : Scope} {cdv : Value} (h : fnRef f K = true) (lk : CodeAt K (f K) name qual params body scope cdv) : cdv = .ref (cdA f K) := by
  obtain ⟨oc, od, dV, kV, doc, pm, ct, an, osl, lk⟩ := lk
  unfold fnRef at h
  unfold cdA
  rw [lk] at h ⊢
  change isRef cdv = true at h
  change cdv = .ref (refOf cdv)
  cases cdv <;> first | rfl | cases h
def csOf (tn : List Mk2) (K : PySem.W.Frag) : List (Addr × Addr) := tn.map fun x => (cdA x.1 K, tbA x.1 K)
def tsOf (tn : List Mk2) (K : PySem.W.Frag) : List (Addr × Str) := tn.map fun x => (tbA x.1 K, x.2)
theorem mk_of {tn : List Mk2} {K : PySem.W.Frag} {mg : Str → Option Value} {base : Heap} (t : ∀ p ∈ csOf tn K, LamX.TabB base mg p.1 p.2) (u : ∀ x ∈ tn, ∀ y ∈ tn, tbA x.1 K = tbA y.1 K → x.2 = y.2) {i : Nat} {x : Mk2} (h : tn[i]? = some x) :
    LamX.TabB base mg (cdA x.1 K) (tbA x.1 K) ∧ (tbA x.1 K, x.2) ∈ tsOf tn K ∧ ∀ p ∈ tsOf tn K, p.1 = tbA x.1 K → p.2 = x.2 := by
  have hx := List.mem_of_getElem? h
  refine ⟨t _ (List.mem_map.mpr ⟨x, hx, rfl⟩), List.mem_map.mpr ⟨x, hx, rfl⟩, fun p hp e => ?_⟩
  obtain ⟨y, hy, rfl⟩ := List.mem_map.mp hp
  exact u y hy x hx e
section
variable {fa : List Fx} {fn : List DefE} {tn : List Mk2} {K : PySem.W.Frag} {h : Heap}
theorem cs_tab (c : SaysT fa fn tn K h) : ∀ p ∈ csOf tn K, h.get? p.2 = some (PySem.W.tabObj #[]) := fun p hp => by
  obtain ⟨x, hx, rfl⟩ := List.mem_map.mp hp
  exact (c.m x hx).2.2.1
theorem cs_no (c : SaysT fa fn tn K h) : ∀ p ∈ csOf tn K, K.lookup p.2 = none := fun p hp => by
  obtain ⟨x, hx, rfl⟩ := List.mem_map.mp hp
  exact (c.m x hx).2.2.2
theorem cs_code (X : K.In h) (c : SaysT fa fn tn K h) : ∀ p ∈ csOf tn K, PySem.W.CodeHd h p.1 p.2 := fun p hp => by
  obtain ⟨x, hx, rfl⟩ := List.mem_map.mp hp
  exact PySem.W.codeHd_of_K X (c.m x hx).2.1
end
end
end TS

set_option maxHeartbeats 0
namespace K47
open PySem L2 TS
def top (i : Nat) : Stmt := PySem.Challenge.pw_threeswaps_k47_sums_of_profiles.main.body.getD i (.Pass ⟨0, 0, 0, 0⟩)
def dE (p : PySem.W.Frag → Addr) (nm q : Str) (s : Stmt) (dfl : List He.Dv) : DefE := ⟨p, nm, q, defArgs s, defBody s, defScope s, dfl, false⟩
def d__law_pot : DefE := dE (gA "_law_pot") "_law_pot" "_law_pot" (top 53) []
def d__law_draw : DefE := dE (gA "_law_draw") "_law_draw" "_law_draw" (top 54) []
def d__law_pick : DefE := dE (gA "_law_pick") "_law_pick" "_law_pick" (top 55) []
def d__law_great : DefE := dE (gA "_law_great") "_law_great" "_law_great" (top 57) []
def d__law_divisor : DefE := dE (gA "_law_divisor") "_law_divisor" "_law_divisor" (top 58) []
def d__law_lowest : DefE := dE (gA "_law_lowest") "_law_lowest" "_law_lowest" (top 59) []
def d__law_plus : DefE := dE (gA "_law_plus") "_law_plus" "_law_plus" (top 60) []
def d__law_parts : DefE := dE (gA "_law_parts") "_law_parts" "_law_parts" (top 61) []
def d__law_number : DefE := dE (gA "_law_number") "_law_number" "_law_number" (top 63) []
def d__law_dicts : DefE := dE (gA "_law_dicts") "_law_dicts" "_law_dicts" (top 64) []
def d__law_sum : DefE := dE (gA "_law_sum") "_law_sum" "_law_sum" (top 65) []
def d_is_integer : DefE := dE (gA "is_integer") "is_integer" "is_integer" (top 13) []
def d_InvalidInteger___init__ : DefE := dE (mA "InvalidInteger" "__init__") "__init__" "InvalidInteger.__init__" (inClass (top 3) 0) []
def d_require_integer : DefE := dE (gA "require_integer") "require_integer" "require_integer" (top 14) [.non]
def d_divisor_of_two : DefE := dE (gA "divisor_of_two") "divisor_of_two" "divisor_of_two" (top 15) []
def d_common_divisor : DefE := dE (gA "common_divisor") "common_divisor" "common_divisor" (top 16) []
def d_is_ratio : DefE := dE (gA "is_ratio") "is_ratio" "is_ratio" (top 31) []
def d_are_lines : DefE := dE (gA "are_lines") "are_lines" "are_lines" (top 46) []
def d_InvalidProfile___init__ : DefE := dE (mA "InvalidProfile" "__init__") "__init__" "InvalidProfile.__init__" (inClass (top 7) 0) []
def d_are_rounds : DefE := dE (gA "are_rounds") "are_rounds" "are_rounds" (top 47) []
def d_InvalidRatio___init__ : DefE := dE (mA "InvalidRatio" "__init__") "__init__" "InvalidRatio.__init__" (inClass (top 4) 0) []
def d_in_lowest_terms : DefE := dE (gA "in_lowest_terms") "in_lowest_terms" "in_lowest_terms" (top 33) []
def d_ratio : DefE := dE (gA "ratio") "ratio" "ratio" (top 34) [.int 1]
def d_require_ratio : DefE := dE (gA "require_ratio") "require_ratio" "require_ratio" (top 32) []
def d_ratio_product : DefE := dE (gA "ratio_product") "ratio_product" "ratio_product" (top 36) []
def d_ratio_sum : DefE := dE (gA "ratio_sum") "ratio_sum" "ratio_sum" (top 35) []
def d_profile_sum : DefE := dE (gA "profile_sum") "profile_sum" "profile_sum" (top 48) []
def d__law_mixed : DefE := dE (gA "_law_mixed") "_law_mixed" "_law_mixed" (top 56) []
def d__law_turned : DefE := dE (gA "_law_turned") "_law_turned" "_law_turned" (top 62) []
def d_common_multiple : DefE := dE (gA "common_multiple") "common_multiple" "common_multiple" (top 17) []
def d_sorted_ratios : DefE := dE (gA "sorted_ratios") "sorted_ratios" "sorted_ratios" (top 37) []
def d_Profile___init__ : DefE := dE (mA "Profile" "__init__") "__init__" "Profile.__init__" (inClass (top 51) 0) []
def d_InvalidTable___init__ : DefE := dE (mA "InvalidTable" "__init__") "__init__" "InvalidTable.__init__" (inClass (top 5) 0) []
def d_InvalidAddress___init__ : DefE := dE (mA "InvalidAddress" "__init__") "__init__" "InvalidAddress.__init__" (inClass (top 6) 0) []
def d_NoTrack___init__ : DefE := dE (mA "NoTrack" "__init__") "__init__" "NoTrack.__init__" (inClass (top 9) 0) []
def d_TooLong___init__ : DefE := dE (mA "TooLong" "__init__") "__init__" "TooLong.__init__" (inClass (top 11) 0) []
def d_Profile_rounds : DefE := dE (mA "Profile" "rounds") "rounds" "Profile.rounds" (inClass (top 51) 6) []
def d_Profile_lines : DefE := dE (mA "Profile" "lines") "lines" "Profile.lines" (inClass (top 51) 5) []
def d__law_made : DefE := dE (gA "_law_made") "_law_made" "_law_made" (top 66) []
def d__law_right : DefE := dE (gA "_law_right") "_law_right" "_law_right" (top 67) []
def d_law : DefE := dE (gA "law") "law" "law" (top 68) []
def fn : List DefE := ([d__law_pot, d__law_draw, d__law_pick, d__law_great, d__law_divisor, d__law_lowest, d__law_plus, d__law_parts, d__law_number, d__law_dicts, d__law_sum, d_is_integer, d_InvalidInteger___init__, d_require_integer, d_divisor_of_two, d_common_divisor, d_is_ratio, d_are_lines, d_InvalidProfile___init__, d_are_rounds, d_InvalidRatio___init__, d_in_lowest_terms, d_ratio, d_require_ratio, d_ratio_product, d_ratio_sum, d_profile_sum, d__law_mixed, d__law_turned, d_common_multiple, d_sorted_ratios, d_Profile___init__, d_InvalidTable___init__, d_InvalidAddress___init__, d_NoTrack___init__, d_TooLong___init__, d_Profile_rounds, d_Profile_lines, d__law_made, d__law_right, d_law] : List DefE)
def fa : List Fx := ([.he (.free "len"), .he (.free "min"), .he (.free "max"), .he (.free "range"), .he (.free "abs"), .he (.free "int"), .he (.glo "_law_pot"), .he (.free "divmod"), .he (.glo "_law_draw"), .he (.glo "_law_pick"), .he (.glo "_law_great"), .he (.glo "_law_divisor"), .he (.glo "_law_lowest"), .he (.glo "_law_plus"), .he (.glo "_law_parts"), .he (.glo "_law_number"), .he (.glo "_law_dicts"), .he (.glo "_law_sum"), .smd, .he (.free "repr"), .he (.free "isinstance"), .he (.free "dict"), .he (.free "bool"), .he (.glo "is_integer"), .gtup "ZERO" [0, 1], .he (.glo "ZERO"), .he (.free "all"), .he (.free "tuple"), .exc "InvalidInteger" "ValueError", .he (.noat "InvalidInteger" "value"), .he (.glo "InvalidInteger"), .he (.glo "require_integer"), .he (.glo "divisor_of_two"), .he (.glo "common_divisor"), .he (.glo "is_ratio"), .he (.glo "are_lines"), .exc "InvalidProfile" "ValueError", .he (.noat "InvalidProfile" "problem"), .he (.glo "InvalidProfile"), .he (.glo "are_rounds"), .exc "InvalidRatio" "ValueError", .he (.noat "InvalidRatio" "value"), .he (.glo "InvalidRatio"), .he (.glo "in_lowest_terms"), .he (.glo "ratio"), .he (.glo "require_ratio"), .he (.glo "ratio_product"), .he (.glo "ratio_sum"), .he (.glo "profile_sum"), .he (.free "list"), .he (.glo "_law_mixed"), .he (.glo "_law_turned"), .gtup "ONE" [1, 1], .he (.glo "ONE"), .he (.cls "Profile"), .he (.noat "Profile" "own_lines"), .he (.glo "common_multiple"), .he (.free "sorted"), .he (.glo "sorted_ratios"), .he (.noat "Profile" "own_rounds"), .he (.mkr "Profile"), .he (.glo "Profile"), .exc "InvalidTable" "ValueError", .he (.noat "InvalidTable" "problem"), .he (.noat "InvalidTable" "position"), .he (.noat "InvalidTable" "earlier"), .exc "InvalidAddress" "ValueError", .he (.noat "InvalidAddress" "value"), .exc "NoTrack" "LookupError", .he (.noat "NoTrack" "key"), .he (.noat "NoTrack" "number"), .exc "TooLong" "ArithmeticError", .he (.noat "TooLong" "multiple"), .exm "InvalidInteger" "InvalidProfile" false, .exm "InvalidRatio" "InvalidProfile" false, .exm "InvalidTable" "InvalidProfile" false, .exm "InvalidAddress" "InvalidProfile" false, .exm "InvalidProfile" "InvalidProfile" true, .exm "NoTrack" "InvalidProfile" false, .exm "TooLong" "InvalidProfile" false, .he (.meth "Profile" "rounds"), .he (.meth "Profile" "lines"), .he (.glo "_law_made"), .he (.glo "_law_right"), .he (.glo "law")] : List Fx)
def tn : List Mk2 := [((gA "sorted_ratios"), "sorted_ratios.<locals>.<lambda>")]
abbrev R : PySem.W.OpenRow := PySem.W.OpenLaw.row PySem.Challenge.rw_threeswaps_k47_sums_of_profiles
abbrev hk : PySem.W.Hook := hookT 2000 fa fn tn
def ob (s : PySem.W.SharedT) : He.AlD := obsT 2000 fa fn tn (HandSHeadRun.getT s)
theorem ob_eq (s : PySem.W.SharedT) : ob s = hk.obs s.abs := obsT_eq (HandSHeadRun.getT_eq s)
def loose : List PySem.Str := (["_wall", "__name__", "ThreeswapsError", "InvalidInteger", "InvalidRatio", "InvalidTable", "InvalidAddress", "InvalidProfile", "AbsentError", "NoTrack", "LimitError", "TooLong"] : List PySem.Str) ++ ((["is_integer", "require_integer", "divisor_of_two", "common_divisor", "common_multiple", "Move", "checked_table", "least_table", "table_text", "joint_multiple", "moved", "joined_table"] : List PySem.Str) ++ ((["cycles_in", "running_sums", "sources_of", "Plan", "is_ratio", "require_ratio", "in_lowest_terms", "ratio", "ratio_sum", "ratio_product", "sorted_ratios", "LINE"] : List PySem.Str) ++ ((["ROUND", "Cycle", "Tracks", "ZERO", "ONE", "are_lines", "are_rounds", "profile_sum", "ratio_text", "cycle_offsets", "Profile", "_law_pot"] : List PySem.Str) ++ ((["_law_draw", "_law_pick", "_law_mixed", "_law_great", "_law_divisor", "_law_lowest", "_law_plus", "_law_parts", "_law_turned", "_law_number", "_law_dicts", "_law_sum"] : List PySem.Str) ++ ((["_law_made", "_law_right"] : List PySem.Str))))))
end K47

set_option maxHeartbeats 0
namespace K47
open PySem L2 TS
def obK (s : PySem.W.SharedT) : PySem.W.Frag := He.frG (HandSHeadRun.getT s) (asT (HandSHeadRun.getT s) 2000)
theorem map3 {α β γ δ : Type} {x : Option α} {f : α → β} {g : α → γ} {c : α → δ} {a : β} {b : γ} {d : δ} (h1 : x.map f = some a) (h2 : x.map g = some b) (h3 : x.map c = some d) : x.map (fun s => (f s, g s, c s)) = some (a, b, d) := by
  cases x with
  | none => cases h1
  | some s =>
    have h1 := Option.some.inj h1
    have h2 := Option.some.inj h2
    have h3 := Option.some.inj h3
    show some (f s, g s, c s) = _
    rw [h1, h2, h3]
theorem run_a (w : World) : ∀ os : OsState, (HandSHeadRun.endF (HandSHeadRun.stepQ (HandSHeadRun.denQ HandSHeadRun.tabQ) R.prog w) 12000 R.prog w os).map (fun s => HandSHeadRun.looksF R.prog (PySem.W.boot_heap w.params) s.abs) = some (true) := by
  intro os
  kernel_rfl
theorem run_b (w : World) : ∀ os : OsState, (HandSHeadRun.endF (HandSHeadRun.stepQ (HandSHeadRun.denQ HandSHeadRun.tabQ) R.prog w) 12000 R.prog w os).map (fun s => HandSHeadRun.seenQ (PySem.W.view R.prog [68]) loose (importedModules R.prog.main.body) (fun s => PySem.W.xlAt (PySem.W.view R.prog [68]) [] s && PySem.W.recOk R.toRowW.records s) s.abs) = some (PySem.W.openGood (PySem.W.view R.prog [68]) loose) := by
  intro os
  kernel_rfl
theorem run_c1 (w : World) : ∀ os : OsState, (HandSHeadRun.endF (HandSHeadRun.stepQ (HandSHeadRun.denQ HandSHeadRun.tabQ) R.prog w) 12000 R.prog w os).map (fun s => (fa.take 80).all fun f => f.ok (obK s)) = some (true) := by
  intro os
  kernel_rfl
theorem run_c2 (w : World) : ∀ os : OsState, (HandSHeadRun.endF (HandSHeadRun.stepQ (HandSHeadRun.denQ HandSHeadRun.tabQ) R.prog w) 12000 R.prog w os).map (fun s => (fa.drop 80).all fun f => f.ok (obK s)) = some (true) := by
  intro os
  kernel_rfl
theorem run_c3 (w : World) : ∀ os : OsState, (HandSHeadRun.endF (HandSHeadRun.stepQ (HandSHeadRun.denQ HandSHeadRun.tabQ) R.prog w) 12000 R.prog w os).map (fun s => (fn.take 40).all fun d => d.ok (obK s)) = some (true) := by
  intro os
  kernel_rfl
theorem run_c5 (w : World) : ∀ os : OsState, (HandSHeadRun.endF (HandSHeadRun.stepQ (HandSHeadRun.denQ HandSHeadRun.tabQ) R.prog w) 12000 R.prog w os).map (fun s => ((fn.drop 40).all fun d => d.ok (obK s)) && (tn.all (mkOk (HandSHeadRun.getT s) (obK s)) && uqOk tn (obK s))) = some (true) := by
  intro os
  kernel_rfl
theorem run_c4 (w : World) : ∀ os : OsState, (HandSHeadRun.endF (HandSHeadRun.stepQ (HandSHeadRun.denQ HandSHeadRun.tabQ) R.prog w) 12000 R.prog w os).map (fun s => (ob s).2) = some (fn.map DefE.val) := by
  intro os
  kernel_rfl
theorem all_cut {α : Type} (xs : List α) (p : α → Bool) (n : Nat) (h1 : (xs.take n).all p = true) (h2 : (xs.drop n).all p = true) : xs.all p = true := by
  rw [← List.take_append_drop n xs, List.all_append, h1, h2]
  rfl
theorem and_cut {a b : Bool} (h : (a && b) = true) : a = true ∧ b = true := by
  cases a with
  | false => cases h
  | true => exact ⟨rfl, h⟩
theorem ob_cut {s : PySem.W.SharedT} {v : List He.FnW} (h1 : ((fa.take 80).all fun f => f.ok (obK s)) = true) (h2 : ((fa.drop 80).all fun f => f.ok (obK s)) = true) (h3 : ((fn.take 40).all fun d => d.ok (obK s)) = true) (h5 : (((fn.drop 40).all fun d => d.ok (obK s)) && (tn.all (mkOk (HandSHeadRun.getT s) (obK s)) && uqOk tn (obK s))) = true) (h4 : (ob s).2 = v) : ob s = (true, v) := by
  have e : (ob s).1 = ((fa.all fun f => f.ok (obK s)) && ((fn.all fun d => d.ok (obK s)) && (tn.all (mkOk (HandSHeadRun.getT s) (obK s)) && uqOk tn (obK s)))) := rfl
  obtain ⟨h6, h7⟩ := and_cut h5
  rw [all_cut fa (fun f => f.ok (obK s)) 80 h1 h2, all_cut fn (fun d => d.ok (obK s)) 40 h3 h6, h7] at e
  exact Prod.ext e h4
theorem run_c (w : World) (os : OsState) : (HandSHeadRun.endF (HandSHeadRun.stepQ (HandSHeadRun.denQ HandSHeadRun.tabQ) R.prog w) 12000 R.prog w os).map (fun s => ob s) = some (hk.val w) := by
  have h1 := run_c1 w os
  have h2 := run_c2 w os
  have h3 := run_c3 w os
  have h4 := run_c4 w os
  have h5 := run_c5 w os
  generalize HandSHeadRun.endF (HandSHeadRun.stepQ (HandSHeadRun.denQ HandSHeadRun.tabQ) R.prog w) 12000 R.prog w os = x at *
  cases x with
  | none => cases h1
  | some s => exact congrArg some (ob_cut (Option.some.inj h1) (Option.some.inj h2) (Option.some.inj h3) (Option.some.inj h5) (Option.some.inj h4))
theorem run (w : World) : HandSHeadRun.RunEq R (PySem.W.view R.prog [68]) hk ob 12000 loose w := by
  intro os
  exact map3 (run_a w os) (run_b w os) (run_c w os)
end K47

namespace PySem.W
section
variable {prog : Program} {w : World} {A : Around} {E : Value → Shared → Prop} {s : Shared} {K : Frag} {x C L f : Addr} {h₀ : Heap} {m : Str → Option Value} {ox : Obj} {od : Option Obj} {name : Str} {b tb : Value}
end
end PySem.W
namespace TS
open PySem L2
noncomputable section
abbrev Tg := String ⊕ Nat
def tagD : D → Option Tg
  | .non => some (.inl "NoneType")
  | .bl _ => some (.inl "bool")
  | .int _ => some (.inl "int")
  | .str _ => some (.inl "str")
  | .lst _ => some (.inl "list")
  | .tup _ => some (.inl "tuple")
  | .ktp _ => some (.inl "tuple")
  | .dK _ _ => some (.inl "dict")
  | .dT _ _ => none
  | .obj n _ => some (.inr n)
  | _ => none
def TgV (M : Gm) : Tg → Value → Prop
  | .inl s, v => v = .type s
  | .inr n, v => ∃ C, M.G n = some C ∧ v = .ref C
structure InsTy (K : PySem.W.Frag) (C : Addr) : Prop where
  cl : Cls K C
  ha : PySem.W.findIn K (.ref C) "__class__" = some (some (.builtin "object.__class__"))
  hn : PySem.W.specialIn K (.builtin "object.__class__") "__get__" = some (some (.builtin "getset_descriptor.__get__"))
  htk : PySem.W.takesIn K (.builtin "object.__class__") = some true
  hm : PySem.W.mroIn K C (.type "object") = some true
section
variable {M : Gm} {F H : Hp}
theorem tyx_of {d : D} {v : V} {t : Tg} (s : Same F H) (h : prep M F H d v) (e : tagD d = some t) (hI : ∀ n C, t = .inr n → M.G n = some C → InsTy M.K C) : ∃ tv, TgV M t tv ∧ TyX M.K H v tv := by
  cases d with
  | non => cases e; rw [prep_non h]; exact ⟨_, rfl, .base .non⟩
  | bl b => cases e; rw [prep_bl h]; exact ⟨_, rfl, .base (.bl b)⟩
  | int b => cases e; rw [prep_int h]; exact ⟨_, rfl, .base (.int b)⟩
  | str b => cases e; rw [prep_str h]; exact ⟨_, rfl, .base (.str b)⟩
  | lst ds =>
    cases e
    obtain ⟨a, vs, rfl, h2, _⟩ := prep_lst s h
    exact ⟨_, rfl, .base (.lst h2)⟩
  | tup ds =>
    cases e
    obtain ⟨a, vs, rfl, h2, _⟩ := prep_tup s h
    rcases h2 with (h2 | ⟨o, h2⟩) | ⟨o, its, n, h2, h3, _⟩
    · exact ⟨_, rfl, .base (.tup h2)⟩
    · exact ⟨_, rfl, .fTuple h2⟩
    · exact ⟨_, rfl, .kTuple h2 h3⟩
  | dK ks ds =>
    cases e
    obtain ⟨a, vs, rfl, h2, _⟩ := prep_dK s h
    rcases h2 with h2 | ⟨o, h2⟩
    · exact ⟨_, rfl, .base (.dK h2)⟩
    · exact ⟨_, rfl, .fDict h2⟩
  | dT ks ds => cases e
  | obj n ds =>
    cases e
    obtain ⟨a, C, dx, fs, rfl, h1, h2, _⟩ := prep_obj s h
    obtain ⟨k1, k2, k3, k4, k5⟩ := hI n C rfl h1
    exact ⟨_, ⟨C, h1, rfl⟩, .base (.ins h2 k1 k2 k3 k4 k5)⟩
  | scr ds => cases e
  | cls n => cases e
  | lam => cases e
  | ktp ns =>
    cases e
    obtain ⟨a, rfl, h2, _⟩ := prep_ktp (H := H) h
    rcases h2 with (h2 | ⟨o, h2⟩) | ⟨o, its, n, h2, h3, _⟩
    · exact ⟨_, rfl, .base (.tup h2)⟩
    · exact ⟨_, rfl, .fTuple h2⟩
    · exact ⟨_, rfl, .kTuple h2 h3⟩
end
def IsT (M : Gm) (us : List Value) (tab : Tg → Option Bool) : Prop := ∀ t b tv, tab t = some b → TgV M t tv → PySem.W.kitAny M.K tv us = some b ∧ ∀ n C, t = .inr n → M.G n = some C → InsTy M.K C
def fIsi (tab : Tg → Option Bool) (fe : FD) : FD := fun δ => (fe δ).bind fun d δ => match tagD d with
  | some t => (match tab t with
    | some b => .ok (.bl b) δ
    | none => .bad)
  | none => .bad
section
variable {M : Gm} {c : Cn M} {W : WX} {X : Cx} {a c1 : Expr} {tab : Tg → Option Bool} {fe : FD} {p pos : Pos}
theorem kitAny_one {K : PySem.W.Frag} {t u : Value} {b : Bool} (h : PySem.W.kitAny K t [u] = some b) : PySem.W.kitOne K t u = some b := by
  unfold PySem.W.kitAny at h
  cases q : PySem.W.kitOne K t u with
  | none => rw [q] at h; cases h
  | some k =>
    rw [q] at h
    cases k with
    | true => exact h
    | false => exact h
theorem di_isi {v : V} {u : Value} (hg : Gl X "isinstance") (hm : X.mg "isinstance" = none) (ha : DP M W X a fe) (hc : PE X c1 (tC v)) (hv : ClsV v u) (T : IsT M [u] tab) (hK : X.K = M.K := by rfl)
    (hs : starEach [a, c1] X.env = (false, eval a X.env) :: starEach [c1] X.env := by rfl) (hs2 : starEach [c1] X.env = (false, eval c1 X.env) :: starEach [] X.env := by rfl)
    (mk : ∀ {t : TA}, PA X [a, c1] t → PE X (.Call (.Name "isinstance" p) [a, c1] [] pos) (tCB (rIsi X.K) t)) :
    DI M W X (.Call (.Name "isinstance" p) [a, c1] [] pos) (fIsi tab fe) := by
  obtain ⟨t, pp, h⟩ := ha
  refine ⟨_, mk (pa_cons pp (pa_cons hc pa_nil hs2) hs), fun c F H σ δ Q ok post => h c F H σ δ _ ok (Post.bind post fun d δ1 x F1 H1 _ s1 ok1 r post => ?_)⟩
  split at post
  · rename_i t e1
    split at post
    · rename_i b e2
      obtain ⟨tv, k1, k2⟩ := tyx_of ok1.same r e1 (fun n C h1 h2 => by
        have : ∃ tv, TgV M t tv := ⟨.ref C, by subst h1; exact ⟨C, h2, rfl⟩⟩
        obtain ⟨tv, h3⟩ := this
        exact (T t b tv e2 h3).2 n C h1 h2)
      have k3 := kitAny_one (T t b tv e2 k1).1
      exact ⟨x, v, tv, u, b, rfl, hv, by rw [hK]; exact k2, by rw [hK]; exact k3, post.ok ok1 (rep_bl' _)⟩
    · exact post.elim
  · exact post.elim
end
end
end TS

namespace TS
open PySem L2
noncomputable section
def OpDI (M : Gm) (r : R2) (g : D → D → Option R) : Prop := ∀ (c : Cn M) (F H : Hp) (σ : St) (δ : Sl) (x y : V) (dx dy : D) (z : R) (Q : VK), Ok c F H σ δ → rep M F dx x → rep M F dy y → g dx dy = some z →
  (∀ v F' H', Same F F' → Ok c F' H' σ δ → repR c F' H' σ δ z v → Q v H') → r x y H Q
section
variable {M : Gm} {c : Cn M} {W : WX} {X : Cx} {a b : Expr} {pos : Pos} {fa fb : FD} {r r' : R2} {g g' : D → D → Option R}
theorem OpD.I (h : OpD M r g) : OpDI M r g := fun c F H σ δ x y dx dy z Q ok px py e q => h c F H σ δ x y dx dy z Q ok (.inl px) (.inl py) e q
theorem OpDI.or (h : OpDI M r g) (h' : OpDI M r' g') : OpDI M (fun x y H Q => r x y H Q ∨ r' x y H Q) (gOr g g') := by
  intro c F H σ δ x y dx dy z Q ok px py e q
  unfold gOr at e
  cases e1 : g dx dy with
  | some w => rw [e1] at e; cases e; exact .inl (h c F H σ δ x y dx dy _ Q ok px py e1 q)
  | none => rw [e1] at e; exact .inr (h' c F H σ δ x y dx dy z Q ok px py e q)
end
section
variable {X : Cx} {pins : List (Addr × Obj)} {σ : St} {H : Hp} {s : Shared}
theorem takes0 : Takes X W0 := fun u s' ⟨a, B, sI, pins, σ, H, cls, d, e, I, nb, up, sky, na, os, ag, w⟩ => w.elim
end
def fUnI (g : Int → Int) (fe : FD) : FD := fun δ => (fe δ).bind fun d δ => match d with
  | .int i => .ok (.int (g i)) δ
  | _ => .bad
section
variable {M : Gm} {c : Cn M} {W : WX} {X : Cx} {a b : Expr} {pos : Pos} {fa fb : FD}
theorem di_neg (ha : DI M W X a fa) : DI M W X (.UnaryOp .USub a pos) (fUnI (fun i => -i) fa) := by
  obtain ⟨t, p, h⟩ := ha
  refine ⟨_, pe_un un_neg p, fun c F H σ δ Q ok post => h c F H σ δ _ ok (Post.bind post fun d δ1 v F1 H1 _ s1 ok1 r post => ?_)⟩
  split at post
  · rename_i i _
    have ev : v = .int i := by unfold ρD rep at r; exact r
    exact ⟨i, ev, post.ok ok1 (rep_int' _)⟩
  · exact post.elim
theorem de_dnew : DE M W X (.Dict [] [] pos) (fun δ => .ok (.own (.dK [] [])) δ) :=
  ⟨_, pe_dnewK, fun c F H σ δ Q ok post => fun p hp => post.ok (ok.alloc hp) (ok.made hp ⟨[], upd_same, rfl, reps_nil⟩)⟩
theorem de_dnewT : DE M W X (.Dict [] [] pos) (fun δ => .ok (.own (.dT [] [])) δ) :=
  ⟨_, pe_dnewT, fun c F H σ δ Q ok post => fun p hp => post.ok (ok.alloc hp) (ok.made hp ⟨[], upd_same, rfl, reps_nil⟩)⟩
end
def setF (vs : List D) (j : Nat) (d : D) : Option (List D) := if vs.length = j then some (vs ++ [d]) else if j < vs.length then some (vs.set j d) else none
theorem putF_new {f : Str} {v : V} : ∀ {fs : List (Str × V)}, f ∉ fs.map (·.1) → putF f v fs = fs ++ [(f, v)]
  | [], _ => rfl
  | (g, x) :: r, h => by
    simp only [List.map_cons, List.mem_cons, not_or] at h
    simp only [putF, if_neg (Ne.symm h.1), List.cons_append]
    rw [putF_new h.2]
theorem putF_at {f : Str} {v : V} : ∀ {fs : List (Str × V)} {j : Nat}, (fs.map (·.1))[j]? = some f → f ∉ (fs.map (·.1)).take j → putF f v fs = fs.set j (f, v)
  | [], j, h, _ => by simp at h
  | (g, x) :: r, 0, h, _ => by
    simp at h
    subst h
    simp [putF]
  | (g, x) :: r, j + 1, h, hn => by
    simp at h
    simp only [List.map_cons, List.take_succ_cons, List.mem_cons, not_or] at hn
    simp only [putF, if_neg (Ne.symm hn.1), List.set_cons_succ]
    rw [putF_at (by simpa using h) hn.2]
theorem setF_ok {M : Gm} {F : Hp} {n j : Nat} {f : Str} {vs vs' : List D} {d : D} {v : V} {fs : List (Str × V)} (hj : (M.nm n)[j]? = some f) (hn : f ∉ (M.nm n).take j) (h3 : fs.map (·.1) = (M.nm n).take vs.length) (h4 : reps M F vs (fs.map (·.2))) (rv : rep M F d v) (e : setF vs j d = some vs') :
    (putF f v fs).map (·.1) = (M.nm n).take vs'.length ∧ reps M F vs' ((putF f v fs).map (·.2)) := by
  have hjl : j < (M.nm n).length := (List.getElem?_eq_some_iff.mp hj).1
  unfold setF at e
  split at e
  · rename_i hl
    cases e
    rw [putF_new (by rw [h3, hl]; exact hn)]
    constructor
    · rw [List.map_append, h3, List.length_append, hl]
      show (M.nm n).take j ++ [f] = (M.nm n).take (j + 1)
      rw [List.take_succ, hj]; rfl
    · rw [List.map_append]; exact reps_append h4 (reps_cons rv reps_nil)
  · split at e
    · rename_i hl hlt
      cases e
      rw [putF_at (j := j) (by rw [h3, List.getElem?_take_of_lt hlt]; exact hj) (by rw [h3, List.take_take, Nat.min_eq_left (Nat.le_of_lt hlt)]; exact hn)]
      constructor
      · rw [List.map_set, List.length_set, h3]
        apply List.ext_getElem?
        intro i
        by_cases hi : j = i
        · subst hi
          rw [List.getElem?_set_self (by rw [List.length_take]; omega), List.getElem?_take_of_lt hlt, hj]
        · rw [List.getElem?_set_ne hi]
      · rw [List.map_set]; exact reps_set j h4 rv
    · cases e
def sFldS (i : Nat) (ix : Nat → Option Nat) (fe : FD) : FS := fun δ => (fe δ).bindS fun d δ1 => match δ1[i]? with
  | some (some (.own (.o n vs))) => (match ix n with
    | some j => (match setF vs j d with
      | some vs' => .nx (δ1.set i (some (.own (.o n vs'))))
      | none => .bad)
    | none => .bad)
  | some (some (.brw (.o n vs))) => (match ix n with
    | some j => (match setF vs j d with
      | some vs' => .nx (δ1.set i (some (.brw (.o n vs'))))
      | none => .bad)
    | none => .bad)
  | _ => .bad
section
variable {M : Gm} {c : Cn M} {W : WX} {X : Cx}
theorem ds_fld {o e : Expr} {i : Nat} {f : Str} {ix : Nat → Option Nat} {fe : FD} {pos pos' : Pos} (T : FldT M f ix) (hlen : ∀ n, (M.nm n).length < 1000) (ho : PE X o (tVar i)) (he : DI M W X e fe) (hK : X.K = M.K := by rfl) (hs : swapsWith e (some (.Attribute o f pos')) pos.line X.env = pure false := by rfl) :
    DS M W X (.Assign [.Attribute o f pos'] e pos) (sFldS i ix fe) := by
  obtain ⟨t, p, h⟩ := he
  refine ⟨_, ps_fld ho p hs, fun c F H σ δ E ok post => h c F H σ δ _ ok (PostS.ofE post fun d δ1 v F1 H1 _ s1 ok1 r post => ?_)⟩
  have key : ∀ (mkr : OB → R) (n : Nat) (vs : List D), (mkr = R.own ∨ mkr = R.brw) → δ1[i]? = some (some (mkr (.o n vs))) →
      PostS c W F1 (match ix n with | some j => (match setF vs j d with | some vs' => .nx (δ1.set i (some (mkr (.o n vs')))) | none => .bad) | none => .bad) E → ∃ v0, σ[i]? = some (some v0) ∧ ∃ a C dx fs, v0 = V.ref a ∧ H1 a = some (.ins C dx fs) ∧ Cls X.K C ∧ NoAttr X.K C f ∧ fs.length < 1000 ∧ E.nx σ (upd H1 a (.ins C dx (putF f v fs))) := by
    intro mkr n vs hk q post
    split at post
    · rename_i j hj
      split at post
      · rename_i vs' hv
        have hm : (mkr (.o n vs)).mu = true := by rcases hk with rfl | rfl <;> rfl
        obtain ⟨a, ob, ea, hf, hob, hkk⟩ := ok1.mus q hm
        have eob : ob = .o n vs := by
          rcases hk with rfl | rfl
          · rcases hkk with ⟨z, _⟩ | ⟨z, _⟩ <;> cases z; rfl
          · rcases hkk with ⟨z, _⟩ | ⟨z, _⟩ <;> cases z; rfl
        subst eob
        obtain ⟨C, dx, fs, h1, h2, h3, h4⟩ := hob
        obtain ⟨k1, k2, k3⟩ := T n j hj
        obtain ⟨p1, p2⟩ := setF_ok k2 k3 h3 h4 r hv
        refine ⟨.ref a, ea, a, C, dx, fs, rfl, h2, by rw [hK]; exact (k1 C h1).1, by rw [hK]; exact (k1 C h1).2, ?_, ?_⟩
        · have := congrArg List.length h3
          rw [List.length_map, List.length_take] at this
          have := hlen n
          omega
        · have rel : (mkr (.o n vs) = .own (.o n vs) ∧ mkr (.o n vs') = .own (.o n vs')) ∨ (mkr (.o n vs) = .brw (.o n vs) ∧ mkr (.o n vs') = .brw (.o n vs')) := by
            rcases hk with rfl | rfl
            · exact .inl ⟨rfl, rfl⟩
            · exact .inr ⟨rfl, rfl⟩
          exact post F1 _ σ (Same.refl _) (ok1.write q rel ea ⟨C, dx, _, h1, upd_same, p1, p2⟩)
      · exact post.elim
    · exact post.elim
  split at post
  · rename_i n vs q
    exact key R.own n vs (.inl rfl) q post
  · rename_i n vs q
    exact key R.brw n vs (.inr rfl) q post
  · exact post.elim
end
section
variable {M : Gm} {P : Program} {w : World} {mg : Str → Option Value} {base : Heap} {k : Nat} {f : Addr} {fm : Fm}
def fmDfl (fm : Fm) (dd : List D) : Fm := fun io ds => fm io (ds ++ dd)
theorem fnR_dfl {dd : List D} {dvs : List V} (hr : ∀ F, reps M F dd dvs) (F : FnR P w M.K mg base (L2.CX P w) k f (fun vs H Q E => spD M fm (vs ++ dvs) H Q E)) : FnR P w M.K mg base (L2.CX P w) k f (spD M (fmDfl fm dd)) :=
  F.imp fun vs H Q E h => by
    obtain ⟨F0, io, a, ws, ds, rfl, s, tb, rs, ia, h⟩ := h
    exact ⟨F0, io, a, ws ++ dvs, ds ++ dd, by rw [List.append_assoc], s, tb, reps_append rs (hr F0), ia, h⟩
theorem fnR_raw {fd : FuncData} {ps : List Str} (F : FnOk P w M.K mg base (L2.CX P w) k f fd ps (spD M fm)) (hb : Binds M.K fd ps []) : FnR P w M.K mg base (L2.CX P w) k f (spD M fm) :=
  (F.raw (dvs := []) hb .nil).imp fun vs H Q E h => by rw [List.append_nil]; exact h
def fmStar (np : Nat) (fm : Fm) : Fm := fun io ds => match io with
  | none => if decide (np ≤ ds.length ∧ ds.length ≤ 16777216) then fm none (ds.take np ++ [.tup (ds.drop np)]) else .bad
  | some _ => .bad
theorem star_imp {np : Nat} {vs : List V} {H : Hp} {Q : VK} {E : XK} (h : spD M (fmStar np fm) vs H Q E) : ∃ ws rest, vs = ws ++ rest ∧ ws.length = np ∧ rest.length ≤ sizeLine ∧ ∀ p, H p = Option.none → spD M fm (ws ++ [V.ref p]) (upd H p (.tup rest)) Q E := by
  obtain ⟨F, io, a, ws, ds, rfl, s, tb, rs, ia, h⟩ := h
  unfold fmStar at h
  cases io with
  | some o => exact h.elim
  | none =>
    by_cases hc : np ≤ ds.length ∧ ds.length ≤ 16777216
    · simp only [decide_eq_true hc, if_true] at h
      have hl := reps_length rs
      refine ⟨ws.take np, ws.drop np, by simp [ioV], by rw [List.length_take, hl]; omega, by rw [List.length_drop, hl, sizeLine_eq]; omega, fun p hp => ?_⟩
      have hF : F p = none := s.free hp
      have g : Same F (upd F p (.tup (ws.drop np))) := fun b o e => by rw [upd_ne (ne_of_none e hF)]; exact e
      have hs2 : Same (upd F p (.tup (ws.drop np))) (upd H p (.tup (ws.drop np))) := fun b o e => by
        by_cases q : b = p
        · subst q; rw [upd_same] at e ⊢; exact e
        · rw [upd_ne q] at e ⊢; exact s b o e
      refine ⟨upd F p (.tup (ws.drop np)), none, a, _, ds.take np ++ [.tup (ds.drop np)], rfl, hs2, (tb.alloc hp).frz upd_same rfl, reps_append (reps_mono g _ _ (reps_take np rs)) (reps_cons ?_ reps_nil), trivial, ?_⟩
      · unfold rep
        exact ⟨p, _, rfl, upd_same, reps_mono g _ _ (reps_drop np rs)⟩
      · have stp : ∀ {F' H' : Hp}, Stp M (upd F p (.tup (ws.drop np))) (upd H p (.tup (ws.drop np))) F' H' none → Stp M F H F' H' none := fun {F' H'} st => by
          refine ⟨g.trans st.grow, fun b o e1 n e2 => ?_, fun b o e1 n e2 => ?_, st.same, st.tb⟩
          · have q : b ≠ p := fun z => by rw [z, hp] at e1; cases e1
            exact st.nofz b o (by rw [upd_ne q]; exact e1) n (by rw [upd_ne q]; exact e2)
          · have q : b ≠ p := fun z => by rw [z, hp] at e1; cases e1
            exact st.kept b o (by rw [upd_ne q]; exact e1) n (fun z => by cases z)
        cases q : fm none (ds.take np ++ [.tup (ds.drop np)]) with
        | bad => rw [q] at h; exact h
        | exc x io' => rw [q] at h; exact fun cls d F' H' st xa ia => h cls d F' H' (stp st) xa ia
        | ok r io' =>
          rw [q] at h
          intro v F' H' st ra ia
          refine h v F' H' (stp st) ?_ ia
          cases r with
          | imm d => exact ra
          | brw o => exact ra
          | nst tp ps =>
            obtain ⟨a, vs, h1, h2, h3⟩ := ra
            refine ⟨a, vs, h1, h2, fun b hb => ⟨(h3 b hb).1, fun u hu => ?_⟩⟩
            have z : b ≠ p := fun z => by rw [z, hp] at hu; cases hu
            exact (h3 b hb).2 u (by rw [upd_ne z]; exact hu)
          | own o =>
            obtain ⟨b, rfl, k1, k2, k3⟩ := ra
            refine ⟨b, rfl, k1, fun u hu => ?_, k3⟩
            have z : b ≠ p := fun z => by rw [z, hp] at hu; cases hu
            exact k2 u (by rw [upd_ne z]; exact hu)
    · simp only [decide_eq_false hc] at h
      exact h.elim
theorem funD_star {x qual : Str} {params : Arguments} {body : List Stmt} {scope : Scope} {kws : List (Str × V)} {fd : FuncData} {N ps : List Str} {pv : Str} {g : FS} (F : FunD M.K x qual params body scope [] kws f fd) (S : FnScope N (ps ++ [pv]) scope) (hN : (ps ++ [pv]).length ≤ N.length)
    (hbi : ∀ (kV doc pm : Value) (an : Option Addr) (cdv ct : Value) (us rest : List Value), us.length = ps.length → bindArgs (PySem.W.fnOf x qual params body scope .none kV doc pm an cdv ct) ⟨us ++ rest, []⟩ = (newTuple rest >>= fun t => pure (ps.zip us ++ [(pv, t)])))
    (hb : ∀ (cdv : Value) (A : Around) (outer : List Env) (s : Shared) (H : Hp) (E : XK), Room k (A.deeper (PyProof.Rows.envOfC qual scope s.heap.objs.size f cdv)) →
      Takes (cxOf (L2.CX P w) P w M.K mg base N qual scope f cdv A outer s H E) (fun cls d _ H => E cls d H) →
      PassesOwn (model P w) (A.deeper (PyProof.Rows.envOfC qual scope s.heap.objs.size f cdv)) (PyProof.Rows.envOfC qual scope s.heap.objs.size f cdv) (cxOf (L2.CX P w) P w M.K mg base N qual scope f cdv A outer s H E).xe →
      DSs M (fun cls d _ H => E cls d H) (cxOf (L2.CX P w) P w M.K mg base N qual scope f cdv A outer s H E) body g) :
    FnR P w M.K mg base (L2.CX P w) (k + 1) f (spD M (fmStar ps.length (mir N.length (ps ++ [pv]).length g))) := by
  obtain ⟨oc, od, dV, kV, doc, pm, an, cdv, ct, osl, rfl, lk, hcd, hD, _⟩ := F.ex
  obtain rfl : dV = .none := by
    rcases hD with ⟨_, e⟩ | ⟨e, _⟩
    · exact e
    · exact absurd rfl e
  refine (FnR.star (sp := spD M (mir N.length (ps ++ [pv]).length g)) lk hcd S StX.cxUp (hbi kV doc pm an cdv ct) (fun A outer s H vs Q E hr h => ?_)).imp fun vs H Q E h => star_imp h
  obtain ⟨t, p, ht⟩ := hb cdv A outer s H E hr (takes_of rfl rfl rfl rfl) (passes_of rfl)
  exact ⟨t, p, body_ok hN h ht⟩
end
end
end TS

namespace TS
open PySem L2
noncomputable section
def FnK (P : Program) (w : World) (K : PySem.W.Frag) (mg : Str → Option Value) (base : Heap) (CX : CXT) (k : Nat) (f : Addr) (n : Nat) (ks : List Str) (sp : Sp) : Prop :=
  ∀ (A : Around) (outer : List Env) (s : Shared) (H : Hp) (us ws : List Value) (vs zs : List V) (Q : VK) (E : XK), Room k A → Env0 P w K mg base A outer s H → vs.length = n → zs.length = ks.length → Vals vs us → Vals zs ws → sp (vs ++ zs) H Q E →
    codeAny (model P w) A (.call (.ref f) ⟨us, ks.zip ws⟩) (CR CX outer P w H s Q E) s
section
variable {P : Program} {w : World} {K : PySem.W.Frag} {mg : Str → Option Value} {base : Heap} {CX : CXT} {j k n : Nat} {ks : List Str} {f : Addr} {sp sp' : Sp}
theorem FnK.mono (F : FnK P w K mg base CX j f n ks sp) (h : j ≤ k) : FnK P w K mg base CX k f n ks sp := fun A outer s H us ws vs zs Q E hr => F A outer s H us ws vs zs Q E (hr.mono h)
theorem FnOk.kw {fd : FuncData} {ps : List Str} {g : List Value → List Value → List Value} {gV : List V → List V → List V} (F : FnOk P w K mg base CX k f fd ps sp) (hb : KBn K fd ps n ks g gV)
    (hi : ∀ vs zs H Q E, vs.length = n → zs.length = ks.length → sp' (vs ++ zs) H Q E → sp (gV vs zs) H Q E) : FnK P w K mg base CX k f n ks sp' := by
  intro A outer s H us ws vs zs Q E hr e0 l1 l2 r rz h
  exact F.run A outer s H ⟨us, ks.zip ws⟩ (g us ws) (gV vs zs) Q E hr e0 (hb.to s us ws (e0.mod.kin.keeps fun b o e => (e0.bs b o e).1) (r.length.symm.trans l1) (rz.length.symm.trans l2)) (hb.rel r rz) (hi vs zs H Q E l1 l2 h)
end
section
variable {M : Gm} {P : Program} {w : World} {mg : Str → Option Value} {base : Heap} {k n : Nat} {ks : List Str} {f : Addr} {fm : Fm}
end
section
variable {X : Cx} {W : WX} {pins : List (Addr × Obj)} {σ : St} {H : Hp} {s : Shared}
theorem run_fnK {k n : Nat} {ks : List Str} {f : Addr} {sp : Sp} {Q : VK} {us ws : List Value} {vs zs : List V} (F : FnK X.prog X.w X.K X.mg X.base (CXX X) k f n ks sp) (hr : Room k X.A) (tk : Takes X W) (I : Inv X pins σ H s) (l1 : vs.length = n) (l2 : zs.length = ks.length) (r : Vals vs us) (rz : Vals zs ws) (h : sp (vs ++ zs) H Q (WE W σ)) :
    wpAny (model X.prog X.w) X.A (call (.ref f) us (ks.zip ws)) (EP X pins σ Q) X.xe s := by
  refine wpAny_call (codeAny_mono (F X.A X.stack s H us ws vs zs Q (WE W σ) hr I.env0 l1 l2 r rz h) fun r s' hq => ?_)
  cases r with
  | error e => exact passAt tk σ pins H s e s' I hq
  | ok fl =>
    cases fl with
    | ret u => exact I.after hq
    | next => exact False.elim hq
    | brk => exact False.elim hq
    | cont => exact False.elim hq
end
def tOwnK (W : WX) (n m : Nat) (sp : Sp) (t tk : TA) : TE := fun σ H Q => t σ H fun vs H1 => tk σ H1 fun zs H2 => vs.length = n ∧ zs.length = m ∧ sp (vs ++ zs) H2 Q (WE W σ)
section
variable {X : Cx} {W : WX} {k n : Nat} {ks : List Str} {kws : List Keyword} {f C : Addr} {sp : Sp} {x m : Str} {e o : Expr} {es : List Expr} {ta : TE} {t tkw : TA} {p pos apos : Pos}
theorem pe_ownK0 (F : FnK X.prog X.w X.K X.mg X.base (CXX X) k f 0 ks sp) (hr : Room k X.A) (tk : Takes X W) (hg : Gl X x) (hm : X.mg x = some (.ref f)) (hk : PySem.W.keepIn X.K (.ref f) = true) (hkw : PK X kws tkw)
    (hall : (backToKw pos (keywordEach kws X.env)).all (·.1.isSome) = true := by rfl) (hks : (backToKw pos (keywordEach kws X.env)).filterMap (·.1) = ks := by rfl)
    (hdb : (x == ("__debug__" : Str)) = false := by decide) (hpl : ((backTo pos (starEach [] X.env)).any (·.1) || (backToKw pos (keywordEach kws X.env)).any (·.1.isNone)) = false := by rfl) :
    PE X (.Call (.Name x p) [] kws pos) (tOwnK W 0 ks.length sp tNil tkw) := by
  refine ⟨fun pins s σ H Q I h => ?_⟩
  refine wpAny_Call_Name_kw (ld_glob I hg hm ?_ hdb)
  refine PySem.W.callWith_KW0 (h₀ := X.base) I.ok.mod.kin hk hall ?_ hpl
  refine thn (hkw.run pos pins s σ H _ I h) fun ws s2 ⟨zs, H2, I2, rz, l1, l2, q2⟩ => ⟨I2.kIn, ?_⟩
  rw [hks]
  exact run_fnK (us := []) (vs := []) F hr tk I2 l1 l2 .nil rz q2
end
def DKw (M : Gm) (W : WX) (X : Cx) (kws : List Keyword) (f : FA) : Prop := ∃ t, PK X kws t ∧ ∀ (c : Cn M) F H σ δ Q, Ok c F H σ δ → Post c W F σ (ρA c) (f δ) Q → t σ H Q
def fOwnK (f : Fm) (n m : Nat) (fa fk : FA) : FE := fun δ => (fa δ).bind fun ds δ1 => (fk δ1).bind fun es δ2 => if ds.length = n ∧ es.length = m then outE (f none (ds ++ es)) δ2 else .bad
section
variable {M : Gm} {c : Cn M} {W : WX} {X : Cx} {e : Expr} {es : List Expr} {kws : List Keyword} {fa fk : FA} {f : Fm} {n m : Nat}
theorem dk_nil : DKw M W X [] aNil := ⟨_, pk_nil, fun c F H σ δ Q ok post => post.ok ok reps_nil⟩
theorem dk_cons {fe : FD} {nm : Option Str} {kpos : Pos} (he : DI M W X e fe) (hr : DKw M W X kws fk) : DKw M W X (⟨nm, e, kpos⟩ :: kws) (aCons fe fk) := by
  obtain ⟨t, p, h⟩ := he
  obtain ⟨t', p', h'⟩ := hr
  refine ⟨_, pk_cons p p', fun c F H σ δ Q ok post => h c F H σ δ _ ok (Post.bind post fun d δ1 v F1 H1 _ s1 ok1 r post => h' c F1 H1 σ δ1 _ ok1 (Post.bind post fun ds δ2 vs F2 H2 _ s2 ok2 rs post => ?_))⟩
  exact post.ok ok2 (reps_cons (rep_mono s2 _ _ r) rs)
end
end
end TS

namespace TS
open PySem L2
noncomputable section
def gAdd : D → D → Option R := gOr (gI (fun _ _ => true) fun i j => i + j) (gOr gCat gCatS)
def gMul : D → D → Option R := gOr (gI CMulB fun i j => i * j) gRep
abbrev gSub : D → D → Option R := gI (fun _ _ => true) fun i j => i - j
def gFdiv : D → D → Option R := gOr (gI CDivB fun i j => i / j) (gI CDivNB fun i j => i.fdiv j)
abbrev gMod : D → D → Option R := gI CModB fun i j => i % j
abbrev gPow : D → D → Option R := gI CPowB fun i j => i ^ j.toNat
abbrev gLt : D → D → Option R := gB fun i j => decide (i < j)
abbrev gLe : D → D → Option R := gB fun i j => decide (i ≤ j)
abbrev gGt : D → D → Option R := gB fun i j => decide (j < i)
abbrev gGe : D → D → Option R := gB fun i j => decide (j ≤ i)
def rAddAll : R2 := fun x y H Q => rI0 (fun i j => .int (i + j)) x y H Q ∨ (rCat x y H Q ∨ (∃ i j, x = .str i ∧ y = .str j ∧ i.length + j.length ≤ sizeLine ∧ Q (.str (i ++ j)) H))
def rMulAll : R2 := fun x y H Q => rI CMulW (fun i j => .int (i * j)) x y H Q ∨ rRep x y H Q
section
variable {M : Gm} {c : Cn M} {W : WX} {X : Cx} {a b : Expr} {pos p : Pos} {fa fb : FD} {i : Nat}
theorem op_addAll : OpR X (binaryOp .Add) rAddAll := OpR.or op_add (OpR.or op_cat op_add_str)
theorem op_mulAll : OpR X (binaryOp .Mult) rMulAll := OpR.or op_mulW op_rep
theorem od_addAll : OpD M rAddAll gAdd := OpD.or od_I0 (OpD.or od_cat od_catS)
theorem od_mulAll : OpD M rMulAll gMul := OpD.or od_mul od_rep
theorem x_add (ha : DI M W X a fa) (hb : DP M W X b fb) : DE M W X (.BinOp a .Add b pos) (fBin gAdd fa fb) := d_op (fun h h' => pe_op op_addAll h h') od_addAll ha hb
theorem x_mul (ha : DI M W X a fa) (hb : DP M W X b fb) : DE M W X (.BinOp a .Mult b pos) (fBin gMul fa fb) := d_op (fun h h' => pe_op op_mulAll h h') od_mulAll ha hb
theorem x_sub (ha : DI M W X a fa) (hb : DP M W X b fb) : DE M W X (.BinOp a .Sub b pos) (fBin gSub fa fb) := d_op (fun h h' => pe_op op_sub h h') od_sub ha hb
theorem op_fdivNeg : OpR X (binaryOp .FloorDiv) (rI (fun _ j => j < 0 ∧ j.natAbs.log2 < 9000) fun i j => .int (i.fdiv j)) := opI fun i j _ _ _ _ _ hc q => PyProof.Rows.floordiv_int (by have := hc.1; omega) q (.inl (PyProof.noPylong_of_log2 hc.2))
theorem x_fdiv (ha : DI M W X a fa) (hb : DP M W X b fb) : DE M W X (.BinOp a .FloorDiv b pos) (fBin gFdiv fa fb) := d_op (fun h h' => pe_op (OpR.or op_fdivW op_fdivNeg) h h') (OpD.or od_fdiv od_fdivN) ha hb
theorem x_mod (ha : DI M W X a fa) (hb : DP M W X b fb) : DE M W X (.BinOp a .Mod b pos) (fBin gMod fa fb) := d_op (fun h h' => pe_op op_mod h h') od_mod ha hb
theorem x_pow (ha : DI M W X a fa) (hb : DP M W X b fb) : DE M W X (.BinOp a .Pow b pos) (fBin gPow fa fb) := d_op (fun h h' => pe_op op_pow h h') od_pow ha hb
theorem x_ge (ha : DI M W X a fa) (hb : DP M W X b fb) : DE M W X (.Compare a [.GtE] [b] pos) (fBin gGe fa fb) := d_op (fun h h' => pe_cmpR op_ge h h' (nomark _)) od_B ha hb
theorem t_lt (ha : DI M W X a fa) (hb : DP M W X b fb) : DT M W X (.Compare a [.Lt] [b] pos) (fTst (fBin gLt fa fb)) := dt_op (fun h h' => pt_cmpR op_lt h h' (nomark _)) od_B ha hb
theorem t_gt (ha : DI M W X a fa) (hb : DP M W X b fb) : DT M W X (.Compare a [.Gt] [b] pos) (fTst (fBin gGt fa fb)) := dt_op (fun h h' => pt_cmpR op_gt h h' (nomark _)) od_B ha hb
theorem t_notN (ha : DI M W X a fa) (hb : DP M W X b fb) : DT M W X (.Compare a [.IsNot] [b] pos) (fTst (fBin gNotN fa fb)) := dt_op (fun h h' => pt_cmpR op_notN h h' (nomark _)) od_notN ha hb
theorem op_eqM {k : Nat} (hK : X.K = M.K) (hr : Room k X.A) : OpR X (compareOp .Eq) (rEqD M.K) := by rw [← hK]; exact op_eqD hr.units
theorem op_neM {k : Nat} (hK : X.K = M.K) (hr : Room k X.A) : OpR X (compareOp .NotEq) (rNeD M.K) := by rw [← hK]; exact op_neD hr.units
theorem x_eq {k : Nat} (hr : Room k X.A) (ha : DI M W X a fa) (hb : DP M W X b fb) (hK : X.K = M.K := by rfl) : DE M W X (.Compare a [.Eq] [b] pos) (fBin gEq fa fb) := d_op (fun h h' => pe_cmpR (op_eqM hK hr) h h' (nomark _)) od_eq ha hb
theorem t_eq {k : Nat} (hr : Room k X.A) (ha : DI M W X a fa) (hb : DP M W X b fb) (hK : X.K = M.K := by rfl) : DT M W X (.Compare a [.Eq] [b] pos) (fTst (fBin gEq fa fb)) := dt_op (fun h h' => pt_cmpR (op_eqM hK hr) h h' (nomark _)) od_eq ha hb
theorem t_ne {k : Nat} (hr : Room k X.A) (ha : DI M W X a fa) (hb : DP M W X b fb) (hK : X.K = M.K := by rfl) : DT M W X (.Compare a [.NotEq] [b] pos) (fTst (fBin gNe fa fb)) := dt_op (fun h h' => pt_cmpR (op_neM hK hr) h h' (nomark _)) od_ne ha hb
theorem t_neV {k : Nat} (hr : Room k X.A) (ha : PE X a (tVar i)) (hb : DP M W X b fb) (hK : X.K = M.K := by rfl) : DT M W X (.Compare a [.NotEq] [b] pos) (fTst (fBinV gNe i fb)) := dt_opV (fun h h' => pt_cmpR (op_neM hK hr) h h' (nomark _)) od_ne ha hb
theorem x_ix {k : Nat} (hr : Room k X.A) (ha : DI M W X a fa) (hb : DP M W X b fb) (hs : PlainIx b := by intro _ _; rfl) (hK : X.K = M.K := by rfl) : DE M W X (.Subscript a b pos) (fBin gIx fa fb) := d_op (fun h h' => pe_ix (ix_all hK (hu_of hr)) h h' hs) od_ix ha hb
theorem x_ixV {k : Nat} (hr : Room k X.A) (ha : PE X a (tVar i)) (hb : DP M W X b fb) (hs : PlainIx b := by intro _ _; rfl) (hK : X.K = M.K := by rfl) : DE M W X (.Subscript a b pos) (fBinV gIx i fb) := d_opV (fun h h' => pe_ix (ix_all hK (hu_of hr)) h h' hs) od_ix ha hb
end
section
variable {M : Gm} {c : Cn M} {W : WX} {X : Cx} {e a : Expr} {es : List Expr} {pos p : Pos} {fa : FA} {x : Str}
theorem e_b {id : String} {r : RC} {g : List D → Option R} (hc : CallR X (.builtin id) r) (hd : CallD M r g) (hv : bootBuiltins x = some (.builtin id)) (hg : Gl X x) (hm : X.mg x = none) (ha : DB M W X (e :: es) fa) (hn : x ≠ "__name__" := by decide) (hdb : (x == ("__debug__" : Str)) = false := by decide)
    (he : starEach (e :: es) X.env = (false, eval e X.env) :: starEach es X.env := by rfl) (hpl : (backTo pos (starEach es X.env)).any (·.1) = false := by rfl) : DE M W X (.Call (.Name x p) (e :: es) [] pos) (fCal g fa) := d_call (fun h => pe_callB hc hg hm hv h hn hdb he hpl) hd ha
theorem e_t {T : String} {r : RC} {g : List D → Option R} (hc : CallR X (.type T) r) (hd : CallD M r g) (hv : bootBuiltins x = some (.type T)) (hg : Gl X x) (hm : X.mg x = none) (ha : DB M W X (e :: es) fa) (hn : x ≠ "__name__" := by decide) (hdb : (x == ("__debug__" : Str)) = false := by decide)
    (he : starEach (e :: es) X.env = (false, eval e X.env) :: starEach es X.env := by rfl) (hpl : (backTo pos (starEach es X.env)).any (·.1) = false := by rfl) : DE M W X (.Call (.Name x p) (e :: es) [] pos) (fCal g fa) := d_call (fun h => pe_callTy hc hg hm hv h hn hdb he hpl) hd ha
theorem bt_len : bootBuiltins "len" = some (.builtin "len") := by decide +kernel
theorem bt_abs : bootBuiltins "abs" = some (.builtin "abs") := by decide +kernel
theorem bt_max : bootBuiltins "max" = some (.builtin "max") := by decide +kernel
theorem bt_min : bootBuiltins "min" = some (.builtin "min") := by decide +kernel
theorem bt_all : bootBuiltins "all" = some (.builtin "all") := by decide +kernel
theorem bt_divmod : bootBuiltins "divmod" = some (.builtin "divmod") := by decide +kernel
theorem bt_repr : bootBuiltins "repr" = some (.builtin "repr") := by decide +kernel
theorem bt_isinstance : bootBuiltins "isinstance" = some (.builtin "isinstance") := by decide +kernel
theorem bt_int : bootBuiltins "int" = some (.type "int") := by decide +kernel
theorem bt_list : bootBuiltins "list" = some (.type "list") := by decide +kernel
theorem bt_tuple : bootBuiltins "tuple" = some (.type "tuple") := by decide +kernel
theorem bt_bool : bootBuiltins "bool" = some (.type "bool") := by decide +kernel
theorem bt_dict : bootBuiltins "dict" = some (.type "dict") := by decide +kernel
variable (hg : Gl X x) (hm : X.mg x = none)
def gMax : List D → Option R := gcOr gMax2 gMaxL
def gMin : List D → Option R := gcOr gMin2 gMinL
theorem b_len (hg : Gl X "len") (hm : X.mg "len" = none) (ha : DB M W X [e] fa) (hK : X.K = M.K := by rfl) (he : starEach (e :: []) X.env = (false, eval e X.env) :: starEach [] X.env := by rfl) (hpl : (backTo pos (starEach [] X.env)).any (·.1) = false := by rfl) : DE M W X (.Call (.Name "len" p) [e] [] pos) (fCal gLen fa) := e_b (call_lenAll hK) cd_len bt_len hg hm ha (by decide) (by decide) he hpl
theorem b_abs (hg : Gl X "abs") (hm : X.mg "abs" = none) (ha : DB M W X [e] fa) (he : starEach (e :: []) X.env = (false, eval e X.env) :: starEach [] X.env := by rfl) (hpl : (backTo pos (starEach [] X.env)).any (·.1) = false := by rfl) : DE M W X (.Call (.Name "abs" p) [e] [] pos) (fCal gAbs fa) := e_b call_abs cd_abs bt_abs hg hm ha (by decide) (by decide) he hpl
theorem b_max (hc : X.calm = true) (hg : Gl X "max") (hm : X.mg "max" = none) (ha : DB M W X (e :: es) fa) (he : starEach (e :: es) X.env = (false, eval e X.env) :: starEach es X.env := by rfl) (hpl : (backTo pos (starEach es X.env)).any (·.1) = false := by rfl) : DE M W X (.Call (.Name "max" p) (e :: es) [] pos) (fCal gMax fa) := e_b (CallR.or (call_max2 hc) (cr_max hc)) (CallD.or cd_max2 cd_maxL) bt_max hg hm ha (by decide) (by decide) he hpl
theorem b_min (hc : X.calm = true) (hg : Gl X "min") (hm : X.mg "min" = none) (ha : DB M W X (e :: es) fa) (he : starEach (e :: es) X.env = (false, eval e X.env) :: starEach es X.env := by rfl) (hpl : (backTo pos (starEach es X.env)).any (·.1) = false := by rfl) : DE M W X (.Call (.Name "min" p) (e :: es) [] pos) (fCal gMin fa) := e_b (CallR.or (call_min2 hc) (cr_min hc)) (CallD.or cd_min2 cd_minL) bt_min hg hm ha (by decide) (by decide) he hpl
theorem b_all (hc : X.calm = true) (hg : Gl X "all") (hm : X.mg "all" = none) (ha : DB M W X [e] fa) (he : starEach (e :: []) X.env = (false, eval e X.env) :: starEach [] X.env := by rfl) (hpl : (backTo pos (starEach [] X.env)).any (·.1) = false := by rfl) : DE M W X (.Call (.Name "all" p) [e] [] pos) (fCal gAll fa) := e_b (cr_all hc) cd_all bt_all hg hm ha (by decide) (by decide) he hpl
theorem b_divmod (hg : Gl X "divmod") (hm : X.mg "divmod" = none) (ha : DB M W X (e :: es) fa) (he : starEach (e :: es) X.env = (false, eval e X.env) :: starEach es X.env := by rfl) (hpl : (backTo pos (starEach es X.env)).any (·.1) = false := by rfl) : DE M W X (.Call (.Name "divmod" p) (e :: es) [] pos) (fCal gDivmod fa) := e_b call_divmodP cd_divmod bt_divmod hg hm ha (by decide) (by decide) he hpl
theorem b_int (hg : Gl X "int") (hm : X.mg "int" = none) (ha : DB M W X [e] fa) (he : starEach (e :: []) X.env = (false, eval e X.env) :: starEach [] X.env := by rfl) (hpl : (backTo pos (starEach [] X.env)).any (·.1) = false := by rfl) : DE M W X (.Call (.Name "int" p) [e] [] pos) (fCal gInt fa) := e_t call_int1 cd_int bt_int hg hm ha (by decide) (by decide) he hpl
theorem b_list (hg : Gl X "list") (hm : X.mg "list" = none) (ha : DB M W X [e] fa) (hK : X.K = M.K := by rfl) (he : starEach (e :: []) X.env = (false, eval e X.env) :: starEach [] X.env := by rfl) (hpl : (backTo pos (starEach [] X.env)).any (·.1) = false := by rfl) : DE M W X (.Call (.Name "list" p) [e] [] pos) (fCal gList fa) := e_t call_list_of (cd_list hK) bt_list hg hm ha (by decide) (by decide) he hpl
theorem k_ty {T : String} (hv : bootBuiltins x = some (.type T)) (hg : Gl X x) (hm : X.mg x = none) (hn : x ≠ "__name__" := by decide) (hdb : (x == ("__debug__" : Str)) = false := by decide) : PE X (.Name x pos) (tC (.ty T)) :=
  ⟨fun pins s σ H Q I h => ld_blt I hg hm hv ⟨.ty T, H, I, rfl, h⟩ hn hdb⟩
theorem b_isi {fe : FD} {c1 : Expr} {v : V} {u : Value} {tab : Tg → Option Bool} (hg : Gl X "isinstance") (hm : X.mg "isinstance" = none) (ha : DP M W X a fe) (hc : PE X c1 (tC v)) (hv : ClsV v u) (T : IsT M [u] tab) (hK : X.K = M.K := by rfl)
    (hs : starEach [a, c1] X.env = (false, eval a X.env) :: starEach [c1] X.env := by rfl) (hs2 : starEach [c1] X.env = (false, eval c1 X.env) :: starEach [] X.env := by rfl) (hpl : (backTo pos (starEach [c1] X.env)).any (·.1) = false := by rfl) :
    DI M W X (.Call (.Name "isinstance" p) [a, c1] [] pos) (fIsi tab fe) := di_isi hg hm ha hc hv T hK hs hs2 (fun h => pe_callB call_isi hg hm bt_isinstance h (by decide) (by decide) hs hpl)
end
section
variable {M : Gm} {c : Cn M} {W : WX} {X : Cx} {o e : Expr} {es : List Expr} {apos cpos : Pos} {fa : FA} {i : Nat}
theorem m_append (ho : PE X o (tVar i)) (ha : DA M W X (e :: es) fa) (hb : attributeBase o "append" X.env (eval o X.env) = eval o X.env := by rfl) (hfew : ((backTo cpos (starEach (e :: es) X.env)).all (fun x => !x.1) && (backToKw cpos (keywordEach [] X.env)).all (fun x => x.1.isSome) && decide ((e :: es).length + ([] : List Keyword).length + (if ([] : List Keyword).isEmpty then 0 else 1) < 30)) = true := by rfl) (hl : (apos.endLine == cpos.line) = true := by rfl)
    (he : starEach (e :: es) X.env = (false, eval e X.env) :: starEach es X.env := by rfl) (hpl : (backTo cpos (starEach es X.env)).any (·.1) = false := by rfl) : DI M W X (.Call (.Attribute o "append" apos) (e :: es) [] cpos) (fMut i mAppend fa) :=
  d_mut (o := o) (fun h => pe_bm PySem.F.plainAttrs_list PySem.F.slot_list_append PySem.F.type_list_append mt_append ho h hb hfew hl he hpl) md_append ha
theorem m_pop (ho : PE X o (tVar i)) (ha : DA M W X (e :: es) fa) (hb : attributeBase o "pop" X.env (eval o X.env) = eval o X.env := by rfl) (hfew : ((backTo cpos (starEach (e :: es) X.env)).all (fun x => !x.1) && (backToKw cpos (keywordEach [] X.env)).all (fun x => x.1.isSome) && decide ((e :: es).length + ([] : List Keyword).length + (if ([] : List Keyword).isEmpty then 0 else 1) < 30)) = true := by rfl) (hl : (apos.endLine == cpos.line) = true := by rfl)
    (he : starEach (e :: es) X.env = (false, eval e X.env) :: starEach es X.env := by rfl) (hpl : (backTo cpos (starEach es X.env)).any (·.1) = false := by rfl) : DI M W X (.Call (.Attribute o "pop" apos) (e :: es) [] cpos) (fMut i mPop fa) :=
  d_mut (o := o) (fun h => pe_bm PySem.F.plainAttrs_list PySem.F.slot_list_pop PySem.F.type_list_pop mt_popAll ho h hb hfew hl he hpl) md_pop ha
end
section
variable {M : Gm} {c : Cn M} {W : WX} {X : Cx} {e o : Expr} {f : Fm}
theorem d_meth0 {m : Str} {tab : Nat → Option Fm} {fo : FD} (mk : ∀ {ta : TE}, PE X o ta → PE X e (tMethD W (okM M tab) m ta tNil)) (hn : ∀ n f, tab n = some f → m ∉ M.nm n) (ho : DI M W X o fo) : DE M W X e (fMeth tab fo aNil) := by
  obtain ⟨ta, pa, ho⟩ := ho
  refine ⟨_, mk pa, fun c F H σ δ Q ok post => ho c F H σ δ _ ok (Post.bind post fun d δ1 v F1 H1 _ s1 ok1 r post => ?_)⟩
  split at post
  · rename_i n vs _
    split at post
    · rename_i f hf
      have r0 := r
      unfold ρD rep at r
      obtain ⟨a, C, dx, fs, rfl, h1, h2, h3, h4⟩ := r
      refine ⟨a, C, dx, fs, spD M f, rfl, ok1.same _ _ h2, ⟨n, f, hf, h1, rfl⟩, lookup_none (fun z => hn n f hf (List.mem_of_mem_take (h3 ▸ z))), ?_⟩
      exact own_of ok1 (reps_cons r0 reps_nil) post
    · exact post.elim
  · exact post.elim
def fOwnK0 (f : Fm) (m : Nat) (fk : FA) : FE := fun δ => (fk δ).bind fun es δ2 => if es.length = m then outE (f none es) δ2 else .bad
theorem d_ownK0 {kws : List Keyword} {fk : FA} {m : Nat} (mk : ∀ {tk : TA}, PK X kws tk → PE X e (tOwnK W 0 m (spD M f) tNil tk)) (hk : DKw M W X kws fk) : DE M W X e (fOwnK0 f m fk) := by
  obtain ⟨t', p', h'⟩ := hk
  refine ⟨_, mk p', fun c F H σ δ Q ok post => h' c F H σ δ _ ok (Post.bind post fun es δ2 zs F2 H2 _ s2 ok2 rz post => ?_)⟩
  split at post
  · rename_i hl
    exact ⟨rfl, by rw [reps_length rz]; exact hl, own_of ok2 rz post⟩
  · exact post.elim
theorem reps_ints {M : Gm} {F : Hp} : ∀ (ns : List Int), reps M F (ns.map D.int) (ns.map V.int)
  | [] => reps_nil
  | n :: ns => reps_cons (rep_int' _) (reps_ints ns)
end
def kitAnyB (t : String) : List String → Option Bool
  | [] => some false
  | u :: us => match kitB t u with
    | some true => some true
    | some false => kitAnyB t us
    | none => none
def tabTy (us : List String) (own : Nat → Option Bool) : Tg → Option Bool
  | .inl t => kitAnyB t us
  | .inr n => own n
theorem kitAnyB_ok {K : PySem.W.Frag} {t : String} : ∀ {us : List String} {b : Bool}, kitAnyB t us = some b → PySem.W.kitAny K (.type t) (us.map Value.type) = some b
  | [], b, h => h
  | u :: us, b, h => by
    unfold kitAnyB at h
    split at h
    · rename_i e
      cases h
      exact kitAny_cons (kit_ty e) (fun z => by cases z) (fun _ => rfl)
    · rename_i e
      exact kitAny_cons (kit_ty e) (fun _ => kitAnyB_ok h) (fun z => by cases z)
    · cases h
theorem isT_ty {M : Gm} {us : List String} {own : Nat → Option Bool} (h : ∀ n b C, own n = some b → M.G n = some C → PySem.W.kitAny M.K (.ref C) (us.map Value.type) = some b ∧ InsTy M.K C) : IsT M (us.map Value.type) (tabTy us own) := by
  intro t b tv h1 h2
  cases t with
  | inl t =>
    obtain rfl : tv = .type t := h2
    exact ⟨kitAnyB_ok h1, fun n C z => by cases z⟩
  | inr n =>
    obtain ⟨C, e1, rfl⟩ := h2
    refine ⟨(h n b C h1 e1).1, fun n' C' z e2 => ?_⟩
    cases z
    rw [e1] at e2; cases e2
    exact (h n b C h1 e1).2
theorem isT_own0 {M : Gm} {us : List String} : IsT M (us.map Value.type) (tabTy us fun _ => none) := isT_ty fun n b C z => by cases z
def muI (i : Nat) : Sl → Nat := fun δ => match δ[i]? with
  | some (some (.imm (.int n))) => n.natAbs + 2
  | _ => 0
def muL (i : Nat) : Sl → Nat := fun δ => match δ[i]? with
  | some (some (.own (.l ds))) => ds.length + 2
  | _ => 0
end
end TS

namespace TS
open PySem L2
noncomputable section
section
variable {X : Cx} {M : Gm} {W : WX} {e : Expr} {es : List Expr} {fa : FA} {p pos : Pos}
end
end
end TS

namespace TS
open PySem L2
noncomputable section
def tLst (n : Nat) (hs : List D → Sl → SR) : R → Sl → SR := fun r δ => match r with
  | .imm (.lst ds) => if ds.length = n then hs ds δ else .bad
  | .own (.l ds) => if ds.length = n then hs ds δ else .bad
  | _ => .bad
section
variable {M : Gm} {W : WX} {X : Cx}
end
section
variable {X : Cx} {W : WX} {k n : Nat} {ks : List Str} {m : Str} {o e : Expr} {es : List Expr} {kws : List Keyword} {ta : TE} {t tkw : TA} {pos apos : Pos}
end
section
variable {M : Gm} {W : WX} {X : Cx} {e o : Expr} {es : List Expr} {kws : List Keyword} {fa fk : FA} {n l : Nat}
def fMethK (tab : Nat → Option Fm) (n l : Nat) (fo : FD) (fa fk : FA) : FE := fun δ => (fo δ).bind fun d δ1 => match d with
  | .obj c vs => (match tab c with
    | some f => (fa δ1).bind fun ds δ2 => (fk δ2).bind fun es δ3 => if ds.length = n ∧ es.length = l then outE (f none (.obj c vs :: (ds ++ es))) δ3 else .bad
    | none => .bad)
  | _ => .bad
end
end
end TS

namespace TS
open PySem L2
noncomputable section
section
variable {X : Cx} {W : WX} {k : Nat} {a b : Expr} {ta tb : TE} {pos : Pos}
end
def outO (r : FR) (δ : Sl) : Res R := match r with
  | .ok (.own o) _ => .ok (.own o) δ
  | .exc x _ => .exc x δ
  | _ => .bad
def fBinO (tab : Nat → Option Fm) (fa fb : FD) : FE := fun δ => (fa δ).bind fun x δ1 => (fb δ1).bind fun y δ2 => match x, y with
  | .obj n vs, .obj m ws => if n = m then (match tab n with
    | some f => outO (f none [.obj n vs, .obj m ws]) δ2
    | none => .bad) else .bad
  | _, _ => .bad
section
variable {M : Gm} {W : WX} {X : Cx} {a b e : Expr} {fa fb : FD}
end
def sPar3 (i j l : Nat) (fa : FA) : FS := fun δ => (fa δ).bindS fun ds δ1 => match ds with
  | [a, b, c] => .nx (((δ1.set i (some (.imm a))).set j (some (.imm b))).set l (some (.imm c)))
  | _ => .bad
section
variable {M : Gm} {W : WX} {X : Cx} {fa : FA}
end
end
end TS

namespace TS
open PySem L2
noncomputable section
def flatR : R → Bool
  | .imm .non => true
  | .imm (.bl _) => true
  | .imm (.int _) => true
  | .imm (.str _) => true
  | _ => false
def outP (r : FR) (δ : Sl) : Res R := match r with
  | .ok r _ => if flatR r then .ok r δ else .bad
  | _ => .bad
def fOwnP (f : Fm) (fa : FA) : FE := fun δ => (fa δ).bind fun ds δ1 => if ds.any D.dic then .bad else outP (f none ds) δ1
section
variable {M : Gm} {c : Cn M} {F H : Hp} {σ : St} {δ : Sl}
end
section
variable {M : Gm} {W : WX} {X : Cx} {e : Expr} {es : List Expr} {fa : FA} {f : Fm}
end
end
end TS

namespace TS
open PySem L2
noncomputable section
def srt (ns : List Int) : List Int := ns.mergeSort fun a b => decide (a ≤ b)
theorem srt_perm (ns : List Int) : (srt ns).Perm ns := List.mergeSort_perm _ _
theorem srt_le (ns : List Int) : (srt ns).Pairwise (· ≤ ·) := by
  have := List.pairwise_mergeSort (le := fun a b : Int => decide (a ≤ b)) (fun a b c h1 h2 => by simp at h1 h2 ⊢; omega) (fun a b => by simp; omega) ns
  exact this.imp fun h => by simpa using h
theorem sorted_uniq : ∀ {a b : List Int}, a.Perm b → a.Pairwise (· ≤ ·) → b.Pairwise (· ≤ ·) → a = b
  | [], b, h, _, _ => (List.nil_perm.mp h).symm
  | x :: a, [], h, _, _ => by simpa using h.length_eq
  | x :: a, y :: b, h, ha, hb => by
    obtain ⟨ha1, ha2⟩ := List.pairwise_cons.mp ha
    obtain ⟨hb1, hb2⟩ := List.pairwise_cons.mp hb
    have h1 : x = y := by
      have m1 : x ∈ y :: b := h.mem_iff.mp (by simp)
      have m2 : y ∈ x :: a := h.mem_iff.mpr (by simp)
      rcases List.mem_cons.mp m1 with z | z
      · exact z
      · rcases List.mem_cons.mp m2 with w | w
        · exact w.symm
        · have := hb1 x z
          have := ha1 y w
          omega
    subst h1
    rw [sorted_uniq (List.perm_cons x |>.mp h) ha2 hb2]
def gSorted : List D → Option R
  | [.lst ds] => (match intsD ds with
    | some ns => some (.own (.l ((srt ns).map D.int)))
    | none => none)
  | _ => none
section
variable {M : Gm} {W : WX} {X : Cx} {e : Expr} {es : List Expr} {fa : FA} {p pos : Pos}
theorem cd_sorted : CallD M (rSortedI M.K) gSorted := by
  intro c F H σ δ xs ds z Q ok pxs e q
  unfold gSorted at e
  split at e
  · rename_i ds'
    split at e
    · rename_i ns hn
      cases e
      obtain ⟨x, rfl, px⟩ := p1 pxs
      obtain ⟨a, vs, rfl, h1, h2⟩ := prep_lst ok.same px
      have ev : vs = ns.map V.int := intsD_v h2 hn
      subst ev
      refine ⟨a, ns, rfl, SqL.of h1, fun ns' p hp hs hn' => ?_⟩
      have en : ns' = srt ns := sorted_uniq (hp.trans (srt_perm ns).symm) hs (srt_le ns)
      subst en
      refine q _ F _ (Same.refl _) (ok.alloc hn') (ok.made hn' ⟨_, upd_same, ?_⟩)
      exact reps_ints (srt ns)
    · cases e
  · cases e
theorem bt_sorted : bootBuiltins "sorted" = some (.builtin "sorted") := by decide +kernel
theorem b_sorted (hg : Gl X "sorted") (hm : X.mg "sorted" = none) (ha : DB M W X [e] fa) (hK : X.K = M.K := by rfl) (he : starEach (e :: []) X.env = (false, eval e X.env) :: starEach [] X.env := by rfl) (hpl : (backTo pos (starEach [] X.env)).any (·.1) = false := by rfl) : DE M W X (.Call (.Name "sorted" p) [e] [] pos) (fCal gSorted fa) := e_b (hK ▸ cr_sortedI) cd_sorted bt_sorted hg hm ha (by decide) (by decide) he hpl
def mExtend : List D → List D → Option (D × List D)
  | ds, [.lst es] => if ds.length + es.length ≤ 16777216 then some (.non, ds ++ es) else none
  | _, _ => none
theorem md_extend : MutD M rExtend mExtend := by
  intro F H a vs xs ds as z ds' Q s hf hl hr ha e q
  unfold mExtend at e
  split at e
  · split at e
    · rename_i es hlen
      cases e
      obtain ⟨v, r, rfl, h2, h3⟩ := (show ∃ v r, xs = v :: r ∧ rep M F (.lst es) v ∧ reps M F [] r by unfold reps at ha; exact ha)
      unfold reps at h3
      subst h3
      unfold rep at h2
      obtain ⟨b, ws, rfl, k1, k2⟩ := h2
      exact ⟨a, b, vs, ws, rfl, rfl, hl, s _ _ k1, by rw [reps_length hr, reps_length k2, sizeLine_eq]; exact hlen, q _ _ rep_non' (reps_append hr k2)⟩
    · cases e
  · cases e
theorem m_extend {i : Nat} {o : Expr} {apos cpos : Pos} (ho : PE X o (tVar i)) (ha : DA M W X (e :: es) fa) (hb : attributeBase o "extend" X.env (eval o X.env) = eval o X.env := by rfl) (hfew : ((backTo cpos (starEach (e :: es) X.env)).all (fun x => !x.1) && (backToKw cpos (keywordEach [] X.env)).all (fun x => x.1.isSome) && decide ((e :: es).length + ([] : List Keyword).length + (if ([] : List Keyword).isEmpty then 0 else 1) < 30)) = true := by rfl) (hl : (apos.endLine == cpos.line) = true := by rfl)
    (he : starEach (e :: es) X.env = (false, eval e X.env) :: starEach es X.env := by rfl) (hpl : (backTo cpos (starEach es X.env)).any (·.1) = false := by rfl) : DI M W X (.Call (.Attribute o "extend" apos) (e :: es) [] cpos) (fMut i mExtend fa) :=
  d_mut (o := o) (fun h => pe_bm PySem.F.plainAttrs_list PySem.F.slot_list_extend PySem.F.type_list_extend mt_extend ho h hb hfew hl he hpl) md_extend ha
end
def pick {α : Type} (n : Nat) (ix : List Nat) (d : α) (us ws : List α) : List α := us ++ ix.map fun j => ws.getD j d
def fmIx (n : Nat) (ix : List Nat) (fm : Fm) : Fm := fun io ds => match io with
  | none => fm none (ds.take n ++ ix.map fun j => (ds.drop n).getD j .non)
  | some _ => .bad
section
variable {M : Gm} {F H : Hp}
theorem vals_getD {zs : List V} {ws : List Value} (h : Vals zs ws) (j : Nat) : RelV (zs.getD j .non) (ws.getD j .none) := by
  induction h generalizing j with
  | nil => exact rfl
  | cons h1 h2 ih =>
    cases j with
    | zero => exact h1
    | succ j => exact ih j
theorem vals_ix {zs : List V} {ws : List Value} (h : Vals zs ws) : ∀ ix : List Nat, Vals (ix.map fun j => zs.getD j .non) (ix.map fun j => ws.getD j .none)
  | [] => .nil
  | j :: ix => .cons (vals_getD h j) (vals_ix h ix)
theorem reps_getD : ∀ {ds : List D} {vs : List V}, reps M F ds vs → ∀ j : Nat, rep M F (ds.getD j .non) (vs.getD j .non)
  | [], vs, h, j => by unfold reps at h; subst h; simp [rep]
  | d :: ds, vs, h, j => by
    unfold reps at h
    obtain ⟨v, r, rfl, h1, h2⟩ := h
    cases j with
    | zero => exact h1
    | succ j => exact reps_getD h2 j
theorem reps_ix {ds : List D} {vs : List V} (h : reps M F ds vs) : ∀ ix : List Nat, reps M F (ix.map fun j => ds.getD j .non) (ix.map fun j => vs.getD j .non)
  | [] => reps_nil
  | j :: ix => reps_cons (reps_getD h j) (reps_ix h ix)
end
section
variable {M : Gm} {P : Program} {w : World} {mg : Str → Option Value} {base : Heap} {k n : Nat} {ks ps : List Str} {f : Addr} {fm : Fm} {fd : FuncData} {ix : List Nat}
theorem fnK_ix (F : FnOk P w M.K mg base (L2.CX P w) k f fd ps (spD M fm)) (hb : KBn M.K fd ps n ks (pick n ix .none) (pick n ix .non)) : FnK P w M.K mg base (L2.CX P w) k f n ks (spD M (fmIx n ix fm)) :=
  FnOk.kw F hb fun vs zs H Q E l1 l2 h => by
    obtain ⟨F0, io, a, ws, ds, e, s, tb, rs, ia, h⟩ := h
    cases io with
    | none =>
      have e : vs ++ zs = ws := e
      subst e
      have hl := reps_length rs
      have r1 : reps M F0 (ds.take n) vs := by
        have := reps_take n rs
        rw [List.take_left' l1] at this
        exact this
      have r2 : reps M F0 (ds.drop n) zs := by
        have := reps_drop n rs
        rw [List.drop_left' l1] at this
        exact this
      exact ⟨F0, none, a, _, _, rfl, s, tb, reps_append r1 (reps_ix r2 ix), ia, h⟩
    | some o => exact h.elim
end
end
end TS

namespace TS
open PySem PySem.Spec L2
noncomputable section
section
variable {X : Cx} {tg : Expr}
end
section
variable {M : Gm} {W : WX} {X : Cx} {tg e : Expr}
end
end
end TS

namespace TS
open PySem L2 PyProof.Rows
open AutoSeq1 (wpAny_loadPart')
noncomputable section
section
variable {M : Gm} {c : Cn M} {W : WX} {X : Cx} {tg e : Expr} {F F1 H H1 : Hp} {σ : L2.St} {δ : Sl}
end
end
end TS

namespace TS
open PySem L2 PySem.W PySem.Calls PyProof.Rows
noncomputable section
inductive Bas : String → Prop
  | ve : Bas "ValueError"
  | ar : Bas "ArithmeticError"
  | lk : Bas "LookupError"
theorem Bas.base {B : String} (b : Bas B) : ExcBaseFacts B (B ++ ".__new__") (B ++ ".__init__") (bmOf B) := by
  cases b
  · exact F.excBase_ValueError
  · exact F.excBase_ArithmeticError
  · exact F.excBase_LookupError
theorem Bas.store {B : String} (b : Bas B) : StoreFacts B (bmOf B) "object.__setattr__" "object" := by
  cases b
  · exact F.store_ValueError
  · exact F.store_ArithmeticError
  · exact F.store_LookupError
structure OxC (K : PySem.W.Frag) (C : Addr) : Prop where
  bas : ∃ B, Bas B ∧ excInitIn K C (bmOf B) (B ++ ".__new__") = true ∧ excOver K C (bmOf B) = true
  hd : ∃ cd, clsIn K C = some cd ∧ cd.hasDict = true
  sa : findIn K (.ref C) "__setattr__" = some (some (.builtin "object.__setattr__"))
  exC : subIn K (.ref C) (.type "BaseException") = some true
  tyC : typeIn K (.ref C) = some (.type "type")
  kC : keepIn K (.ref C) = true
section
open Builtin Builtin.ObjectAttr
variable {prog : Program} {w : World} {A : Around} {R : Result → Shared → Prop} {hp : Heap} {g : Array GenState} {d : Drawn} {t : Nat} {os : OsState} {K : PySem.W.Frag} {name : Str} {tk : Tok} {v : Value} {x C dx : Addr} {fv : Array Value}
theorem ox_new (T : OxC K C) (X : K.In hp) (hx : hp.get? x = some { cls := .ref C, data := .fields fv }) (ha : findIn K (.ref C) name = some none)
    (hq : ∀ h2 tk2 dx, (∀ b o, b ≠ x → hp.get? b = some o → h2.get? b = some o) → hp.objs.size ≤ dx → dx ≠ x → h2.get? x = some { cls := .ref C, dict := some dx, data := .fields fv } →
      h2.Ns1 dx (fun y => if y = name then some v else none) → R (.ok (.ret .none)) ⟨h2, g, d, tk2, os⟩) :
    codeAny (model prog w) A (.call (.builtin "object.__setattr__") ⟨[.ref x, .str name tk, v], []⟩) R ⟨hp, g, d, t, os⟩ := by
  obtain ⟨B, hB, _, ov⟩ := T.bas
  obtain ⟨cd, hcd, hh⟩ := T.hd
  have J : InstAt hp x { cls := .ref C, data := .fields fv } C none := ⟨hx, rfl, rfl, trivial⟩
  have hxs : x ≠ hp.objs.size := Nat.ne_of_lt (Heap.lt_size hx)
  have hcls : Looks (model prog w) hp (classData C) cd := looks_clsIn X hcd
  refine osa_openX (s := ⟨hp, g, d, t, os⟩) hB.store X J ov (r := none) (by unfold takerIn; rw [ha]; rfl) fun bb => ?_
  show wpAny _ _ (storeInOwnDict (.ref x) (.ref C) (.str name tk) name v bb) _ _ _
  obtain ⟨nm, bs, mro, ns, qn, hd, sn, sb, ab, col, del⟩ := cd
  dsimp only at hh
  subst hh
  unfold storeInOwnDict ownDictForStores
  repeat (first | with_reducible refine HandSPX.store_in_new ?_ ?_ | with_reducible refine wpAny_loadPart_at hx ?_ | with_reducible refine hcls.at ?_ | wp_step)
  · exact ⟨_, #[], _, (Heap.get?_update_ne _ _ _ _ hxs.symm).trans (Heap.get?_push_at rfl rfl), rfl, fun e he => absurd he (by simp), fun _ => rfl⟩
  · intro h2 tk2 hn2 hs
    have hx2 : (hp.push { cls := .type "dict", data := .dict #[] }).get? x = some { cls := .ref C, data := .fields fv } := Heap.get?_push_of_some _ hx
    refine hq h2 tk2 hp.objs.size (fun b o hb ho => ?_) (Nat.le_refl _) hxs.symm ?_ hn2
    · exact (hs.2 b (Nat.ne_of_lt (Heap.lt_size ho))).trans ((Heap.get?_update_ne _ _ _ _ hb).trans (Heap.get?_push_of_some _ ho))
    · exact (hs.2 x hxs).trans (Heap.get?_update_self _ hx2 rfl)
theorem ox_old {m0 : Str → Option Value} {nl : List Str} (T : OxC K C) (X : K.In hp) (hx : hp.get? x = some { cls := .ref C, dict := some dx, data := .fields fv }) (hns : hp.Ns1 dx m0) (hw : Within m0 nl) (hz : nl.length ≤ 1000) (ha : findIn K (.ref C) name = some none)
    (hq : ∀ h2 tk2, (∀ b o, b ≠ dx → hp.get? b = some o → h2.get? b = some o) → h2.Ns1 dx (fun y => if y = name then some v else m0 y) → R (.ok (.ret .none)) ⟨h2, g, d, tk2, os⟩) :
    codeAny (model prog w) A (.call (.builtin "object.__setattr__") ⟨[.ref x, .str name tk, v], []⟩) R ⟨hp, g, d, t, os⟩ := by
  obtain ⟨B, hB, _, ov⟩ := T.bas
  obtain ⟨cd, hcd, hh⟩ := T.hd
  obtain ⟨oD, esD, epD, hoD, hdD, _⟩ := hns.count hw
  have J : InstAt hp x { cls := .ref C, dict := some dx, data := .fields fv } C (some oD) := ⟨hx, rfl, rfl, hoD⟩
  have hcls : Looks (model prog w) hp (classData C) cd := looks_clsIn X hcd
  refine osa_openX (s := ⟨hp, g, d, t, os⟩) hB.store X J ov (r := none) (by unfold takerIn; rw [ha]; rfl) fun bb => ?_
  show wpAny _ _ (storeInOwnDict (.ref x) (.ref C) (.str name tk) name v bb) _ _ _
  obtain ⟨nm, bs, mro, ns, qn, hd, sn, sb, ab, col, del⟩ := cd
  dsimp only at hh
  subst hh
  unfold storeInOwnDict ownDictForStores
  repeat (first | with_reducible refine OEX.store_in_old hns hw hz ?_ | with_reducible refine wpAny_loadPart_at hx ?_ | with_reducible refine hcls.at ?_ | wp_step)
  intro h2 tk2 hn2 hs
  exact hq h2 tk2 (fun b o hb ho => (hs.2 b hb).trans ho) hn2
end
section
variable {X : Cx} {pins : List (Addr × Obj)} {σ : L2.St} {H : Hp} {s : Shared} {a C dx : Addr} {f : Str} {y : V} {u : Value} {fs : List (Str × V)} {Q : Unit → Shared → Prop} {E : Value → Shared → Prop} {A : Around}
theorem gst_new (T : OxC X.K C) (I : Inv X pins σ H s) (ea : H a = some (exo a C none)) (hno : findIn X.K (.ref C) f = some none) (ry : RelV y u)
    (h : ∀ dx s2, H dx = none → dx ≠ a → Inv X pins σ (upd (upd H dx (exd dx [(f, y)])) a (exo a C (some dx))) s2 → Q () s2) : wpAny (model X.prog X.w) A (setAttr (.ref a) f u) Q E s := by
  obtain ⟨t1, ho⟩ := exo_at I.hok ea
  obtain ⟨hp, g, d, t, os⟩ := s
  refine set_plain I.kIn (ox := { cls := .ref C, dict := none, data := .fields #[.ref t1, .none, .none, .none, .bool false, .none] }) (od := none) ⟨ho, rfl, rfl, trivial⟩ T.sa ?_
  refine ox_new T I.kIn ho hno (fun h2 tk2 dx k dn dne hx hn => ?_)
  have fr : H dx = none := I.hok.fresh dn
  have nd : ∀ {b : Addr} {o : Obj}, hp.get? b = some o → b ≠ dx := fun {b o} q => Nat.ne_of_lt (Nat.lt_of_lt_of_le (Heap.lt_size q) dn)
  have na : ∀ {b : Addr}, H b = none → b ≠ a := fun {b} n z => by
    rw [z, ea] at n
    cases n
  have U : Un X.fs [] H (upd (upd H dx (exd dx [(f, y)])) a (exo a C (some dx))) hp h2 :=
    { keep := fun b o q n _ _ => k b o (na n) q
      slot := fun b o q n _ _ => ⟨o.slots, k b o (na n) q⟩
      free := fun b o q n _ => (upd_ne (na n)).trans ((upd_ne (nd q)).trans n)
      there := fun b o q _ => by
        by_cases hb : b = a
        · exact ⟨_, by rw [hb]; exact hx⟩
        · exact ⟨o, k b o hb q⟩
      tups := fun b xs q => (upd_ne (at_ne ea q exo_tup)).trans ((upd_ne (ne_of_none q fr)).trans q)
      frzs := fun b o v q => (upd_ne (at_ne ea q exo_frz)).trans ((upd_ne (ne_of_none q fr)).trans q)
      tbls := fun b ps q => ⟨#[], ((upd_ne (at_ne ea q exo_tbl)).trans ((upd_ne (ne_of_none q fr)).trans q)).trans (by simp)⟩ }
  refine h dx _ fr dne (I.un (t' := tk2) U fun b o q => ?_)
  by_cases hb : b = a
  · subst hb
    rw [upd_same] at q
    cases q
    exact exo_ok hx
  · rw [upd_ne hb] at q
    by_cases hd : b = dx
    · subst hd
      rw [upd_same] at q
      cases q
      exact exd_ok hn (relO_put (fs := []) ry fun g => True.intro)
    · rw [upd_ne hd] at q
      refine (I.hok b o q).stay (fun c v hc z => k c v ?_ z) (fun c hc => ?_) (fun c xs hc => ?_)
      · rcases hc with hc | hc
        · rw [hc]; exact hb
        · exact at_ne ea hc exo_own
      · exact (upd_ne (at_ne ea hc exo_own)).trans ((upd_ne (ne_of_none hc fr)).trans hc)
      · exact (upd_ne (at_ne ea hc exo_tup)).trans ((upd_ne (ne_of_none hc fr)).trans hc)
theorem gst_old (T : OxC X.K C) (I : Inv X pins σ H s) (ea : H a = some (exo a C (some dx))) (ed : H dx = some (exd dx fs)) (hl : fs.length ≤ 900) (hno : findIn X.K (.ref C) f = some none) (ry : RelV y u)
    (h : ∀ s2, Inv X pins σ (upd H dx (exd dx ((f, y) :: fs))) s2 → Q () s2) : wpAny (model X.prog X.w) A (setAttr (.ref a) f u) Q E s := by
  obtain ⟨t1, ho⟩ := exo_at I.hok ea
  obtain ⟨mA, hns, rel⟩ := exd_at I.hok ed
  have hw := within_of rel
  obtain ⟨hp, g, d, t, os⟩ := s
  obtain ⟨oD, _, _, hoD, _, _⟩ := hns.count hw
  refine set_plain I.kIn (ox := { cls := .ref C, dict := some dx, data := .fields #[.ref t1, .none, .none, .none, .bool false, .none] }) (od := some oD) ⟨ho, rfl, rfl, hoD⟩ T.sa ?_
  refine ox_old T I.kIn ho hns hw (by rw [List.length_map]; omega) hno (fun h2 tk2 k hn => ?_)
  have hd : ∃ o, h2.get? dx = some o := let ⟨o, _, _, e, _⟩ := hn; ⟨o, e⟩
  exact h _ (I.write (t' := tk2) (x := dx) (e := dx) (o := exd dx ((f, y) :: fs)) (by rw [ed]; exact True.intro) (.inl rfl) k hd (exd_ok hn (relO_put ry rel)))
end
def tGst (K : PySem.W.Frag) (f : Str) (to te : TE) : TS := fun D σ H => te σ H fun y H1 => to σ H1 fun x H2 => ∃ a C : Addr, x = .ref a ∧ OxC K C ∧ findIn K (.ref C) f = some none ∧
  ((H2 a = some (exo a C none) ∧ ∀ dx, H2 dx = none → dx ≠ a → D.nx σ (upd (upd H2 dx (exd dx [(f, y)])) a (exo a C (some dx)))) ∨
    ∃ (dx : Addr) (fs : List (Str × V)), H2 a = some (exo a C (some dx)) ∧ H2 dx = some (exd dx fs) ∧ fs.length ≤ 900 ∧ D.nx σ (upd H2 dx (exd dx ((f, y) :: fs))))
section
variable {X : Cx} {o e : Expr} {es : List Expr} {to te : TE} {ta : TA} {f : Str} {p p' p1 p2 pos : Pos}
theorem ps_gst (ho : PE X o to) (he : PE X e te) (hs : swapsWith e (some (.Attribute o f p')) pos.line X.env = pure false := by rfl) : PS X (.Assign [.Attribute o f p'] e pos) (tGst X.K f to te) := by
  refine ⟨fun pins s σ H D I h => plainObj_wpAny_Assign_Attribute (thn (he.run pins s σ H _ I h) fun v s1 ⟨y, H1, I1, r1, q1⟩ => thn (ho.run pins s1 σ H1 _ I1 q1) fun u s2 ⟨x, H2, I2, r2, a, C, ex, T, hno, q⟩ => ?_) hs⟩
  subst ex
  obtain rfl : u = Value.ref a := r2
  rcases q with ⟨ea, q⟩ | ⟨dx, fs, ea, ed, hl, q⟩
  · exact gst_new T I2 ea hno r1 fun dx s3 n ne J => ⟨σ, _, J, q dx n ne⟩
  · exact gst_old T I2 ea ed hl hno r1 fun s3 J => ⟨σ, _, J, q⟩
theorem pmk_gx {CX : CXT} {x : Str} {C fI : Addr} {k : Nat} {fd : FuncData} {ps : List Str} {sp : Sp} (T : OxC X.K C) (iC : findIn X.K (.ref C) "__init__" = some (some (.ref fI))) (tI : typeIn X.K (.ref fI) = some (.type "function"))
    (F1 : TS.FnOk X.prog X.w X.K X.mg X.base CX k fI fd ps sp) (hr : TS.Room (k + 1) X.A) (hb : Binds X.K fd ps []) (hx : Passes CX X (fun _ _ _ => False)) (hg : Gl X x) (hm : X.mg x = some (.ref C)) (ha : PA X (e :: es) ta)
    (hdb : (x == ("__debug__" : Str)) = false := by decide) (he : starEach (e :: es) X.env = (false, eval e X.env) :: starEach es X.env := by rfl) (hpl : (backTo pos (starEach es X.env)).any (·.1) = false := by rfl) :
    PMk X (.Call (.Name x p) (e :: es) [] pos) (tMkO C sp [] ta) := by
  intro pins s σ H Q I h
  obtain ⟨B, hB, ini, _⟩ := T.bas
  refine wpAny_Call_Name_kw (ld_glob I hg hm ?_ hdb)
  refine callWith_K (h₀ := X.base) I.ok.mod.kin T.kC (thn (ha.run pos pins s σ H _ I h) fun us s1 ⟨vs, H1, I1, r1, hz, q1⟩ => ⟨I1.kIn, ?_⟩) he hpl
  show wpAny _ _ (call (.ref C) us) _ _ _
  obtain ⟨hp, g, dr, tk, os⟩ := s1
  obtain ⟨nm, N, qn, bs, bm, hdct, sn, sub, ab, col, dd, k0, k1, k2, k3, k5, hC, hT⟩ := excInit_of I1.kIn ini
  have hsz : hp.objs.size ≤ hp.objs.size + 1 := Nat.le_succ _
  have hn : H1 (hp.objs.size + 1) = none := I1.hok.fresh hsz
  have hq := q1 (hp.objs.size + 1) hn
  rw [List.append_nil] at hq
  have kk : ∀ b o, hp.get? b = some o → ((hp.push (kdv_tup us)).push (HandSPX.excO C hp.objs.size)).get? b = some o := fun b o z => Heap.get?_push_of_some _ (Heap.get?_push_of_some _ z)
  have hget : ((hp.push (kdv_tup us)).push (HandSPX.excO C hp.objs.size)).get? (hp.objs.size + 1) = some (HandSPX.excO C hp.objs.size) := by heap_get
  have I2 : Inv X pins σ (upd H1 (hp.objs.size + 1) (exo (hp.objs.size + 1) C none)) ⟨(hp.push (kdv_tup us)).push (HandSPX.excO C hp.objs.size), g, dr, tk, os⟩ :=
    I1.laid (t' := tk) (a := hp.objs.size + 1) (o := exo (hp.objs.size + 1) C none) (h' := (hp.push (kdv_tup us)).push (HandSPX.excO C hp.objs.size)) kk hsz (exo_ok hget)
  have r2 : Vals (V.ref (hp.objs.size + 1) :: vs) (Value.ref (hp.objs.size + 1) :: us) := .cons rfl r1
  have hl : (Value.ref (hp.objs.size + 1) :: us ++ []).length = ps.length := by
    rw [List.append_nil]
    exact (r2.length.symm.trans (F1.len _ _ _ _ hq))
  have hus : us.length ≤ sizeLine := by
    rw [← Paired.length r1, sizeLine_eq]
    omega
  refine wpAny_call (HandSPX.call_own hB.base hT hC (looks_findIn I1.kIn iC) (fun self => bind_fn I1.kIn self tI) hus
    (codeAny_mono (F1.run _ X.stack _ _ ⟨Value.ref (hp.objs.size + 1) :: us, []⟩ (Value.ref (hp.objs.size + 1) :: us) _ _ (fun _ _ _ => False) (hr.make C us []) (I2.env0.make C us []) (by
      have := hb _ (Value.ref (hp.objs.size + 1) :: us) I2.kIn hl
      rwa [List.append_nil] at this) r2 hq) fun r s2 hq2 => ?_))
  cases r with
  | error er => exact hx pins σ _ _ er s2 I2 hq2
  | ok fl =>
    cases fl with
    | ret u =>
      obtain ⟨v, H2, os2, bare2, un2, hok2, rv, ev, d, fs, ea, ed, hd1, q2⟩ := hq2
      subst ev
      obtain ⟨h2, g2, d2, t2, os3⟩ := s2
      exact ⟨rv, mk_end (raises_own T.exC T.tyC) I1 hsz kk un2 hok2 os2 bare2 ea ed hd1 q2⟩
    | next => exact False.elim hq2
    | brk => exact False.elim hq2
    | cont => exact False.elim hq2
end
def spX (C : Addr) (ns : List Str) : Sp := fun vs H Q _ => ∃ (a : Addr) (ws : List V), vs = .ref a :: ws ∧ ws.length = ns.length ∧ H a = some (exo a C none) ∧
  ∀ (dx : Addr) (H' : Hp), H dx = none → dx ≠ a → H' a = some (exo a C (some dx)) → H' dx = some (exd dx (ns.zip ws).reverse) → (∀ b, b ≠ a → b ≠ dx → H' b = H b) → Q .non H'
def IniS (X : Cx) (C : Addr) (ns : List Str) (ss : List Stmt) (j : Nat) : Prop := ∃ t, PSs X ss t ∧ ∀ (D : Ends) (a dx : Addr) (ws : List V) (σ : L2.St) (H0 H : Hp), σ[0]? = some (some (.ref a)) → (∀ i w, ws[i]? = some w → σ[i + 1]? = some (some w)) → ws.length = ns.length → dx ≠ a →
  H a = some (exo a C (some dx)) → H dx = some (exd dx ((ns.zip ws).take j).reverse) → (∀ b, b ≠ a → b ≠ dx → H b = H0 b) →
  (∀ H', H' a = some (exo a C (some dx)) → H' dx = some (exd dx (ns.zip ws).reverse) → (∀ b, b ≠ a → b ≠ dx → H' b = H0 b) → D.nx σ H') → t D σ H
section
variable {X : Cx} {C : Addr} {ns : List Str} {ss : List Stmt} {j : Nat} {f : Str} {p p' p1 pos : Pos}
theorem inis_nil (h : j = ns.length) : IniS X C ns [] j := by
  refine ⟨_, pss_nil, fun D a dx ws σ H0 H h0 hw hl hne ea ed hb k => ?_⟩
  refine k H ea ?_ hb
  rw [h, List.take_of_length_le (by rw [List.length_zip]; omega)] at ed
  exact ed
theorem zip_take {ws : List V} {w : V} (hn : ns[j]? = some f) (hw : ws[j]? = some w) : (ns.zip ws).take (j + 1) = (ns.zip ws).take j ++ [(f, w)] := by
  rw [List.take_add_one]
  have : (ns.zip ws)[j]? = some (f, w) := by rw [List.getElem?_zip_eq_some]; exact ⟨hn, hw⟩
  rw [this]; rfl
theorem init_body {N : List Str} {sp0 : Unit} (T : OxC X.K C) (hno : findIn X.K (.ref C) f = some none) (hn : ns[0]? = some f) (hs0 : PE X (.Name "self" p) (tVar 0)) (hs1 : PE X (.Name f p1) (tVar 1)) (r : IniS X C ns ss 1)
    (hs : swapsWith (.Name f p1) (some (.Attribute (.Name "self" p) f p')) pos.line X.env = pure false := by rfl) :
    ∃ t, PSs X (.Assign [.Attribute (.Name "self" p) f p'] (.Name f p1) pos :: ss) t ∧ ∀ (D : Ends) (a : Addr) (ws : List V) (σ : L2.St) (H : Hp), σ[0]? = some (some (.ref a)) → (∀ i w, ws[i]? = some w → σ[i + 1]? = some (some w)) → ws.length = ns.length → H a = some (exo a C none) →
      (∀ (dx : Addr) (H' : Hp), H dx = none → dx ≠ a → H' a = some (exo a C (some dx)) → H' dx = some (exd dx (ns.zip ws).reverse) → (∀ b, b ≠ a → b ≠ dx → H' b = H b) → D.nx σ H') → t D σ H := by
  obtain ⟨t, pt, ht⟩ := r
  refine ⟨_, pss_cons (ps_gst hs0 hs1 hs) pt, fun D a ws σ H h0 hw hl ea k => ?_⟩
  have hjl : 0 < ns.length := (List.getElem?_eq_some_iff.mp hn).1
  have hwj : ws[0]? = some (ws[0]'(by omega)) := List.getElem?_eq_getElem _
  refine ⟨ws[0]'(by omega), hw 0 _ hwj, .ref a, h0, a, C, rfl, T, hno, .inl ⟨ea, fun dx hd hne => ?_⟩⟩
  refine ht D a dx ws σ H _ h0 hw hl hne upd_same ?_ (fun b h1 h2 => (upd_ne h1).trans (upd_ne h2)) (fun H' k1 k2 k3 => k dx H' hd hne k1 k2 k3)
  rw [upd_ne hne, upd_same]
  have z := zip_take (j := 0) hn hwj
  rw [z]
  rfl
end
theorem start_get {N : List Str} {vs : List V} {i : Nat} {v : V} (h : vs[i]? = some v) : (L2.start N vs)[i]? = some (some v) := by
  unfold L2.start
  have hl : i < vs.length := (List.getElem?_eq_some_iff.mp h).1
  rw [List.getElem?_append_left (by simpa using hl), List.getElem?_map, h]; rfl
theorem funD_ini {P : Program} {w : World} {K : PySem.W.Frag} {mg : Str → Option Value} {base : Heap} {qual : Str} {params : Arguments} {body : List Stmt} {scope : Scope} {f C : Addr} {fd : FuncData} {N ps ns : List Str} (Fd : FunD K "__init__" qual params body scope [] [] f fd) (S : FnScope N ps scope) (hps : ps.length = ns.length + 1)
    (hb : ∀ (cdv : Value) (A : Around) (outer : List Env) (s : Shared) (H : Hp) (E : XK), ∃ t, PSs (cxOf (L2.CX P w) P w K mg base N qual scope f cdv A outer s H E) body t ∧ ∀ (D : Ends) (a : Addr) (ws : List V) (σ : L2.St) (H : Hp), σ[0]? = some (some (.ref a)) → (∀ i w, ws[i]? = some w → σ[i + 1]? = some (some w)) → ws.length = ns.length → H a = some (exo a C none) →
      (∀ (dx : Addr) (H' : Hp), H dx = none → dx ≠ a → H' a = some (exo a C (some dx)) → H' dx = some (exd dx (ns.zip ws).reverse) → (∀ b, b ≠ a → b ≠ dx → H' b = H b) → D.nx σ H') → t D σ H) :
    TS.FnOk P w K mg base (L2.CX P w) 1 f fd ps (spX C ns) := by
  refine FnOk.of (k := 0) Fd S (fun vs H Q E h => ?_) (fun cdv A outer s H vs Q E hr h => ?_)
  · obtain ⟨a, ws, rfl, hl, _⟩ := h
    rw [List.length_cons, hl, hps]
  · obtain ⟨t, pt, ht⟩ := hb cdv A outer s H E
    obtain ⟨a, ws, rfl, hl, ea, k⟩ := h
    exact ⟨t, pt, ht _ a ws _ H (start_get rfl) (fun i w hw => start_get (by simpa using hw)) hl ea k⟩
section
variable {M : Gm} {c : Cn M} {W : WX} {X : Cx} {F H : Hp} {σ : L2.St} {δ : Sl}
theorem reps_reverse : ∀ {ds : List D} {vs : List V}, reps M F ds vs → reps M F ds.reverse vs.reverse
  | [], vs, h => by unfold reps at h; subst h; exact reps_nil
  | d :: ds, vs, h => by
    unfold reps at h
    obtain ⟨v, r, rfl, h2, h3⟩ := h
    rw [List.reverse_cons, List.reverse_cons]
    exact reps_append (reps_reverse h3) (reps_cons h2 reps_nil)
theorem Ok.froze {F' : Hp} (ok : Ok c F H σ δ) (g : Same F F') (hs : Same F' H) (htb : Tb M F' H) (hn : ∀ b, c.H0 b ≠ none → F' b = F b) (ho : ∀ (i : Nat) (r : R) (a : Addr), δ[i]? = some (some r) → r.mu = true → σ[i]? = some (some (V.ref a)) → F' a = none) : Ok c F' H σ δ where
  same := hs
  grow := ok.grow.trans g
  nofz := fun b e1 e2 => by rw [hn b e1]; exact ok.nofz b e1 e2
  kept := ok.kept
  ioh := ok.ioh
  tb := htb
  len := ok.len
  slot := fun i r e => by
    obtain ⟨v, e1, e2⟩ := ok.slot i r e
    refine ⟨v, e1, ?_⟩
    cases r with
    | imm d => exact rep_mono g _ _ e2
    | own o =>
      obtain ⟨b, rfl, k1, k2, k3⟩ := e2
      exact ⟨b, rfl, ho i _ b e rfl e1, k2, obAt_mono g rfl k3⟩
    | brw o =>
      obtain ⟨b, rfl, k1, k2, k3⟩ := e2
      exact ⟨b, rfl, ho i _ b e rfl e1, k2, obAt_mono g rfl k3⟩
    | nst tp ps => exact slot_nst g e2
  dist := ok.dist
def sRaise (n k : Nat) (fa : FA) : FS := fun δ => (fa δ).bindS fun ds δ1 => if ds.length = k then .exc ⟨n, ds.reverse⟩ δ1 else .bad
theorem ds_raise {n k j : Nat} {C fI : Addr} {x : Str} {ns ps : List Str} {fd : FuncData} {e : Expr} {es : List Expr} {fa : FA} {p pos pos2 : Pos} (hG : M.G n = some C) (hnm : M.nm n = ns.reverse) (hk : ns.length = k) (T : OxC X.K C) (iC : findIn X.K (.ref C) "__init__" = some (some (.ref fI))) (tI : typeIn X.K (.ref fI) = some (.type "function"))
    (F1 : TS.FnOk X.prog X.w X.K X.mg X.base (L2.CX X.prog X.w) 1 fI fd ps (spX C ns)) (hr : TS.Room j X.A) (h2 : 2 ≤ j) (hk2 : k ≤ 100) (hb : Binds X.K fd ps []) (hc : X.calm = true) (tk : Takes X W) (hg : Gl X x) (hm : X.mg x = some (.ref C)) (ha : DA M W X (e :: es) fa)
    (hdb : (x == ("__debug__" : Str)) = false := by decide) (he : starEach (e :: es) X.env = (false, eval e X.env) :: starEach es X.env := by rfl) (hpl : (backTo pos (starEach es X.env)).any (·.1) = false := by rfl) :
    DS M W X (.Raise (some (.Call (.Name x p) (e :: es) [] pos)) none pos2) (sRaise n k fa) := by
  obtain ⟨ta, pa, ha⟩ := ha
  refine ⟨_, ps_raise hc tk (pmk_gx T iC tI F1 (hr.mono h2) hb (passes_call tk fun _ _ _ _ z => z.elim) hg hm pa hdb he hpl), fun c F H σ δ E ok post => ?_⟩
  refine ha c F H σ δ _ ok (PostS.ofE post fun ds δ1 vs F1 H1 _ s ok1 rr post => ?_)
  split at post
  · rename_i hl
    have hvl := reps_length rr
    refine ⟨by omega, fun a han => ?_⟩
    refine ⟨a, vs, by rw [List.append_nil], by omega, upd_same, fun dx H2 hd hne k1 k2 k3 => ⟨rfl, dx, _, k1, k2, ?_, ?_⟩⟩
    · rw [upd_ne hne] at hd; exact hd
    · rw [upd_ne hne] at hd
      have eG : upd (del H2 a) dx (.xd (ns.zip vs).reverse) = upd H1 dx (.xd (ns.zip vs).reverse) := by
        funext b
        by_cases hb : b = dx
        · rw [hb, upd_same, upd_same]
        · rw [upd_ne hb, upd_ne hb]
          by_cases hba : b = a
          · rw [hba, del_same, han]
          · rw [del_ne hba, k3 b hba hb, upd_ne hba]
      rw [eG]
      have hf1 : F1 dx = none := ok1.f hd
      have g1 : Same F1 (upd F1 dx (.xd (ns.zip vs).reverse)) := fun b o q => by rw [upd_ne (ne_of_none q hf1)]; exact q
      refine post (.ref C) (some dx) (upd F1 dx (.xd (ns.zip vs).reverse)) _ σ g1 ((ok1.alloc hd).froze g1 (fun b o q => ?_) ((ok1.tb.alloc hd).frz upd_same rfl) (fun b h0 => ?_) (fun i r a2 q1 q2 q3 => ?_)) ⟨C, hG, rfl, .inr ⟨dx, _, rfl, upd_same, ?_, ?_⟩⟩
      · by_cases hb : b = dx
        · subst hb; rw [upd_same] at q ⊢; exact q
        · rw [upd_ne hb] at q ⊢; exact ok1.same b o q
      · by_cases hb : b = dx
        · exact absurd (hb ▸ ok1.h0 hd) h0
        · exact upd_ne hb
      · obtain ⟨b, o, e1, e2, e3, _⟩ := (ok1.alloc hd (o := .xd (ns.zip vs).reverse)).mus q1 q2
        rw [q3] at e1
        cases e1
        have hb : a2 ≠ dx := fun z => ok1.fresh hd i r q1 q2 (by rw [q3, z])
        rw [upd_ne hb]; exact e2
      · rw [hnm, List.map_reverse, List.map_fst_zip (by omega)]
      · rw [List.map_reverse, List.map_snd_zip (by omega)]
        exact reps_mono g1 _ _ (reps_reverse rr)
  · exact post.elim
end
end
end TS

namespace TS
open PySem L2 PySem.W PySem.Calls PyProof.Rows
noncomputable section
structure Cau where
  i : Nat
  a : Addr
  cls : Value
  d : Option Addr
  x : XD
def Zx (M : Gm) (q : Cau) (F : Hp) (σ : L2.St) : Prop := σ[q.i]? = some (some (.ref q.a)) ∧ xAt M F q.x q.cls q.d F
theorem xAt_mono {M : Gm} {F F' H H' : Hp} {x : XD} {cls : Value} {d : Option Addr} (g : Same F F') (h : xAt M F x cls d H) : xAt M F' x cls d H' := by
  obtain ⟨C, h1, h2, h3⟩ := h
  refine ⟨C, h1, h2, ?_⟩
  rcases h3 with h3 | ⟨dd, fs, k1, k2, k3, k4⟩
  · exact .inl h3
  · exact .inr ⟨dd, fs, k1, g _ _ k2, k3, reps_mono g _ _ k4⟩
theorem Zx.mono {M : Gm} {q : Cau} {F F' : Hp} {σ : L2.St} (h : Zx M q F σ) (g : Same F F') : Zx M q F' σ := ⟨h.1, xAt_mono g h.2⟩
def DEz (M : Gm) (W : WX) (X : Cx) (q : Cau) (e : Expr) (f : FE) : Prop := ∃ t, PE X e t ∧ ∀ (c : Cn M) F H σ δ Q, Zx M q F σ → Ok c F H σ δ → Post c W F σ (ρR c σ) (f δ) Q → t σ H Q
def DIz (M : Gm) (W : WX) (X : Cx) (q : Cau) (e : Expr) (f : FD) : Prop := ∃ t, PE X e t ∧ ∀ (c : Cn M) F H σ δ Q, Zx M q F σ → Ok c F H σ δ → Post c W F σ (ρD c) (f δ) Q → t σ H Q
def DTz (M : Gm) (W : WX) (X : Cx) (q : Cau) (e : Expr) (f : FT) : Prop := ∃ t, PT X e t ∧ ∀ (c : Cn M) F H σ δ Q, Zx M q F σ → Ok c F H σ δ → Post c W F σ ρT (f δ) Q → t σ H Q
def DWz (M : Gm) (W : WX) (X : Cx) (q : Cau) (e : Expr) (f : FT) : Prop := ∃ t, PW X e t ∧ ∀ (c : Cn M) F H σ δ Q, Zx M q F σ → Ok c F H σ δ → Post c W F σ ρT (f δ) Q → t σ H Q
section
variable {M : Gm} {c : Cn M} {W : WX} {X : Cx} {q : Cau} {e a b : Expr} {es : List Expr} {pos p : Pos}
theorem z_toE {f : FD} (h : DIz M W X q e f) : DEz M W X q e (toE f) := by
  obtain ⟨t, p, h⟩ := h
  exact ⟨t, p, fun c F H σ δ Q z ok post => h c F H σ δ Q z ok (Post.bind post fun d δ1 v F1 H1 _ s ok1 r post => post.ok ok1 r)⟩
theorem DWz.pt {f : FT} (h : DWz M W X q e f) : DTz M W X q e f := let ⟨t, p, h⟩ := h; ⟨t, p.pt, h⟩
end
def xFld (j : Nat) (x : XD) : FD := fun δ => match x.vs[j]? with
  | some d => .ok d δ
  | none => .bad
def xFldT (tab : Nat → Option Nat) (x : XD) : FD := fun δ => match tab x.c with
  | some j => xFld j x δ
  | none => .bad
structure XqC (K : PySem.W.Frag) (C : Addr) : Prop where
  xf : XfC K C
  cl : (clsIn K C).isSome = true
  ha : findIn K (.ref C) "__class__" = some (some (.builtin "object.__class__"))
  hn : specialIn K (.builtin "object.__class__") "__get__" = some (some (.builtin "getset_descriptor.__get__"))
  ht : takesIn K (.builtin "object.__class__") = some true
  hm : mroIn K C (.type "object") = some true
section
variable {X : Cx} {a C : Addr} {oe : Obj} {pn : List (Addr × Obj)} {d : Option Addr}
end
section
variable {M : Gm} {W : WX} {X : Cx} {a : Addr} {oe : Obj} {pn : List (Addr × Obj)} {i : Nat} {cls : Value} {d : Option Addr} {x : XD} {e c1 : Expr} {pos p : Pos}
theorem pe_nev {Y : Cx} {e : Expr} : PE Y e (fun _ _ _ => False) := ⟨fun _ _ _ _ _ _ h => h.elim⟩
theorem reps_at {F : Hp} {ds : List D} {fs : List (Str × V)} {j : Nat} {dv : D} {n : Str} (r : reps M F ds (fs.map (·.2))) (h : ds[j]? = some dv) (hn : (fs.map (·.1))[j]? = some n) (hx : n ∉ (fs.map (·.1)).take j) : ∃ v, fs.lookup n = some v ∧ rep M F dv v := by
  induction fs generalizing ds j with
  | nil => simp at hn
  | cons p fs ih =>
    obtain ⟨m, v⟩ := p
    cases ds with
    | nil => simp at h
    | cons d ds =>
      rw [List.map_cons, reps_cons_iff] at r
      cases j with
      | zero =>
        simp at h hn
        subst h hn
        exact ⟨v, by simp [List.lookup], r.1⟩
      | succ j =>
        simp only [List.map_cons, List.getElem?_cons_succ, List.take_succ_cons, List.mem_cons, not_or] at h hn hx
        obtain ⟨w, e1, e2⟩ := ih r.2 h hn hx.2
        refine ⟨w, ?_, e2⟩
        rw [List.lookup_cons]
        have : (n == m) = false := by simpa using hx.1
        rw [this]
        exact e1
theorem z_fld {n : Str} {tab : Nat → Option Nat} (hT : ∀ k j C, tab k = some j → M.G k = some C → XqC X.K C ∧ findIn X.K (.ref C) n = some none ∧ (M.nm k)[j]? = some n ∧ n ∉ (M.nm k).take j) (hz : Zc cls d oe) (hf : ∃ vs, oe.data = .fields vs)
    (he : PE (X.suite a ((a, oe) :: pn)) e (tVar i)) (hb : attributeBase e n X.env (eval e X.env) = eval e X.env := by rfl) : DIz M W (X.suite a ((a, oe) :: pn)) ⟨i, a, cls, d, x⟩ (.Attribute e n pos) (xFldT tab x) := by
  by_cases hc : ∃ j C, tab x.c = some j ∧ M.G x.c = some C
  · obtain ⟨j, C, h1, h2⟩ := hc
    obtain ⟨T, hno, hn, hnt⟩ := hT _ _ _ h1 h2
    refine ⟨_, pe_xf T.xf hno hz hf he hb, fun c F H σ δ Q z ok post => ?_⟩
    obtain ⟨z1, C', k1, k2, k3⟩ := z
    have eC : C' = C := Option.some.inj (k1.symm.trans h2)
    subst eC
    unfold xFldT at post
    rw [h1] at post
    unfold xFld at post
    simp only at post
    refine ⟨_, z1, rfl, k2, ?_⟩
    rcases k3 with k3 | ⟨dd, fs, e1, e2, e3, e4⟩
    · have k3 : x.vs = [] := k3
      rw [k3] at post
      exact post.elim
    · cases q : x.vs[j]? with
      | none => rw [q] at post; exact post.elim
      | some dv =>
        rw [q] at post
        have e3 : fs.map (·.1) = M.nm x.c := e3
        obtain ⟨v, l1, l2⟩ := reps_at e4 q (by rw [e3]; exact hn) (by rw [e3]; exact hnt)
        exact ⟨dd, fs, v, e1, ok.same _ _ e2, l1, post.ok ok l2⟩
  · refine ⟨_, pe_nev, fun c F H σ δ Q z ok post => ?_⟩
    obtain ⟨z1, C', k1, k2, k3⟩ := z
    unfold xFldT at post
    cases q : tab x.c with
    | none => rw [q] at post; exact post.elim
    | some j => exact (hc ⟨j, C', q, k1⟩).elim
end
def PostZ (c : Cn M) (q : Cau) (F : Hp) (r : SR) (E : Ends) : Prop := match r with
  | .nx δ' => ∀ F' H' σ', Same F F' → Zx M q F' σ' → Ok c F' H' σ' δ' → E.nx σ' H'
  | .rt r δ' => ∀ v F' H' σ', Same F F' → Ok c F' H' σ' δ' → repR c F' H' σ' δ' r v → E.rt v H'
  | _ => False
abbrev WN : WX := fun _ _ _ _ => False
def DSz (M : Gm) (X : Cx) (q : Cau) (s : Stmt) (g : FS) : Prop := ∃ t, PS X s t ∧ ∀ (c : Cn M) F H σ δ E, Zx M q F σ → Ok c F H σ δ → PostZ c q F (g δ) E → t E σ H
def DSsz (M : Gm) (X : Cx) (q : Cau) (s : List Stmt) (g : FS) : Prop := ∃ t, PSs X s t ∧ ∀ (c : Cn M) F H σ δ E, Zx M q F σ → Ok c F H σ δ → PostZ c q F (g δ) E → t E σ H
section
variable {M : Gm} {c : Cn M} {X : Cx} {q : Cau} {F F1 H : Hp} {σ : L2.St} {δ : Sl}
theorem PostZ.shift {r : SR} {E : Ends} (h : PostZ c q F r E) (g : Same F F1) : PostZ c q F1 r E := by
  cases r with
  | nx δ' => exact fun F' H' σ' s => h F' H' σ' (g.trans s)
  | rt r δ' => exact fun v F' H' σ' s => h v F' H' σ' (g.trans s)
  | bk δ' => exact h
  | ct δ' => exact h
  | exc x δ' => exact h
  | bad => exact h
theorem zs_one {s : Stmt} {f : FS} (h : DSz M X q s f) : DSsz M X q [s] f := let ⟨t, p, h⟩ := h; ⟨t, pss_one p, h⟩
theorem z_ret {e : Expr} {pos : Pos} {f : FE} (he : DEz M WN X q e f) : DSz M X q (.Return (some e) pos) (sRet f) := by
  obtain ⟨t, p, he⟩ := he
  refine ⟨_, ps_ret p, fun c F H σ δ E z ok post => he c F H σ δ _ z ok ?_⟩
  unfold sRet at post
  cases k : f δ with
  | bad => rw [k] at post; exact post
  | exc y δ1 => rw [k] at post; exact post.elim
  | ok r δ1 => rw [k] at post; exact fun v F' H' s ok' rr => post v F' H' σ s ok' rr
end
def wAsL (K : PySem.W.Frag) (i : Nat) (Wout : WX) (D : Ends) : List (Value × (Addr → Value → Option Addr → TS)) → WX
  | [] => Wout
  | (c, ts) :: r => fun cls d σ H => ∃ b, exmOne K cls c = some b ∧ (b = true → ∀ a, H a = none → ts a cls d { nx := fun σ' H' => D.nx (σ'.set i none) H', rt := D.rt, bk := fun σ' H' => D.bk (σ'.set i none) H', ct := fun σ' H' => D.ct (σ'.set i none) H' } (σ.set i (some (.ref a))) H) ∧ (b = false → wAsL K i Wout D r cls d σ H)
inductive HdsA (X : Cx) (n : Str) : List ExceptHandler → List (Value × (Addr → Value → Option Addr → TS)) → Prop
  | nil : HdsA X n [] []
  | cons {x : Str} {c : Value} {ts : Addr → Value → Option Addr → TS} {b₀ : Stmt} {suite : List Stmt} {np pos' : Pos} {hds : List ExceptHandler} {l : List (Value × (Addr → Value → Option Addr → TS))} (hc : Names X x c)
      (hsu : ∀ (a : Addr) (oe : Obj) (cls : Value) (d : Option Addr) (pn : List (Addr × Obj)), Zc cls d oe → (∃ vs, oe.data = .fields vs) → PSs (X.suite a ((a, oe) :: pn)) (b₀ :: suite) (ts a cls d)) (r : HdsA X n hds l) :
      HdsA X n (.ExceptHandler (some (.Name x np)) (some n) (b₀ :: suite) pos' :: hds) ((c, ts) :: l)
section
variable {X : Cx} {n : Str} {i : Nat} {body : List Stmt} {h₀ : ExceptHandler} {hds : List ExceptHandler} {l : List (Value × (Addr → Value → Option Addr → TS))} {pos : Pos} {tb : WX → TS} {Wout : WX}
theorem ps_try_asL (hs : X.stack = X.env :: X.outer) (hf : X.env.frame = some X.env.locals) (hN : X.N.Nodup) (hi : X.N[i]? = some n) (hln : X.env.kindOf n = some .local) (tk : Takes X Wout)
    (hb : ∀ (W : WX) (pn : List (Addr × Obj)) (xe : Value → Shared → Prop), Takes (X.tr pn xe) W → PassesOwn (model X.prog X.w) X.A X.env xe → PSs (X.tr pn xe) body (tb W))
    (hh : HdsA X n (h₀ :: hds) l) : PS X (.Try body (h₀ :: hds) [] [] pos) (fun D σ H => tb (wAsL X.K i Wout D l) D σ H) := by
  refine ⟨fun pins s σ H D I h => ?_⟩
  have ok := I.ok
  have hloc : Loc X.env.scope n := .inl hln
  have hfr : X.A.frames = some (X.env :: X.outer) := by rw [ok.frames, hs]
  refine wpAny_Try_except (wpAny_mono ((hb (wAsL X.K i Wout D l) (X.pn ++ pins) (fun e s1 => wpAny (model X.prog X.w) X.A (noteFrame e X.env) (fun _ s2 => wpAny (model X.prog X.w) X.A (setFlight e none) (fun _ s3 =>
    wpAny (model X.prog X.w) X.A (handleBy e X.env (h₀ :: hds)) (SP X pins D) X.xe s3) X.xe s2) X.xe s1) (fun u s' xx => ?_) PassesOwn.looking).run [] s σ H D (I.toTry _) h) (fun f s1 hsp => ?_) (fun e s1 he => he))
  · obtain ⟨a, B, sI, pins', σ', H', cls, d, rfl, J', nb, up, sky, na, os, ag, w⟩ := xx
    have J : Inv X pins σ' H' sI := J'.ofTry ok
    have sky' : Sky B (X.env :: X.outer) a (Zc cls d) X.env.locals s'.heap := by rw [← hs]; exact sky
    show wpAny (model X.prog X.w) X.A (noteFrame (.ref a) X.env) _ _ _
    refine Sky.land Zc.steady hfr hf sky' fun h3 fl3 up3 => ?_
    have J3 : Inv X pins σ' H' { s' with heap := h3 } := J.landed nb fl3.1 (up.trans up3) os ag
    obtain ⟨oe3, vs3, he3, hz3, hd3⟩ := fl3.there
    have nfr : a ∉ frs (X.env :: X.outer) := fun hm => by
      obtain ⟨_, o', e', hnf⟩ := fl3.2.2.1.mem hm
      rw [he3] at e'
      cases e'
      exact hnf _ hd3
    have nL : a ≠ X.env.locals := fun z => nfr (List.mem_filterMap.mpr ⟨X.env, List.mem_cons_self, by rw [hf, z]⟩)
    have nF : a ∉ X.fs := fun hm => by
      obtain ⟨e, he, k⟩ := List.mem_filterMap.mp hm
      exact nfr (List.mem_filterMap.mpr ⟨e, List.mem_cons_of_mem _ he, k⟩)
    have S3 := J3.suite he3 hd3 na nL nF
    have go : ∀ {hds' : List ExceptHandler} {l' : List (Value × (Addr → Value → Option Addr → TS))}, HdsA X n hds' l' → wAsL X.K i Wout D l' cls d σ' H' →
        wpAny (model X.prog X.w) X.A (handleBy (.ref a) X.env hds') (SP X pins D) X.xe { s' with heap := h3 } := by
      intro hds' l' hk
      induction hk with
      | nil =>
        intro w
        refine wpAny_handleBy_nil ?_
        obtain ⟨k1, k2, k3, oe, vs, T, oT, ts', he, hz, hd, h1, hr⟩ := id fl3
        unfold PySem.passOn
        refine wpAny_bind (wpAny_field he hd h1 ?_)
        rw [if_neg (show ¬ ((Value.ref T == Value.none) = true) from by simp)]
        have fin : wpAny (model X.prog X.w) X.A (setFlight (.ref a) X.env.frame) (fun _ s4 => wpAny (model X.prog X.w) X.A (throw (.ref a) : Sem Flow) (SP X pins D) X.xe s4) X.xe { s' with heap := h3 } := by
          rw [hf]
          refine HandSPX.setFlight_upZ fl3 fun h4 hh4 up4 => wpAny_throw (tk _ _ ?_)
          exact ⟨a, B, sI, pins, σ', H', cls, d, rfl, J, nb, (up.trans up3).trans up4, .inr (.inr (by rw [hs]; exact hh4)), na, os, ag, w⟩
        first
          | exact wpAny_bind (wpAny_pure (wpAny_bind fin))
          | exact wpAny_bind fin
      | @cons x c ts b₀ suite np pos' hds2 l2 hc hsu r ih =>
        intro w
        obtain ⟨b, hb1, hyes, hno⟩ := w
        refine wpAny_handleBy_cons (codeAny_handlers_test ?_) (by intro k; cases k)
        have LT : Looks (model X.prog X.w) h3 (typeOf (.ref a)) cls := fun A Q E s k q => wpAny_typeOf_ref (k _ _ he3) (by rw [hz3.1]; exact q)
        have LM := exm_one (M := model X.prog X.w) (J3.kIn) LT hb1
        have test : ∀ {Q : Value → Shared → Prop} {E : Value → Shared → Prop}, Q c { s' with heap := h3 } → wpAny (model X.prog X.w) (X.A.mark (some (.ref a))) (eval (.Name x np) X.env) Q E { s' with heap := h3 } := fun {Q E} k => by
          obtain ⟨hg, hdbg, hm | ⟨hm, hv, hnn⟩⟩ := hc
          · exact ld_glob (X := X.suite a ((a, oe3) :: (X.pn ++ pins))) S3 hg hm k hdbg
          · exact ld_blt (X := X.suite a ((a, oe3) :: (X.pn ++ pins))) S3 hg hm hv k hnn hdbg
        refine test (LM.here ?_)
        cases b with
        | true =>
          refine codeAny_handlers_suite_as ?_
          refine HandSPX.lands_againZ fl3 fun h4 fl4 up4 => ?_
          have J4 : Inv X pins σ' H' { s' with heap := h4 } := J.landed nb fl4.1 ((up.trans up3).trans up4) os ag
          obtain ⟨oe4, vs4, he4, hz4, hd4⟩ := fl4.there
          have S4 := J4.suite he4 hd4 na nL nF
          refine store_ok (X := X.suite a ((a, oe4) :: (X.pn ++ pins))) (v := .ref a) S4 hN hi hloc rfl (fun s5 S5 => ?_) (.inr hln)
          refine wpAny_mono ((hsu a oe4 cls d (X.pn ++ pins) hz4 ⟨_, hd4⟩).run [] s5 _ H' _ S5 (hyes rfl a na)) (fun f s6 hsp => ?_) (fun _ _ z => False.elim z)
          have end_ : ∀ {σ6 : L2.St} {H6 : Hp} {Q : Shared → Prop}, Inv (X.suite a ((a, oe4) :: (X.pn ++ pins))) [] σ6 H6 s6 → (∀ s7, Inv X pins (σ6.set i none) H6 s7 → Q s7) →
              wpAny (model X.prog X.w) X.A (do bindName X.env n .none; unbindBehindTheSuite X.env n pos') (fun _ s7 => Q s7) X.xe s6 := fun {σ6 H6 Q} S6 hq => gone_ok (S6.unsuite ok) hN hi hln hq
          cases f with
          | next => obtain ⟨σ6, H6, S6, q6⟩ := hsp; exact end_ S6 fun s7 J7 => ⟨_, _, J7, q6⟩
          | brk => obtain ⟨σ6, H6, S6, q6⟩ := hsp; exact end_ S6 fun s7 J7 => ⟨_, _, J7, q6⟩
          | cont => obtain ⟨σ6, H6, S6, q6⟩ := hsp; exact end_ S6 fun s7 J7 => ⟨_, _, J7, q6⟩
          | ret u => obtain ⟨v6, σ6, H6, S6, r6, q6⟩ := hsp; exact end_ S6 fun s7 J7 => ⟨_, _, _, J7, r6, q6⟩
        | false =>
          show wpAny _ X.A (handleBy (.ref a) X.env hds2) _ _ _
          exact ih (hno rfl)
    exact go hh w
  · cases f with
    | next => obtain ⟨σ', H', J', k⟩ := hsp; exact wpAny_execs_nil ⟨σ', H', J'.ofTry ok, k⟩
    | brk => obtain ⟨σ', H', J', k⟩ := hsp; exact ⟨σ', H', J'.ofTry ok, k⟩
    | cont => obtain ⟨σ', H', J', k⟩ := hsp; exact ⟨σ', H', J'.ofTry ok, k⟩
    | ret u => obtain ⟨v, σ', H', J', r, k⟩ := hsp; exact ⟨v, σ', H', J'.ofTry ok, r, k⟩
end
def sTry (i : Nat) (gb : FS) (hs : XD → Option FS) : FS := fun δ => match gb δ with
  | .exc x δ1 => (match hs x with
    | some g => if i < δ1.length then (match g (δ1.set i none) with
      | .nx δ2 => .nx (δ2.set i none)
      | .rt r δ2 => .rt r δ2
      | _ => .bad) else .bad
    | none => .exc x δ1)
  | r => r
section
variable {M : Gm} {c : Cn M} {X : Cx} {q : Cau} {F H : Hp} {σ : L2.St} {δ : Sl}
theorem Ok.put (ok : Ok c F H σ δ) (i : Nat) (o : Option V) : Ok c F H (σ.set i o) (δ.set i none) where
  same := ok.same
  grow := ok.grow
  nofz := ok.nofz
  kept := ok.kept
  ioh := ok.ioh
  tb := ok.tb
  len := by simp [ok.len]
  slot := fun j r e => by
    rcases getElem?_set_some e with ⟨rfl, e1, _⟩ | ⟨hn, e1⟩
    · cases e1
    · rw [List.getElem?_set_ne hn]; exact ok.slot j r e1
  dist := fun j k r1 r2 w hjk e1 e2 m1 m2 s1 s2 => by
    rcases getElem?_set_some e1 with ⟨rfl, z, _⟩ | ⟨hn, q1⟩
    · cases z
    · rcases getElem?_set_some e2 with ⟨rfl, z, _⟩ | ⟨hn2, q2⟩
      · cases z
      · rw [List.getElem?_set_ne hn] at s1
        rw [List.getElem?_set_ne hn2] at s2
        exact ok.dist j k r1 r2 w hjk q1 q2 m1 m2 s1 s2
def hNil : XD → Option FS := fun _ => none
def hCons (tab : Nat → Option Bool) (g : XD → FS) (hs : XD → Option FS) : XD → Option FS := fun y => match tab y.c with
  | some true => some (g y)
  | some false => hs y
  | none => some fun _ => .bad
inductive ClA (M : Gm) (X : Cx) (n : Str) (i : Nat) : List ExceptHandler → (XD → Option FS) → Prop
  | nil : ClA M X n i [] hNil
  | cons {x : Str} {C0 : Value} {tab : Nat → Option Bool} {g : XD → FS} {b₀ : Stmt} {suite : List Stmt} {np pos' : Pos} {hds : List ExceptHandler} {hs : XD → Option FS} (hc : Names X x C0) (hT : ∀ k b C, tab k = some b → M.G k = some C → exmOne X.K (.ref C) C0 = some b)
      (hsu : ∀ (a : Addr) (oe : Obj) (cls : Value) (d : Option Addr) (pn : List (Addr × Obj)) (y : XD), Zc cls d oe → (∃ vs, oe.data = .fields vs) → DSsz M (X.suite a ((a, oe) :: pn)) ⟨i, a, cls, d, y⟩ (b₀ :: suite) (g y)) (r : ClA M X n i hds hs) :
      ClA M X n i (.ExceptHandler (some (.Name x np)) (some n) (b₀ :: suite) pos' :: hds) (hCons tab g hs)
theorem clA_ok {n : Str} {i : Nat} {hds : List ExceptHandler} {hs : XD → Option FS} (h : ClA M X n i hds hs) : ∃ l, HdsA X n hds l ∧ ∀ (c : Cn M) (Wout : WX) (D : Ends) (x : XD) (δ1 : Sl) (cls : Value) (d : Option Addr) (F H : Hp) (σ : L2.St), Ok c F H σ δ1 → xAt M F x cls d H →
    (match hs x with
      | some g => i < δ1.length ∧ PostS c Wout F (match g (δ1.set i none) with | .nx δ2 => .nx (δ2.set i none) | .rt r δ2 => .rt r δ2 | _ => .bad) D
      | none => Wout cls d σ H) → wAsL X.K i Wout D l cls d σ H := by
  induction h with
  | nil => exact ⟨[], .nil, fun c Wout D x δ1 cls d F H σ ok xa k => k⟩
  | @cons x C0 tab g b₀ suite np pos' hds hs hc hT hsu r ih =>
    obtain ⟨l, hl, ih⟩ := ih
    refine ⟨(C0, fun a cls d D σ H => ∃ y, ∀ oe pn (hz : Zc cls d oe) (hf : ∃ vs, oe.data = .fields vs), (hsu a oe cls d pn y hz hf).choose D σ H) :: l, .cons hc (fun a oe cls d pn hz hf => ⟨fun pins s σ H D I h => ?_⟩) hl, fun c Wout D y δ1 cls d F H σ ok xa k => ?_⟩
    · obtain ⟨y, h⟩ := h
      exact (hsu a oe cls d pn y hz hf).choose_spec.1.run pins s σ H D I (h oe pn hz hf)
    · obtain ⟨C, e1, e2, e3⟩ := id xa
      unfold hCons at k
      cases q : tab y.c with
      | none =>
        rw [q] at k
        exact k.2.elim
      | some b =>
        refine ⟨b, by rw [e2]; exact hT _ _ _ q e1, fun hb a ha => ⟨y, fun oe pn hz hf => ?_⟩, fun hb => ?_⟩
        · subst hb
          rw [q] at k
          obtain ⟨hi, k⟩ := k
          refine (hsu a oe cls d pn y hz hf).choose_spec.2 c F H _ (δ1.set i none) _ ⟨?_, xAt_mono (Same.refl _) xa⟩ (ok.put i _) ?_
          · show (σ.set i _)[i]? = _
            rw [List.getElem?_set_self (by rw [ok.len]; exact hi)]
          · cases w : g y (δ1.set i none) with
            | nx δ2 => rw [w] at k; exact fun F' H' σ' s z' ok' => k F' H' _ s (ok'.put i none)
            | rt r δ2 => rw [w] at k; exact fun v F' H' σ' s ok' rr => k v F' H' σ' s ok' rr
            | bk δ2 => rw [w] at k; exact k
            | ct δ2 => rw [w] at k; exact k
            | exc z δ2 => rw [w] at k; exact k
            | bad => rw [w] at k; exact k
        · subst hb
          rw [q] at k
          exact ih c Wout D y δ1 cls d F H σ ok xa k
theorem ds_try {W : WX} {n : Str} {i : Nat} {body : List Stmt} {h₀ : ExceptHandler} {hds : List ExceptHandler} {pos : Pos} {gb : FS} {hs : XD → Option FS} (hst : X.stack = X.env :: X.outer) (hf : X.env.frame = some X.env.locals) (hN : X.N.Nodup) (hi : X.N[i]? = some n) (hln : X.env.kindOf n = some .local) (tk : Takes X W)
    (hb : ∀ (W : WX) (pn : List (Addr × Obj)) (xe : Value → Shared → Prop), Takes (X.tr pn xe) W → PassesOwn (model X.prog X.w) X.A X.env xe → DSs M W (X.tr pn xe) body gb) (hh : ClA M X n i (h₀ :: hds) hs) : DS M W X (.Try body (h₀ :: hds) [] [] pos) (sTry i gb hs) := by
  obtain ⟨l, hl, key⟩ := clA_ok hh
  refine ⟨_, ps_try_asL (tb := fun W D σ H => ∀ pn xe (h1 : Takes (X.tr pn xe) W) (h2 : PassesOwn (model X.prog X.w) X.A X.env xe), (hb W pn xe h1 h2).choose D σ H) hst hf hN hi hln tk (fun W pn xe h1 h2 => ⟨fun pins s σ H D I h => ?_⟩) hl, fun c F H σ δ E ok post pn xe h1 h2 => ?_⟩
  · exact (hb W pn xe h1 h2).choose_spec.1.run pins s σ H D I (h pn xe h1 h2)
  · refine (hb _ pn xe h1 h2).choose_spec.2 c F H σ δ E ok ?_
    unfold sTry at post
    cases w : gb δ with
    | nx δ1 => rw [w] at post; exact post
    | rt r δ1 => rw [w] at post; exact post
    | bk δ1 => rw [w] at post; exact post
    | ct δ1 => rw [w] at post; exact post
    | bad => rw [w] at post; exact post
    | exc x δ1 =>
      rw [w] at post
      intro cls d F' H' σ' s ok' xa
      refine key c W E x δ1 cls d F' H' σ' ok' xa ?_
      have post : PostS c W F (match hs x with | some g => if i < δ1.length then (match g (δ1.set i none) with | .nx δ2 => .nx (δ2.set i none) | .rt r δ2 => .rt r δ2 | _ => .bad) else .bad | none => .exc x δ1) E := post
      cases v : hs x with
      | none => rw [v] at post; exact post cls d F' H' σ' s ok' xa
      | some g =>
        rw [v] at post
        by_cases hil : i < δ1.length
        · simp only [if_pos hil] at post
          exact ⟨hil, PostS.shift post s⟩
        · simp only [if_neg hil] at post
          exact post.elim
end
end
end TS

namespace TS
open PySem L2 PySem.W
noncomputable section
section
variable {K : PySem.W.Frag}
theorem exc_ok {x : Str} {B : String} (hB : Bas B) (c : (Fx.exc x B).ok K = true) : OxC K (He.ga K x) ∧ XqC K (He.ga K x) ∧ findIn K (.ref (He.ga K x)) "__init__" = some (some (.ref (He.ma K (He.ga K x) "__init__"))) ∧ typeIn K (.ref (He.ma K (He.ga K x) "__init__")) = some (.type "function") := by
  obtain ⟨c1, c⟩ := He.ba c
  obtain ⟨c2, c⟩ := He.ba c
  obtain ⟨c3, c⟩ := He.ba c
  obtain ⟨c4, c⟩ := He.ba c
  obtain ⟨c5, c⟩ := He.ba c
  obtain ⟨c6, c⟩ := He.ba c
  obtain ⟨c7, c⟩ := He.ba c
  obtain ⟨c8, c⟩ := He.ba c
  obtain ⟨c9, c⟩ := He.ba c
  obtain ⟨c10, c⟩ := He.ba c
  obtain ⟨c11, c⟩ := He.ba c
  obtain ⟨c12, c⟩ := He.ba c
  obtain ⟨c13, c⟩ := He.ba c
  obtain ⟨c14, c15⟩ := He.ba c
  obtain ⟨cd, k1, k2⟩ := any_some c3
  exact ⟨⟨⟨B, hB, c1, c2⟩, ⟨cd, k1, k2⟩, He.eqO_ok c4, of_decide_eq_true c5, of_decide_eq_true c6, c7⟩,
    ⟨⟨He.eqO_ok c10, He.eqO_ok c11, of_decide_eq_true c5, c3⟩, by rw [k1]; rfl, He.eqO_ok c12, He.eqO_ok c13, of_decide_eq_true c14, of_decide_eq_true c15⟩, He.eqO_ok c8, of_decide_eq_true c9⟩
theorem exm_ok {x y : Str} {b : Bool} (c : (Fx.exm x y b).ok K = true) : exmOne K (.ref (He.ga K x)) (.ref (He.ga K y)) = some b := of_decide_eq_true c
end
theorem kb_ix0 {K : PySem.W.Frag} {x qual : Str} {params : Arguments} {body : List Stmt} {scope : Scope} {kws : List (Str × V)} {f : Addr} {fd : FuncData} {ps ks : List Str} {n : Nat} {ix : List Nat} (Fd : FunD K x qual params body scope [] kws f fd)
    (h : ∀ (kV doc pm : Value) (an : Option Addr) (cdv ct : Value) (us ws : List Value), us.length = n → ws.length = ks.length → bindArgs (PySem.W.fnOf x qual params body scope .none kV doc pm an cdv ct) ⟨us, ks.zip ws⟩ = pure (ps.zip (pick n ix .none us ws))) : KBn K fd ps n ks (pick n ix .none) (pick n ix .non) := by
  obtain ⟨oc, od, dV, kV, doc, pm, an, cdv, ct, osl, rfl, lk, hcd, hD, hK⟩ := Fd.ex
  rcases hD with ⟨_, rfl⟩ | ⟨e, _⟩
  · exact ⟨fun s us ws _ l1 l2 => .of_eq (h kV doc pm an cdv ct us ws l1 l2), fun r rz => r.append (vals_ix rz ix)⟩
  · exact absurd rfl e
end
end TS

namespace TS
open PySem PySem.Spec PyProof.Rows L2
noncomputable section
def fLenSet (f : FD) : FD := fun δ => (f δ).bind fun d δ => match d with
  | .lst ds => (match intsD ds with
    | some ns => if ns.length ≤ 4000 then .ok (.int (ns.eraseDups.length : Nat)) δ else .bad
    | none => .bad)
  | _ => .bad
end
end TS

namespace TS
open PySem L2
noncomputable section
abbrev FX := Sl → Res (List R)
def fxNil : FX := fun δ => .ok [] δ
def fxCons (f : FE) (g : FX) : FX := fun δ => (f δ).bind fun r δ1 => match r with
  | .brw _ => .bad
  | .nst _ _ => .bad
  | r => (g δ1).bind fun rs δ2 => .ok (r :: rs) δ2
def repM {M : Gm} (c : Cn M) (F H : Hp) (σ : St) (δ : Sl) : R → V → Prop
  | .nst _ _, _ => False
  | .imm d, v => repR c F H σ δ (.imm d) v
  | .own d, v => repR c F H σ δ (.own d) v
  | .brw d, v => repR c F H σ δ (.brw d) v
def repXs {M : Gm} (c : Cn M) (F H : Hp) (σ : St) (δ : Sl) : List R → List V → Prop
  | [], vs => vs = []
  | r :: rs, vs => ∃ v ws, vs = v :: ws ∧ repM c F H σ δ r v ∧ repXs c F H σ δ rs ws ∧ (r.mu = true → ∀ (i : Nat) (r' : R), rs[i]? = some r' → r'.mu = true → ws[i]? ≠ some v)
def DX (M : Gm) (W : WX) (X : Cx) (es : List Expr) (f : FX) : Prop := ∃ t, PA X es t ∧ ∀ (c : Cn M) F H σ δ Q, Ok c F H σ δ → Post c W F σ (fun F H δ rs vs => repXs c F H σ δ rs vs) (f δ) Q → t σ H Q
section
variable {M : Gm} {c : Cn M} {W : WX} {X : Cx} {F H : Hp} {σ : St} {δ : Sl}
theorem dx_nil : DX M W X [] fxNil := ⟨_, pa_nil, fun c F H σ δ Q ok post => post.ok ok rfl⟩
theorem repXs_unguard {a : Addr} {u : HO} {hn : NT u} (h0 : c.H0 a = none) : ∀ {rs : List R} {vs : List V}, repXs (c.guard a u hn) F H σ δ rs vs → repXs c F H σ δ rs vs ∧ ∀ (i : Nat) (r' : R), rs[i]? = some r' → r'.mu = true → vs[i]? ≠ some (V.ref a)
  | [], vs, h => ⟨h, fun i r' e => by simp at e⟩
  | r :: rs, vs, h => by
    obtain ⟨v, ws, rfl, h1, h2, h3⟩ := h
    obtain ⟨k1, k2⟩ := repXs_unguard h0 h2
    have hr : repM c F H σ δ r v ∧ (r.mu = true → v ≠ V.ref a) := by
      cases r with
      | imm d => exact ⟨h1, fun z => by cases z⟩
      | brw o => exact h1.elim
      | nst tp ps => exact h1.elim
      | own o =>
        obtain ⟨b, rfl, l1, l2, l3, l4⟩ := h1
        have hba : b ≠ a := fun z => by
          have : (c.guard a u hn).H0 a = some u := if_pos rfl
          rw [z, this] at l2; cases l2
        have l2' : c.H0 b = none := by
          have : (c.guard a u hn).H0 b = c.H0 b := if_neg hba
          rw [← this]; exact l2
        exact ⟨⟨b, rfl, l1, l2', l3, l4⟩, fun _ z => by cases z; exact hba rfl⟩
    refine ⟨⟨v, ws, rfl, hr.1, k1, h3⟩, fun i r' e m => ?_⟩
    cases i with
    | zero =>
      simp at e
      subst e
      intro z
      simp at z
      exact hr.2 m z
    | succ i => exact k2 i r' (by simpa using e) m
theorem dx_cons {a : Expr} {es : List Expr} {f : FE} {g : FX} (ha : DE M W X a f) (hb : DX M W X es g) (h1 : starEach (a :: es) X.env = (false, eval a X.env) :: starEach es X.env := by rfl) : DX M W X (a :: es) (fxCons f g) := by
  obtain ⟨t, p, ha⟩ := ha
  obtain ⟨t', p', hb⟩ := hb
  refine ⟨_, pa_cons p p' h1, fun c F H σ δ Q ok post => ha c F H σ δ _ ok (Post.bind post fun r δ1 v F1 H1 _ s1 ok1 rr post => ?_)⟩
  cases r with
  | brw o => exact post.elim
  | nst _ _ => exact post.elim
  | imm d =>
    refine hb c F1 H1 σ δ1 _ ok1 (Post.bind post fun rs δ2 ws F2 H2 _ s2 ok2 rr' post => ?_)
    exact post.ok ok2 ⟨v, ws, rfl, rep_mono s2 _ _ rr, rr', fun z => by cases z⟩
  | own o =>
    obtain ⟨a, rfl, k1, k2, k3, k4⟩ := rr
    obtain ⟨u, hu, hn⟩ := obAt_nt k3
    have okg := ok1.guard k1 k2 hu hn k4
    have f0 : c.F0 a = none := by
      cases z : c.F0 a with
      | none => rfl
      | some q => rw [ok1.grow a q z] at k1; cases k1
    have un : ∀ {F2 H2 : Hp} {δ2 : Sl}, Same F1 F2 → Ok (c.guard a u hn) F2 H2 σ δ2 → Ok c F2 H2 σ δ2 ∧ repR c F2 H2 σ δ2 (.own o) (.ref a) := fun {F2 H2 δ2} g ok2 => by
      obtain ⟨q1, q2, q3, q4⟩ := ok2.unguard k2
      exact ⟨q1, a, rfl, q2 f0, k2, obAt_mono g (q3.trans hu.symm) k3, q4⟩
    refine hb (c.guard a u hn) F1 H1 σ δ1 _ okg ?_
    cases q : g δ1 with
    | bad => simp only [q] at post; exact post
    | exc x δ2 => simp only [q] at post; exact fun cls d F2 H2 g ok2 xa => post cls d F2 H2 g (un g ok2).1 xa
    | ok rs δ2 =>
      simp only [q] at post
      intro ws F2 H2 s2 ok2 rr'
      obtain ⟨ok3, ro⟩ := un s2 ok2
      obtain ⟨l1, l2⟩ := repXs_unguard k2 rr'
      exact post _ F2 H2 s2 ok3 ⟨_, ws, rfl, ro, l1, fun _ => l2⟩
theorem Ok.setR (ok : Ok c F H σ δ) {r : R} {v : V} (i : Nat) (h : repM c F H σ δ r v) : Ok c F H (σ.set i (some v)) (δ.set i (some r)) := by
  cases r with
  | imm d => exact ok.setI i h
  | own o => exact ok.setO i h
  | brw o => exact h.elim
  | nst _ _ => exact h.elim
theorem repR_setR {r r' : R} {v w : V} {i : Nat} (hl : i < σ.length) (h : repM c F H σ δ r' w) (hd : r.mu = true → r'.mu = true → w ≠ v) : repM c F H (σ.set i (some v)) (δ.set i (some r)) r' w := by
  cases r' with
  | imm d' => exact h
  | brw o => exact h
  | nst _ _ => exact h.elim
  | own o =>
    obtain ⟨a, rfl, h1, h2, h3, h4⟩ := h
    refine ⟨a, rfl, h1, h2, h3, fun k r0 e m => ?_⟩
    rcases getElem?_set_some e with ⟨rfl, z, _⟩ | ⟨hn, e⟩
    · cases z
      rw [List.getElem?_set_self hl]
      intro q
      exact hd m rfl (Option.some.inj (Option.some.inj q)).symm
    · rw [List.getElem?_set_ne hn]; exact h4 k r0 e m
def sPar3E (i j l : Nat) (f : FX) : FS := fun δ => (f δ).bindS fun rs δ1 => match rs with
  | [a, b, c] => if i < δ1.length ∧ j < δ1.length then .nx (((δ1.set i (some a)).set j (some b)).set l (some c)) else .bad
  | _ => .bad
theorem ds_par3E {i j l : Nat} {x y z : Str} {a b c : Expr} {fa : FX} {px py pz pt pos : Pos} {kt k2 pt2} (hc : X.calm = true) (hN : X.N.Nodup) (hi : X.N[i]? = some x) (hj : X.N[j]? = some y) (hl : X.N[l]? = some z) (hij : i ≠ j) (hil : i ≠ l) (hjl : j ≠ l)
    (hx : X.env.scope.names.lookup x = some .local) (hy : X.env.scope.names.lookup y = some .local) (hz : X.env.scope.names.lookup z = some .local) (ha : DX M W X [a, b, c] fa)
    (hw : swappedStores [.Tuple [.Name x px, .Name y py, .Name z pz] kt pt] (.Tuple [a, b, c] k2 pt2) X.env = pure (some [x, y, z]))
    (hs : swapsWithSole [.Tuple [.Name x px, .Name y py, .Name z pz] kt pt] (.Tuple [a, b, c] k2 pt2) pos.line X.env = pure false := by rfl) :
    DS M W X (.Assign [.Tuple [.Name x px, .Name y py, .Name z pz] kt pt] (.Tuple [a, b, c] k2 pt2) pos) (sPar3E i j l fa) := by
  obtain ⟨t, p, h⟩ := ha
  refine ⟨_, ps_par3 hc hN hi hj hl hij hil hjl hx hy hz p hw hs, fun c F H σ δ E ok post => h c F H σ δ _ ok (PostS.ofE post fun rs δ1 vs F1 H1 _ s1 ok1 rr post => ?_)⟩
  split at post
  · rename_i r1 r2 r3 _
    split at post
    · rename_i hlen
      obtain ⟨u, ws, rfl, k1, rr, d1⟩ := rr
      obtain ⟨v, ws, rfl, k2, rr, d2⟩ := rr
      obtain ⟨w, ws, rfl, k3, rr, _⟩ := rr
      obtain rfl : ws = [] := rr
      have li : i < σ.length := by rw [ok1.len]; exact hlen.1
      have lj : j < σ.length := by rw [ok1.len]; exact hlen.2
      have e12 : r1.mu = true → r2.mu = true → v ≠ u := fun m1 m2 z => d1 m1 0 r2 rfl m2 (by rw [z]; rfl)
      have e13 : r1.mu = true → r3.mu = true → w ≠ u := fun m1 m2 z => d1 m1 1 r3 rfl m2 (by rw [z]; rfl)
      have e23 : r2.mu = true → r3.mu = true → w ≠ v := fun m1 m2 z => d2 m1 0 r3 rfl m2 (by rw [z]; rfl)
      exact ⟨u, v, w, rfl, post F1 H1 _ (Same.refl _) (((ok1.setR i k1).setR j (repR_setR li k2 e12)).setR l (repR_setR (by simpa using lj) (repR_setR li k3 e13) e23))⟩
    · exact post.elim
  · exact post.elim
end
end
end TS

namespace TS
open PySem PySem.Spec PyProof.Rows L2
noncomputable section
section
variable {X : Cx} {pins : List (Addr × Obj)} {σ : L2.St} {H : Hp} {s : Shared} {a b : Addr} {u r : Value} {d : V} {k : List Key} {A : Around} {E : Value → Shared → Prop}
end
end
end TS
namespace TS
open PySem L2
noncomputable section
inductive Pth where
  | self | fld (j : Nat) | row (j e : Nat)
deriving DecidableEq
inductive NF where
  | d (d : D) | dk (ks : List Key) (ds : List D) | rk (L : List (Key × List D)) | rt (L : List (List Key × List D))
def NF.toD : NF → D
  | .d x => x
  | .dk ks ds => .dK ks ds
  | .rk L => .dK (L.map (·.1)) (L.map fun x => .lst x.2)
  | .rt L => .dT (L.map (·.1)) (L.map fun x => .lst x.2)
structure NS where
  δ : Sl
  n : Nat
  fs : List NF
  al : Option (Nat × Nat)
def immS (δ : Sl) : Bool := δ.all fun x => match x with
  | none => true
  | some (.imm _) => true
  | _ => false
abbrev Adr := Pth → Addr
abbrev Con := Pth → Option HO
def setC {α : Type} (f : Pth → α) (p : Pth) (a : α) : Pth → α := fun q => if q = p then a else f q
@[simp] theorem setC_same {α : Type} (f : Pth → α) (p : Pth) (a : α) : setC f p a p = a := if_pos rfl
theorem setC_ne {α : Type} {f : Pth → α} {p q : Pth} {a : α} (h : q ≠ p) : setC f p a q = f q := if_neg h
section
variable {M : Gm}
structure NBas (c : Cn M) (F H : Hp) : Prop where
  same : Same F H
  grow : Same c.F0 F
  nofz : ∀ b, c.H0 b ≠ none → c.F0 b = none → F b = none
  kept : ∀ b o, c.H0 b = some o → c.io ≠ some b → H b = some o
  ioh : ∀ a, c.io = some a → ∃ u, H a = some u ∧ NT u
  tb : Tb M F H
structure Cells (c : Cn M) (F H : Hp) (adr : Adr) (cont : Con) : Prop where
  at_ : ∀ p o, cont p = some o → H (adr p) = some o
  fr : ∀ p o, cont p = some o → F (adr p) = none
  h0 : ∀ p o, cont p = some o → p ≠ .self → c.H0 (adr p) = none
  inj : ∀ p q o o', cont p = some o → cont q = some o' → adr p = adr q → p = q
  io : c.io = some (adr .self)
  sf : ∃ o, cont .self = some o
  nt : ∀ p o, cont p = some o → NT o
variable {c : Cn M} {F F' H H' : Hp} {adr : Adr} {cont : Con}
theorem NBas.h0 (b : NBas c F H) {p : Addr} (hp : H p = none) : c.H0 p = none := by
  cases e : c.H0 p with
  | none => rfl
  | some o =>
    by_cases hi : c.io = some p
    · obtain ⟨u, e1, _⟩ := b.ioh p hi
      rw [hp] at e1; cases e1
    · rw [b.kept p o e hi] at hp; cases hp
theorem NBas.hn (b : NBas c F H) {p : Addr} (hp : c.H0 p ≠ none) : ∃ u, H p = some u ∧ NT u := by
  by_cases hi : c.io = some p
  · exact b.ioh p hi
  · cases e : c.H0 p with
    | none => exact absurd e hp
    | some o => exact ⟨o, b.kept p o e hi, c.nt p o e⟩
theorem NBas.f (b : NBas c F H) {p : Addr} (hp : H p = none) : F p = none := b.same.free hp
theorem NBas.stp (b : NBas c F H) (st : Stp M F H F' H' none) : NBas c F' H' := by
  have kp : ∀ b o, H b = some o → NT o → H' b = some o := fun b o e n => st.kept b o e n (fun z => by cases z)
  refine ⟨st.same, b.grow.trans st.grow, fun x e1 e2 => ?_, fun x o e1 e2 => kp x o (b.kept x o e1 e2) (c.nt x o e1), fun x e1 => ?_, st.tb⟩
  · obtain ⟨u, k1, k2⟩ := b.hn e1
    exact st.nofz x u k1 k2 (b.nofz x e1 e2)
  · obtain ⟨o, q1, q2⟩ := b.ioh x e1
    exact ⟨o, kp x o q1 q2, q2⟩
theorem Cells.stp (k : Cells c F H adr cont) (st : Stp M F H F' H' none) : Cells c F' H' adr cont := by
  have kp : ∀ b o, H b = some o → NT o → H' b = some o := fun b o e n => st.kept b o e n (fun z => by cases z)
  exact ⟨fun p o e => kp _ _ (k.at_ p o e) (k.nt p o e), fun p o e => st.nofz _ o (k.at_ p o e) (k.nt p o e) (k.fr p o e), k.h0, k.inj, k.io, k.sf, k.nt⟩
theorem Cells.put (k : Cells c F H adr cont) {p : Pth} {o o' : HO} (e : cont p = some o) (hn : NT o' := by rfl) : Cells c F (upd H (adr p) o') adr (setC cont p (some o')) := by
  have other : ∀ q u, q ≠ p → cont q = some u → adr q ≠ adr p := fun q u hq e' z => hq (k.inj q p u o e' e z)
  have back : ∀ q u, setC cont p (some o') q = some u → ∃ u', cont q = some u' := fun q u e' => by
    by_cases z : q = p
    · exact ⟨o, z ▸ e⟩
    · rw [setC_ne z] at e'; exact ⟨u, e'⟩
  refine ⟨fun q u e' => ?_, fun q u e' => ?_, fun q u e' hq => ?_, fun q q' u u' e1 e2 => ?_, k.io, ?_, fun q u e' => ?_⟩
  · by_cases z : q = p
    · subst z; rw [setC_same] at e'; cases e'; exact upd_same
    · rw [setC_ne z] at e'; rw [upd_ne (other q u z e')]; exact k.at_ q u e'
  · obtain ⟨u', z⟩ := back q u e'; exact k.fr q u' z
  · obtain ⟨u', z⟩ := back q u e'; exact k.h0 q u' z hq
  · obtain ⟨v, z⟩ := back q u e1
    obtain ⟨v', z'⟩ := back q' u' e2
    exact k.inj q q' v v' z z'
  · obtain ⟨u, hu⟩ := k.sf
    by_cases z : Pth.self = p
    · exact ⟨o', by rw [← z, setC_same]⟩
    · exact ⟨u, by rw [setC_ne z]; exact hu⟩
  · by_cases z : q = p
    · subst z; rw [setC_same] at e'; cases e'; exact hn
    · rw [setC_ne z] at e'; exact k.nt q u e'
theorem NBas.put (b : NBas c F H) (k : Cells c F H adr cont) {p : Pth} {o o' : HO} (e : cont p = some o) (hn : NT o' := by rfl) : NBas c F (upd H (adr p) o') := by
  refine ⟨fun x u h => ?_, b.grow, b.nofz, fun x u e1 e2 => ?_, fun x e1 => ?_, b.tb.write (k.at_ p o e) (k.nt p o e)⟩
  · have z : x ≠ adr p := fun z => by rw [z, k.fr p o e] at h; cases h
    rw [upd_ne z]; exact b.same x u h
  · have z : x ≠ adr p := fun z => by
      by_cases hs : p = .self
      · subst hs; exact e2 (by rw [z]; exact k.io)
      · rw [z, k.h0 p o e hs] at e1; cases e1
    rw [upd_ne z]; exact b.kept x u e1 e2
  · by_cases z : x = adr p
    · exact ⟨o', by rw [z, upd_same], hn⟩
    · rw [upd_ne z]; exact b.ioh x e1
theorem Cells.new (b : NBas c F H) (k : Cells c F H adr cont) {p : Pth} {a : Addr} {o : HO} (hs : p ≠ .self) (e : cont p = none) (ha : H a = none) (hn : NT o := by rfl) : Cells c F (upd H a o) (setC adr p a) (setC cont p (some o)) := by
  have other : ∀ q u, cont q = some u → adr q ≠ a := fun q u e' z => by rw [← z, k.at_ q u e'] at ha; cases ha
  have ne : ∀ q u, cont q = some u → q ≠ p := fun q u e' z => by rw [z, e] at e'; cases e'
  refine ⟨fun q u e' => ?_, fun q u e' => ?_, fun q u e' hq => ?_, fun q q' u u' e1 e2 h => ?_, ?_, ?_, fun q u e' => ?_⟩
  · by_cases z : q = p
    · subst z; rw [setC_same] at e' ⊢; cases e'; exact upd_same
    · rw [setC_ne z] at e' ⊢; rw [upd_ne (other q u e')]; exact k.at_ q u e'
  · by_cases z : q = p
    · subst z; rw [setC_same]; exact b.f ha
    · rw [setC_ne z] at e' ⊢; exact k.fr q u e'
  · by_cases z : q = p
    · subst z; rw [setC_same]; exact b.h0 ha
    · rw [setC_ne z] at e' ⊢; exact k.h0 q u e' hq
  · by_cases z : q = p
    · by_cases z' : q' = p
      · rw [z, z']
      · rw [z, setC_same, setC_ne z'] at h
        rw [setC_ne z'] at e2
        exact absurd h.symm (other q' u' e2)
    · rw [setC_ne z] at e1 h
      by_cases z' : q' = p
      · rw [z', setC_same] at h
        exact absurd h (other q u e1)
      · rw [setC_ne z'] at e2 h
        exact k.inj q q' u u' e1 e2 h
  · rw [setC_ne (Ne.symm hs)]; exact k.io
  · obtain ⟨u, hu⟩ := k.sf
    exact ⟨u, by rw [setC_ne (Ne.symm hs)]; exact hu⟩
  · by_cases z : q = p
    · subst z; rw [setC_same] at e'; cases e'; exact hn
    · rw [setC_ne z] at e'; exact k.nt q u e'
structure SlI (F : Hp) (σ : St) (δ : Sl) : Prop where
  len : σ.length = δ.length
  at_ : ∀ (i : Nat) (r : R), δ[i]? = some (some r) → ∃ d v, r = .imm d ∧ σ[i]? = some (some v) ∧ rep M F d v
end
def frm (M : Gm) (F H : Hp) : Cn M := ⟨F, str0 H, none, fun _ e => (nomatch e), fun _ _ h => (str0_nt h).2, none, fun _ z => nomatch z⟩
section
variable {M : Gm} {c : Cn M} {F F' H H' : Hp} {σ : St} {δ δ' : Sl} {W : WX} {X : Cx}
theorem SlI.mono (h : SlI (M := M) F σ δ) (g : Same F F') : SlI (M := M) F' σ δ := ⟨h.len, fun i r e => by
  obtain ⟨d, v, h1, h2, h3⟩ := h.at_ i r e
  exact ⟨d, v, h1, h2, rep_mono g _ _ h3⟩⟩
theorem SlI.ok (h : SlI (M := M) F σ δ) (s : Same F H) (t : Tb M F H) : Ok (frm M F H) F H σ δ where
  same := s
  grow := Same.refl _
  nofz := fun _ _ e => e
  kept := fun _ _ e _ => (str0_nt e).1
  ioh := fun _ e => (nomatch e)
  tb := t
  len := h.len
  slot := fun i r e => by
    obtain ⟨d, v, rfl, h2, h3⟩ := h.at_ i r e
    exact ⟨v, h2, h3⟩
  dist := fun i j r r' v _ e _ m => by
    obtain ⟨d, v, rfl, h2, h3⟩ := h.at_ i r e
    cases m
theorem immS_at (h : immS δ = true) {i : Nat} {r : R} (e : δ[i]? = some (some r)) : ∃ d, r = .imm d := by
  unfold immS at h
  rw [List.all_eq_true] at h
  have := h _ (List.mem_of_getElem? e)
  cases r with
  | imm d => exact ⟨d, rfl⟩
  | own o => cases this
  | brw o => cases this
  | nst _ _ => cases this
theorem SlI.back {F0 H0 : Hp} (ok : Ok (frm M F0 H0) F H σ δ) (hi : immS δ = true) : SlI (M := M) F σ δ := ⟨ok.len, fun i r e => by
  obtain ⟨d, rfl⟩ := immS_at hi e
  obtain ⟨v, h1, h2⟩ := ok.slot i _ e
  exact ⟨d, v, rfl, h1, h2⟩⟩
theorem SlI.setI (h : SlI (M := M) F σ δ) {d : D} {v : V} (i : Nat) (r : rep M F d v) : SlI (M := M) F (σ.set i (some v)) (δ.set i (some (.imm d))) := ⟨by simp [h.len], fun j r' e => by
  rcases getElem?_set_some e with ⟨rfl, e1, hl⟩ | ⟨hn, e1⟩
  · cases e1
    exact ⟨d, v, rfl, List.getElem?_set_self (by rw [h.len]; exact hl), r⟩
  · rw [List.getElem?_set_ne hn]
    exact h.at_ j r' e1⟩
end
end
end TS

namespace TS
open PySem L2
noncomputable section
section
variable {M : Gm}
def rowsOk (M : Gm) (F : Hp) (adr : Adr) (cont : Con) (j : Nat) {κ : Type} (mk : List (κ × V) → HO) (L : List (κ × List D)) (v : V) : Prop :=
  v = .ref (adr (.fld j)) ∧ (∃ kvs : List (κ × V), cont (.fld j) = some (mk kvs) ∧ kvs.map (·.1) = L.map (·.1) ∧ ∀ (e : Nat) (kv : κ × V), kvs[e]? = some kv → kv.2 = .ref (adr (.row j e))) ∧
  (∀ (e : Nat) (x : κ × List D), L[e]? = some x → ∃ vs, cont (.row j e) = some (.lst vs) ∧ reps M F x.2 vs) ∧ ∀ e, L.length ≤ e → cont (.row j e) = none
def fldOk (M : Gm) (F : Hp) (adr : Adr) (cont : Con) (j : Nat) : NF → V → Prop
  | .d x, v => rep M F x v
  | .dk ks ds, v => v = .ref (adr (.fld j)) ∧ ∃ kvs : List (Key × V), cont (.fld j) = some (.dK kvs) ∧ kvs.map (·.1) = ks ∧ reps M F ds (kvs.map (·.2))
  | .rk L, v => rowsOk M F adr cont j HO.dK L v
  | .rt L, v => rowsOk M F adr cont j HO.dT L v
structure NK (c : Cn M) (i0 ir : Nat) (F H : Hp) (σ : St) (s : NS) (adr : Adr) (cont : Con) (C dx : Addr) (fvs : List (Str × V)) : Prop where
  bas : NBas c F H
  cel : Cells c F H adr cont
  sl : SlI (M := M) F σ s.δ
  G : M.G s.n = some C
  sf : cont .self = some (.ins C dx fvs)
  nm : fvs.map (·.1) = (M.nm s.n).take s.fs.length
  ln : fvs.length = s.fs.length
  fl : ∀ (j : Nat) (f : NF) (p : Str × V), s.fs[j]? = some f → fvs[j]? = some p → fldOk M F adr cont j f p.2
  no : ∀ j, s.fs.length ≤ j → cont (.fld j) = none ∧ ∀ e, cont (.row j e) = none
  i0 : σ[i0]? = some (some (.ref (adr .self)))
  rn : (s.δ[ir]?).join = none
  al : ∀ j e, s.al = some (j, e) → σ[ir]? = some (some (.ref (adr (.row j e))))
def NOk (c : Cn M) (i0 ir : Nat) (F H : Hp) (σ : St) (s : NS) : Prop := ∃ adr cont C dx fvs, NK c i0 ir F H σ s adr cont C dx fvs
variable {c : Cn M} {i0 ir : Nat} {F F' H H' : Hp} {σ σ' : St} {s : NS} {adr : Adr} {cont : Con} {C dx : Addr} {fvs : List (Str × V)}
theorem rowsOk.mono {κ : Type} {mk : List (κ × V) → HO} {j : Nat} {L : List (κ × List D)} {v : V} (h : rowsOk M F adr cont j mk L v) (g : Same F F') : rowsOk M F' adr cont j mk L v := by
  obtain ⟨h1, h2, h3, h4⟩ := h
  exact ⟨h1, h2, fun e x hx => by
    obtain ⟨vs, k1, k2⟩ := h3 e x hx
    exact ⟨vs, k1, reps_mono g _ _ k2⟩, h4⟩
theorem fldOk.mono {j : Nat} {f : NF} {v : V} (h : fldOk M F adr cont j f v) (g : Same F F') : fldOk M F' adr cont j f v := by
  cases f with
  | d x => exact rep_mono g _ _ h
  | dk ks ds =>
    obtain ⟨h1, kvs, h2, h3, h4⟩ := h
    exact ⟨h1, kvs, h2, h3, reps_mono g _ _ h4⟩
  | rk L => exact rowsOk.mono h g
  | rt L => exact rowsOk.mono h g
theorem NK.step (k : NK c i0 ir F H σ s adr cont C dx fvs) (st : Stp M F H F' H' none) {δ' : Sl} (sl : SlI (M := M) F' σ' δ') (h0 : σ'[i0]? = σ[i0]?) (hr : σ'[ir]? = σ[ir]?) (hn : (δ'[ir]?).join = none) : NK c i0 ir F' H' σ' { s with δ := δ' } adr cont C dx fvs :=
  ⟨k.bas.stp st, k.cel.stp st, sl, k.G, k.sf, k.nm, k.ln, fun j f p e1 e2 => (k.fl j f p e1 e2).mono st.grow, k.no, h0.trans k.i0, hn, fun j e h => hr.trans (k.al j e h)⟩
theorem rowsOk.put {κ : Type} {mk : List (κ × V) → HO} {j j' : Nat} {L : List (κ × List D)} {v : V} {o : Option HO} (h : rowsOk M F adr cont j' mk L v) (hj : j' ≠ j) : rowsOk M F adr (setC cont (.fld j) o) j' mk L v := by
  obtain ⟨h1, ⟨kvs, h2, h3⟩, h4, h5⟩ := h
  refine ⟨h1, ⟨kvs, ?_, h3⟩, fun e x hx => ?_, fun e he => ?_⟩
  · rw [setC_ne (by intro z; cases z; exact hj rfl)]; exact h2
  · obtain ⟨vs, k1, k2⟩ := h4 e x hx
    exact ⟨vs, by rw [setC_ne (by intro z; cases z)]; exact k1, k2⟩
  · rw [setC_ne (by intro z; cases z)]; exact h5 e he
theorem fldOk.put {j j' : Nat} {f : NF} {v : V} {o : Option HO} (h : fldOk M F adr cont j' f v) (hj : j' ≠ j) : fldOk M F adr (setC cont (.fld j) o) j' f v := by
  cases f with
  | d x => exact h
  | dk ks ds =>
    obtain ⟨h1, kvs, h2, h3, h4⟩ := h
    exact ⟨h1, kvs, by rw [setC_ne (by intro z; cases z; exact hj rfl)]; exact h2, h3, h4⟩
  | rk L => exact rowsOk.put h hj
  | rt L => exact rowsOk.put h hj
theorem getElem?_set_cases {α : Type} {l : List α} {i j : Nat} {x y : α} (h : (l.set i x)[j]? = some y) : (i = j ∧ x = y) ∨ (i ≠ j ∧ l[j]? = some y) := by
  rcases getElem?_set_some h with ⟨h1, h2, _⟩ | h
  · exact .inl ⟨h1, h2⟩
  · exact .inr h
theorem NK.putD (k : NK c i0 ir F H σ s adr cont C dx fvs) {j : Nat} {ks : List Key} {ds : List D} {kk : Key} {d : D} {v : V} (hj : s.fs[j]? = some (.dk ks ds)) (hd : rep M F d v) :
    ∃ kvs : List (Key × V), H (adr (.fld j)) = some (.dK kvs) ∧ kvs.length = ds.length ∧ NK c i0 ir F (upd H (adr (.fld j)) (.dK (putK kvs kk v))) σ { s with fs := s.fs.set j (.dk (TS.putD ks ds kk d).1 (TS.putD ks ds kk d).2) } adr (setC cont (.fld j) (some (.dK (putK kvs kk v)))) C dx fvs := by
  have hlt : j < s.fs.length := (List.getElem?_eq_some_iff.mp hj).1
  obtain ⟨p, hp⟩ : ∃ p, fvs[j]? = some p := ⟨fvs[j]'(by rw [k.ln]; exact hlt), List.getElem?_eq_getElem _⟩
  obtain ⟨h1, kvs, h2, h3, h4⟩ := k.fl j _ p hj hp
  obtain ⟨q1, q2⟩ := putD_v hd kk h4
  rw [h3] at q1 q2
  refine ⟨kvs, k.cel.at_ _ _ h2, by have := reps_length h4; simpa using this, k.bas.put k.cel h2, k.cel.put h2, k.sl, k.G, ?_, ?_, ?_, fun j' f p' e1 e2 => ?_, fun j' hj' => ?_, k.i0, k.rn, k.al⟩
  · rw [setC_ne (by intro z; cases z)]; exact k.sf
  · simp only [List.length_set]; exact k.nm
  · simp only [List.length_set]; exact k.ln
  · rcases getElem?_set_cases e1 with ⟨z, z2⟩ | ⟨z, e1⟩
    · subst z; subst z2
      rw [hp] at e2; cases e2
      exact ⟨h1, _, setC_same _ _ _, q1, q2⟩
    · exact (k.fl j' f p' e1 e2).put (Ne.symm z)
  · simp only [List.length_set] at hj'
    obtain ⟨n1, n2⟩ := k.no j' hj'
    refine ⟨?_, fun e => ?_⟩
    · rw [setC_ne (by intro z; cases z; omega)]; exact n1
    · rw [setC_ne (by intro z; cases z)]; exact n2 e
theorem rowsOk.app {κ : Type} {mk : List (κ × V) → HO} {j e : Nat} {L : List (κ × List D)} {v : V} {x : κ × List D} {ds : List D} {vs : List V} (h : rowsOk M F adr cont j mk L v) (hx : L[e]? = some x) (r : reps M F ds vs) : rowsOk M F adr (setC cont (.row j e) (some (.lst vs))) j mk (L.set e (x.1, ds)) v := by
  obtain ⟨h1, ⟨kvs, h2, h3, h6⟩, h4, h5⟩ := h
  have hl : e < L.length := (List.getElem?_eq_some_iff.mp hx).1
  refine ⟨h1, ⟨kvs, ?_, ?_, h6⟩, fun e' y hy => ?_, fun e' he => ?_⟩
  · rw [setC_ne (by intro z; cases z)]; exact h2
  · rw [h3, List.map_set]
    apply List.ext_getElem?
    intro i
    by_cases z : e = i
    · subst z
      rw [List.getElem?_set_self (by simpa using hl), List.getElem?_map, hx]; rfl
    · rw [List.getElem?_set_ne z]
  · rcases getElem?_set_cases hy with ⟨z, z2⟩ | ⟨z, hy⟩
    · subst z; subst z2
      exact ⟨vs, setC_same _ _ _, r⟩
    · obtain ⟨ws, k1, k2⟩ := h4 e' y hy
      exact ⟨ws, by rw [setC_ne (by intro q; cases q; exact z rfl)]; exact k1, k2⟩
  · simp only [List.length_set] at he
    rw [setC_ne (by intro q; cases q; omega)]; exact h5 e' he
def rowOf (s : NS) : Option (List D) := s.al.bind fun p => (s.fs[p.1]?).bind fun f => match f with
  | .rk L => (L[p.2]?).map (·.2)
  | .rt L => (L[p.2]?).map (·.2)
  | _ => none
theorem NK.row (k : NK c i0 ir F H σ s adr cont C dx fvs) {row : List D} (h : rowOf s = some row) : ∃ j e vs, s.al = some (j, e) ∧ σ[ir]? = some (some (.ref (adr (.row j e)))) ∧ (s.δ[ir]?).join = none ∧ cont (.row j e) = some (.lst vs) ∧ reps M F row vs := by
  obtain ⟨⟨j, e⟩, ha, h⟩ := Option.bind_eq_some_iff.mp h
  obtain ⟨f, hf, h⟩ := Option.bind_eq_some_iff.mp h
  have a1 := k.al j e ha
  have a2 := k.rn
  have hlt : j < s.fs.length := (List.getElem?_eq_some_iff.mp hf).1
  obtain ⟨p, hp⟩ : ∃ p, fvs[j]? = some p := ⟨fvs[j]'(by rw [k.ln]; exact hlt), List.getElem?_eq_getElem _⟩
  have hk := k.fl j f p hf hp
  cases f with
  | d x => cases h
  | dk ks ds => cases h
  | rk L =>
    obtain ⟨x, hx, rfl⟩ := Option.map_eq_some_iff.mp h
    obtain ⟨vs, k1, k2⟩ := hk.2.2.1 e x hx
    exact ⟨j, e, vs, ha, a1, a2, k1, k2⟩
  | rt L =>
    obtain ⟨x, hx, rfl⟩ := Option.map_eq_some_iff.mp h
    obtain ⟨vs, k1, k2⟩ := hk.2.2.1 e x hx
    exact ⟨j, e, vs, ha, a1, a2, k1, k2⟩
end
end
end TS

namespace TS
open PySem L2
noncomputable section
abbrev GN := NS → Option NS
def DN (M : Gm) (W : WX) (X : Cx) (i0 ir : Nat) (ss : List Stmt) (g : GN) : Prop := ∃ t, PSs X ss t ∧ ∀ (c : Cn M) F H σ s s' E, NOk c i0 ir F H σ s → g s = some s' → (∀ F' H' σ', Same F F' → NOk c i0 ir F' H' σ' s' → E.nx σ' H') → t E σ H
section
variable {M : Gm} {W : WX} {X : Cx} {i0 ir : Nat}
theorem SlI.setSame {F : Hp} {σ : St} {δ : Sl} (h : SlI (M := M) F σ δ) {i : Nat} {d : D} {v : V} (e : σ[i]? = some (some v)) (r : rep M F d v) : SlI (M := M) F σ (δ.set i (some (.imm d))) := by
  have := h.setI i r
  have e2 : σ.set i (some v) = σ := by
    apply List.ext_getElem?
    intro j
    by_cases hj : i = j
    · subst hj
      rw [List.getElem?_set_self (List.getElem?_eq_some_iff.mp e).1, e]
    · rw [List.getElem?_set_ne hj]
  rwa [e2] at this
end
end
end TS

namespace TS
open PySem L2
noncomputable section
section
variable {M : Gm} {W : WX} {X : Cx} {i0 ir : Nat} {c : Cn M} {F F' H H' : Hp} {σ σ' : St} {s : NS} {adr adr' : Adr} {cont cont' : Con} {C dx : Addr} {fvs : List (Str × V)}
theorem rowsOk.congr {κ : Type} {mk : List (κ × V) → HO} {j : Nat} {L : List (κ × List D)} {v : V} (h : rowsOk M F adr cont j mk L v) (h1 : adr' (.fld j) = adr (.fld j)) (h2 : ∀ e, adr' (.row j e) = adr (.row j e)) (h3 : cont' (.fld j) = cont (.fld j)) (h4 : ∀ e, cont' (.row j e) = cont (.row j e)) : rowsOk M F adr' cont' j mk L v := by
  obtain ⟨k1, ⟨kvs, k2, k3, k4⟩, k5, k6⟩ := h
  refine ⟨by rw [h1]; exact k1, ⟨kvs, by rw [h3]; exact k2, k3, fun e kv he => by rw [h2]; exact k4 e kv he⟩, fun e x hx => ?_, fun e he => by rw [h4]; exact k6 e he⟩
  obtain ⟨vs, l1, l2⟩ := k5 e x hx
  exact ⟨vs, by rw [h4]; exact l1, l2⟩
theorem fldOk.congr {j : Nat} {f : NF} {v : V} (h : fldOk M F adr cont j f v) (h1 : adr' (.fld j) = adr (.fld j)) (h2 : ∀ e, adr' (.row j e) = adr (.row j e)) (h3 : cont' (.fld j) = cont (.fld j)) (h4 : ∀ e, cont' (.row j e) = cont (.row j e)) : fldOk M F adr' cont' j f v := by
  cases f with
  | d x => exact h
  | dk ks ds =>
    obtain ⟨k1, kvs, k2, k3, k4⟩ := h
    exact ⟨by rw [h1]; exact k1, kvs, by rw [h3]; exact k2, k3, k4⟩
  | rk L => exact rowsOk.congr h h1 h2 h3 h4
  | rt L => exact rowsOk.congr h h1 h2 h3 h4
theorem rowsOk.grow {κ : Type} {mk : List (κ × V) → HO} {j : Nat} {L : List (κ × List D)} {v : V} {k : κ} {p : Addr} {kvs : List (κ × V)} (h : rowsOk M F adr cont j mk L v) (hm : ∀ a b, mk a = mk b → a = b) (hc : cont (.fld j) = some (mk kvs)) :
    rowsOk M F (setC adr (.row j L.length) p) (setC (setC cont (.row j L.length) (some (.lst []))) (.fld j) (some (mk (kvs ++ [(k, .ref p)])))) j mk (L ++ [(k, [])]) v := by
  obtain ⟨k1, ⟨kvs', k2, k3, k4⟩, k5, k6⟩ := h
  rw [hc] at k2
  have := hm _ _ (Option.some.inj k2)
  subst this
  have hll : kvs.length = L.length := by have := congrArg List.length k3; simpa using this
  refine ⟨by rw [setC_ne (by intro z; cases z)]; exact k1, ⟨_, setC_same _ _ _, by simp [k3], fun e kv he => ?_⟩, fun e x hx => ?_, fun e he => ?_⟩
  · by_cases hlt : e < L.length
    · rw [List.getElem?_append_left (by omega)] at he
      rw [setC_ne (by intro z; cases z; omega)]; exact k4 e kv he
    · have : e = L.length := by
        have := (List.getElem?_eq_some_iff.mp he).1
        simp at this; omega
      subst this
      rw [List.getElem?_append_right (by omega)] at he
      simp [hll] at he
      subst he
      rw [setC_same]
  · by_cases hlt : e < L.length
    · rw [List.getElem?_append_left hlt] at hx
      obtain ⟨vs, l1, l2⟩ := k5 e x hx
      exact ⟨vs, by rw [setC_ne (by intro z; cases z), setC_ne (by intro z; cases z; omega)]; exact l1, l2⟩
    · have : e = L.length := by
        have := (List.getElem?_eq_some_iff.mp hx).1
        simp at this; omega
      subst this
      rw [List.getElem?_append_right (Nat.le_refl _)] at hx
      simp at hx
      subst hx
      exact ⟨[], by rw [setC_ne (by intro z; cases z)]; exact setC_same _ _ _, by simp [reps]⟩
  · simp at he
    rw [setC_ne (by intro z; cases z), setC_ne (by intro z; cases z; omega)]
    exact k6 e (by omega)
end
end
end TS

namespace TS
open PySem L2
noncomputable section
section
variable {M : Gm} {W : WX} {X : Cx} {i0 ir : Nat}
end
end
end TS

namespace TS
open PySem L2
noncomputable section
section
variable {M : Gm} {W : WX} {X : Cx} {i0 ir : Nat} {c : Cn M} {F F' H H' : Hp} {σ : St} {δ : Sl} {s : NS}
end
end
end TS

namespace TS
open PySem L2
noncomputable section
def fChain (g g' : D → D → Option R) (fa fb fc : FD) : FE := fun δ => (fa δ).bind fun x δ1 => (fb δ1).bind fun y δ2 => match g x y with
  | some (.imm (.bl true)) => (fc δ2).bind fun w δ3 => (match g' y w with
    | some z => .ok z δ3
    | none => .bad)
  | some (.imm (.bl false)) => .ok (.imm (.bl false)) δ2
  | _ => .bad
section
variable {M : Gm} {W : WX} {X : Cx} {a b c : Expr} {pos : Pos} {fa fb fc : FD} {r r' : R2} {g g' : D → D → Option R}
def gGet : D → D → D → Option D
  | .dK ks ds, k, x => (keyOf k).map fun k => (lookD ks ds k).getD x
  | .dT ks ds, .tup kds, x => (keysOf kds).map fun k => (lookD ks ds k).getD x
  | _, _, _ => none
def isDD : D → Bool
  | .dK _ _ => true
  | .dT _ _ => true
  | _ => false
def fGet (fo fk fx : FD) : FD := fun δ => (fo δ).bind fun d δ1 => if isDD d then (fk δ1).bind fun k δ2 => (fx δ2).bind fun x δ3 => (match gGet d k x with
  | some z => .ok z δ3
  | none => .bad) else .bad
end
end
end TS

namespace TS
open PySem L2
noncomputable section
section
variable {M : Gm} {c : Cn M} {W : WX} {X : Cx} {F H : Hp} {σ : St} {δ : Sl}
theorem repR_alloc {p : Addr} {o : HO} (hp : H p = none) {r : R} {v : V} (h : repM c F H σ δ r v) : repM c F (upd H p o) σ δ r v := by
  cases r with
  | imm d => exact h
  | brw o => exact h
  | own ob =>
    obtain ⟨a, rfl, h1, h2, h3, h4⟩ := h
    obtain ⟨u, hu⟩ := obAt_some h3
    exact ⟨a, rfl, h1, h2, obAt_mono (Same.refl _) (upd_ne (L2.ne_of_none hu hp)) h3, h4⟩
  | nst _ _ => exact h.elim
def sPar2E (i j : Nat) (f : FX) : FS := fun δ => (f δ).bindS fun rs δ1 => match rs with
  | [a, b] => if i < δ1.length then .nx ((δ1.set i (some a)).set j (some b)) else .bad
  | _ => .bad
theorem ds_par2T {i j : Nat} {tg : Expr} {a b : Expr} {fa : FX} {pos tpos : Pos} {kt} (hg : PG X tg (gTup X.K 2 (gCons (gName i) (gCons (gName j) gNil)))) (ha : DX M W X [a, b] fa) (hs : swapsWithSole [tg] (.Tuple [a, b] kt tpos) pos.line X.env = pure false := by rfl) (hw : swappedStores [tg] (.Tuple [a, b] kt tpos) X.env = pure none := by rfl)
    (h1 : (assignEach [tg] X.env).map (·.2) = [assign tg X.env] := by rfl) : DS M W X (.Assign [tg] (.Tuple [a, b] kt tpos) pos) (sPar2E i j fa) := by
  obtain ⟨t, p, h⟩ := ha
  refine ⟨_, ps_asg (pe_tup p) hg hs hw h1, fun c F H σ δ E ok post => h c F H σ δ _ ok (PostS.ofE post fun rs δ1 vs F1 H1 _ s1 ok1 rr post => ?_)⟩
  split at post
  · rename_i r1 r2 _
    split at post
    · rename_i hlen
      obtain ⟨u, ws, rfl, k1, rr', d1⟩ := id rr
      obtain ⟨v, ws, rfl, k2, rr', d2⟩ := rr'
      obtain rfl : ws = [] := rr'
      refine ⟨by rw [sizeLine_eq]; simp, fun q hq => ⟨q, [u, v], rfl, SqT.of upd_same, rfl, u, [v], rfl, v, [], rfl, rfl, ?_⟩⟩
      have ok2 : Ok c F1 (upd H1 q (.tup [u, v])) σ δ1 := ok1.alloc hq
      have li : i < σ.length := by rw [ok1.len]; exact hlen
      exact post F1 _ _ (Same.refl _) ((ok2.setR i (repR_alloc hq k1)).setR j (repR_setR li (repR_alloc hq k2) fun m1 m2 z => d1 m1 0 r2 rfl m2 (by rw [z]; rfl)))
    · exact post.elim
  · exact post.elim
end
end
end TS

namespace TS
open PySem L2 PySem.Spec PyProof.Rows
noncomputable section
mutual
def noLam : D → Bool
  | .lam => false
  | .lst ds => noLams ds
  | .tup ds => noLams ds
  | .scr ds => noLams ds
  | .dK _ ds => noLams ds
  | .dT _ ds => noLams ds
  | .obj _ ds => noLams ds
  | _ => true
def noLams : List D → Bool
  | [] => true
  | d :: ds => noLam d && noLams ds
end
section
variable {M : Gm} {L : Lm} {F F' H H' : Hp}
end
def frz1 (i : Nat) (δ : Sl) : Sl := match δ[i]? with
  | some (some (.own o)) => δ.set i (some (.imm o.toD))
  | _ => δ
def frzS : List Nat → Sl → Sl
  | [], δ => δ
  | i :: is, δ => frzS is (frz1 i δ)
def immP (δ : Sl) : Sl := δ.map fun x => match x with
  | some (.imm d) => some (.imm d)
  | _ => none
def thk (fb : FE) (δ : Sl) : Res D := match frz fb (immP δ) with
  | .ok d _ => .ok d []
  | .exc x _ => .exc x []
  | .bad => .bad
def fRes (i : Nat) (res : Res D) : FE := fun δ => match δ[i]? with
  | some (some (.imm .lam)) => (match res with
    | .ok d _ => .ok (.imm d) δ
    | .exc x _ => .exc x δ
    | .bad => .bad)
  | _ => .bad
def outL (r : FR) (δ : Sl) : Res R := match r with
  | .ok (.imm d) _ => if noLam d then .ok (.imm d) δ else .bad
  | .ok (.own o) _ => if noLam o.toD then .ok (.own o) δ else .bad
  | .exc x _ => if noLams x.vs then .exc x δ else .bad
  | _ => .bad
def fLam (ixs : List Nat) (mt : Res D → Fm) (fb : FE) : FE := fun δ => outL (mt (thk fb (frzS ixs δ)) none [.lam]) (frzS ixs δ)
section
variable {M : Gm} {c : Cn M} {F F' H H' : Hp} {σ : L2.St} {δ : Sl}
theorem Ok.frz1 (ok : Ok c F H σ δ) (i : Nat) : LkS (fun H' => ∃ F', Same F F' ∧ Ok c F' H' σ (TS.frz1 i δ)) H := by
  unfold TS.frz1
  split
  · rename_i o q
    obtain ⟨v, e1, e2⟩ := ok.take q
    refine ((ok.drop i).freeze e2).mono fun H2 ⟨F', g, ok', r'⟩ => ?_
    have ok2 := ok'.setSame (i := i) e1 r'
    rw [List.set_set] at ok2
    exact ⟨F', g, ok2⟩
  · exact .now ⟨F, Same.refl _, ok⟩
theorem Ok.frzS : ∀ {F H : Hp} {δ : Sl} (is : List Nat), Ok c F H σ δ → LkS (fun H' => ∃ F', Same F F' ∧ Ok c F' H' σ (TS.frzS is δ)) H
  | F, _, _, [], ok => .now ⟨F, Same.refl _, ok⟩
  | F, _, _, i :: is, ok => (ok.frz1 i).bind fun _ ⟨F1, g1, ok1⟩ => (Ok.frzS is ok1).mono fun _ ⟨F2, g2, ok2⟩ => ⟨F2, g1.trans g2, ok2⟩
theorem Ok.immP (ok : Ok c F H σ δ) (g : Same F F') : SlI (M := M) F' σ (TS.immP δ) := ⟨by unfold TS.immP; simp [ok.len], fun i r e => by
  unfold TS.immP at e
  rw [List.getElem?_map] at e
  cases q : δ[i]? with
  | none => rw [q] at e; cases e
  | some x =>
    rw [q] at e
    cases x with
    | none => simp at e
    | some r0 =>
      cases r0 with
      | imm d =>
        simp at e
        subst e
        obtain ⟨v, e1, e2⟩ := ok.slot i _ q
        exact ⟨d, v, rfl, e1, rep_mono g _ _ e2⟩
      | own o => simp at e
      | brw o => simp at e
      | nst _ _ => simp at e⟩
end
section
variable {X : Cx} {W : WX} {M : Gm}
def canE (M : Gm) (W : WX) (f : FE) : TE := fun σ H Q => ∃ (c : Cn M) (F : Hp) (δ : Sl), Ok c F H σ δ ∧ Post c W F σ (ρR c σ) (f δ) Q
theorem de_can {e : Expr} {f : FE} (p : PE X e (canE M W f)) : DE M W X e f := ⟨_, p, fun c F H σ δ Q ok post => ⟨c, F, δ, ok, post⟩⟩
end
end
end TS

namespace TS
open PySem L2
noncomputable section
def SmK (K : PySem.W.Frag) : Prop := ∃ o, K.lookup sysModules = some o ∧ o.cls = .type "dict"
theorem smd_ok {K : PySem.W.Frag} (h : (Fx.smd).ok K = true) : SmK K := by
  have h : (match K.lookup sysModules with | some ⟨.type c, _, _, _⟩ => decide (c = "dict") | _ => false) = true := h
  split at h
  · rename_i c od dd sl e
    have := of_decide_eq_true h
    subst this
    exact ⟨_, e, rfl⟩
  · cases h
def kP : Key → PyData
  | .inl i => .int i
  | .inr x => .str x
mutual
def toPd : D → Option PyData
  | .non => some .none
  | .bl b => some (.bool b)
  | .int i => some (.int i)
  | .str x => some (.str x)
  | .lst ds => (toPds ds).map PyData.list
  | .tup ds => (toPds ds).map PyData.tuple
  | .ktp ns => some (.tuple (ns.map PyData.int))
  | .dK ks ds => (toPds ds).map fun ps => PyData.dict ((ks.map kP).zip ps)
  | _ => none
def toPds : List D → Option (List PyData)
  | [] => some []
  | d :: ds => (toPd d).bind fun p => (toPds ds).map fun ps => p :: ps
end
section
variable {M : Gm} {F H : Hp} {X : Cx} {pins : List (Addr × Obj)} {σ : St} {s : Shared}
theorem pairs_keys {w : World} {P : Program} : ∀ {es : List DictEntry} {vs : List (Key × Value)}, Pairs (mixKind P w) es vs → ReadsAll s.heap (es.map (·.key)) ((vs.map (·.1)).map kP) []
  | _, _, .nil => .nil
  | _, _, .cons (e := e) (kv := kv) h _ t => by
    have r := pairs_keys t
    have h1 : ∃ as, Reads s.heap e.key (kP kv.1) as ∧ as = [] := by
      rcases keyIs_shape h with ⟨i, u, h1, h2⟩ | ⟨x, u, h1, h2⟩
      · rw [h1, h2]; exact ⟨_, .int i u, rfl⟩
      · rw [h1, h2]; exact ⟨_, .str x u, rfl⟩
    obtain ⟨as, h1, rfl⟩ := h1
    exact ReadsAll.cons h1 r
theorem pairs_vals {w : World} {P : Program} : ∀ {es : List DictEntry} {vs : List (Key × Value)}, Pairs (mixKind P w) es vs → es.map (·.val) = vs.map (·.2)
  | _, _, .nil => rfl
  | _, _, .cons _ h t => by rw [List.map_cons, List.map_cons, h, pairs_vals t]
theorem kv_vals : ∀ {kvs : List (Key × V)} {vs : List (Key × Value)}, KV kvs vs → Vals (kvs.map (·.2)) (vs.map (·.2)) ∧ kvs.map (·.1) = vs.map (·.1)
  | _, _, .nil => ⟨.nil, rfl⟩
  | _, _, .cons h t => by
    obtain ⟨h1, h2⟩ := kv_vals t
    exact ⟨.cons h.2 h1, by rw [List.map_cons, List.map_cons, h.1, h2]⟩
theorem ints_reads : ∀ (ns : List Int) (its : List Value), Vals (ns.map V.int) its → ∃ as, ReadsAll s.heap its (ns.map PyData.int) as ∧ sysModules ∉ as
  | [], _, r => by cases r; exact ⟨_, .nil, by simp⟩
  | n :: ns, _, r => by
    rw [List.map_cons] at r
    cases r with
    | cons r1 r2 =>
      obtain ⟨t, rfl⟩ := r1
      obtain ⟨as, k1, k2⟩ := ints_reads ns _ r2
      exact ⟨_, .cons (.int n t) k1, by simpa using k2⟩
end
def shOkD (p : PyData) : Bool := gd (p.showable = true ∧ p.depth ≤ 32 ∧ p.shown.length ≤ sizeLine)
def gReprD (d : D) : Option Str := match toPd d with
  | some p => if shOkD p then some p.shown else none
  | none => none
def fReprD (fa : FD) : FD := fun δ => (fa δ).bind fun d δ1 => match gReprD d with
  | some x => .ok (.str x) δ1
  | none => .bad
section
variable {X : Cx} {M : Gm} {W : WX} {e : Expr} {fa : FD} {p pos : Pos}
end
end
end TS

namespace TS
open PySem L2 PySem.W
noncomputable section
section
variable {X : Cx} {W : WX} {M : Gm} {pins : List (Addr × Obj)} {σ : L2.St} {H : Hp} {s : Shared}
end
section
variable {X : Cx} {W : WX} {M : Gm} {pins : List (Addr × Obj)} {σ : L2.St} {H : Hp} {s : Shared} {k : Nat} {C p g : Addr} {mc : Value} {sp : Sp} {o : Expr} {m : Str} {pos apos : Pos} {ta : TE} {tkw : TA} {kws : List Keyword} {ks : List Str}
def fCMethK (n : Nat) (f : Fm) (l : Nat) (fk : FA) : FE := fun δ => (fk δ).bind fun ds δ1 => if ds.length = l then outE (f none (.cls n :: ds)) δ1 else .bad
end
end
end TS

namespace TS
open PySem L2 PySem.W
noncomputable section
section
variable {M : Gm} {c : Cn M} {W : WX} {X : Cx} {q : Cau} {o e : Expr} {es : List Expr} {apos cpos pos : Pos} {fa : FA} {i : Nat}
end
section
open GQ PySem.SeqAt AutoSeq1 MeetsSeq MeetsSeq2 MeetsSeq3 SeqRoads2
variable {prog : Program} {w : World} {A : Around} {R : Result → Shared → Prop}
end
section
variable {M : Gm} {X : Cx} {pins : List (Addr × Obj)} {σ : L2.St} {H : Hp} {s : Shared}
end
end
end TS

namespace TS
open PySem L2 PySem.W
noncomputable section
section
variable {X : Cx} {M : Gm} {W : WX} {e : Expr} {fe : FD} {p pos : Pos}
end
section
variable {X : Cx} {M : Gm} {W : WX} {e v1 v2 o : Expr} {es rest : List Expr} {fe fo : FD} {p pos apos : Pos} {g : Str → Sl → Res Str}
end
end
end TS

namespace TS
open PySem L2 PySem.W
noncomputable section
section
variable {X : Cx} {M : Gm} {W : WX} {o e : Expr} {es : List Expr} {kws : List Keyword} {apos cpos pos p : Pos} {fa fk : FA} {i : Nat}
end
end
end TS

namespace TS
open PySem L2
noncomputable section
section
variable {P : Program} {w : World} {K : PySem.W.Frag} {mg : Str → Option Value} {base : Heap} {CX : CXT} {k n : Nat} {ks ps : List Str} {f : Addr} {sp : Sp}
theorem FnK.star {name qual : Str} {params : Arguments} {body : List Stmt} {scope : Scope} {dV kV doc pm cdv ct oc : Value} {an od : Option Addr} {osl : Array (Option Value)} {N : List Str} {pv : Str} (lk : K.lookup f = some ⟨oc, od, .func (PySem.W.fnOf name qual params body scope dV kV doc pm an cdv ct), osl⟩) (hcd : PySem.W.codeIn K cdv qual = true)
    (S : FnScope N (ps ++ [pv]) scope) (hCX : StX.CXUp CX)
    (hbi : ∀ us ws : List Value, us.length = n → ws.length = ks.length → bindArgs (PySem.W.fnOf name qual params body scope dV kV doc pm an cdv ct) ⟨us, ks.zip ws⟩ = (newTuple [] >>= fun t => pure (ps.zip (us ++ ws) ++ [(pv, t)]))) (hnp : n + ks.length = ps.length)
    (hb : ∀ (A : Around) (outer : List Env) (s : Shared) (H : Hp) (vs : List V) (Q : VK) (E : XK), Room k (A.deeper (PyProof.Rows.envOfC qual scope s.heap.objs.size f cdv)) → sp vs H Q E →
      ∃ t, PSs (cxOf CX P w K mg base N qual scope f cdv A outer s H E) body t ∧ t { rt := Q, nx := fun _ H' => Q .non H' } (start N vs) H) :
    FnK P w K mg base CX (k + 1) f n ks (fun vs H Q E => ∃ ws rest, vs = ws ++ rest ∧ ws.length = ps.length ∧ rest.length ≤ sizeLine ∧ ∀ p, H p = Option.none → sp (ws ++ [V.ref p]) (upd H p (.tup rest)) Q E) := by
  rintro A outer s H us zu vs0 zs0 Q E hr e0 la lb rva rvb ⟨ws, rest, hsp, hl, hz, hq⟩
  obtain rfl : rest = [] := by
    have h1 := congrArg List.length hsp
    rw [List.length_append, List.length_append] at h1
    exact List.length_eq_zero_iff.mp (by omega)
  rw [List.append_nil] at hsp
  subst hsp
  obtain ⟨u1, hu1⟩ : ∃ u1, u1 = us ++ zu := ⟨_, rfl⟩
  obtain ⟨u2, hu2⟩ : ∃ u2 : List Value, u2 = [] := ⟨_, rfl⟩
  have r1 : Vals (vs0 ++ zs0) u1 := by rw [hu1]; exact rva.append rvb
  have r2 : Vals [] u2 := by rw [hu2]; exact .nil
  have l1 : u1.length = ps.length := r1.length.symm.trans hl
  have l2 : u2.length ≤ sizeLine := by have := r2.length; omega
  have hn : H s.heap.objs.size = Option.none := e0.hok.fresh (Nat.le_refl _)
  have kin : K.In s.heap := e0.mod.kin.keeps fun b o e => (e0.bs b o e).1
  refine codeAny_call_function hr.depth (kin _ _ lk) rfl S.co S.gen rfl (PySem.W.codeRec_of kin hcd) ?_
  rw [hbi us zu (rva.length.symm.trans la) (rvb.length.symm.trans lb), ← hu1, ← hu2]
  refine wpAny_bind (wpAny_newTuple (wpAny_pure ?_) l2)
  let ob : Obj := { cls := .type "tuple", data := .seq u2.toArray }
  have nw : ObjOk P w (upd H s.heap.objs.size (.tup ([] : List V))) (s.heap.push ob) s.heap.objs.size (.tup ([] : List V)) := ⟨hz, u2, r2, ⟨_, Heap.get?_push_size _ rfl, rfl, _, rfl⟩⟩
  have e2 := StX.env0_laid (o := ob) e0 nw
  have un := StX.un_laid (fs := frs outer) (s := s) (o := ob) (u := .tup ([] : List V)) hn
  have lz : (vs0 ++ zs0 ++ [V.ref s.heap.objs.size]).length = (ps ++ [pv]).length := by rw [List.length_append, hl]; simp
  have rz : Vals (vs0 ++ zs0 ++ [V.ref s.heap.objs.size]) (u1 ++ [Value.ref s.heap.objs.size]) := r1.append (.cons rfl .nil)
  have ez : ps.zip u1 ++ [(pv, Value.ref s.heap.objs.size)] = (ps ++ [pv]).zip (u1 ++ [Value.ref s.heap.objs.size]) := by rw [List.zip_append l1.symm]; rfl
  rw [ez]
  have nl : (s.heap.push ob).NoLimit := e0.mod.nolimit.keeps fun b o e => (e2.bs b o e).1
  have kinds : ∀ y ∈ (ps ++ [pv]).zip (u1 ++ [Value.ref s.heap.objs.size]), scope.names.lookup y.1 = some .local ∨ (scope.names.lookup y.1 = some .cell ∧ ((cellsFrom ((s.heap.push ob).objs.size + 1) scope.names []).lookup y.1).isSome = true) := by
    rintro ⟨n, v⟩ hy
    have := S.par n (List.of_mem_zip hy).1
    exact this.elim Or.inl fun q => Or.inr ⟨q, PySem.W.cellsFrom_some _ _ _ (Or.inl q)⟩
  refine PySem.wpAny_newFunctionEnv_cells (s := { s with heap := s.heap.push ob }) S.kind kinds ?_
  rintro env rfl s1 x1
  refine ⟨nl.keeps x1.toInCall.keep, codeAny_func ?_⟩
  obtain ⟨t, pt, ht⟩ := hb A outer { s with heap := s.heap.push ob } _ _ Q E (Room.deeper hr _) (hq _ hn)
  have I1 := inv_start (CX := CX) (E := E) S hr.hd e2 lz rz x1
  refine wpAny_mono (pt.run [] s1 _ _ _ I1 ht) (fun fl s2 z => ?_) fun e s2 z => ?_
  · cases fl with
    | ret u => obtain ⟨v, σ2, H2, J, ru, q⟩ := z; exact ⟨v, H2, J.os, J.bare, un.trans J.base, J.hok, ru, q⟩
    | next => obtain ⟨σ2, H2, J, q⟩ := z; exact ⟨V.non, H2, J.os, J.bare, un.trans J.base, J.hok, rfl, q⟩
    | brk => obtain ⟨_, _, _, q⟩ := z; exact q.elim
    | cont => obtain ⟨_, _, _, q⟩ := z; exact q.elim
  · have up : ∀ e' s', CX outer (upd H s.heap.objs.size (.tup ([] : List V))) { s with heap := s.heap.push ob } E e' s' → CX outer H s E e' s' := fun e' s' => hCX outer s H _ _ E e' s' un (fun b o q => Heap.get?_push_of_some _ q) rfl
    exact wpAny_mono z (fun _ s3 y => up e s3 y) fun e' s3 y => up e' s3 y
theorem FnK.imp {sp' : Sp} (F : FnK P w K mg base CX k f n ks sp) (h : ∀ vs H Q E, sp' vs H Q E → sp vs H Q E) : FnK P w K mg base CX k f n ks sp' := fun A outer s H us ws vs zs Q E hr e0 l1 l2 r rz hs => F A outer s H us ws vs zs Q E hr e0 l1 l2 r rz (h _ _ _ _ hs)
end
section
variable {M : Gm} {P : Program} {w : World} {mg : Str → Option Value} {base : Heap} {k n : Nat} {ks : List Str} {f : Addr}
end
end
end TS

namespace HT
open PySem PySem.Spec PyProof.Rows
section
variable {prog : Program} {w : World} {A : Around} {E : Value → Shared → Prop} {s : Shared}
end
end HT

namespace TS
open PySem L2 PySem.Spec PyProof.Rows
noncomputable section
section
variable {X : Cx} {M : Gm} {W : WX} {e st : Expr} {te : TE} {ts : TO} {p2 pos : Pos} {fe fs : FD}
end
end
end TS

namespace TS
open PySem L2
noncomputable section
section
variable {M : Gm} {W : WX} {X : Cx} {i0 ir : Nat}
end
section
variable {M : Gm} {W : WX} {X : Cx} {e : Expr} {fe : FD} {p pos : Pos}
variable {q : Cau}
end
end
end TS

namespace TS
open PySem L2
noncomputable section
structure LkF (M : Gm) (i : Nat) (ds : List D) (c : Cn M) (F H : Hp) (σ : L2.St) : Prop where
  ex : ∃ a vs, σ[i]? = some (some (.ref a)) ∧ F a = none ∧ c.H0 a ≠ none ∧ c.io ≠ some a ∧ H a = some (.lst vs) ∧ reps M F ds vs
section
variable {M : Gm} {W : WX} {X : Cx} {e e0 : Expr} {es : List Expr} {fa : FA} {f : Fm} {i : Nat} {ds : List D} {pos pos' : Pos}
theorem LkF.go {c : Cn M} {F H F1 H1 : Hp} {σ σ1 : L2.St} {δ δ1 : Sl} (h : LkF M i ds c F H σ) (ok : Ok c F H σ δ) (s : Same F F1) (ok1 : Ok c F1 H1 σ1 δ1) : ∃ a vs, σ[i]? = some (some (.ref a)) ∧ F1 a = none ∧ H1 a = some (.lst vs) ∧ reps M F1 ds vs := by
  obtain ⟨a, vs, h1, h2, h3, h4, h5, h6⟩ := h.ex
  have f0 : c.F0 a = none := by
    cases e : c.F0 a with
    | none => rfl
    | some o => rw [ok.grow a o e] at h2; cases h2
  cases e : c.H0 a with
  | none => exact absurd e h3
  | some o =>
    have k1 := ok.kept a o e h4
    have k2 := ok1.kept a o e h4
    rw [h5] at k1
    cases k1
    exact ⟨a, vs, h1, ok1.nofz a h3 f0, k2, reps_mono s _ _ h6⟩
end
section
variable {M : Gm} {P : Program} {w : World} {mg : Str → Option Value} {base : Heap}
end
section
variable {M : Gm} {W : WX} {X : Cx} {e e0 : Expr} {i n : Nat} {g : List D → Option (List D)}
end
end
end TS

namespace TS
open PySem L2
noncomputable section
section
variable {X : Cx} {M : Gm} {W : WX} {o : Expr} {apos cpos : Pos} {fe : FE} {i : Nat}
end
end
end TS

namespace TS
open PySem L2
noncomputable section
section
variable {X : Cx} {M : Gm} {W : WX} {a b : Expr} {fa fb : FD} {pos : Pos}
end
end
end TS

namespace TS
open PySem L2
noncomputable section
section
variable {X : Cx} {M : Gm} {W : WX} {a b : Expr} {fa fb : FD} {pos : Pos}
end
end
end TS

namespace TS
open PySem L2
noncomputable section
section
open PySem.Spec PyProof.Rows
variable {P : Program} {w : World} {K : PySem.W.Frag} {tg : Expr} {d : Addr} {o : Obj} {es : Array DictEntry} {ep : Nat}
theorem frzTv {X : Cx} {pins : List (Addr × Obj)} {σ : L2.St} {H : Hp} {s : Shared} {kvs : List (List Key × V)} (I : Inv X pins σ H s) (h : H d = some (.frz o (.dT kvs))) :
    (d == sysModules) = false ∧ s.heap.get? d = some o ∧ o.ExactDict ∧ ∃ (es : Array DictEntry) (ep : Nat), o.data = .dict es ep ∧ es.size = kvs.length ∧
      ∀ (i : Nat) (k : List Key) (v : V), kvs[i]? = some (k, v) → ∃ (en : DictEntry) (q : Addr), es[i]? = some en ∧ en.key = .ref q ∧ H q = some (.tup (k.map kV)) ∧ RelV v en.val := by
  obtain ⟨hd, z, hs, xs, pr, o', es, ep, ho, hx, hdt, he, _⟩ := I.hok d _ h
  rw [hd] at ho
  cases ho
  refine ⟨hs, hd, hx, es, ep, hdt, ?_, fun i k v e => ?_⟩
  · have l1 : es.size = xs.length := size_of_entries he
    have l2 : kvs.length = xs.length := Paired.length pr
    omega
  · obtain ⟨b, hb, e1, e2, e3⟩ := L2.paired_get pr e
    have q := entry_at he i
    rw [hb] at q
    exact ⟨_, b.2.1, q, rfl, e2, e3⟩
def ItiT (d : Addr) (o : Obj) (kvs : List (List Key × V)) : It :=
  ⟨fun i H => H d = some (.frz o (.dT kvs)) ∧ i < kvs.length, fun i H x H' => ∃ T k v q, kvs[i]? = some (k, v) ∧ x = .ref T ∧ H T = none ∧ H q = some (.tup (k.map kV)) ∧ H' = upd H T (.tup [.ref q, v]), fun i H => H d = some (.frz o (.dT kvs)) ∧ kvs.length ≤ i⟩
theorem turn_itemsT {kvs : List (List Key × V)} {elts : List Expr} {kk : Nat} {tpos : Pos} (it : Addr) (hod : o.data = .dict es ep) :
    Turn P w K (.Tuple elts kk tpos) (ItiT d o kvs) [it] it (fun i h => ∃ ok ov, h.get? it = some (DVw.itmOb d .none i kvs.length ep ok ov)) where
  mem := by simp
  obj := fun i h st b hb => by
    have e : b = it := by simpa using hb
    subst e
    obtain ⟨ok, ov, e⟩ := st
    exact ⟨_, e, fun v z => nomatch z⟩
  keep := fun i h h' st k => let ⟨ok, ov, e⟩ := st; ⟨ok, ov, k it (by simp) _ e⟩
  item := by
    intro X hP hw hK hc i pins s σ H E I hf st hg
    subst hP hw hK
    obtain ⟨hd, hi⟩ := hg
    obtain ⟨hs, hgd, hx, es', ep', hdt, hsz, ent⟩ := frzTv I hd
    obtain ⟨rfl, rfl⟩ := dict_ep hod hdt
    obtain ⟨⟨k, v⟩, hkv⟩ : ∃ p, kvs[i]? = some p := ⟨kvs[i], List.getElem?_eq_getElem hi⟩
    obtain ⟨en, q, hen, hkey, hq, ru⟩ := ent i k v hkv
    obtain ⟨ok, ov, hit⟩ := st
    have hlt : it < s.heap.objs.size := Heap.lt_size hit
    refine DVw.itm_item hit hgd hdt hsz hen fun h' b1 b2 b3 b4 => ?_
    refine ⟨_, rfl, wpAny_letOwnedTupleGo_items (s := { s with heap := h' }) (d := d) (i := i + 1) (n := kvs.length) (ep := ep') (ok := en.key) (ov := en.val) b1 fun h'' he' sb => ?_⟩
    have hT2 : h''.get? s.heap.objs.size = some { cls := .type "tuple", data := .seq #[en.key, en.val] } := (sb.2 _ (Nat.ne_of_gt hlt)).trans b2
    have new : ObjOk X.prog X.w (upd H s.heap.objs.size (.tup [.ref q, v])) h'' s.heap.objs.size (.tup [.ref q, v]) :=
      ⟨by show 2 ≤ sizeLine; decide, [en.key, en.val], .cons hkey (.cons ru .nil), ⟨_, hT2, rfl, _, rfl⟩⟩
    have I1 : Inv X pins σ (upd H s.heap.objs.size (.tup [.ref q, v])) { s with heap := h'' } :=
      I.turnedNew (t' := s.toks) (ch := [it]) (fun b ob hb z => (sb.2 b (by simpa using hb)).trans (b4 b ob (by simpa using hb) z)) hf (Nat.le_refl _) new
    refine ⟨.ref s.heap.objs.size, _, I1, rfl, ⟨_, k, v, q, hkv, rfl, I.hok.fresh (Nat.le_refl _), hq, rfl⟩, ⟨en.key, en.val, he'⟩, fun b hb => ?_⟩
    have z : b = it := by simpa using hb
    rw [z, upd_ne (Nat.ne_of_lt hlt)]
    exact (hf it (by simp)).1
  done := by
    intro X hP hw hK hc i pins s σ H E I hf st hg
    subst hP hw hK
    obtain ⟨hd, hi⟩ := hg
    obtain ⟨f0, f1, f2, f3, f4, f5⟩ := hf it (by simp)
    obtain ⟨hs, hgd, hx, es', ep', hdt, hsz, ent⟩ := frzTv I hd
    obtain ⟨rfl, rfl⟩ := dict_ep hod hdt
    obtain ⟨ok, ov, hit⟩ := st
    have he : es'[i]? = none := Array.getElem?_eq_none (by rw [hsz]; exact hi)
    exact DVw.itm_end (I.ok.hd hc) hit hgd hdt hsz he fun h' eb => ⟨rfl, I.turned (t' := s.toks) (fun b ob hb e => eb b ob hb e) f0 f1 f3 f4 f5⟩
  self := fun A i s Q E st h => let ⟨_, _, e⟩ := st; PySem.W.kcp_self e h
variable {X : Cx} {e : Expr} {td : TE} {apos cpos : Pos}
def iItemsA (td : TE) : TI := fun σ H R => td σ H fun x H1 => ∃ d o, x = .ref d ∧ ((∃ kvs, H1 d = some (.frz o (.dK kvs)) ∧ R (Iti d o kvs) H1) ∨ ∃ kvs, H1 d = some (.frz o (.dT kvs)) ∧ R (ItiT d o kvs) H1)
theorem pi_itemsA {elts : List Expr} {kk : Nat} {tpos : Pos} (he : PE X e td) (hbase : attributeBase e "items" X.env (eval e X.env) = eval e X.env := by rfl) (hline : (apos.endLine == cpos.line) = true := by rfl) :
    PI X (.Tuple elts kk tpos) (.Call (.Attribute e "items" apos) [] [] cpos) (iItemsA td) := by
  refine ⟨fun pins s σ H R I h => ?_⟩
  refine wpAny_Call_method (T := "dict") (id := "dict.items") hbase rfl hline F.plainAttrs_dict F.slot_dict_items F.type_dict_items (thn (he.run pins s σ H _ I h) fun u s1 ⟨x, H1, I1, rx, d, o, ex, q⟩ => ?_)
  subst ex
  obtain rfl : u = Value.ref d := rx
  have I2 : Inv X pins σ H1 { s1 with heap := s1.heap.push { cls := .type "dict_items", data := .fields #[.ref d] } } := I1.kept (t' := s1.toks) fun b ob q => Heap.get?_push_of_some _ q
  rcases q with ⟨kvs, hd, q⟩ | ⟨kvs, hd, q⟩
  · obtain ⟨hs, hgd, hx, es, ep, vs, hdt, hsz, kv, hm⟩ := I1.frzK hd
    have hl : kvs.length = vs.length := Paired.length kv
    refine ⟨hm.dictOf.typeIs, hm.dictOf.mapOf.noDict, ?_⟩
    have fin : wpAny (model X.prog X.w) X.A (pyIter (.ref s1.heap.objs.size)) (PIE X pins σ (.Tuple elts kk tpos) R) X.xe { s1 with heap := s1.heap.push { cls := .type "dict_items", data := .fields #[.ref d] } } := by
      refine wpAny_pyIter_items (d := d) (knd := mixKind X.prog X.w) ⟨_, Heap.get?_push_size _ rfl, rfl, rfl⟩ (hm.push _) (pi_one (tk := s1.toks) I2 _ (turn_items _ hdt) ⟨.none, .none, ?_⟩ q)
      rw [hl]
      exact Heap.get?_push_size _ rfl
    show wpAny _ _ (callWith cpos (.builtin "dict.items") [.ref d] [] []) _ X.xe s1
    exact Calls.callWith_builtin rfl (PySem.evalArgs_none (DT.callItems hs ⟨o, hgd, hx, hdt⟩ fin))
  · obtain ⟨hs, hgd, hx, es, ep, hdt, hsz, _⟩ := frzTv I1 hd
    refine ⟨⟨o, hgd, hx.1⟩, fun b z => by cases z; exact ⟨o, hgd, hx.2.1⟩, ?_⟩
    have fin : wpAny (model X.prog X.w) X.A (pyIter (.ref s1.heap.objs.size)) (PIE X pins σ (.Tuple elts kk tpos) R) X.xe { s1 with heap := s1.heap.push { cls := .type "dict_items", data := .fields #[.ref d] } } := by
      refine DT.iterI (d := d) (es := es) (ep := ep) ⟨_, Heap.get?_push_size _ rfl, rfl, rfl⟩ ⟨o, Heap.get?_push_of_some _ hgd, hx, hdt⟩ (pi_one (tk := s1.toks) I2 _ (turn_itemsT _ hdt) ⟨.none, .none, ?_⟩ q)
      rw [hsz]
      exact Heap.get?_push_size _ rfl
    show wpAny _ _ (callWith cpos (.builtin "dict.items") [.ref d] [] []) _ X.xe s1
    exact Calls.callWith_builtin rfl (PySem.evalArgs_none (DT.callItems hs ⟨o, hgd, hx, hdt⟩ fin))
end
def keyD : Key → D
  | .inl i => .int i
  | .inr x => .str x
def keysD (ks : List Key) : D := .tup (ks.map keyD)
section
variable {M : Gm} {c : Cn M} {W : WX} {X : Cx} {tg e : Expr} {F F1 H H1 : Hp} {σ : L2.St} {δ : Sl}
theorem rep_key (k : Key) : rep M F (keyD k) (kV k) := by cases k <;> (unfold keyD rep; rfl)
theorem reps_keys : ∀ ks : List Key, reps M F (ks.map keyD) (ks.map kV)
  | [] => reps_nil
  | k :: ks => reps_cons (rep_key k) (reps_keys ks)
theorem Yl.key {k : List Key} {q : Addr} (s : Same F H) (hq : H q = some (.tup (k.map kV))) : Yl M F H (.ref q) H (keysD k) := by
  refine ⟨fun b => if b = q then some (.tup (k.map kV)) else none, fun b o e => ?_, Same.refl _, ?_⟩
  · dsimp only at e
    by_cases z : b = q
    · subst z; rw [if_pos rfl] at e; cases e; exact ⟨⟨_, rfl⟩, hq⟩
    · rw [if_neg z] at e; cases e
  · unfold keysD rep
    refine ⟨q, _, rfl, ?_, reps_keys k⟩
    unfold ovH
    cases z : F q with
    | none => simp
    | some o => have := s _ _ z; rw [hq] at this; cases this; rfl
theorem Yl.keyPair {k : List Key} {q T : Addr} {v : V} {d : D} (s : Same F H) (hT : H T = none) (hq : H q = some (.tup (k.map kV))) (r : rep M F d v) : Yl M F H (.ref T) (upd H T (.tup [.ref q, v])) (.tup [keysD k, d]) := by
  have hne : q ≠ T := fun z => by rw [z, hT] at hq; cases hq
  refine ⟨fun b => if b = q then some (.tup (k.map kV)) else if b = T then some (.tup [.ref q, v]) else none, fun b o e => ?_, fun b o e => by rw [upd_ne (ne_of_none e hT)]; exact e, ?_⟩
  · dsimp only at e
    by_cases z : b = q
    · subst z; rw [if_pos rfl] at e; cases e; exact ⟨⟨_, rfl⟩, by rw [upd_ne hne]; exact hq⟩
    · rw [if_neg z] at e
      by_cases z : b = T
      · subst z; rw [if_pos rfl] at e; cases e; exact ⟨⟨_, rfl⟩, upd_same⟩
      · rw [if_neg z] at e; cases e
  · have eT : ovH F (fun b => if b = q then some (.tup (k.map kV)) else if b = T then some (.tup [.ref q, v]) else none) T = some (.tup [.ref q, v]) := by
      unfold ovH
      rw [s.free hT]
      dsimp only
      rw [if_neg (Ne.symm hne), if_pos rfl]
    have eq : ovH F (fun b => if b = q then some (.tup (k.map kV)) else if b = T then some (.tup [.ref q, v]) else none) q = some (.tup (k.map kV)) := by
      unfold ovH
      cases z : F q with
      | none => simp
      | some o => have := s _ _ z; rw [hq] at this; cases this; rfl
    unfold rep
    refine ⟨T, _, rfl, eT, reps_cons ?_ (reps_cons (rep_mono ovH_grow _ _ r) reps_nil)⟩
    unfold keysD rep
    exact ⟨q, _, rfl, eq, reps_keys k⟩
theorem walks_itemsK {a : Addr} {o : Obj} {kvs : List (Key × V)} {ds : List D} (hF : F a = some (.frz o (.dK kvs))) (r : reps M F ds (kvs.map (·.2))) : Walks M (Iti a o kvs) F (zipD ((kvs.map (·.1)).map keyD) ds) := fun i H s => by
  have hd := s _ _ hF
  have hl : kvs.length = ds.length := by have := reps_length r; simpa using this
  rw [zipD_get]
  refine ⟨fun d e => ?_, fun hn => ⟨hd, ?_⟩⟩
  · split at e
    · rename_i x y h1 h2
      cases e
      obtain ⟨v, e1, e2⟩ := reps_get r h2
      rw [List.map_map, List.getElem?_map] at h1
      obtain ⟨p, hp, rfl⟩ := Option.map_eq_some_iff.mp h1
      rw [List.getElem?_map, hp] at e1; cases e1
      refine ⟨⟨hd, (List.getElem?_eq_some_iff.mp hp).1⟩, fun x H' y => ?_⟩
      obtain ⟨T, k, v, q1, rfl, q3, rfl⟩ := y
      rw [hp] at q1; cases q1
      exact Yl.new s q3 rfl rfl rfl (reps_cons (rep_key _) (reps_cons e2 reps_nil))
    · cases e
  · by_cases h : kvs.length ≤ i
    · exact h
    · have h' : i < kvs.length := Nat.lt_of_not_le h
      rw [List.map_map, List.getElem?_map, List.getElem?_eq_getElem h', List.getElem?_eq_getElem (hl ▸ h')] at hn
      cases hn
theorem walks_itemsT {a : Addr} {o : Obj} {kvs : List (List Key × V)} {ds : List D} (hF : F a = some (.frz o (.dT kvs))) (r : reps M F ds (kvs.map (·.2))) : Walks M (ItiT a o kvs) F (zipD ((kvs.map (·.1)).map keysD) ds) := fun i H s => by
  have hd := s _ _ hF
  have hl : kvs.length = ds.length := by have := reps_length r; simpa using this
  rw [zipD_get]
  refine ⟨fun d e => ?_, fun hn => ⟨hd, ?_⟩⟩
  · split at e
    · rename_i x y h1 h2
      cases e
      obtain ⟨v, e1, e2⟩ := reps_get r h2
      rw [List.map_map, List.getElem?_map] at h1
      obtain ⟨p, hp, rfl⟩ := Option.map_eq_some_iff.mp h1
      rw [List.getElem?_map, hp] at e1; cases e1
      refine ⟨⟨hd, (List.getElem?_eq_some_iff.mp hp).1⟩, fun x H' y => ?_⟩
      obtain ⟨T, k, v, q, q1, rfl, q3, q4, rfl⟩ := y
      rw [hp] at q1; cases q1
      exact Yl.keyPair s q3 q4 e2
    · cases e
  · by_cases h : kvs.length ≤ i
    · exact h
    · have h' : i < kvs.length := Nat.lt_of_not_le h
      rw [List.map_map, List.getElem?_map, List.getElem?_eq_getElem h', List.getElem?_eq_getElem (hl ▸ h')] at hn
      cases hn
def itItems (f : FD) : FA := fun δ => (f δ).bind fun d δ => match d with
  | .dK ks ds => .ok (zipD (ks.map keyD) ds) δ
  | .dT ks ds => .ok (zipD (ks.map keysD) ds) δ
  | _ => .bad
theorem dit_items {apos cpos tpos : Pos} {elts : List Expr} {kk : Nat} {f : FD} (h : DI M W X e f) (hbase : attributeBase e "items" X.env (eval e X.env) = eval e X.env := by rfl) (hline : (apos.endLine == cpos.line) = true := by rfl) : DIt M W X (.Tuple elts kk tpos) (.Call (.Attribute e "items" apos) [] [] cpos) (itItems f) := by
  obtain ⟨t, p, h⟩ := h
  refine ⟨_, pi_itemsA p hbase hline, fun c F H σ δ Q ok post => h c F H σ δ _ ok (Post.bind post fun d δ1 v F1 H1 _ s1 ok1 r post => ?_)⟩
  split at post
  · unfold ρD rep at r
    obtain ⟨a, od, kvs, rfl, h2, rfl, h4⟩ := r
    exact ⟨a, od, rfl, .inl ⟨kvs, ok1.same _ _ h2, post.ok ok1 (walks_itemsK h2 h4)⟩⟩
  · unfold ρD rep at r
    obtain ⟨a, od, kvs, rfl, h2, rfl, h4⟩ := r
    exact ⟨a, od, rfl, .inr ⟨kvs, ok1.same _ _ h2, post.ok ok1 (walks_itemsT h2 h4)⟩⟩
  · exact post.elim
end
end
end TS

namespace TS
open PySem L2
noncomputable section
def gListK : List D → Option R
  | [.dK ks _] => some (.own (.l (ks.map keyD)))
  | [.dT ks _] => some (.own (.l (ks.map keysD)))
  | _ => none
section
variable {M : Gm} {c : Cn M} {W : WX} {X : Cx} {e : Expr} {F H : Hp} {σ : L2.St} {δ : Sl} {fa : FA} {p pos : Pos}
theorem keys_frz : ∀ {kvs : List (List Key × V)} {bs : List Addr} {F : Hp}, Ok c F H σ δ → IsKeys H kvs bs → ∃ F', Same F F' ∧ Ok c F' H σ δ ∧ reps M F' ((kvs.map (·.1)).map keysD) (bs.map V.ref)
  | [], _, F, ok, .nil => ⟨F, Same.refl _, ok, reps_nil⟩
  | (k, v) :: kvs, b :: bs, F, ok, .cons h t => by
    obtain ⟨F1, st, r⟩ := (Yl.key (M := M) ok.same h).stp (Same.refl F) ok.same ok.tb
    obtain ⟨F2, g2, ok2, r2⟩ := keys_frz (ok.stp st) t
    exact ⟨F2, st.grow.trans g2, ok2, reps_cons (rep_mono g2 _ _ r) r2⟩
def rListK : RC := fun xs H Q => (∃ a kvs, xs = [V.ref a] ∧ Rd H a (.dK kvs) ∧ ∀ p, H p = none → Q (.ref p) (upd H p (.lst (kvs.map fun kv => kV kv.1)))) ∨
  ∃ a kvs, xs = [V.ref a] ∧ Rd H a (.dT kvs) ∧ ∀ p bs, H p = none → IsKeys H kvs bs → Q (.ref p) (upd H p (.lst (bs.map V.ref)))
theorem call_listK (hc : X.calm = true) : CallR X (.type "list") rListK := CallR.or (call_listD hc) (call_list_dT hc)
theorem cd_listK : CallD M rListK gListK := by
  intro c F H σ δ xs ds z Q ok pxs e q
  unfold gListK at e
  split at e
  · cases e
    obtain ⟨x, rfl, px⟩ := p1 pxs
    obtain ⟨a, kvs, rfl, h2, rfl, h4⟩ := prep_dK ok.same px
    refine .inl ⟨a, kvs, rfl, h2, fun p hp => ?_⟩
    have r : reps M F ((kvs.map (·.1)).map keyD) (kvs.map fun kv => kV kv.1) := by
      have := reps_keys (M := M) (F := F) (kvs.map (·.1))
      rw [List.map_map] at this ⊢
      rw [List.map_map] at this
      exact this
    obtain ⟨o1, o2⟩ := new_list ok hp r
    exact q _ F _ (Same.refl _) o1 o2
  · cases e
    obtain ⟨x, rfl, px⟩ := p1 pxs
    obtain ⟨a, kvs, rfl, h2, rfl, h4⟩ := prep_dT ok.same px
    refine .inr ⟨a, kvs, rfl, h2, fun p bs hp hk => ?_⟩
    obtain ⟨F1, g1, ok1, r⟩ := keys_frz ok hk
    obtain ⟨o1, o2⟩ := new_list ok1 hp r
    exact q _ F1 _ g1 o1 o2
  · cases e
theorem b_listK (hc : X.calm = true) (hg : Gl X "list") (hm : X.mg "list" = none) (ha : DB M W X [e] fa) (he : starEach (e :: []) X.env = (false, eval e X.env) :: starEach [] X.env := by rfl) (hpl : (backTo pos (starEach [] X.env)).any (·.1) = false := by rfl) : DE M W X (.Call (.Name "list" p) [e] [] pos) (fCal gListK fa) := e_t (call_listK hc) cd_listK bt_list hg hm ha (by decide) (by decide) he hpl
end
end
end TS

namespace TS
open PySem L2
noncomputable section
def fGetV (i : Nat) (fk fx : FD) : FE := fun δ => (vP i δ).bind fun d0 _ => if isDD d0 then (fk δ).bind fun k δ1 => (fx δ1).bind fun x δ2 => (vP i δ2).bind fun d δ3 => (match gGet d k x with
  | some z => .ok (.imm z) δ3
  | none => .bad) else .bad
section
variable {M : Gm} {c : Cn M} {W : WX} {X : Cx}
theorem prep_isd {F H : Hp} {d : D} {v : V} (s : Same F H) (hd : isDD d = true) (p : prep M F H d v) : ∃ a, v = .ref a ∧ IsD H a := by
  cases d <;> simp [isDD] at hd
  · obtain ⟨a, kvs, e1, e2, _⟩ := prep_dK s p
    exact ⟨a, e1, .inl ⟨kvs, e2⟩⟩
  · obtain ⟨a, kvs, e1, e2, _⟩ := prep_dT s p
    exact ⟨a, e1, .inr ⟨kvs, e2⟩⟩
theorem get_prep {F H : Hp} {d k x z : D} {v vk vx : V} (s : Same F H) (p : prep M F H d v) (rk : rep M F k vk) (rx : rep M F x vx) (e : gGet d k x = some z) : ∃ a o, v = .ref a ∧ DGet H a vk o ∧ rep M F z (o.getD vx) := by
  have fin : ∀ {κ : Type} [DecidableEq κ] {kvs : List (κ × V)} {ds : List D} (kk : κ), reps M F ds (kvs.map (·.2)) → rep M F ((lookD (kvs.map (·.1)) ds kk).getD x) ((valV kvs kk).getD vx) := fun {κ _ kvs ds} kk h4 => by
    obtain ⟨l1, l2⟩ := lookD_val kk h4
    cases q : lookD (kvs.map (·.1)) ds kk with
    | none => rw [l2 q]; exact rx
    | some d => obtain ⟨w, w1, w2⟩ := l1 d q; rw [w1]; exact w2
  unfold gGet at e
  split at e
  · obtain ⟨kk, e1, rfl⟩ := Option.map_eq_some_iff.mp e
    obtain ⟨a, kvs, rfl, h2, rfl, h4⟩ := prep_dK s p
    refine ⟨a, _, rfl, ?_, fin kk h4⟩
    rw [keyOf_v (M := M) (H := H) (.inl rk) e1]
    exact .inl ⟨_, _, h2, rfl, rfl⟩
  · obtain ⟨kk, e1, rfl⟩ := Option.map_eq_some_iff.mp e
    obtain ⟨a, kvs, rfl, h2, rfl, h4⟩ := prep_dT s p
    obtain ⟨b, rfl, hb⟩ := prep_tupK s (.inl rk) e1
    exact ⟨a, _, rfl, .inr ⟨_, _, _, h2, rfl, hb, rfl⟩, fin kk h4⟩
  · cases e
theorem de_getV {o e f : Expr} {apos cpos : Pos} {i : Nat} {fk fx : FD} (hu : X.A.units + 1 < cLine) (ho : PE X o (tVar i)) (hk : DI M W X e fk) (hx : DI M W X f fx) (m : M2 X o "get" apos e f cpos := by exact ⟨rfl, rfl, rfl, rfl⟩) : DE M W X (.Call (.Attribute o "get" apos) [e, f] [] cpos) (fGetV i fk fx) := by
  obtain ⟨tk, pk, hk⟩ := hk
  obtain ⟨tx, px, hx⟩ := hx
  refine ⟨_, pe_dget2 hu ho pk px m, fun c F H σ δ Q ok post => ?_⟩
  unfold fGetV at post
  have hv : ∃ v, σ[i]? = some (some v) := by
    cases q : δ[i]? with
    | none => unfold vP at post; rw [q] at post; exact post.elim
    | some r => cases r with
      | none => unfold vP at post; rw [q] at post; exact post.elim
      | some r => obtain ⟨v, e1, _⟩ := ok.slot i r q; exact ⟨v, e1⟩
  obtain ⟨v, e1⟩ := hv
  refine ⟨v, e1, ?_⟩
  refine vP_run ok e1 post fun d0 _ p0 post => ?_
  split at post
  · rename_i hd
    obtain ⟨a, rfl, hisd⟩ := prep_isd ok.same hd p0
    refine ⟨a, rfl, hisd, hk c F H σ δ _ ok (Post.bind post fun kd δ1 kv F1 H1 _ s1 ok1 rk post => hx c F1 H1 σ δ1 _ ok1 (Post.bind post fun xd δ2 xv F2 H2 _ s2 ok2 rx post => ?_))⟩
    refine vP_run ok2 e1 post fun d _ p post => ?_
    cases g : gGet d kd xd with
    | none => rw [g] at post; exact post.elim
    | some z =>
      rw [g] at post
      obtain ⟨a', o, e2, hg, rz⟩ := get_prep ok2.same p (rep_mono s2 _ _ rk) rx g
      cases e2
      exact ⟨o, hg, post.ok ok2 rz⟩
  · exact post.elim
end
end
end TS

namespace TS
open PySem L2
noncomputable section
section
variable {M : Gm} {c : Cn M} {W : WX} {X : Cx}
end
end
end TS

namespace TS
open PySem L2 PySem.Spec PyProof.Rows
noncomputable section
section
variable {prog : Program} {w : World} {A : Around} {E : Value → Shared → Prop} {s : Shared} {env : Env}
def EvI (prog : Program) (w : World) (h : Heap) (env : Env) (e : Expr) (n : Int) : Prop := ∀ (A : Around) (E : Value → Shared → Prop) (Q : Value → Shared → Prop) (s : Shared), s.heap = h → (∀ t tk, Q (.int n t) { s with toks := tk }) → wpAny (model prog w) A (eval e env) Q E s
theorem evI_sub {h : Heap} {y : Str} {t : Addr} {its : Array Value} {i : Nat} {n : Int} {tok : Tok} {m : Str → Option Value} {p1 p2 p3 : Pos} {jk : Nat} (hk : env.scope.kind = .function) (hl : env.kindOf y = some .local) (hn : h.Ns env.locals m) (hv : m y = some (.ref t)) (ht : IsTup h t its) (hi : its[i]? = some (.int n tok)) (h62 : i < 1000)
    (hd : (y == ("__debug__" : Str)) = false) :
    EvI prog w h env (.Subscript (.Name y p1) (.Constant (.int (i : Int)) jk p2) p3) n := by
  intro A E Q s e q
  subst e
  refine Subscript_ (wpAny_Name (wpAny_loadName_local hk hl hn hv (wpAny_Constant_int ?_)) hd)
  have hz : i < its.size := by
    rcases Nat.lt_or_ge i its.size with z | z
    · exact z
    · rw [Array.getElem?_eq_none z] at hi; cases hi
  exact subscriptTail_builtinR (x := .int n tok) (IsTup.typeIs (s := { s with toks := s.toks + 1 }) ht) slot_tuple_getitem.lookup
    (getItem_tuple (s := { s with toks := s.toks + 1 }) (j := i) (Q := fun r s' => r = .int n tok ∧ Q r s') ht (by omega) (by omega) (by rw [seqIndex_of (by omega) (by omega)]; simp) hi ⟨rfl, q tok _⟩)
theorem evI_free {h : Heap} {x : Str} {c : Addr} {n : Int} {tok : Tok} {p : Pos} (hk : env.scope.kind = .function) (hl : env.kindOf x = some .free) (hc : env.cells.lookup x = some c) (hv : h.IsCell c (some (.int n tok))) (hd : (x == ("__debug__" : Str)) = false) (hcd : (x == ("__classdict__" : Str)) = false) :
    EvI prog w h env (.Name x p) n := by
  intro A E Q s e q
  subst e
  exact wpAny_Name (wpAny_loadName_free hk hl hc hv (q tok s.toks) hcd) hd
theorem evI_mul {h : Heap} {a b : Expr} {i j : Int} {p : Pos} (ha : EvI prog w h env a i) (hb : EvI prog w h env b j) (hm : CMulB i j = true) : EvI prog w h env (.BinOp a .Mult b p) (i * j) := by
  intro A E Q s e q
  subst e
  refine wpAny_BinOp (ha A E _ s rfl fun t tk => hb A E _ _ rfl fun t2 tk2 => ?_)
  exact mul_int (q _ _) (CMulW.ok (of_gd (p := (i.natAbs.log2 + j.natAbs.log2 < 1000000)) hm))
theorem evI_fdiv {h : Heap} {a b : Expr} {i j : Int} {p : Pos} (ha : EvI prog w h env a i) (hb : EvI prog w h env b j) (hm : CDivB i j = true) : EvI prog w h env (.BinOp a .FloorDiv b p) (i / j) := by
  intro A E Q s e q
  subst e
  have hm := of_gd (p := (0 < j ∧ j.natAbs.log2 < 9000)) hm
  refine wpAny_BinOp (ha A E _ s rfl fun t tk => hb A E _ _ rfl fun t2 tk2 => ?_)
  have h1 : (0 : Int) < j := hm.1
  exact floordiv_int (by omega) (by rw [Int.fdiv_eq_ediv_of_nonneg i (by omega)]; exact q _ _) (.inl (PyProof.noPylong_of_log2 hm.2))
theorem key_call {f c' t : Addr} {qual : Str} {params : Arguments} {body : Expr} {scope : Scope} {cl : List (Str × Addr)} {pm ctv : Value} {n : Int} {y : Str} (hroom : A.depth < recursionLimit) (nolim : s.heap.NoLimit)
    (hf : s.heap.get? f = some (PySem.W.kla_obj "<lambda>" qual params body scope cl pm c' ctv)) (hco : scope.isCoroutine = false) (hgen : scope.isGenerator = false) (hcode : s.heap.CodeRec (.ref c') qual)
    (hbi : bindArgs (PySem.W.kla_fn "<lambda>" qual params body scope cl pm (.ref c') ctv) ⟨[.ref t], []⟩ = pure [(y, .ref t)]) (hnc : ∀ z ∈ scope.names, z.2 ≠ .cell) (hy : scope.names.lookup y = some .local) (hk : scope.kind = .function)
    (hbody : ∀ h₁ : Heap, h₁.Ns s.heap.objs.size (fun z => [(y, Value.ref t)].reverse.lookup z) → (∀ b o, s.heap.get? b = some o → h₁.get? b = some o) → EvI prog w h₁ (PySem.W.envX qual scope s.heap.objs.size f (.ref c') cl) body n) :
    wpAny (model prog w) A (call (.ref f) [.ref t]) (PySem.W.KeyPure (.int n) s) (fun _ _ => False) s := by
  have rc : codeAny (model prog w) A (.call (.ref f) ⟨[.ref t], []⟩) (fun r s' => match r with | .ok (.ret u) => PySem.W.KeyPure (.int n) s u s' | _ => False) s := by
    refine PySem.W.kla_callFunE hroom hf rfl hco hgen rfl hcode ?_
    rw [hbi]
    refine wpAny_pure (wpAny_newFunctionEnv hnc (fun z hz => by simp at hz; subst hz; exact hy) (fun h₁ hns hsb => ⟨nolim.fresh _ hsb, ?_⟩) hk)
    have kp : ∀ b o, s.heap.get? b = some o → h₁.get? b = some o := fun b o e => hsb.extBut b o (Nat.ne_of_lt (Heap.lt_size e)) (Heap.get?_push_of_some _ e)
    refine PySem.W.kla_codeExpr ?_
    exact hbody h₁ hns kp _ _ _ _ rfl fun tt tk => ⟨h₁, tk, rfl, kp, .int n tt⟩
  refine wpAny_call (codeAny_mono rc fun r s' hq => ?_)
  cases r with
  | error e => exact hq.elim
  | ok fl =>
    cases fl with
    | ret u => exact hq
    | next => exact False.elim hq
    | brk => exact False.elim hq
    | cont => exact False.elim hq
end
def keysR (w : Int) : List D → Option (List Int)
  | [] => some []
  | .tup [.int a, .int b] :: ds => if CDivB w b && CMulB a (w / b) then (keysR w ds).map (a * (w / b) :: ·) else none
  | _ :: _ => none
def fSortR (jw : Nat) (fe : FD) : FE := fun δ => (fe δ).bind fun d δ1 => match d, δ1[jw]? with
  | .lst ds, some (some (.imm (.int w))) => (match keysR w ds with
    | some ks => .ok (.own (.l (((ds.zip ks).mergeSort fun p q => decide (p.2 ≤ q.2)).map (·.1)))) δ1
    | none => .bad)
  | _, _ => .bad
theorem keysR_ok {M : Gm} {F : Hp} {w : Int} : ∀ {ds : List D} {vs : List V} {ks : List Int}, reps M F ds vs → keysR w ds = some ks → ∃ bs : List (D × V × Int), bs.map (·.1) = ds ∧ bs.map (·.2.1) = vs ∧ bs.map (·.2.2) = ks ∧ ∀ p ∈ bs, rep M F p.1 p.2.1 ∧ ∃ a b t, p.2.1 = .ref t ∧ F t = some (.tup [.int a, .int b]) ∧ CDivB w b = true ∧ CMulB a (w / b) = true ∧ p.2.2 = a * (w / b)
  | [], vs, ks, h, e => by
    unfold reps at h
    subst h
    cases e
    exact ⟨[], rfl, rfl, rfl, by simp⟩
  | d :: ds, vs, ks, h, e => by
    unfold reps at h
    obtain ⟨v, r, rfl, h2, h3⟩ := h
    unfold keysR at e
    split at e
    · cases ‹_ = []›
    · rename_i a b ds' q
      cases q
      split at e
      · rename_i hc
        rw [Bool.and_eq_true] at hc
        obtain ⟨ks', e1, rfl⟩ := Option.map_eq_some_iff.mp e
        obtain ⟨bs, b1, b2, b3, b4⟩ := keysR_ok h3 e1
        have h2' := h2
        unfold rep at h2'
        obtain ⟨t, us, rfl, hF, hu⟩ := h2'
        unfold reps at hu
        obtain ⟨u1, r1, rfl, k1, hu⟩ := hu
        unfold reps at hu
        obtain ⟨u2, r2, rfl, k2, hu⟩ := hu
        unfold reps at hu
        subst hu
        unfold rep at k1 k2
        subst k1 k2
        refine ⟨(.tup [.int a, .int b], .ref t, a * (w / b)) :: bs, by simp [b1], by simp [b2], by simp [b3], fun p hp => ?_⟩
        rcases List.mem_cons.mp hp with rfl | hp
        · exact ⟨h2, a, b, t, rfl, hF, hc.1, hc.2, rfl⟩
        · exact b4 p hp
      · cases e
    · cases e
theorem each_vals : ∀ (bs : List (D × V × Int)) (its : List Value), Vals (bs.map (·.2.1)) its → PySem.W.EachIs (fun v (q : D × V × Int) => RelV q.2.1 v) its bs
  | [], its, h => by cases h; exact .nil
  | q :: bs, its, h => by
    cases h with
    | cons r1 r2 => exact .cons r1 (each_vals bs _ r2)
theorem reps_pairs {M : Gm} {F : Hp} : ∀ bz : List (D × V × Int), (∀ q ∈ bz, rep M F q.1 q.2.1) → reps M F (bz.map (·.1)) (bz.map (·.2.1))
  | [], _ => reps_nil
  | q :: bz, h => reps_cons (h q (by simp)) (reps_pairs bz fun z hz => h z (by simp [hz]))
theorem Ok.extN {M : Gm} {c : Cn M} {F H H1 : Hp} {σ : L2.St} {δ : Sl} (ok : Ok c F H σ δ) (eN : LamX.ExtN H H1) (T1 : LamX.Tabs M.T H1) : Ok c F H1 σ δ := by
  have s0 : Same F H1 := fun b o e => eN b o (ok.same b o e) (fun ps z => ok.tb.nt b ps (z ▸ e))
  have nt1 : ∀ b o, H b = some o → NT o → H1 b = some o := fun b o e n => eN b o e (fun ps z => by rw [z] at n; cases n)
  exact ⟨s0, ok.grow, ok.nofz, fun b o e i => nt1 b o (ok.kept b o e i) (c.nt b o e), fun b e => by
        obtain ⟨u, q1, q2⟩ := ok.ioh b e
        exact ⟨u, nt1 b u q1 q2, q2⟩, ⟨T1, ok.tb.fr, ok.tb.nt⟩, ok.len, fun i r e => by
        obtain ⟨v, q1, q2⟩ := ok.slot i r e
        refine ⟨v, q1, ?_⟩
        cases r with
        | imm d => exact q2
        | own o =>
          obtain ⟨b, rfl, k1, k2, k3⟩ := q2
          obtain ⟨u, hu, hn⟩ := obAt_nt k3
          exact ⟨b, rfl, k1, k2, obAt_mono (Same.refl _) ((nt1 b u hu hn).trans hu.symm) k3⟩
        | brw o =>
          obtain ⟨b, rfl, k1, k2, k3⟩ := q2
          obtain ⟨u, hu, hn⟩ := obAt_nt k3
          exact ⟨b, rfl, k1, k2, obAt_mono (Same.refl _) ((nt1 b u hu hn).trans hu.symm) k3⟩
        | nst _ _ => exact q2, ok.dist⟩
structure LamY (sc scope : Scope) (y w : Str) : Prop where
  kind : scope.kind = .function
  co : scope.isCoroutine = false
  gen : scope.isGenerator = false
  cell : ∀ z ∈ scope.names, z.2 ≠ .cell
  par : scope.names.lookup y = some .local
  wn : (w, NameKind.free) ∈ scope.names
  wl : scope.names.lookup w = some .free
  free : ∀ z ∈ scope.names, z.2 = .free → sc.names.lookup z.1 = some .cell ∨ sc.names.lookup z.1 = some .free
def lamYB (sc scope : Scope) (y w : Str) : Bool :=
  decide (scope.kind = .function) && !scope.isCoroutine && !scope.isGenerator && decide (scope.names.lookup y = some .local) && decide (scope.names.lookup w = some .free) && decide ((w, NameKind.free) ∈ scope.names) && scope.names.all fun z => !decide (z.2 = .cell) && (!decide (z.2 = .free) || decide (sc.names.lookup z.1 = some .cell) || decide (sc.names.lookup z.1 = some .free))
theorem lamY_by {sc scope : Scope} {y w : Str} (h : lamYB sc scope y w = true) : LamY sc scope y w := by
  unfold lamYB at h
  simp only [Bool.and_eq_true, Bool.or_eq_true, Bool.not_eq_true', decide_eq_true_eq, decide_eq_false_iff_not, List.all_eq_true] at h
  obtain ⟨⟨⟨⟨⟨⟨h1, h2⟩, h3⟩, h4⟩, h5⟩, h6⟩, h7⟩ := h
  refine ⟨h1, h2, h3, fun z hz => (h7 z hz).1, h4, h6, h5, fun z hz e => ?_⟩
  rcases (h7 z hz).2 with (q | q) | q
  · exact absurd e q
  · exact .inl q
  · exact .inr q
section
variable {X : Cx} {W : WX} {M : Gm}
theorem de_sortR {jw j : Nat} {y wn : Str} {e : Expr} {fe : FD} {cO PO : Addr} {params : Arguments} {scope : Scope} {p kp lpos pos p1 p2 p3 p4 p5 p6 p7 p8 p9 : Pos} {j1 j2 : Nat} {x : Str} {key : Option Str}
    (hx : x = "sorted") (hg : Gl X "sorted") (hmx : X.mg "sorted" = none) (hr : TS.Room j X.A) (hj : 3 ≤ j) (hKM : X.K = M.K) (ha : DI M W X e fe) (hN : X.N[jw]? = some wn) (hv : X.env.scope.names.lookup wn = some .cell)
    (TB : LamX.TabB X.base X.mg cO PO) (hcode : X.env.code = .ref cO) (hmT : (PO, X.env.qual ++ "<lambda>") ∈ M.T) (hu : ∀ p ∈ M.T, p.1 = PO → p.2 = X.env.qual ++ "<lambda>") (hS : LamY X.env.scope scope y wn)
    (hkey : key = some "key") (he : starEach (e :: []) X.env = (false, eval e X.env) :: starEach [] X.env := by rfl) (he2 : backTo pos (starEach (e :: []) X.env) = (false, eval e X.env) :: backTo pos (starEach [] X.env) := by rfl) (hpl : (backTo pos (starEach (e :: []) X.env)).any (·.1) = false := by rfl)
    (hdef : defaultsOf params X.env = ([], []) := by rfl) (hbi : ∀ (q : Str) (body : Expr) (cl : List (Str × Addr)) (pm cv ctv u : Value), bindArgs (PySem.W.kla_fn "<lambda>" q params body scope cl pm cv ctv) ⟨[u], []⟩ = pure [(y, u)] := by exact fun _ _ _ _ _ _ _ => rfl)
    (hd : (y == ("__debug__" : Str)) = false := by decide) (hdw : (wn == ("__debug__" : Str)) = false := by decide) (hcw : (wn == ("__classdict__" : Str)) = false := by decide) (hyw : (wn == y) = false := by decide) :
    DE M W X (.Call (.Name x p) [e] [⟨key, .Lambda params (.BinOp (.Subscript (.Name y p1) (.Constant (.int 0) j1 p2) p3) .Mult (.BinOp (.Name wn p4) .FloorDiv (.Subscript (.Name y p5) (.Constant (.int 1) j2 p6) p7) p8) p9) scope lpos, kp⟩] pos) (fSortR jw fe) := by
  subst hx hkey
  obtain ⟨te, pe, hte⟩ := ha
  refine de_can ⟨fun pins s σ H Q I ⟨c, F, δ, ok, post⟩ => ?_⟩
  refine wpAny_Call_Name_kw (ld_blt I hg hmx (u := .builtin "sorted") (by rfl) ?_ (by decide) (by decide))
  unfold fSortR at post
  refine PyProof.Rows.callWith_kw (thn ((pa_cons pe pa_nil he).run pos pins s σ H (fun vs H1 => ∃ v F1 δ1 d, vs = [v] ∧ Same F F1 ∧ Ok c F1 H1 σ δ1 ∧ rep M F1 d v ∧ Post c W F1 σ (ρR c σ) (match d, δ1[jw]? with
      | .lst ds, some (some (.imm (.int w))) => (match keysR w ds with
        | some ks => Res.ok (R.own (OB.l (((ds.zip ks).mergeSort fun p q => decide (p.2 ≤ q.2)).map (·.1)))) δ1
        | none => .bad)
      | _, _ => .bad) Q) I (hte c F H σ δ _ ok (Post.bind post fun d δ1 v F1 H1 _ g1 ok1 r post => ⟨v, F1, δ1, d, rfl, g1, ok1, r, post⟩))) fun us s1 ⟨vs, H1, I1, r1, v, F1, δ1, d, ev, g1, ok1, rd, post⟩ => ?_) he2 hpl rfl rfl
  subst ev
  obtain ⟨u1, rfl, ru⟩ := vals1 r1
  split at post
  case h_2 => exact post.elim
  rename_i ds wv hsl
  split at post
  case h_2 => exact post.elim
  rename_i ks hks
  have hfree : ∀ z ∈ scope.names, z.2 = .free → ∃ c, X.env.cells.lookup z.1 = some c := fun z hz q => by
    rcases hS.free z hz q with k | k
    · exact I1.ok.has _ (.inl k)
    · exact I1.ok.has _ (.inr k)
  refine wpAny_evalAll_cons (wpAny_bind (LamX.lam_make2 I1 TB hcode hmT hu ok1.tb.tab hdef hfree fun f c' pm' ctv H2 s2 I2 eN T2 hf hfn hfr hco => wpAny_bind (wpAny_standAt (wpAny_pure (wpAny_evalAll_nil ?_)))))
  have ok2 : Ok c F1 H2 σ δ1 := ok1.extN eN T2
  unfold rep at rd
  obtain ⟨la, vs, rfl, hFl, hvs⟩ := rd
  obtain rfl : u1 = Value.ref la := ru
  obtain ⟨bs, b1, b2, b3, b4⟩ := keysR_ok hvs hks
  obtain ⟨its, rv, hl, hz⟩ := I2.list (SqL.of (K := X.K) (ok2.same _ _ hFl))
  -- the list's values, one by one
  have eis : PySem.W.EachIs (fun v (q : D × V × Int) => RelV q.2.1 v) its bs := each_vals bs its (by rw [b2]; exact rv)
  have hlb : bs.length = vs.length := by rw [← b2, List.length_map]
  -- the captured int
  obtain ⟨vw, ew, rw'⟩ := ok2.slot jw _ hsl
  have rw' : rep M F1 (.int wv) vw := rw'
  unfold rep at rw'
  subst rw'
  obtain ⟨m, hn, hlo⟩ := I2.loc
  obtain ⟨uw, ruw, lk⟩ := hlo jw wn _ hN ew (.inr (.inl hv))
  obtain ⟨tw, rfl⟩ := ruw
  have cellw : ∃ cw, X.env.cells.lookup wn = some cw ∧ s2.heap.IsCell cw (some (.int wv tw)) := by
    rcases lk with ⟨k, _⟩ | ⟨_, cw, h1, h2⟩
    · have k : X.env.scope.names.lookup wn = some .local := k
      rw [hv] at k; cases k
    · exact ⟨cw, h1, h2⟩
  obtain ⟨cw, hcw1, hcw2⟩ := cellw
  have lkc : (cloFrom X.env.cells scope.names []).lookup wn = some cw := by
    obtain ⟨cc, hcc⟩ := mem_lookup (cloFrom_has (cells := X.env.cells) (acc := []) hS.wn)
    rw [hcc]
    rcases cloFrom_mem (PySem.mem_of_lookup hcc) with hm | ⟨h1, h2⟩
    · cases hm
    · rw [h2, hcw1]; rfl
  obtain ⟨⟨oc, cvs, ct, hoc, hdc, hvc⟩, _, _⟩ := I2.hok c' _ hco
  have hun := hr.lo.un
  refine PySem.W.sorted_key_data (A := X.A) (β := D × V × Int) (b := false) (bs := bs) (f := .ref f) (fun q => .int q.2.2) hl.isList eis (fun d1 h1 d2 h2 => ?_) (.inr fun d1 h1 => ?_) (by rw [hlb]; exact hz) (fun q hq => ?_) (PyProof.Rows.ksk_s1 _ _) (fun _ => PyProof.Rows.ksk_l1 _ _) (fun a => PyProof.Rows.ksk_t1 f a) (fun v q hR hq h tk keep => ?_) (fun out cc h' tk keep fresh hD hlen hE => ?_)
  · obtain ⟨q1, _, rfl⟩ := List.mem_map.mp h1
    obtain ⟨q2, _, rfl⟩ := List.mem_map.mp h2
    rfl
  · obtain ⟨q1, _, rfl⟩ := List.mem_map.mp h1
    exact ⟨(fun z => nomatch z), fun xs z => nomatch z⟩
  · show X.A.units + 2 + 0 < cLine
    omega
  · obtain ⟨_, a, b, t, e1, e2, e3, e4, e5⟩ := b4 q hq
    rw [e1] at hR
    obtain rfl : v = Value.ref t := hR
    rw [e5]
    obtain ⟨_, tis, tr, ti⟩ := I2.hok t _ (ok2.same _ _ e2)
    obtain ⟨x1, x2, rfl, rx1, rx2⟩ : ∃ x1 x2, tis = [x1, x2] ∧ RelV (.int a) x1 ∧ RelV (.int b) x2 := by
      cases tr with
      | cons r1 r2 => cases r2 with
        | cons r3 r4 => cases r4; exact ⟨_, _, rfl, r1, r3⟩
    obtain ⟨ta, rfl⟩ := rx1
    obtain ⟨tb, rfl⟩ := rx2
    refine key_call (A := X.A.in1.in1) (s := { s2 with heap := h, toks := tk }) (y := y) ((hr.mono hj).in1.in1).depth (I2.nolimit.keeps keep) (keep _ _ hf) hS.co hS.gen ⟨c', oc, cvs, ct, rfl, keep _ _ hoc, hdc, hvc⟩ (hbi _ _ _ _ _ _ _) hS.cell hS.par hS.kind fun h₁ hns kp1 => ?_
    have tk1 : IsTup h₁ t [Value.int a ta, Value.int b tb].toArray := (ti.keeps keep).keeps kp1
    have mv : (fun z => [(y, Value.ref t)].reverse.lookup z) y = some (.ref t) := by simp
    have cw1 : h₁.IsCell cw (some (.int wv tw)) := by
      obtain ⟨o, ho, hdt⟩ := hcw2
      exact ⟨o, kp1 _ _ (keep _ _ ho), hdt⟩
    exact evI_mul (evI_sub (i := 0) (tok := ta) hS.kind hS.par hns mv tk1 rfl (by decide) hd) (evI_fdiv (evI_free hS.kind hS.wl lkc cw1 hdw hcw) (evI_sub (i := 1) (tok := tb) hS.kind hS.par hns mv tk1 rfl (by decide) hd) e3) e4
  · have hn2 : H2 (s2.heap.objs.size + 1) = none := I2.hok.fresh (Nat.le_succ _)
    have vals : Vals ((bs.mergeSort (PySem.W.dataLe false fun q : D × V × Int => .int q.2.2)).map (·.2.1)) out := by
      clear hD hlen
      generalize bs.mergeSort (PySem.W.dataLe false fun q : D × V × Int => .int q.2.2) = bz at hE
      induction hE with
      | nil => exact .nil
      | cons r1 r2 ih => exact .cons r1 ih
    have ln : ((bs.mergeSort (PySem.W.dataLe false fun q : D × V × Int => .int q.2.2)).map (·.2.1)).length ≤ sizeLine := by
      rw [List.length_map, List.length_mergeSort, hlb]; exact hz
    have I3 : Inv X pins σ (upd H2 (s2.heap.objs.size + 1) (.lst ((bs.mergeSort (PySem.W.dataLe false fun q : D × V × Int => .int q.2.2)).map (·.2.1)))) { s2 with heap := h', toks := tk } :=
      I2.laid keep (Nat.le_succ _) ⟨ln, out, cc, vals, hD⟩
    refine ⟨.ref (s2.heap.objs.size + 1), _, I3, rfl, ?_⟩
    have okA : Ok c F1 (upd H2 (s2.heap.objs.size + 1) (.lst ((bs.mergeSort (PySem.W.dataLe false fun q : D × V × Int => .int q.2.2)).map (·.2.1)))) σ δ1 := ok2.alloc hn2
    have em : ((ds.zip ks).mergeSort fun p q => decide (p.2 ≤ q.2)).map (·.1) = (bs.mergeSort (PySem.W.dataLe false fun q : D × V × Int => .int q.2.2)).map (·.1) := by
      have z := List.map_mergeSort (r := PySem.W.dataLe false fun q : D × V × Int => .int q.2.2) (s := fun p q : D × Int => decide (p.2 ≤ q.2)) (f := fun q : D × V × Int => (q.1, q.2.2)) (l := bs) fun a _ b _ => by
        show (!(lexLt itemOrd [.inl b.2.2] [.inl a.2.2])) = decide (a.2.2 ≤ b.2.2)
        rw [lex_cons]
        show (!(decide (b.2.2 < a.2.2) || (!decide (a.2.2 < b.2.2) && false))) = _
        by_cases q : a.2.2 ≤ b.2.2
        · have q2 : ¬ b.2.2 < a.2.2 := by omega
          simp [q, q2]
        · have q2 : b.2.2 < a.2.2 := by omega
          simp [q, q2]
      have z2 := congrArg (List.map (·.1)) z
      rw [List.map_map] at z2
      rw [← b1, ← b3, List.zip_map', ← z2]
      rfl
    rw [em] at post
    refine post.ok okA (ok2.made hn2 ⟨_, upd_same, ?_⟩)
    have all : ∀ q ∈ bs.mergeSort (PySem.W.dataLe false fun q : D × V × Int => .int q.2.2), rep M F1 q.1 q.2.1 := fun q hq => (b4 q (List.mem_mergeSort.mp hq)).1
    generalize bs.mergeSort (PySem.W.dataLe false fun q : D × V × Int => .int q.2.2) = bz at all
    exact reps_pairs bz all
end
end
end TS

namespace L2
open PySem PySem.Spec PyProof.Rows
section
variable {X : Cx}
theorem d_dictSetA {pins : List (Addr × Obj)} {σ : St} {H H' : Hp} {s : Shared} {E : Value → Shared → Prop} {a : Addr} {y v : V} {u r : Value} {Q : Unit → Shared → Prop} (hu : X.A.units + 1 < cLine) (I : Inv X pins σ H s) (g : DPut H a y v H') (ry : RelV y u) (rv : RelV v r) (h : ∀ s', Inv X pins σ H' s' → Q () s') :
    wpAny (model X.prog X.w) X.A (dictSet a u r) Q E s := by
  rcases g with ⟨kvs, k, e, ey, l, eH⟩ | ⟨kvs, k, b, e, ey, eb, l, eH⟩
  · subst ey eH
    exact d_dictSet I e l ry rv h
  · subst ey eH
    cases (show u = Value.ref b from ry)
    obtain ⟨z, hd, xs, rel, dd⟩ := dt_of I.hok e
    have hz : xs.length ≤ sizeLine := by rw [← Paired.length rel]; exact z
    have hl : (putK kvs k v).length ≤ sizeLine := by have := length_putK kvs k v; omega
    refine wpAny_dictSet_heap (hsz := hz) (show X.A.units < cLine by omega) (key_of I.hok eb) dd fun h' dd' hs => h _ ?_
    obtain ⟨q, es, ep, hq, h2, h3, h4, _, h5⟩ := dd'
    refine d_write I (by rw [e]; exact True.intro) hs ⟨q, hq⟩ ⟨hl, hd, _, (rel.put k eb rv).keeps fun c ys ec => ?_, q, es, ep, hq, h2, h3, h4, h5⟩
    rw [upd_ne (ne_of ec e (fun z => nomatch z))]
    exact ec
def tDcD (emp : HO) (wi : TI) (g : TG) (tt : TT) (tk tv : TE) (vs : List Nat) : TE := fun σ H Q => wi σ H fun J H1 => ∀ D, H1 D = none → ∃ W : Nat → Nat → Hp → Prop, (∃ m, W 0 m (upd H1 D emp)) ∧ ∀ i m H, W i m H →
  (J.stop i H ∧ Q (.ref D) H) ∨ (J.go i H ∧ ∃ Nx : Hp → Prop, (∀ H', Nx H' → ∃ m', m' < m ∧ W (i + 1) m' H') ∧ ∀ x H', J.yld i H x H' → g x (wipe σ vs) H' fun σ2 H2 => wipe σ2 vs = wipe σ vs ∧ tt σ2 H2 fun b H3 =>
    if b = true then tk σ2 H3 fun y H4 => tv σ2 H4 fun z H5 => ∃ H6, DPut H5 D y z H6 ∧ Nx H6 else Nx H3)
theorem dc_coreD {emp : HO} (hemp : emp = .dK [] ∨ emp = .dT []) {pins : List (Addr × Obj)} {s : Shared} {σ : St} {H : Hp} {Q : VK} {kx vx tg iter : Expr} {ifs : List Expr} {scope : Scope} {own : List (Str × Nat)} {pos pos' : Pos} {wi : TI} {g : TG} {tt : TT} {tk tv : TE} {use : Option (Value → Sem Unit)} {Qf : Value → Shared → Prop}
    (hu : X.A.units + 1 < cLine) (hc : X.calm = true) (hN : X.N.Nodup) (I : Inv X pins σ H s) (hi : PI X tg iter wi) (ok : BlkOk X.N X.env.scope scope own)
    (hg : ∀ (s : Shared) (H : Hp) (C : Addr) (cl : List (Str × Addr)) (fp : List Addr), PG (X.blk s H scope (compEnvC scope cl C X.env) fp) tg g) (ht : ∀ (s : Shared) (H : Hp) (C : Addr) (cl : List (Str × Addr)) (fp : List Addr), PTs (X.blk s H scope (compEnvC scope cl C X.env) fp) ifs tt)
    (hk : ∀ (s : Shared) (H : Hp) (C : Addr) (cl : List (Str × Addr)) (fp : List Addr), PE (X.blk s H scope (compEnvC scope cl C X.env) fp) kx tk)
    (he : ∀ (s : Shared) (H : Hp) (C : Addr) (cl : List (Str × Addr)) (fp : List Addr), PE (X.blk s H scope (compEnvC scope cl C X.env) fp) vx tv) (hs : ∀ x, foldedSetIterable iter X.env x = pure x)
    (h : tDcD emp wi g tt tk tv (own.map (·.2)) σ H Q)
    (hRR : ∀ D C s' m H', Inv X pins σ H' s' → Q (.ref D) H' → s'.heap.Ns C m → FpOk X pins H' C → compPost (model X.prog X.w) X.A X.xe use Qf (.ref D) C (.ok .next) s') :
    wpAny (model X.prog X.w) X.A (comprehension (.DictComp kx vx [⟨tg, iter, ifs, 0⟩] scope pos) scope X.env pos' newDict false (eval iter X.env) use) Qf X.xe s := by
  have hfree : ∀ y ∈ scope.names, y.2 = .free → ∃ c, X.env.cells.lookup y.1 = some c := fun y hy e => by
    rcases ok.free y hy e with k | k
    · exact I.ok.has _ (.inl k)
    · exact I.ok.has _ (.inr k)
  refine wpAny_comprehension_free (use := use) rfl hs (closure_ok hfree) ok.kind (fun y hy e => by rw [ok.uniq y hy, e])
    (thn (hi.run pins s σ H _ I h) fun xv s1 hx => thn hx fun itv s2 h2 => ?_)
  obtain ⟨it, fp, tn, J, H2, e, I2, T, st2, f2, q⟩ := h2
  subst e
  refine wpAny_newObj_type (newEnv_comp ?_)
  generalize hD : s2.heap.objs.size = D
  have hDn : H2 D = none := I2.hok.fresh (Nat.le_of_eq hD)
  obtain ⟨W, ⟨m0, w0⟩, turn⟩ := q D hDn
  -- the new list
  generalize hs3 : ({ s2 with heap := s2.heap.push { cls := .type "dict", data := .dict #[] } } : Shared) = s3
  have I3 : Inv X pins σ (upd H2 D emp) s3 := by
    rw [← hs3]
    refine I2.laid (t' := s2.toks) (fun b o e => Heap.get?_push_of_some _ e) (Nat.le_of_eq hD) ?_
    rw [← hD]
    rcases hemp with rfl | rfl
    · exact dk_empty s2.heap I2.big
    · exact dt_empty s2.heap I2.big
  have h3 : s3.heap = s2.heap.push { cls := .type "dict", data := .dict #[] } := by rw [← hs3]
  have sz : ∀ b ∈ fp, b < s2.heap.objs.size := fun b hb => by
    obtain ⟨o, e, _⟩ := T.obj _ _ st2 b hb
    exact Heap.lt_size e
  have f3 : ∀ b ∈ fp, FpOk X pins (upd H2 D emp) b ∧ b < s3.heap.objs.size := fun b hb => by
    have hlt := sz b hb
    refine ⟨⟨?_, (f2 b hb).2⟩, by rw [h3, Heap.size_push]; exact Nat.lt_succ_of_lt hlt⟩
    rw [upd_ne (by rw [← hD]; exact Nat.ne_of_lt hlt)]
    exact (f2 b hb).1
  have st3 : tn 0 s3.heap := T.keep _ _ _ st2 fun b _ o e => by rw [h3]; exact Heap.get?_push_of_some _ e
  have I4 := block_start I3 ok hN f3
  have pg := hg s3 (upd H2 D emp) s3.heap.objs.size (cellsFrom (s3.heap.objs.size + 1) scope.names (cloFrom X.env.cells scope.names [])) fp
  have pt := ht s3 (upd H2 D emp) s3.heap.objs.size (cellsFrom (s3.heap.objs.size + 1) scope.names (cloFrom X.env.cells scope.names [])) fp
  have pk := hk s3 (upd H2 D emp) s3.heap.objs.size (cellsFrom (s3.heap.objs.size + 1) scope.names (cloFrom X.env.cells scope.names [])) fp
  have pe := he s3 (upd H2 D emp) s3.heap.objs.size (cellsFrom (s3.heap.objs.size + 1) scope.names (cloFrom X.env.cells scope.names [])) fp
  show codeAny _ _ (.compStart (.DictComp kx vx [⟨tg, iter, ifs, 0⟩] scope pos) 0 (.ref it) (.ref D) (compEnvC scope (cellsFrom (s3.heap.objs.size + 1) scope.names (cloFrom X.env.cells scope.names [])) s3.heap.objs.size X.env)) (compPost (model X.prog X.w) X.A X.xe use Qf (.ref D) s3.heap.objs.size) { s3 with heap := pushCells (s3.heap.push { cls := .type "dict", data := .dict #[] }) scope.names }
  have nfp : ∀ b ∈ fp, (upd H2 D emp) b = none := fun b hb => (f3 b hb).1.1
  generalize hce : compEnvC scope (cellsFrom (s3.heap.objs.size + 1) scope.names (cloFrom X.env.cells scope.names [])) s3.heap.objs.size X.env = ce at I4 pg pt pk pe ⊢
  have cL : ce.locals = s3.heap.objs.size := by subst hce; rfl
  generalize hH3 : upd H2 D emp = H3 at I3 I4 pg pt pk pe w0 nfp f3
  generalize hs4 : ({ s3 with heap := pushCells (s3.heap.push { cls := .type "dict", data := .dict #[] }) scope.names } : Shared) = s4 at I4 ⊢
  have st4 : tn 0 s4.heap := T.keep _ _ _ st3 fun b _ o e => by rw [← hs4]; exact pushCells_keeps _ _ _ _ (Heap.get?_push_of_some _ e)
  have stat : ∀ {σ' : St} {H' : Hp} {s' : Shared}, Inv (X.blk s3 H3 scope ce fp) [] σ' H' s' → (∀ b ∈ fp, H' b = none) → ∀ b ∈ fp, FpOk (X.blk s3 H3 scope ce fp) [] H' b := fun {σ' H' s'} I' hn b hb =>
    ⟨hn b hb, (I'.ok.exf b hb).1, I'.ok.exfs b hb, .inl hb, fun x c e => (I'.ok.exf b hb).2 x c e, fun p hp => absurd (show p ∈ ([] : List (Addr × Obj)) ++ [] from hp) (by simp)⟩
  have loop : codeAny (model X.prog X.w) X.A (.compLoop (.DictComp kx vx [⟨tg, iter, ifs, 0⟩] scope pos) 0 (.ref it) (.ref D) ce) (compPost (model X.prog X.w) X.A X.xe use Qf (.ref D) s3.heap.objs.size) s4 := by
    refine compLoop_anyD (fun n s' => ∃ i H', Inv (X.blk s3 H3 scope ce fp) [] (wipe σ (own.map (·.2))) H' s' ∧ tn i s'.heap ∧ (∀ b ∈ fp, H' b = none) ∧ W i n H') ?_ m0 ⟨0, H3, I4, st4, nfp, w0⟩
    rintro n s5 ⟨i, H5, I5, st5, n5, w5⟩
    rcases turn i n H5 w5 with ⟨stop, qq⟩ | ⟨go, Nx, hNx, step⟩
    · have td := T.done (X.blk s3 H3 scope ce fp) rfl rfl rfl hc i [] s5 _ H5 (fun _ _ => False) I5 (stat I5 n5) st5 stop
      refine thnF td fun r s6 ⟨hr, I6⟩ => ?_
      subst hr
      -- back in the def's context
      have I7 : Inv X pins σ H5 s6 := I3.call' (ch := fp) I6.os I6.base I6.hok I6.bare fun b hb => ⟨(f3 b hb).1.2.2.2.1, (f3 b hb).1.2.1, (f3 b hb).1.2.2.2.2.1, (f3 b hb).1.2.2.2.2.2⟩
      have nC : H5 s3.heap.objs.size = none := by
        have z : H5 ce.locals = none := I6.free
        rw [cL] at z
        exact z
      obtain ⟨m, hn, _⟩ := I6.loc
      have hn : s6.heap.Ns ce.locals m := hn
      rw [cL] at hn
      exact hRR D s3.heap.objs.size s6 m H5 I7 qq hn (I3.fpOk (Nat.le_refl _) nC)
    · have ti := T.item (X.blk s3 H3 scope ce fp) rfl rfl rfl hc i [] s5 _ H5 (fun _ _ => False) I5 (stat I5 n5) st5 go
      refine thnF ti fun r s6 ⟨u, hr, h6⟩ => ?_
      subst hr
      refine thnF h6 fun _ s7 ⟨x, H7, I7, r7, y7, st7, n7⟩ => ?_
      have I7' := I7.pinned (stat I7 n7) (T.obj _ _ st7)
      refine thnF (pg.run _ s7 _ H7 x u _ I7' r7 (step x H7 y7)) fun _ s8 ⟨σ8, H8, I8, hw8, q8⟩ => ?_
      refine thnF (pt.run _ s8 σ8 H8 _ I8 q8) fun b s9 ⟨H9, I9, q9⟩ => ?_
      -- the turn's end
      have fin : ∀ {s' : Shared} {H' : Hp}, Inv (X.blk s3 H3 scope ce fp) ([] ++ pinsAt fp s7.heap) σ8 H' s' → Nx H' → ∃ m, m < n ∧ ∃ i H', Inv (X.blk s3 H3 scope ce fp) [] (wipe σ (own.map (·.2))) H' s' ∧ tn i s'.heap ∧ (∀ b ∈ fp, H' b = none) ∧ W i m H' := fun {s' H'} I' nx => by
        obtain ⟨m', hm, w'⟩ := hNx H' nx
        have pin' : ∀ b ∈ fp, ∀ o, s7.heap.get? b = some o → s'.heap.get? b = some o ∧ H' b = none := fun b hb o e =>
          let z := I'.pin (b, o) (List.mem_append_right _ (List.mem_append_right _ (mem_pinsAt hb e)))
          ⟨z.1, z.2.1⟩
        have hl : (wipe σ (own.map (·.2))).length = σ8.length := by rw [← hw8, wipe_length]
        refine ⟨m', hm, i + 1, H', (I'.unpinned (pins := [])).weak hl (fun j v e => ?_), T.keep _ _ _ st7 fun b hb o e => (pin' b hb o e).1, fun b hb => ?_, w'⟩
        · rw [← hw8] at e
          exact (wipe_some e).1
        · obtain ⟨o, e, _⟩ := T.obj _ _ st7 b hb
          exact (pin' b hb o e).2
      cases b with
      | false =>
        simp only [Bool.false_eq_true, if_false] at q9 ⊢
        exact fin I9 q9
      | true =>
        simp only [if_true] at q9 ⊢
        refine thnF (pk.run _ s9 σ8 H9 _ I9 q9) fun z s10 ⟨yk, H10, I10, r10, q10⟩ => ?_
        refine thnF (pe.run _ s10 σ8 H10 _ I10 q10) fun z2 s11 ⟨yv, H11, I11, r11, H12, gp, nx⟩ => ?_
        exact d_dictSetA (X := X.blk s3 H3 scope ce fp) hu I11 gp r10 r11 fun s12 I12 => fin I12 nx
  exact codeAny_compStart_dict loop (T.self X.A 0 _ _ _ st4 loop)
theorem pe_dcD {emp : HO} (hemp : emp = .dK [] ∨ emp = .dT []) {kx vx tg iter : Expr} {ifs : List Expr} {scope : Scope} {own : List (Str × Nat)} {pos : Pos} {wi : TI} {g : TG} {tt : TT} {tk tv : TE} (hu : X.A.units + 1 < cLine) (hc : X.calm = true) (hN : X.N.Nodup) (hi : PI X tg iter wi) (ok : BlkOk X.N X.env.scope scope own)
    (hg : ∀ (s : Shared) (H : Hp) (C : Addr) (cl : List (Str × Addr)) (fp : List Addr), PG (X.blk s H scope (compEnvC scope cl C X.env) fp) tg g) (ht : ∀ (s : Shared) (H : Hp) (C : Addr) (cl : List (Str × Addr)) (fp : List Addr), PTs (X.blk s H scope (compEnvC scope cl C X.env) fp) ifs tt)
    (hk : ∀ (s : Shared) (H : Hp) (C : Addr) (cl : List (Str × Addr)) (fp : List Addr), PE (X.blk s H scope (compEnvC scope cl C X.env) fp) kx tk)
    (he : ∀ (s : Shared) (H : Hp) (C : Addr) (cl : List (Str × Addr)) (fp : List Addr), PE (X.blk s H scope (compEnvC scope cl C X.env) fp) vx tv) (hs : ∀ x, foldedSetIterable iter X.env x = pure x := by intro _; rfl) :
    PE X (.DictComp kx vx [⟨tg, iter, ifs, 0⟩] scope pos) (tDcD emp wi g tt tk tv (own.map (·.2))) := by
  refine ⟨fun pins s σ H Q I h => ?_⟩
  rw [arm_eval_DictComp]
  refine dc_coreD hemp hu hc hN I hi ok hg ht hk he hs h fun D C s' m H' I' q hn f => ⟨m, hn, fun h'' sb => ?_⟩
  obtain ⟨f0, f1, f2, f3, f4, f5⟩ := f
  exact ⟨.ref D, H', I'.turned (t' := s'.toks) (fun b o hb e => (sb.2 b hb).trans e) f0 f1 f3 f4 f5, rfl, q⟩
end
end L2
namespace TS
open PySem L2
noncomputable section
theorem setOB_put {M : Gm} {F H : Hp} {ob ob' : OB} {a : Addr} {vi vd : V} {di d : D} (hd : ob.dic = true) (s : Same F H) (hob : obAt M F H ob a) (ri : rep M F di vi) (rd : rep M F d vd) (e : setOB ob di d = some ob') : ∃ o, DPut H a vi vd (upd H a o) ∧ obAt M F (upd H a o) ob' a ∧ ob'.dic = true := by
  unfold setOB at e
  split at e
  · cases hd
  · rename_i ks ds k
    obtain ⟨kk, e1, e2⟩ := Option.bind_eq_some_iff.mp e
    split at e2
    · rename_i hl
      cases e2
      obtain ⟨kvs, h1, h2, h3⟩ := hob
      subst h2
      obtain ⟨p1, p2⟩ := putD_v rd kk h3
      have ek := keyOf_v (M := M) (H := H) (.inl ri) e1
      subst ek
      refine ⟨_, DPut.k h1 ?_, ⟨_, upd_same, p1, p2⟩, rfl⟩
      have z := reps_length h3
      rw [List.length_map] at z
      rw [z, sizeLine_eq]; exact hl
    · cases e2
  · rename_i ks ds kds
    obtain ⟨kk, e1, e2⟩ := Option.bind_eq_some_iff.mp e
    split at e2
    · rename_i hl
      cases e2
      obtain ⟨kvs, h1, h2, h3⟩ := hob
      subst h2
      obtain ⟨p1, p2⟩ := putD_v rd kk h3
      obtain ⟨b, rfl, hb⟩ := prep_tupK s (.inl ri) e1
      refine ⟨_, DPut.t h1 hb ?_, ⟨_, upd_same, p1, p2⟩, rfl⟩
      have z := reps_length h3
      rw [List.length_map] at z
      rw [z, sizeLine_eq]; exact hl
    · cases e2
  · cases e
def dcL (setT : D → Sl → Option Sl) (vs : List Nat) (ft : FT) (fk fv : FD) : List D → OB → Sl → Res OB
  | [], acc, δ => .ok acc δ
  | d :: ds, acc, δ => match setT d δ with
    | none => .bad
    | some δ0 => (noX (ft δ0)).bind fun b δ1 => if b then (noX (fk δ1)).bind fun kd δ2 => (noX (fv δ2)).bind fun vd δ3 => (match setOB acc kd vd with
        | some acc' => dcL setT vs ft fk fv ds acc' (wipeD δ3 vs)
        | none => .bad)
      else dcL setT vs ft fk fv ds acc (wipeD δ1 vs)
def fDc (e0 : OB) (setT : D → Sl → Option Sl) (vs : List Nat) (fi : FA) (ft : FT) (fk fv : FD) : FE := fun δ => (fi δ).bind fun ds δ1 => if vs.all (freeS δ1) then
    (dcL setT vs ft fk fv ds e0 (wipeD δ1 vs)).bind fun acc δ2 => .ok (.own acc) (restD δ1 vs δ2) else .bad
theorem wipeD_out {δ : Sl} {i : Nat} : ∀ us : List Nat, i ∉ us → (wipeD δ us)[i]? = δ[i]?
  | [], _ => rfl
  | u :: us, h => by
    simp only [List.mem_cons, not_or] at h
    unfold wipeD
    rw [List.getElem?_set_ne (Ne.symm h.1)]
    exact wipeD_out us h.2
section
variable {M : Gm} {W : WX} {X : Cx} {tg : Expr} {F F1 H H1 : Hp} {σ : St} {δ : Sl}
theorem dc_read {emp : HO} {e0 : OB} (hemp : emp = .dK [] ∧ e0 = .dK [] [] ∨ emp = .dT [] ∧ e0 = .dT [] []) {wi : TI} {g : TG} {fi : FA} {ft : FT} {fk fv : FD} {setT : D → Sl → Option Sl} {vs : List Nat} (hi : ∀ (c : Cn M) F H σ δ (Q : It → Hp → Prop), Ok c F H σ δ → Post c W F σ (ρI M) (fi δ) Q → wi σ H Q) (hg : SetT M vs g setT) :
    RE M W (tDcD emp wi g (canT M W0 ft) (canD M W0 fk) (canD M W0 fv) vs) (fDc e0 setT vs fi ft fk fv) := fun c F H σ δ Q ok post => by
  refine hi c F H σ δ _ ok (Post.bind post fun ds δ1 J F1 H1 _ s1 ok1 wk post => fun Dd hD => ?_)
  split at post
  · rename_i hfree
    have okA : Ok c F1 (upd H1 Dd emp) σ δ1 := ok1.alloc hD
    have okW : Ok c F1 (upd H1 Dd emp) (L2.wipe σ vs) (wipeD δ1 vs) := okA.wipe vs
    have h0 : c.H0 Dd = none := ok1.h0 hD
    have hd0 : e0.dic = true := by rcases hemp with ⟨_, rfl⟩ | ⟨_, rfl⟩ <;> rfl
    have at0 : obAt M F1 (upd H1 Dd emp) e0 Dd := by
      rcases hemp with ⟨rfl, rfl⟩ | ⟨rfl, rfl⟩
      · exact ⟨[], upd_same, rfl, reps_nil⟩
      · exact ⟨[], upd_same, rfl, reps_nil⟩
    refine ⟨fun k m H => k ≤ ds.length ∧ m = ds.length - k ∧ ∃ F' δ' acc, Same F1 F' ∧ Ok c F' H (L2.wipe σ vs) δ' ∧ F' Dd = none ∧ acc.dic = true ∧ obAt M F' H acc Dd ∧
        (∀ (i : Nat) (r : R), δ'[i]? = some (some r) → r.mu = true → (L2.wipe σ vs)[i]? ≠ some (some (V.ref Dd))) ∧
        Post c W F' σ (ρR c σ) ((dcL setT vs ft fk fv (ds.drop k) acc δ').bind fun acc δ2 => .ok (.own acc) (restD δ1 vs δ2)) Q,
      ⟨ds.length, Nat.zero_le _, rfl, F1, wipeD δ1 vs, e0, Same.refl _, okW, ok1.f hD, hd0, at0, ?_, post⟩, ?_⟩
    · intro i r e m z
      obtain ⟨v, k1, k2⟩ := okW.slot i r e
      rw [k1] at z; cases z
      cases r with
      | imm d => cases m
      | own o =>
        obtain ⟨a, ea, q1, q2, q3⟩ := k2
        cases ea
        obtain ⟨v', z1, a', ea', w1, w2, w3⟩ := (ok1.wipe vs).slot i _ e
        rw [k1] at z1; cases z1; cases ea'
        obtain ⟨u, hu⟩ := obAt_some w3
        rw [hD] at hu; cases hu
      | brw o =>
        obtain ⟨a, ea, q1, q2, q3⟩ := k2
        cases ea
        obtain ⟨v', z1, a', ea', w1, w2, w3⟩ := (ok1.wipe vs).slot i _ e
        rw [k1] at z1; cases z1; cases ea'
        obtain ⟨u, hu⟩ := obAt_some w3
        rw [hD] at hu; cases hu
      | nst _ _ => cases m
    rintro k m H2 ⟨hk, rfl, F2, δ2, acc, g2, ok2, f2, dc2, at2, n2, post⟩
    obtain ⟨u2, d2, nt2⟩ := obAt_nt at2
    by_cases hl : k < ds.length
    · right
      have hd : ds[k]? = some ds[k] := List.getElem?_eq_getElem hl
      have okg := ok2.guard f2 h0 d2 nt2 n2
      obtain ⟨k1, k2⟩ := Walks.turn wk g2 okg hd
      rw [List.drop_eq_getElem_cons hl] at post
      unfold dcL at post
      refine ⟨k1, fun H' => ∃ F' δ' acc, Same F1 F' ∧ Ok c F' H' (L2.wipe σ vs) δ' ∧ F' Dd = none ∧ acc.dic = true ∧ obAt M F' H' acc Dd ∧
        (∀ (i : Nat) (r : R), δ'[i]? = some (some r) → r.mu = true → (L2.wipe σ vs)[i]? ≠ some (some (V.ref Dd))) ∧
        Post c W F' σ (ρR c σ) ((dcL setT vs ft fk fv (ds.drop (k + 1)) acc δ').bind fun acc δ2 => .ok (.own acc) (restD δ1 vs δ2)) Q, fun H' h => ⟨ds.length - (k + 1), by omega, by omega, rfl, h⟩, fun x H' y => ?_⟩
      obtain ⟨F3, g3, ok3, r3⟩ := k2 x H' y
      split at post
      · exact post.elim
      · rename_i δ0 e0'
        refine hg (c.guard Dd u2 nt2) F3 H' (L2.wipe σ vs) δ2 δ0 x ds[k] _ ok3 r3 e0' (wipe_idem σ vs) fun σ2 okS hw => ⟨hw, ?_⟩
        refine ⟨c.guard Dd u2 nt2, F3, δ0, okS, ?_⟩
        -- the slots that are left point elsewhere
        have aside : ∀ {F4 H4 : Hp} {δ4 : Sl}, Ok c F4 H4 σ2 δ4 → (∀ (i : Nat) (r : R), δ4[i]? = some (some r) → r.mu = true → σ2[i]? ≠ some (some (V.ref Dd))) → (∀ (i : Nat) (r : R), (wipeD δ4 vs)[i]? = some (some r) → r.mu = true → (L2.wipe σ vs)[i]? ≠ some (some (V.ref Dd))) := fun {F4 H4 δ4} q1 q4 i r e m z => by
          have qw := q1.wipe vs
          rw [hw] at qw
          obtain ⟨v, z1, z2⟩ := qw.slot i r e
          rw [z1] at z; cases z
          rw [← hw] at z1
          have z3 := wipe_some z1
          rw [wipeD_out vs z3.2] at e
          exact q4 i r e m z3.1
        cases q : ft δ0 with
        | bad => rw [q] at post; exact post.elim
        | exc x δ => rw [q] at post; exact post.elim
        | ok b δ4 =>
          rw [q] at post
          intro b' F4 H4 g4 ok4 eb
          cases (show b = b' from eb)
          have post : Post c W F2 σ (ρR c σ) ((if b then (noX (fk δ4)).bind fun kd δ2 => (noX (fv δ2)).bind fun vd δ3 => (match setOB acc kd vd with
            | some acc' => dcL setT vs ft fk fv (ds.drop (k + 1)) acc' (wipeD δ3 vs)
            | none => .bad) else dcL setT vs ft fk fv (ds.drop (k + 1)) acc (wipeD δ4 vs)).bind fun acc δ2 => .ok (.own acc) (restD δ1 vs δ2)) Q := post
          cases b with
          | false =>
            obtain ⟨q1, q2, q3, q4⟩ := ok4.unguard h0
            have qw := q1.wipe vs
            rw [hw] at qw
            exact ⟨F4, wipeD δ4 vs, acc, (g2.trans g3).trans g4, qw, q2 (f0_none ok2 f2), dc2, obAt_mono (g3.trans g4) (q3.trans d2.symm) at2, aside q1 q4, Post.shift post (g3.trans g4)⟩
          | true =>
            refine ⟨c.guard Dd u2 nt2, F4, δ4, ok4, ?_⟩
            cases q5 : fk δ4 with
            | bad => rw [q5] at post; exact post.elim
            | exc x δ => rw [q5] at post; exact post.elim
            | ok kd δ5 =>
              rw [q5] at post
              intro yk F5 H5 g5 ok5 rk
              have post : Post c W F2 σ (ρR c σ) (((noX (fv δ5)).bind fun vd δ3 => (match setOB acc kd vd with
                | some acc' => dcL setT vs ft fk fv (ds.drop (k + 1)) acc' (wipeD δ3 vs)
                | none => .bad)).bind fun acc δ2 => .ok (.own acc) (restD δ1 vs δ2)) Q := post
              refine ⟨c.guard Dd u2 nt2, F5, δ5, ok5, ?_⟩
              cases q6 : fv δ5 with
              | bad => rw [q6] at post; exact post.elim
              | exc x δ => rw [q6] at post; exact post.elim
              | ok vd δ6 =>
                rw [q6] at post
                intro yv F6 H6 g6 ok6 rv
                have post : Post c W F2 σ (ρR c σ) ((match setOB acc kd vd with
                  | some acc' => dcL setT vs ft fk fv (ds.drop (k + 1)) acc' (wipeD δ6 vs)
                  | none => .bad).bind fun acc δ2 => .ok (.own acc) (restD δ1 vs δ2)) Q := post
                obtain ⟨q1, q2, q3, q4⟩ := ok6.unguard h0
                have gAll := ((g3.trans g4).trans g5).trans g6
                have at6 : obAt M F6 H6 acc Dd := obAt_mono gAll (q3.trans d2.symm) at2
                have f6 := q2 (f0_none ok2 f2)
                have rk6 : rep M F6 kd yk := rep_mono g6 _ _ rk
                split at post
                · rename_i acc' es
                  obtain ⟨o, p1, p2, p3⟩ := setOB_put dc2 q1.same at6 rk6 rv es
                  refine ⟨_, p1, ?_⟩
                  have qp : Ok c F6 (upd H6 Dd o) σ2 δ6 := q1.poke (fun u e => by rw [q3] at e; cases e; exact nt2) f6 h0 q4
                  have qw := qp.wipe vs
                  rw [hw] at qw
                  exact ⟨F6, wipeD δ6 vs, acc', g2.trans gAll, qw, f6, p3, p2, aside qp q4, Post.shift post gAll⟩
                · exact post.elim
    · left
      have hk' : k = ds.length := by omega
      subst hk'
      refine ⟨(wk _ H2 (g2.trans ok2.same)).2 (List.getElem?_eq_none (Nat.le_refl _)), ?_⟩
      rw [List.drop_length] at post
      unfold dcL at post
      simp only [Res.bind_ok] at post
      have ok3 : Ok c F2 H2 σ δ2 := ok2.unwipe
      obtain ⟨ok4, m4⟩ := restD_ok ok1 g2 vs hfree ok3
      refine post.ok ok4 ⟨Dd, rfl, f2, h0, at2, fun i r e m z => ?_⟩
      obtain ⟨r0, e0', m0⟩ := m4 i r e m
      obtain ⟨v, z1, z2⟩ := ok2.slot i r0 e0'
      have z3 := (wipe_some z1).1
      rw [z] at z3; cases z3
      exact n2 i r0 e0' m0 z1
  · exact post.elim
theorem de_dc {emp : HO} {e0 : OB} {k vx iter : Expr} {ifs : List Expr} {scope : Scope} {own : List (Str × Nat)} {pos : Pos} {g : TG} {fi : FA} {ft : FT} {fk fv : FD} {setT : D → Sl → Option Sl} {vs : List Nat} {j : Nat} (hemp : emp = .dK [] ∧ e0 = .dK [] [] ∨ emp = .dT [] ∧ e0 = .dT [] []) (hr : TS.Room j X.A) (hvs : own.map (·.2) = vs) (hc : X.calm = true) (hN : X.N.Nodup) (hi : DIt M W X tg iter fi) (ok : BlkOk X.N X.env.scope scope own)
    (hS : SetT M vs g setT) (hg : ∀ s H C cl fp, PG (blkX X scope s H C cl fp) tg g) (ht : ∀ s H C cl fp, PTs (blkX X scope s H C cl fp) ifs (canT M W0 ft)) (hk : ∀ s H C cl fp, DI M W0 (blkX X scope s H C cl fp) k fk) (he : ∀ s H C cl fp, DI M W0 (blkX X scope s H C cl fp) vx fv) (hs : ∀ x, foldedSetIterable iter X.env x = pure x := by intro _; rfl) :
    DE M W X (.DictComp k vx [⟨tg, iter, ifs, 0⟩] scope pos) (fDc e0 setT vs fi ft fk fv) := by
  obtain ⟨wi, pi, hi⟩ := hi
  subst hvs
  have hun := hr.lo.un
  exact ⟨_, pe_dcD (emp := emp) (by rcases hemp with ⟨h, _⟩ | ⟨h, _⟩; exact .inl h; exact .inr h) (by omega) hc hN pi ok hg ht (fun s H C cl fp => (hk s H C cl fp).can) (fun s H C cl fp => (he s H C cl fp).can) hs, dc_read hemp hi hS⟩
end
end
end TS

namespace TS
open PySem L2 PySem.Spec PyProof.Rows
noncomputable section
section
variable {prog : Program} {w : World} {o : Obj} {es : Array DictEntry} {ep : Nat}
end
section
variable {X : Cx} {e : Expr} {te : TE} {apos cpos : Pos}
def rIsiD : RC := fun xs H Q => ∃ a o kvs, xs = [V.ref a, V.ty "dict"] ∧ H a = some (.frz o (.dT kvs)) ∧ Q (.bl true) H
theorem call_isiD : CallR X (.builtin "isinstance") rIsiD := by
  intro pins s σ H xs us Q I r h
  obtain ⟨a, o, kvs, rfl, hd, q⟩ := h
  obtain ⟨u1, u2, rfl, r1, r2⟩ := vals2 r
  obtain rfl : u1 = Value.ref a := r1
  obtain rfl : u2 = Value.type "dict" := r2
  obtain ⟨hs, hgd, hx, _⟩ := frzTv I hd
  exact PySem.W.kia_one (K := X.K) PySem.W.kitx_dict I.kIn ⟨o, hgd, hx.1⟩ (kit_ty (by decide +kernel)) (fun z => nomatch z) fun tk => ⟨.bl true, H, I.tok tk, rfl, q⟩
end
def fIsiD (tab : Tg → Option Bool) (fe : FD) : FD := fun δ => (fe δ).bind fun d δ => match d with
  | .dT _ _ => .ok (.bl true) δ
  | d => (match tagD d with
    | some t => (match tab t with
      | some b => .ok (.bl b) δ
      | none => .bad)
    | none => .bad)
section
variable {M : Gm} {W : WX} {X : Cx} {e a c1 : Expr} {fe : FD} {p p2 apos cpos pos : Pos} {tab : Tg → Option Bool}
theorem di_isiD (hg : Gl X "isinstance") (hm : X.mg "isinstance" = none) (ha : DI M W X a fe) (hc : PE X c1 (tC (.ty "dict"))) (T : IsT M [.type "dict"] tab) (hK : X.K = M.K := by rfl)
    (hs : starEach [a, c1] X.env = (false, eval a X.env) :: starEach [c1] X.env := by rfl) (hs2 : starEach [c1] X.env = (false, eval c1 X.env) :: starEach [] X.env := by rfl) (hpl : (backTo pos (starEach [c1] X.env)).any (·.1) = false := by rfl) :
    DI M W X (.Call (.Name "isinstance" p) [a, c1] [] pos) (fIsiD tab fe) := by
  obtain ⟨t, pp, h⟩ := ha
  refine ⟨_, pe_callB (CallR.or call_isi call_isiD) hg hm bt_isinstance (pa_cons pp (pa_cons hc pa_nil hs2) hs) (by decide) (by decide) hs hpl, fun c F H σ δ Q ok post => h c F H σ δ _ ok (Post.bind post fun d δ1 x F1 H1 _ s1 ok1 r post => ?_)⟩
  by_cases hdt : ∃ ks ds, d = .dT ks ds
  · obtain ⟨ks, ds, rfl⟩ := hdt
    have r : rep M F1 (.dT ks ds) x := r
    unfold rep at r
    obtain ⟨a, od, vs, rfl, h2, h3, h4⟩ := r
    exact .inr ⟨a, od, vs, rfl, ok1.same _ _ h2, post.ok ok1 (rep_bl' _)⟩
  · have post : Post c W F1 σ (ρD c) (match tagD d with
      | some t => (match tab t with
        | some b => Res.ok (D.bl b) δ1
        | none => .bad)
      | none => .bad) Q := by
      cases d <;> first | exact post | exact absurd ⟨_, _, rfl⟩ hdt
    split at post
    · rename_i t e1
      split at post
      · rename_i b e2
        obtain ⟨tv, k1, k2⟩ := tyx_of ok1.same (.inl r) e1 (fun n C h1 h2 => (T t b (.ref C) e2 (by subst h1; exact ⟨C, h2, rfl⟩)).2 n C h1 h2)
        have k3 := kitAny_one (T t b tv e2 k1).1
        exact .inl ⟨x, .ty "dict", tv, .type "dict", b, rfl, .ty _, by rw [hK]; exact k2, by rw [hK]; exact k3, post.ok ok1 (rep_bl' _)⟩
      · exact post.elim
    · exact post.elim
theorem ktup_dp {K : PySem.W.Frag} {H : Hp} {ad : Addr} {ns : List Int} (h : KTup K ad ns) : Dp K H (.ref ad) (.tuple (ns.map PyData.int)) := by
  obtain ⟨o, its, n, h1, h2, h3, h4, h5⟩ := h
  refine .tup (.inr ⟨o, its, n, h1, h2, h3, by rw [sizeLine_eq]; omega, h5⟩) ?_
  clear h5
  induction ns with
  | nil => exact .nil
  | cons i ns ih => exact .cons (.int i) ih
theorem toP_ints : ∀ ns : List Int, toP (.tup (ns.map D.int)) = some (.tuple (ns.map PyData.int)) := by
  have : ∀ ns : List Int, toPs (ns.map D.int) = some (ns.map PyData.int) := by
    intro ns
    induction ns with
    | nil => rfl
    | cons i ns ih => simp [toPs, toP, ih]
  intro ns
  simp [toP, this]
theorem eqK_run {r : R2} {g : D → D → Option R} {f : PyData → PyData → Bool} (hr : ∀ x y H Q d e, Dp M.K H x d → Dp M.K H y e → SeqAt.shaped d = true → SeqAt.shaped e = true → Q (.bl (f d e)) H → r x y H Q) (hgf : ∀ x y z, g x y = some z → ∃ d e, toP x = some d ∧ toP y = some e ∧ SeqAt.shaped d = true ∧ SeqAt.shaped e = true ∧ z = .imm (.bl (f d e)))
    {ad : Addr} {ns : List Int} (hk : KTup M.K ad ns) {ta : TE} (ha : ∀ (c : Cn M) F H σ δ Q, Ok c F H σ δ → Post c W F σ (ρD c) (fe δ) Q → ta σ H Q) : ∀ (c : Cn M) F H σ δ Q, Ok c F H σ δ → Post c W F σ (ρR c σ) (fBin g fe (kD (.tup (ns.map D.int))) δ) Q → tOp r ta (tC (.ref ad)) σ H Q := by
  intro c F H σ δ Q ok post
  refine ha c F H σ δ _ ok (Post.bind post fun dx δ1 v F1 H1 _ s1 ok1 rx post => ?_)
  have post : Post c W F1 σ (ρR c σ) (match g dx (.tup (ns.map D.int)) with
    | some z => Res.ok z δ1
    | none => .bad) Q := post
  split at post
  · rename_i z e
    obtain ⟨d, e', h1, h2, h3, h4, rfl⟩ := hgf _ _ _ e
    rw [toP_ints] at h2
    cases h2
    exact hr _ _ _ _ d _ (rep_dp ok1.same _ _ _ rx h1) (ktup_dp hk) h3 h4 (post.ok ok1 rr_bl)
  · exact post.elim
theorem gEq_ty : ∀ x y z, gEq x y = some z → ∃ d e, toP x = some d ∧ toP y = some e ∧ SeqAt.shaped d = true ∧ SeqAt.shaped e = true ∧ z = .imm (.bl (PyData.eqv d e)) := fun x y z h => by
    unfold gEq at h
    split at h
    · split at h
      · rename_i hs
        rw [Bool.and_eq_true] at hs
        cases h
        exact ⟨_, _, ‹_›, ‹_›, hs.1, hs.2, rfl⟩
      · cases h
    · cases h
theorem gNe_ty : ∀ x y z, gNe x y = some z → ∃ d e, toP x = some d ∧ toP y = some e ∧ SeqAt.shaped d = true ∧ SeqAt.shaped e = true ∧ z = .imm (.bl (!PyData.eqv d e)) := fun x y z h => by
    unfold gNe at h
    split at h
    · split at h
      · rename_i hs
        rw [Bool.and_eq_true] at hs
        cases h
        exact ⟨_, _, ‹_›, ‹_›, hs.1, hs.2, rfl⟩
      · cases h
    · cases h
section
variable {k : Nat} {x : Str} {ad : Addr} {ns : List Int} (hr : Room k X.A) (hg : Gl X x) (hm : X.mg x = some (.ref ad)) (hk : KTup M.K ad ns) (ha : DI M W X a fe) (hK : X.K = M.K := by rfl) (hdb : (x == ("__debug__" : Str)) = false := by decide)
include hr hg hm hk ha hK hdb
theorem t_eqK : DT M W X (.Compare a [.Eq] [.Name x p2] pos) (fTst (fBin gEq fe (kD (.tup (ns.map D.int))))) := by
  obtain ⟨ta, pa, ha⟩ := ha
  exact ⟨_, pt_cmpR (op_eqM hK hr) pa (pe_glob (v := .ref ad) hg hm rfl hdb) (nomark _), tst_of (eqK_run (f := PyData.eqv) (fun x y H Q d e h1 h2 h3 h4 q => ⟨d, e, h1, h2, h3, h4, q⟩) gEq_ty hk ha)⟩
theorem t_neK : DT M W X (.Compare a [.NotEq] [.Name x p2] pos) (fTst (fBin gNe fe (kD (.tup (ns.map D.int))))) := by
  obtain ⟨ta, pa, ha⟩ := ha
  exact ⟨_, pt_cmpR (op_neM hK hr) pa (pe_glob (v := .ref ad) hg hm rfl hdb) (nomark _), tst_of (eqK_run (f := fun d e => !PyData.eqv d e) (fun x y H Q d e h1 h2 h3 h4 q => ⟨d, e, h1, h2, h3, h4, q⟩) gNe_ty hk ha)⟩
end
end
end
end TS

namespace TS
open PySem L2 PySem.Spec PyProof.Rows
noncomputable section
section
variable {prog : Program} {w : World} {K : Type} [DecidableEq K] {knd : HeapKind prog w K} {A : Around} {E : Value → Shared → Prop} {s : Shared}
inductive HitsH {K : Type} [DecidableEq K] (A : Around) (s : Shared) (kb : List (K × Addr × Value)) : List (K × Addr × Value) → Bool → Prop
  | nil : HitsH A s kb [] true
  | miss {x : K × Addr × Value} {r : List (K × Addr × Value)} : atKey kb x.1 = none → HitsH A s kb (x :: r) false
  | hit {x : K × Addr × Value} {y : Addr × Value} {r : List (K × Addr × Value)} {e b : Bool} : atKey kb x.1 = some y → SeqAt.EqAt A s x.2.2 y.2 e → HitsH A s kb r b → HitsH A s kb (x :: r) (e && b)
theorem HitsH.inv {kb : List (K × Addr × Value)} {x : K × Addr × Value} {r : List (K × Addr × Value)} {b : Bool} (h : HitsH A s kb (x :: r) b) :
    (atKey kb x.1 = none ∧ b = false) ∨ ∃ y e b', atKey kb x.1 = some y ∧ SeqAt.EqAt A s x.2.2 y.2 e ∧ HitsH A s kb r b' ∧ b = (e && b') := by
  cases h with
  | miss hn => exact .inl ⟨hn, rfl⟩
  | hit hy he hr => exact .inr ⟨_, _, _, hy, he, hr, rfl⟩
end
section
variable {X : Cx} {pins : List (Addr × Obj)} {σ : L2.St} {H : Hp} {s : Shared}
end
section
variable {M : Gm} {F H : Hp}
end
section
variable {M : Gm} {W : WX} {X : Cx} {a b : Expr} {pos : Pos} {fa fb : FD} {k : Nat}
end
end
end TS

namespace TS
open PySem L2
noncomputable section
section
variable {M : Gm} {c : Cn M} {W : WX} {X : Cx} {F H : Hp} {σ : L2.St} {δ : Sl}
end
end
end TS

namespace TS
open PySem L2
noncomputable section
section
variable {M : Gm} {c : Cn M} {W : WX} {X : Cx} {F H : Hp} {σ : L2.St} {δ : Sl}
end
end
end TS

namespace L2
open PySem PySem.Spec PyProof.Rows
section
variable {X : Cx}
end
end L2
namespace TS
open PySem L2
noncomputable section
section
variable {M : Gm} {W : WX} {X : Cx} {tg : Expr}
end
end
end TS

namespace TS
open PySem L2
noncomputable section
section
variable {X : Cx} {c : Code} {st : Stmt} {rest ss : List Stmt} {t u : L2.TS}
end
section
variable {X : Cx} {W : WX}
end
section
variable {M : Gm} {W : WX} {X : Cx} {c : Code} {st : Stmt} {ss rest : List Stmt} {f g : FS}
end
structure FunX (K : PySem.W.Frag) (x qual : Str) (params : Arguments) (body : List Stmt) (scope : Scope) (f cc c : Addr) (fd : FuncData) : Prop where
  ex : ∃ (oc : Value) (od : Option Addr) (kV doc pm : Value) (an : Option Addr) (ct : Value) (osl : Array (Option Value)),
    fd = PySem.W.fnX x qual params body scope [("__class__", cc)] .none kV doc pm an (.ref c) ct ∧ K.lookup f = some ⟨oc, od, .func fd, osl⟩ ∧ PySem.W.codeIn K (.ref c) qual = true
  kp : PySem.W.keepIn K (.ref f) = true
section
variable {M : Gm} {P : Program} {w : World} {mg : Str → Option Value} {base : Heap}
theorem FunX.bindsN {K : PySem.W.Frag} {x qual : Str} {params : Arguments} {body : List Stmt} {scope : Scope} {f cc c : Addr} {fd : FuncData} {ps : List Str} (F : FunX K x qual params body scope f cc c fd)
    (h : ∀ (kV doc pm : Value) (an : Option Addr) (ct : Value) (us : List Value), us.length = ps.length → bindArgs (PySem.W.fnX x qual params body scope [("__class__", cc)] .none kV doc pm an (.ref c) ct) ⟨us, []⟩ = pure (ps.zip us)) : Binds K fd ps [] := by
  obtain ⟨oc, od, kV, doc, pm, an, ct, osl, rfl, _⟩ := F.ex
  intro s us kin hl
  rw [List.append_nil] at hl ⊢
  exact BindsTo.of_eq (h kV doc pm an ct us hl)
end
section
variable {X : Cx} {W : WX} {M : Gm} {K : PySem.W.Frag}
end
end
end TS

namespace TS
open PySem L2
noncomputable section
section
variable {M : Gm} {W : WX} {X : Cx} {e : Expr} {es : List Expr} {p pos : Pos} {x : Str} {k : Nat} {f : Addr} {sp : Sp}
end
end
end TS

namespace TS
open PySem L2
noncomputable section
def pairsK : List D → Option (List Key × List D)
  | [] => some ([], [])
  | .tup [k, v] :: ds => match TS.keyOf k, pairsK ds with
    | some k', some (ks, vs) => some (k' :: ks, v :: vs)
    | _, _ => none
  | _ => none
def mergeL : List Key → List D → List Key → List D → List Key × List D
  | ks, ds, k :: ms, m :: mds => mergeL (putD ks ds k m).1 (putD ks ds k m).2 ms mds
  | ks, ds, _, _ => (ks, ds)
def gDict : List D → Option R
  | [.lst ds] => match pairsK ds with
    | some (ks, vs) => some (.own (.dK (mergeL [] [] ks vs).1 (mergeL [] [] ks vs).2))
    | none => none
  | [.dK ks vs] => some (.own (.dK ks vs))
  | _ => none
section
variable {M : Gm} {c : Cn M} {W : WX} {X : Cx} {e : Expr} {F H : Hp} {σ : L2.St} {δ : Sl} {fa : FA} {p pos : Pos}
theorem pairs_v (s : Same F H) : ∀ {ds : List D} {vs : List V} {ks : List Key} {es : List D}, reps M F ds vs → pairsK ds = some (ks, es) → ∃ (ps : List Addr) (kvs : List (Key × V)), vs = ps.map V.ref ∧ Paired (fun p kv => SqT M.K H p [kV kv.1, kv.2]) ps kvs ∧ kvs.map (·.1) = ks ∧ reps M F es (kvs.map (·.2))
  | [], vs, ks, es, r, e => by
    unfold reps at r
    subst r
    unfold pairsK at e
    cases e
    exact ⟨[], [], rfl, .nil, rfl, reps_nil⟩
  | d :: ds, vs, ks, es, r, e => by
    unfold pairsK at e
    split at e
    · cases ‹_ :: _ = []›
    · rename_i k v ds' eq
      cases eq
      unfold reps at r
      obtain ⟨u, r', rfl, h1, h2⟩ := r
      split at e
      · rename_i k' ks' es' e1 e2
        cases e
        obtain ⟨ps, kvs, rfl, q1, q2, q3⟩ := pairs_v s h2 e2
        unfold rep at h1
        obtain ⟨a, ws, rfl, k1, k2⟩ := h1
        unfold reps at k2
        obtain ⟨u1, r1, rfl, k3, k4⟩ := k2
        unfold reps at k4
        obtain ⟨u2, r2, rfl, k5, k6⟩ := k4
        unfold reps at k6
        subst k6
        have ek := keyOf_v (H := H) (.inl k3) e1
        subst ek
        exact ⟨a :: ps, (k', u2) :: kvs, rfl, .cons (SqT.of (s _ _ k1)) q1, by rw [List.map_cons, q2], reps_cons k5 q3⟩
      · cases e
    · cases e
theorem merge_v : ∀ {more : List (Key × V)} {mds : List D}, reps M F mds (more.map (·.2)) → ∀ {kvs : List (Key × V)} {ds : List D}, reps M F ds (kvs.map (·.2)) →
    (mergeK kvs more).map (·.1) = (mergeL (kvs.map (·.1)) ds (more.map (·.1)) mds).1 ∧ reps M F (mergeL (kvs.map (·.1)) ds (more.map (·.1)) mds).2 ((mergeK kvs more).map (·.2))
  | [], mds, r, kvs, ds, h => by
    have : mds = [] := by
      cases mds with
      | nil => rfl
      | cons a b => unfold reps at r; obtain ⟨_, _, z, _⟩ := r; cases z
    subst this
    exact ⟨rfl, h⟩
  | kv :: more, mds, r, kvs, ds, h => by
    cases mds with
    | nil => unfold reps at r; cases r
    | cons m mds =>
      unfold reps at r
      obtain ⟨v, r', z, h1, h2⟩ := r
      cases z
      obtain ⟨q1, q2⟩ := putD_v h1 kv.1 h
      obtain ⟨q3, q4⟩ := merge_v h2 q2
      rw [q1] at q3 q4
      exact ⟨q3, q4⟩
def rDict (K : PySem.W.Frag) : RC := fun xs H Q => (∃ (a : Addr) (ps : List Addr) (kvs : List (Key × V)), xs = [V.ref a] ∧ SqL K H a (ps.map V.ref) ∧ Paired (fun p kv => SqT K H p [kV kv.1, kv.2]) ps kvs ∧ ∀ p, H p = none → Q (.ref p) (upd H p (.dK (mergeK [] kvs)))) ∨
  ∃ (a : Addr) (kvs : List (Key × V)), xs = [V.ref a] ∧ Rd H a (.dK kvs) ∧ ∀ p, H p = none → Q (.ref p) (upd H p (.dK kvs))
theorem call_dictPD (hc : X.calm = true) : CallR X (.type "dict") (rDict X.K) := CallR.or (call_dictP hc) call_dictD
theorem cd_dict : CallD M (rDict M.K) gDict := by
  intro c F H σ δ xs ds z Q ok pxs e q
  unfold gDict at e
  split at e
  · rename_i ds'
    split at e
    · rename_i ks vs ep
      cases e
      obtain ⟨x, rfl, px⟩ := p1 pxs
      obtain ⟨a, ws, rfl, h2, h3⟩ := prep_lst ok.same px
      obtain ⟨ps, kvs, rfl, q1, q2, q3⟩ := pairs_v ok.same h3 ep
      refine .inl ⟨a, ps, kvs, rfl, SqL.of h2, q1, fun p hp => ?_⟩
      obtain ⟨m1, m2⟩ := merge_v (kvs := []) (ds := []) q3 reps_nil
      subst q2
      exact q _ F _ (Same.refl _) (ok.alloc hp) (ok.made hp ⟨_, upd_same, m1, m2⟩)
    · cases e
  · cases e
    obtain ⟨x, rfl, px⟩ := p1 pxs
    obtain ⟨a, kvs, rfl, h2, rfl, h4⟩ := prep_dK ok.same px
    refine .inr ⟨a, kvs, rfl, h2, fun p hp => ?_⟩
    exact q _ F _ (Same.refl _) (ok.alloc hp) (ok.made hp ⟨_, upd_same, rfl, h4⟩)
  · cases e
end
end
end TS

namespace PySem.SeqAt
open AutoSeq1 (wpAny_loadPart')
open MeetsSeq MeetsSeq2 MeetsSeq3 SeqRoads2
section
variable {prog : Program} {w : World} {A : Around} {s : Shared}
end
end PySem.SeqAt
namespace TS
open PySem L2 PySem.Spec PyProof.Rows PySem.SeqAt
noncomputable section
section
variable {X : Cx} {pins : List (Addr × Obj)} {σ : L2.St} {H : Hp} {s : Shared}
end
section
variable {M : Gm} {F H : Hp}
end
section
variable {M : Gm} {W : WX} {X : Cx} {a b : Expr} {pos : Pos} {fa fb : FD} {k : Nat}
end
end
end TS

namespace TS
open PySem L2
end TS

namespace TS
open PySem L2 PySem.W
noncomputable section
def DgK (K : PySem.W.Frag) : Prop := nsOkIn K cStatics = true ∧ nsIn K cStatics "sys.int_max_str_digits" = some none
theorem DgK.no {K : PySem.W.Frag} {h : Heap} (d : DgK K) (X : K.In h) : h.NoDigits :=
  ⟨_, .of_isNs (isNs_of_in X d.1), ns_none_of X (.of_isNs (isNs_of_in X d.1)) d.2⟩
section
variable {prog : Program} {w : World} {A : Around} {E : Value → Shared → Prop} {s : Shared}
end
section
variable {X : Cx} {M : Gm} {W : WX} {e : Expr} {fa : FD} {p pos : Pos}
end
end
end TS

namespace TS
open PySem L2
noncomputable section
structure RoomG (g : List Code) (k : Nat) (A : Around) : Prop where
  lo : L2.Room k A
  gu : A.guards = some g
theorem RoomG.deeper {g : List Code} {k : Nat} {A : Around} (r : RoomG g (k + 1) A) (env : Env) : RoomG g k (A.deeper env) := ⟨L2.Room.deeper r.lo env, r.gu⟩
theorem RoomG.mono {g : List Code} {j k : Nat} {A : Around} (r : RoomG g k A) (h : j ≤ k) : RoomG g j A := ⟨L2.Room.mono r.lo h, r.gu⟩
def FnRG (P : Program) (w : World) (K : PySem.W.Frag) (mg : Str → Option Value) (base : Heap) (CX : CXT) (k : Nat) (f : Addr) (sp : List Code → Sp) : Prop :=
  ∀ (g : List Code) (A : Around) (outer : List Env) (s : Shared) (H : Hp) (us : List Value) (vs : List V) (Q : VK) (E : XK), RoomG g k A → Env0 P w K mg base A outer s H → Vals vs us → sp g vs H Q E → codeAny (model P w) A (.call (.ref f) ⟨us, []⟩) (CR CX outer P w H s Q E) s
theorem FnRG.mono {P : Program} {w : World} {K : PySem.W.Frag} {mg : Str → Option Value} {base : Heap} {CX : CXT} {j k : Nat} {f : Addr} {sp : List Code → Sp} (F : FnRG P w K mg base CX j f sp) (h : j ≤ k) : FnRG P w K mg base CX k f sp := fun g A outer s H us vs Q E hr e0 => F g A outer s H us vs Q E (hr.mono h) e0
section
variable {P : Program} {w : World} {K : PySem.W.Frag} {mg : Str → Option Value} {base : Heap} {CX : CXT} {j k : Nat} {f : Addr} {fd : FuncData} {ps : List Str} {sp : List Code → Sp}
end
def GOK (g : List Code) (F : Hp) : Prop := ∀ c ∈ g, ∃ id a rest kw vs b C dx fs, c = .builtin id ⟨.ref a :: rest, kw⟩ ∧ F a = some (.lst vs) ∧ V.ref b ∈ vs ∧ F b = some (.ins C dx fs)
theorem GOK.mono {g : List Code} {F F' : Hp} (h : GOK g F) (e : Same F F') : GOK g F' := fun c hc => by
  obtain ⟨id, a, rest, kw, vs, b, C, dx, fs, e1, e2, e3, e4⟩ := h c hc
  exact ⟨id, a, rest, kw, vs, b, C, dx, fs, e1, e _ _ e2, e3, e _ _ e4⟩
section
variable {X : Cx} {pins : List (Addr × Obj)} {σ : St} {F H : Hp} {s : Shared}
end
def spDP (PF : Hp → Prop) (M : Gm) (f : Fm) : Sp := fun vs H Q E => ∃ (F : Hp) (_ : PF F) (io : Option OB) (a : Addr) (ws : List V) (ds : List D),
  vs = ioV io a ++ ws ∧ Same F H ∧ Tb M F H ∧ reps M F ds ws ∧ ioAt M F H io a ∧
  match f io ds with
  | .ok r io' => ∀ v F' H', Stp M F H F' H' (io.map fun _ => a) → resAt M H F' H' r v → ioAt M F' H' io' a → Q v H'
  | .exc x io' => ∀ cls d F' H', Stp M F H F' H' (io.map fun _ => a) → xAt M F' x cls d H' → ioAt M F' H' io' a → E cls d H'
  | .bad => False
section
variable {M : Gm}
theorem spDP.un {PF : Hp → Prop} {f : Fm} {vs : List V} {H : Hp} {Q : VK} {E : XK} (h : spDP PF M f vs H Q E) : spD M f vs H Q E := by
  obtain ⟨F, _, h⟩ := h
  exact ⟨F, h⟩
end
section
variable {X : Cx} {M : Gm} {W : WX} {g : List Code} {e v1 v2 : Expr} {es rest : List Expr} {fe : FD} {pos : Pos} {j : Str → Sl → Res Str}
end
section
variable {M : Model} {A : Around} {E : Value → Shared → Prop} {s : Shared} {K : PySem.W.Frag} {x C f : Addr} {ox : Obj} {od : Option Obj} {name : Str}
end
abbrev loopC (a : Addr) (i : Int) (P : Addr) (m : Int) : Code := .builtin "list.__repr__.loop" ⟨[.ref a, rawInt i, .ref P, rawInt m], []⟩
theorem loopC_depth {A : Around} {a P : Addr} {i m : Int} : (A.under (loopC a i P m)).depth ≤ A.depth + 1 := by
  simp [Around.under, Code.weight, Code.isCreation, Code.isGuard, Code.isCaller, Code.frames, Code.isFrame, guardIds]
theorem RoomG.loop {k : Nat} {A : Around} (r : Room (k + 1) A) (a : Addr) (i : Int) (P : Addr) (m : Int) : RoomG [loopC a i P m] k (A.under (loopC a i P m)) := by
  have h1 := loopC_depth (A := A) (a := a) (P := P) (i := i) (m := m)
  have h2 : (A.under (loopC a i P m)).units = A.units + 1 := units_under_list_loop A _
  have h3 := r.lo.dp
  have h4 := r.lo.un
  exact ⟨⟨r.lo.hd, by omega, by omega⟩, guards_under_guard (isGuard_list_loop _) r.gu⟩
section
open Builtin Builtin.List
variable {X : Cx} {M : Gm} {A : Around} {R : Result → Shared → Prop} {pins : List (Addr × Obj)} {σ : St} {F H : Hp}
end
section
variable {X : Cx} {M : Gm} {pins : List (Addr × Obj)} {σ : St} {F H : Hp} {s : Shared}
end
end
end TS

namespace TS
open PySem PySem.Spec PyProof.Rows L2
noncomputable section
def mergeT (kvs more : List (List Key × V)) : List (List Key × V) := more.foldl (fun acc kv => putK acc kv.1 kv.2) kvs
def mergedH (xs rest : List (List Key × Addr × Value)) : List (List Key × Addr × Value) := rest.foldl (fun acc x => storedH acc x.1 x.2.1 x.2.2) xs
theorem length_mergeT : ∀ (more kvs : List (List Key × V)), (mergeT kvs more).length ≤ kvs.length + more.length
  | [], kvs => Nat.le_refl _
  | kv :: more, kvs => by
    have h := length_mergeT more (putK kvs kv.1 kv.2)
    have := length_putK kvs kv.1 kv.2
    show (mergeT (putK kvs kv.1 kv.2) more).length ≤ _
    rw [List.length_cons]; omega
theorem storedH_len (xs : List (List Key × Addr × Value)) (k : List Key) (a : Addr) (v : Value) : (storedH xs k a v).length ≤ xs.length + 1 := by
  unfold storedH
  split
  · rw [List.length_map]; omega
  · rw [List.length_append]; exact Nat.le_refl _
theorem storedH_mem {xs : List (List Key × Addr × Value)} {k : List Key} {a : Addr} {v : Value} {x : List Key × Addr × Value} (h : x ∈ storedH xs k a v) : (∃ y ∈ xs, y.2.1 = x.2.1) ∨ x.2.1 = a := by
  unfold storedH at h
  split at h
  · obtain ⟨y, hy, rfl⟩ := List.mem_map.mp h
    refine .inl ⟨y, hy, ?_⟩
    unfold putAt
    split <;> rfl
  · rcases List.mem_append.mp h with h | h
    · exact .inl ⟨x, h, rfl⟩
    · rw [List.mem_singleton] at h
      subst h
      exact .inr rfl
theorem KT.merge {H : Hp} : ∀ {more : List (List Key × V)} {rs : List (List Key × Addr × Value)} {kvs : List (List Key × V)} {xs : List (List Key × Addr × Value)}, KT H more rs → KT H kvs xs → KT H (mergeT kvs more) (mergedH xs rs)
  | _, _, _, _, .nil, h => h
  | _, _, _, _, .cons (a := p) (b := q) h t, k => by
    obtain ⟨h1, h2, h3⟩ := h
    have z := KT.put k p.1 h2 h3
    show KT H (mergeT (putK _ p.1 p.2) _) (mergedH (storedH _ q.1 q.2.1 q.2.2) _)
    rw [← h1]
    exact KT.merge t z
section
variable {prog : Program} {w : World} {A : Around} {E : Value → Shared → Prop}
theorem tkey_ext {h h' : Heap} {k : List Key} {a c : Addr} (x : (tupleKind (mixKind prog w)).is h k a) (e : Heap.ExtBut c h h') (hac : a ≠ c) : (tupleKind (mixKind prog w)).is h' k a := by
  obtain ⟨o, its, n, h1, h2⟩ := x
  exact ⟨o, its, n, e a o hac h1, h2⟩
theorem dictH_ext {h h' : Heap} {c d : Addr} {xs : List (List Key × Addr × Value)} (hd : h.DictOfH (tupleKind (mixKind prog w)) d xs) (e : Heap.ExtBut c h h') (hc : d ≠ c) (hk : ∀ x ∈ xs, x.2.1 ≠ c) : h'.DictOfH (tupleKind (mixKind prog w)) d xs := by
  obtain ⟨o, es, ep, h1, h2, h3, h4, h5, h6⟩ := hd
  exact ⟨o, es, ep, e d o hc h1, h2, h3, h4, fun x hx => tkey_ext (h5 x hx) e (hk x hx), h6⟩
theorem upd_loopT (hu : A.units + 1 < cLine) {R : Result → Shared → Prop} {S I l : Addr} {items : Array Value} {res : Value} (hh : A.handled = none) (hlI : l ≠ I) (hSI : S ≠ I) (hSl : S ≠ l) :
    ∀ (rest : List (List Key × Addr × Value)) (i : Nat) (acc : List (List Key × Addr × Value)) (ix : Int) (t : Tok) (s : Shared), items.size = i + rest.length → acc.length + rest.length ≤ sizeLine →
      (∀ (j : Nat) (q : List Key × Addr × Value), rest[j]? = some q → ∃ b : Addr, items[i + j]? = some (.ref b) ∧ b ≠ S ∧ b ≠ I ∧ IsTup s.heap b #[.ref q.2.1, q.2.2] ∧ q.2.1 ≠ S ∧ q.2.1 ≠ I ∧ (tupleKind (mixKind prog w)).is s.heap q.1 q.2.1) →
      (∀ x ∈ acc, x.2.1 ≠ I) →
      s.heap.IsListIter I l i → s.heap.IsList l items → s.heap.DictOfH (tupleKind (mixKind prog w)) S acc →
      (∀ h' tk, h'.DictOfH (tupleKind (mixKind prog w)) S (mergedH acc rest) → (∀ b o, b ≠ S → b ≠ I → s.heap.get? b = some o → h'.get? b = some o) → R (.ok (.ret res)) { s with heap := h', toks := tk }) →
      codeAny (model prog w) A (.builtin "dict.update.loop" ⟨[.ref S, .ref I, .int ix t, res], []⟩) R s
  | [], i, acc, ix, t, s, hsz, hln, ht, ha, hit, hl, hm, hR => by
    refine codeAny_builtin ud_entry ?_
    rw [Around.under_plainId ud_plain _]
    show wpAny _ A.in1 (pyNext (.ref I) >>= _) _ _ s
    refine wpAny_bind (wpAny_pyNext_list_end (A := A.in1) hh hit hl (by first | exact Array.getElem?_eq_none (Nat.le_of_eq hsz) | (simp at hsz; simp; omega)) fun h' he => ?_)
    show wpAny _ A.in1 (Builtin.Dict.addKeywords S [] >>= _) _ _ _
    refine wpAny_bind (wpAny_pure (wpAny_pure ?_))
    exact hR h' s.toks (dictH_ext hm he hSI ha) fun b o _ hb e => he b o hb e
  | q :: rest, i, acc, ix, t, s, hsz, hln, ht, ha, hit, hl, hm, hR => by
    obtain ⟨b, hb, hbS, hbI, htup, hqS, hqI, hk⟩ := ht 0 q rfl
    rw [List.length_cons] at hsz hln
    refine codeAny_builtin ud_entry ?_
    rw [Around.under_plainId ud_plain _]
    show wpAny _ A.in1 (pyNext (.ref I) >>= _) _ _ s
    refine wpAny_bind (wpAny_pyNext_list_item (x := .ref b) hit hl (by simpa using hb) fun h1 hit1 hs1 => ?_)
    have ht1 : IsTup h1 b #[.ref q.2.1, q.2.2] := htup.extBut hs1.extBut hbI
    have hl1 : h1.IsList l items := hl.extBut hs1.extBut hlI
    have hm1 : h1.DictOfH (tupleKind (mixKind prog w)) S acc := dictH_ext hm hs1.extBut hSI ha
    have hk1 : (tupleKind (mixKind prog w)).is h1 q.1 q.2.1 := tkey_ext hk hs1.extBut hqI
    obtain ⟨o, ho, hc, n, hd⟩ := id ht1
    show wpAny _ A.in1 (holding [Value.ref b] _ >>= _) _ _ _
    refine wpAny_bind (wpAny_holding ?_)
    refine wpAny_bind (wpAny_tryCatch ?_)
    unfold Builtin.Dict.pairItems
    refine wpAny_bind (wpAny_typeOf (T := "tuple") ⟨o, ho, hc⟩ ?_)
    rw [if_pos (by first | decide | rfl | simp)]
    refine wpAny_bind (wpAny_seqItems ho hd (wpAny_pure ?_))
    show wpAny _ A.in1 (holding [Value.ref q.2.1, q.2.2] (dictSet S (Value.ref q.2.1) q.2.2)) _ _ _
    refine wpAny_holding (wpAny_dictSet_heap (knd := tupleKind (mixKind prog w)) (k := q.1) (hsz := by omega) (tupleKind_room_in1 hu) hk1 hm1 (fun h2 hm2 hs2 => ?_))
    refine wpAny_pure ⟨plainId_quiet ud_plain _, upd_loopT (items := items) hu hh hlI hSI hSl rest (i + 1) (storedH acc q.1 q.2.1 q.2.2) (ix + 1) 0 _ (show items.size = i + 1 + rest.length by omega) ?_ (fun j q' e => ?_) ?_ ?_ ?_ hm2 fun h' tk hd' k => ?_⟩
    · have z := storedH_len acc q.1 q.2.1 q.2.2
      omega
    · obtain ⟨b', hb', hbS', hbI', htup', hqS', hqI', hk'⟩ := ht (j + 1) q' (by simpa using e)
      refine ⟨b', ?_, hbS', hbI', (htup'.extBut hs1.extBut hbI').extBut hs2.extBut hbS', hqS', hqI', tkey_ext (tkey_ext hk' hs1.extBut hqI') hs2.extBut hqS'⟩
      rw [show i + 1 + j = i + (j + 1) by omega]
      exact hb'
    · intro x hx
      rcases storedH_mem hx with ⟨y, hy, e⟩ | e
      · rw [← e]; exact ha y hy
      · rw [e]; exact hqI
    · exact hit1.at fun o' e => hs2.extBut I o' (Ne.symm hSI) e
    · exact hl1.extBut hs2.extBut (Ne.symm hSl)
    · exact hR h' tk hd' fun c oc h3 h4 e => k c oc h3 h4 (hs2.extBut c oc h3 (hs1.extBut c oc h4 e))
theorem call_dict_pairsT (hu : A.units + 3 < cLine) {s : Shared} {l : Addr} {ol : Obj} {items : Array Value} {n : Nat} {prs : List (List Key × Addr × Value)} {Q : Value → Shared → Prop} (hh : A.handled = none) (hl : s.heap.get? l = some ol) (hc : ol.cls = .type "list") (hd : ol.dict = none)
    (hdat : ol.data = .seq items n) (hsz : items.size = prs.length) (hln : prs.length ≤ sizeLine)
    (ht : ∀ (j : Nat) (q : List Key × Addr × Value), prs[j]? = some q → ∃ b : Addr, items[j]? = some (.ref b) ∧ IsTup s.heap b #[.ref q.2.1, q.2.2] ∧ (tupleKind (mixKind prog w)).is s.heap q.1 q.2.1)
    (h : ∀ h' tk, h'.DictOfH (tupleKind (mixKind prog w)) s.heap.objs.size (mergedH [] prs) → (∀ b o, s.heap.get? b = some o → h'.get? b = some o) → Q (.ref s.heap.objs.size) { s with heap := h', toks := tk }) :
    wpAny (model prog w) A (call (.type "dict") [.ref l]) Q E s := by
  refine callType_codes (Q₁ := fun obj s₁ => obj = .ref s.heap.objs.size ∧ s₁ = { s with heap := s.heap.push { cls := .type "dict", data := .dict #[] } }) PySem.F.kt_called_dict (PySem.F.kt_typeCall_dict_1 _) PySem.F.entry_dict_init (kt_code_dict_new _ ⟨rfl, rfl⟩) ?_
  rintro obj s₁ ⟨rfl, rfl⟩
  have hnew : (s.heap.push { cls := .type "dict", data := .dict #[] }).DictOfH (tupleKind (mixKind prog w)) s.heap.objs.size [] := Heap.DictOfH.new s.heap
  have k0 : ∀ b o, s.heap.get? b = some o → (s.heap.push { cls := .type "dict", data := .dict #[] }).get? b = some o := fun b o e => Heap.get?_push_of_some _ e
  have htn : ({ s with heap := s.heap.push { cls := .type "dict", data := .dict #[] } } : Shared).TypeIs (.ref s.heap.objs.size) "dict" := Heap.DictOfH.typeIs (s := { s with heap := s.heap.push { cls := .type "dict", data := .dict #[] } }) hnew
  refine ⟨htn, PySem.F.args_dict_init_2 _ _, ?_⟩
  unfold Builtin.«dict.__init__»
  refine wpAny_bind ?_
  unfold Builtin.Dict.selfAndRest
  refine wpAny_bind (wpAny_notOrdered_dict htn ?_)
  show wpAny _ _ (pure (s.heap.objs.size, [Value.ref l])) _ _ _
  refine wpAny_pure ?_
  show wpAny _ _ (Builtin.Dict.updateFrom "dict.__init__" s.heap.objs.size (.ref l) [] .none) _ _ _
  unfold Builtin.Dict.updateFrom
  refine wpAny_bind (wpAny_typeOf (T := "list") ⟨ol, k0 _ _ hl, hc⟩ ?_)
  rw [if_pos (by first | decide | rfl | simp)]
  refine wpAny_bind (miss_list (k0 _ _ hl) hc hdat hd hh fun h1 tk1 hk1 => ?_)
  rw [if_pos (show (none : Option Value).isNone = true from rfl)]
  refine wpAny_bind (wpAny_rule ?_)
  have hl1 : h1.IsList l items := ⟨ol, hk1 _ _ (k0 _ _ hl), hc, n, hdat⟩
  have hS1 : s.heap.objs.size < h1.objs.size := by
    have e : (s.heap.push { cls := .type "dict", data := .dict #[] }).get? s.heap.objs.size = some { cls := .type "dict", data := .dict #[] } := Heap.get?_push_size _ rfl
    exact Heap.lt_size (hk1 _ _ e)
  refine wpAny_bind (wpAny_pyIter_list hl1 ?_)
  have k2 : ∀ b o, h1.get? b = some o → (h1.push { cls := .type "list_iterator", data := .fields #[.ref l, .int 0 0] }).get? b = some o := fun b o e => Heap.get?_push_of_some _ e
  have hlt : l < s.heap.objs.size := Heap.lt_size hl
  have hk2 : ∀ b o, s.heap.get? b = some o → (h1.push { cls := .type "list_iterator", data := .fields #[.ref l, .int 0 0] }).get? b = some o := fun b o z => k2 _ _ (hk1 _ _ (k0 _ _ z))
  have key := upd_loopT (prog := prog) (w := w) (A := A.in1) (R := wants (fun r s₂ => r = .none ∧ Q (.ref s.heap.objs.size) s₂) E) (by show A.units + 1 + 1 < cLine; omega) (S := s.heap.objs.size) (I := h1.objs.size) (l := l) (items := items) (res := Value.none) hh
    (Nat.ne_of_lt (Nat.lt_trans hlt hS1)) (Nat.ne_of_lt hS1) (Nat.ne_of_gt hlt) prs 0 [] 0 0
    { s with heap := h1.push { cls := .type "list_iterator", data := .fields #[.ref l, .int 0 0] }, toks := tk1 } (by rw [hsz, Nat.zero_add]) (by rw [List.length_nil, Nat.zero_add]; exact hln)
    (fun j q e => by
      obtain ⟨b, e1, e2, e3⟩ := ht j q e
      have hb : b < s.heap.objs.size := e2.lt
      obtain ⟨o, its, m, g1, g2⟩ := e3
      have hq : q.2.1 < s.heap.objs.size := Heap.lt_size g1
      exact ⟨b, by rw [Nat.zero_add]; exact e1, Nat.ne_of_lt hb, Nat.ne_of_lt (Nat.lt_trans hb hS1), e2.keeps fun c o z => hk2 _ _ z, Nat.ne_of_lt hq, Nat.ne_of_lt (Nat.lt_trans hq hS1), ⟨o, its, m, hk2 _ _ g1, g2⟩⟩)
    (fun x hx => absurd hx List.not_mem_nil)
    ⟨_, Heap.get?_push_size _ rfl, rfl, rfl⟩ (hl1.at fun o e => k2 _ _ e) (by
      obtain ⟨o, es, ep, g1, g2, g3, g4, g5, g6⟩ := hnew
      exact ⟨o, es, ep, k2 _ _ (hk1 _ _ g1), g2, g3, g4, fun x hx => absurd hx List.not_mem_nil, g6⟩)
    (fun h' tk hd' k => ⟨rfl, h h' tk hd' fun b o e => k b o (Nat.ne_of_lt (Heap.lt_size e)) (Nat.ne_of_lt (Nat.lt_trans (Heap.lt_size e) hS1)) (hk2 _ _ e)⟩)
  first
    | exact wpAny_pure ⟨plainId_quiet ud_plain _, key⟩
    | exact wpAny_bind (wpAny_pure (wpAny_pure ⟨plainId_quiet ud_plain _, key⟩))
end
section
variable {X : Cx}
abbrev PT (K : PySem.W.Frag) (H : Hp) (p : Addr) (x : List Key × Addr × V) : Prop := SqT K H p [.ref x.2.1, x.2.2] ∧ H x.2.1 = some (.tup (x.1.map kV))
theorem pairs_ofT {pins : List (Addr × Obj)} {σ : L2.St} {H : Hp} {s : Shared} (I : Inv X pins σ H s) : ∀ {ps : List Addr} {xs : List (List Key × Addr × V)}, Paired (PT X.K H) ps xs →
    ∃ prs : List (List Key × Addr × Value), KT H (xs.map fun x => (x.1, x.2.2)) prs ∧ prs.length = ps.length ∧ ∀ (j : Nat) (q : List Key × Addr × Value), prs[j]? = some q → ∃ b : Addr, ps[j]? = some b ∧ IsTup s.heap b #[.ref q.2.1, q.2.2] ∧ (tupleKind (mixKind X.prog X.w)).is s.heap q.1 q.2.1
  | _, _, .nil => ⟨[], .nil, rfl, fun j q e => by simp at e⟩
  | _, _, .cons (a := p) (b := x) h t => by
    obtain ⟨prs, r, hl, hp⟩ := pairs_ofT I t
    obtain ⟨its, rv, ht, _⟩ := I.tuple h.1
    obtain ⟨u, y, ei, ru, ry⟩ := vals2 rv
    subst ei
    cases (show u = Value.ref x.2.1 from ru)
    refine ⟨(x.1, x.2.1, y) :: prs, .cons ⟨rfl, h.2, ry⟩ r, by rw [List.length_cons, List.length_cons, hl], fun j q e => ?_⟩
    cases j with
    | zero =>
      have e' : (x.1, x.2.1, y) = q := Option.some.inj e
      subst e'
      exact ⟨p, rfl, ht, key_of I.hok h.2⟩
    | succ j =>
      obtain ⟨b, e1, e2, e3⟩ := hp j q (by simpa using e)
      exact ⟨b, by simpa using e1, e2, e3⟩
def rDictT (K : PySem.W.Frag) : RC := fun xs H Q => ∃ (a : Addr) (ps : List Addr) (ys : List (List Key × Addr × V)), xs = [V.ref a] ∧ SqL K H a (ps.map V.ref) ∧ Paired (PT K H) ps ys ∧ ∀ p, H p = none → Q (.ref p) (upd H p (.dT (mergeT [] (ys.map fun x => (x.1, x.2.2)))))
theorem call_dictT (hcalm : X.calm = true) (hu : X.A.units + 3 < cLine) : CallR X (.type "dict") (rDictT X.K) := by
  intro pins s σ H xs us Q I r q
  obtain ⟨a, ps, ys, ex, hq, hp, q⟩ := q
  subst ex
  obtain ⟨u, eu, rx⟩ := vals1 r
  subst eu
  cases rx
  obtain ⟨its, rv, pl, hz⟩ := I.list hq
  have ei := refs_at rv
  subst ei
  rw [List.length_map] at hz
  obtain ⟨prs, rel, hl, hpr⟩ := pairs_ofT I hp
  obtain ⟨o, n, ho, hc, hd, hdat⟩ := pl
  refine call_dict_pairsT (prs := prs) hu (I.ok.hd hcalm) ho hc hd hdat (by simp [hl]) (by rw [hl]; exact hz) (fun j q' e => ?_) fun h' tk hd' k => ?_
  · obtain ⟨b, e1, e2, e3⟩ := hpr j q' e
    exact ⟨b, by simp [e1], e2, e3⟩
  · have hm : (s.heap.objs.size == sysModules) = false := beq_eq_false_iff_ne.mpr (Nat.ne_of_gt I.big)
    have hlen : (mergeT [] (ys.map fun x => (x.1, x.2.2))).length ≤ sizeLine := by
      refine Nat.le_trans (length_mergeT _ []) ?_
      have e := Paired.length rel
      rw [List.length_nil, Nat.zero_add, e, hl]
      exact hz
    have hfr : H s.heap.objs.size = none := I.hok.fresh (Nat.le_refl _)
    obtain ⟨q1, es, ep, hq1, k2, k3, k4, _, k5⟩ := hd'
    have kt : KT (upd H s.heap.objs.size (.dT (mergeT [] (ys.map fun x => (x.1, x.2.2))))) (mergeT [] (ys.map fun x => (x.1, x.2.2))) (mergedH [] prs) := (KT.merge rel .nil).keeps fun c zs ec => by
      rw [upd_ne (fun z => by rw [z, hfr] at ec; cases ec)]
      exact ec
    exact ⟨.ref s.heap.objs.size, upd H s.heap.objs.size (.dT (mergeT [] (ys.map fun x => (x.1, x.2.2)))), I.laid (t' := tk) k (Nat.le_refl _) (show ObjOk X.prog X.w _ _ _ (.dT (mergeT [] (ys.map fun x => (x.1, x.2.2)))) from ⟨hlen, hm, _, kt, q1, es, ep, hq1, k2, k3, k4, k5⟩), rfl, q _ hfr⟩
end
def pairsT : List D → Option (List (List Key) × List D)
  | [] => some ([], [])
  | .tup [.tup k, v] :: ds => match keysOf k, pairsT ds with
    | some k', some (ks, vs) => some (k' :: ks, v :: vs)
    | _, _ => none
  | _ => none
def mergeLT : List (List Key) → List D → List (List Key) → List D → List (List Key) × List D
  | ks, ds, k :: ms, m :: mds => mergeLT (putD ks ds k m).1 (putD ks ds k m).2 ms mds
  | ks, ds, _, _ => (ks, ds)
def gDictT : List D → Option R
  | [.lst ds] => match pairsT ds with
    | some (ks, vs) => some (.own (.dT (mergeLT [] [] ks vs).1 (mergeLT [] [] ks vs).2))
    | none => none
  | _ => none
section
variable {M : Gm} {c : Cn M} {W : WX} {X : Cx} {e : Expr} {F H : Hp} {σ : L2.St} {δ : Sl} {fa : FA} {p pos : Pos}
theorem pairsT_v (s : Same F H) : ∀ {ds : List D} {vs : List V} {ks : List (List Key)} {es : List D}, reps M F ds vs → pairsT ds = some (ks, es) → ∃ (ps : List Addr) (xs : List (List Key × Addr × V)), vs = ps.map V.ref ∧ Paired (PT M.K H) ps xs ∧ xs.map (·.1) = ks ∧ reps M F es (xs.map (·.2.2))
  | [], vs, ks, es, r, e => by
    unfold reps at r
    subst r
    unfold pairsT at e
    cases e
    exact ⟨[], [], rfl, .nil, rfl, reps_nil⟩
  | d :: ds, vs, ks, es, r, e => by
    unfold pairsT at e
    split at e
    · cases ‹_ :: _ = []›
    · rename_i k v ds' eq
      cases eq
      unfold reps at r
      obtain ⟨u, r', rfl, h1, h2⟩ := r
      split at e
      · rename_i k' ks' es' e1 e2
        cases e
        obtain ⟨ps, xs, rfl, q1, q2, q3⟩ := pairsT_v s h2 e2
        unfold rep at h1
        obtain ⟨a, ws, rfl, k1, k2⟩ := h1
        unfold reps at k2
        obtain ⟨u1, r1, rfl, k3, k4⟩ := k2
        unfold reps at k4
        obtain ⟨u2, r2, rfl, k5, k6⟩ := k4
        unfold reps at k6
        subst k6
        obtain ⟨b, rfl, hb⟩ := prep_tupK (H := H) s (.inl k3) e1
        exact ⟨a :: ps, (k', b, u2) :: xs, rfl, .cons ⟨SqT.of (s _ _ k1), hb⟩ q1, by rw [List.map_cons, q2], reps_cons k5 q3⟩
      · cases e
    · cases e
theorem mergeT_v : ∀ {more : List (List Key × V)} {mds : List D}, reps M F mds (more.map (·.2)) → ∀ {kvs : List (List Key × V)} {ds : List D}, reps M F ds (kvs.map (·.2)) →
    (mergeT kvs more).map (·.1) = (mergeLT (kvs.map (·.1)) ds (more.map (·.1)) mds).1 ∧ reps M F (mergeLT (kvs.map (·.1)) ds (more.map (·.1)) mds).2 ((mergeT kvs more).map (·.2))
  | [], mds, r, kvs, ds, h => by
    have : mds = [] := by
      cases mds with
      | nil => rfl
      | cons a b => unfold reps at r; obtain ⟨_, _, z, _⟩ := r; cases z
    subst this
    exact ⟨rfl, h⟩
  | kv :: more, mds, r, kvs, ds, h => by
    cases mds with
    | nil => unfold reps at r; cases r
    | cons m mds =>
      unfold reps at r
      obtain ⟨v, r', z, h1, h2⟩ := r
      cases z
      obtain ⟨q1, q2⟩ := putD_v h1 kv.1 h
      obtain ⟨q3, q4⟩ := mergeT_v h2 q2
      rw [q1] at q3 q4
      exact ⟨q3, q4⟩
theorem cd_dictT : CallD M (rDictT M.K) gDictT := by
  intro c F H σ δ xs ds z Q ok pxs e q
  unfold gDictT at e
  split at e
  · rename_i ds'
    split at e
    · rename_i ks vs ep
      cases e
      obtain ⟨x, rfl, px⟩ := p1 pxs
      obtain ⟨a, ws, rfl, h2, h3⟩ := prep_lst ok.same px
      obtain ⟨ps, ys, rfl, q1, q2, q3⟩ := pairsT_v ok.same h3 ep
      refine ⟨a, ps, ys, rfl, SqL.of h2, q1, fun p hp => ?_⟩
      have q3' : reps M F vs ((ys.map fun x => (x.1, x.2.2)).map (·.2)) := by rw [List.map_map]; exact q3
      have q2' : (ys.map fun x => (x.1, x.2.2)).map (·.1) = ks := by rw [List.map_map]; exact q2
      obtain ⟨m1, m2⟩ := mergeT_v (kvs := []) (ds := []) q3' reps_nil
      rw [q2'] at m1 m2
      exact q _ F _ (Same.refl _) (ok.alloc hp) (ok.made hp ⟨_, upd_same, m1, m2⟩)
    · cases e
  · cases e
end
abbrev BodyOk (M : Gm) (P : Program) (w : World) (K : PySem.W.Frag) (mg : Str → Option Value) (base : Heap) (lv : Nat) (q : Str) (st : Stmt) (ad : Addr) (ns : List Str) (g : FS) : Prop :=
  ∀ (cdv : Value) (A : Around) (outer : List Env) (s : Shared) (H : Hp) (E : XK), TS.Room lv (A.deeper (PyProof.Rows.envOfC q (defScope st) s.heap.objs.size ad cdv)) → Takes (cxOf (L2.CX P w) P w K mg base ns q (defScope st) ad cdv A outer s H E) (fun cls d _ H => E cls d H) →
    PassesOwn (model P w) (A.deeper (PyProof.Rows.envOfC q (defScope st) s.heap.objs.size ad cdv)) (PyProof.Rows.envOfC q (defScope st) s.heap.objs.size ad cdv) (cxOf (L2.CX P w) P w K mg base ns q (defScope st) ad cdv A outer s H E).xe →
    DSs M (fun cls d _ H => E cls d H) (cxOf (L2.CX P w) P w K mg base ns q (defScope st) ad cdv A outer s H E) (defBody st) g
abbrev DefOk (M : Gm) (P : Program) (w : World) (K : PySem.W.Frag) (mg : Str → Option Value) (base : Heap) (n : Nat) (nm q : Str) (st : Stmt) (dv : List V) (ad : Addr) (ps : List Str) (m : Fm) : Prop :=
  ∃ fd, FunD K nm q (defArgs st) (defBody st) (defScope st) dv [] ad fd ∧ TS.FnOk P w K mg base (L2.CX P w) n ad fd ps (spD M m)
end
end TS

namespace TS
open PySem L2 PySem.Spec PyProof.Rows PySem.SeqAt
noncomputable section
section
variable {prog : Program} {w : World} {A : Around} {s : Shared}
end
section
variable {X : Cx}
end
section
variable {M : Gm} {W : WX} {X : Cx} {a b : Expr} {pos : Pos} {fa fb : FD} {k i : Nat}
end
end
end TS

namespace TS
open PySem L2
noncomputable section
def pD : D ⊕ OB → D
  | .inl d => d
  | .inr o => o.toD
def pL : D ⊕ OB → Bool
  | .inl _ => true
  | .inr o => !o.dic
def nstD (tp : Bool) (ps : List (D ⊕ OB)) : D := if tp then .tup (ps.map pD) else .lst (ps.map pD)
def seeR : R → Option R
  | .imm d => some (.imm d)
  | .own o => if o.dic then none else some (.imm o.toD)
  | .brw o => if o.dic then none else some (.imm o.toD)
  | .nst tp ps => if ps.all pL then some (.imm (nstD tp ps)) else none
def seeS (δ : Sl) : Sl := δ.map fun x => x.bind seeR
def flatO : OB → Bool
  | .l ds => ds.all flatD
  | _ => false
def flatQ : R → Bool
  | .imm d => flatD d
  | .own o => flatO o
  | _ => false
def fSee (f : FE) : FE := fun δ => match f (seeS δ) with
  | .ok r _ => if flatQ r then .ok r δ else .bad
  | _ => .bad
def tSee (f : FT) : FT := fun δ => match f (seeS δ) with
  | .ok b _ => .ok b δ
  | _ => .bad
section
variable {M : Gm} {c : Cn M} {W : WX} {X : Cx} {F H F' H' : Hp} {σ : L2.St} {δ : Sl}
def ndOf : List R → List (D ⊕ OB)
  | .imm d :: rs => .inl d :: ndOf rs
  | .own o :: rs => .inr o :: ndOf rs
  | _ :: rs => .inl .non :: ndOf rs
  | [] => []
def fNst (f : FX) : FE := fun δ => (f δ).bind fun rs δ1 => if (ndOf rs).length ≤ 16777216 then .ok (.nst false (ndOf rs)) δ1 else .bad
def fNstT (f : FX) : FE := fun δ => (f δ).bind fun rs δ1 => if (ndOf rs).length ≤ 16777216 then .ok (.nst true (ndOf rs)) δ1 else .bad
structure CLe (c c' : Cn M) : Prop where
  F0 : c'.F0 = c.F0
  io : c'.io = c.io
  H0 : ∀ b o, c.H0 b = some o → c'.H0 b = some o
theorem CLe.refl (c : Cn M) : CLe c c := ⟨rfl, rfl, fun _ _ e => e⟩
theorem CLe.none {c c' : Cn M} (l : CLe c c') {b : Addr} (h : c'.H0 b = none) : c.H0 b = none := by
  cases e : c.H0 b with
  | none => rfl
  | some o => rw [l.H0 b o e] at h; cases h
def kill1 : Option R → Option R
  | some (.nst _ _) => none
  | x => x
def killN (δ : Sl) : Sl := δ.map kill1
theorem kill_get {i : Nat} {r : R} (e : (killN δ)[i]? = some (some r)) : δ[i]? = some (some r) ∧ ∀ tp ps, r ≠ .nst tp ps := by
  unfold killN at e
  rw [List.getElem?_map] at e
  obtain ⟨x, e1, e2⟩ := Option.map_eq_some_iff.mp e
  cases x with
  | none => cases e2
  | some r0 =>
    cases r0 with
    | imm d => cases e2; exact ⟨e1, fun _ _ z => by cases z⟩
    | own d => cases e2; exact ⟨e1, fun _ _ z => by cases z⟩
    | brw d => cases e2; exact ⟨e1, fun _ _ z => by cases z⟩
    | nst _ _ => cases e2
theorem Ok.weak {c c' : Cn M} (l : CLe c c') (ok : Ok c' F H σ δ) : Ok c F H σ (killN δ) where
  same := ok.same
  grow := l.F0 ▸ ok.grow
  nofz := fun b e1 e2 => by
    refine ok.nofz b (fun z => e1 (l.none z)) (by rw [l.F0]; exact e2)
  kept := fun b o e hi => ok.kept b o (l.H0 b o e) (by rw [l.io]; exact hi)
  ioh := fun a e => ok.ioh a (by rw [l.io]; exact e)
  tb := ok.tb
  len := by unfold killN; rw [List.length_map]; exact ok.len
  slot := fun i r e => by
    obtain ⟨e1, hn⟩ := kill_get e
    obtain ⟨v, h1, h2⟩ := ok.slot i r e1
    refine ⟨v, h1, ?_⟩
    cases r with
    | imm d => exact h2
    | own o =>
      obtain ⟨a, rfl, k1, k2, k3⟩ := h2
      exact ⟨a, rfl, k1, l.none k2, k3⟩
    | brw o =>
      obtain ⟨a, rfl, k1, k2, k3⟩ := h2
      exact ⟨a, rfl, k1, by rw [← l.io]; exact k2, k3⟩
    | nst tp ps => exact absurd rfl (hn tp ps)
  dist := fun i j r r' v hij e1 e2 m1 m2 s1 s2 => ok.dist i j r r' v hij (kill_get e1).1 (kill_get e2).1 m1 m2 s1 s2
theorem repR_weak {c c' : Cn M} (l : CLe c c') {r : R} {v : V} (h : repR c' F H σ δ r v) : repR c F H σ (killN δ) r v := by
  have key : ∀ a : Addr, (∀ (i : Nat) (r : R), δ[i]? = some (some r) → r.mu = true → σ[i]? ≠ some (some (V.ref a))) → ∀ (i : Nat) (r : R), (killN δ)[i]? = some (some r) → r.mu = true → σ[i]? ≠ some (some (V.ref a)) := fun a h i r e m => h i r (kill_get e).1 m
  cases r with
  | imm d => exact h
  | own o => obtain ⟨a, rfl, k1, k2, k3, k4⟩ := h; exact ⟨a, rfl, k1, l.none k2, k3, key a k4⟩
  | brw o => exact h
  | nst tp ps => obtain ⟨a, vs, k1, k2, k3⟩ := h; exact ⟨a, vs, k1, k2, fun b hb => ⟨(k3 b hb).1, l.none (k3 b hb).2.1, key b (k3 b hb).2.2⟩⟩
def SR.kill : SR → SR
  | .nx δ => .nx (killN δ)
  | .rt r δ => .rt r (killN δ)
  | .bk δ => .bk (killN δ)
  | .ct δ => .ct (killN δ)
  | .exc x δ => .exc x (killN δ)
  | .bad => .bad
theorem PostS.weak {c c' : Cn M} (l : CLe c c') {r : SR} {E : Ends} (h : PostS c W F r.kill E) : PostS c' W F r E := by
  cases r with
  | nx δ => exact fun F' H' σ' s ok => h F' H' σ' s (ok.weak l)
  | rt r δ => exact fun v F' H' σ' s ok rr => h v F' H' σ' s (ok.weak l) (repR_weak l rr)
  | bk δ => exact fun F' H' σ' s ok => h F' H' σ' s (ok.weak l)
  | ct δ => exact fun F' H' σ' s ok => h F' H' σ' s (ok.weak l)
  | exc x δ => exact fun cls d F' H' σ' s ok xa => h cls d F' H' σ' s (ok.weak l) xa
  | bad => exact h
end
end
end TS

namespace TS
open PySem L2
noncomputable section
section
variable {X : Cx} {M : Gm} {W : WX} {a b : Expr} {fa fb : FD} {pos : Pos} {k : Nat}
def gDictA : List D → Option R := gcOr gDict gDictT
theorem b_dictA {e : Expr} {p : Pos} {fa : FA} (hr : Room k X.A) (hc : X.calm = true) (hg : Gl X "dict") (hm : X.mg "dict" = none) (ha : DB M W X [e] fa) (hK : X.K = M.K := by rfl) (he : starEach (e :: []) X.env = (false, eval e X.env) :: starEach [] X.env := by rfl) (hpl : (backTo pos (starEach [] X.env)).any (·.1) = false := by rfl) : DE M W X (.Call (.Name "dict" p) [e] [] pos) (fCal gDictA fa) := by
  have cr : CallR X (.type "dict") (fun xs H Q => rDict M.K xs H Q ∨ rDictT M.K xs H Q) := by rw [← hK]; exact CallR.or (call_dictPD hc) (call_dictT hc (by have := hr.lo.un; omega))
  exact e_t cr (CallD.or cd_dict cd_dictT) bt_dict hg hm ha (by decide) (by decide) he hpl
end
end
end TS

namespace TS
open PySem L2
noncomputable section
mutual
def toPt : D → Option PyData
  | .non => some .none
  | .bl b => some (.bool b)
  | .int i => some (.int i)
  | .str x => some (.str x)
  | .lst ds => (toPts ds).map PyData.list
  | .tup ds => (toPts ds).map PyData.tuple
  | .ktp ns => some (.tuple (ns.map PyData.int))
  | .dK ks ds => (toPts ds).map fun ps => PyData.dict ((ks.map kP).zip ps)
  | .dT ks ds => (toPts ds).map fun ps => PyData.dict ((ks.map fun k => PyData.tuple (k.map kP)).zip ps)
  | _ => none
def toPts : List D → Option (List PyData)
  | [] => some []
  | d :: ds => (toPt d).bind fun p => (toPts ds).map fun ps => p :: ps
end
theorem toPts_len : ∀ {ds : List D} {ps : List PyData}, toPts ds = some ps → ps.length = ds.length
  | [], ps, h => by unfold toPts at h; cases h; rfl
  | d :: ds, ps, h => by
    unfold toPts at h
    obtain ⟨p, _, h⟩ := Option.bind_eq_some_iff.mp h
    obtain ⟨ps', h1, rfl⟩ := Option.map_eq_some_iff.mp h
    simp [toPts_len h1]
theorem kt_vals {H : Hp} : ∀ {kvs : List (List Key × V)} {xs : List (List Key × Addr × Value)}, KT H kvs xs → Vals (kvs.map (·.2)) (xs.map (·.2.2)) ∧ kvs.map (·.1) = xs.map (·.1)
  | _, _, .nil => ⟨.nil, rfl⟩
  | _, _, .cons h t => by
    obtain ⟨h1, h2⟩ := kt_vals t
    exact ⟨.cons h.2.2 h1, by rw [List.map_cons, List.map_cons, h.1, h2]⟩
theorem items_reads {w : World} {P : Program} {h : Heap} : ∀ {ks : List Key} {us : List Value}, ItemsAre (mixKind P w) ks us → ReadsAll h us (ks.map kP) []
  | _, _, .nil => .nil
  | _, _, .cons (k := k) (v := v) q t => by
    have r := items_reads (h := h) t
    have h1 : ∃ as, Reads h v (kP k) as ∧ as = [] := by
      rcases keyIs_shape q with ⟨i, u, h1, h2⟩ | ⟨x, u, h1, h2⟩
      · rw [h1, h2]; exact ⟨_, .int i u, rfl⟩
      · rw [h1, h2]; exact ⟨_, .str x u, rfl⟩
    obtain ⟨as, h1, rfl⟩ := h1
    exact ReadsAll.cons h1 r
theorem tkeys_read {w : World} {P : Program} {h : Heap} : ∀ (xs : List (List Key × Addr × Value)), (∀ x ∈ xs, (tupleKind (mixKind P w)).is h x.1 x.2.1) → ReadsAll h (xs.map fun x => Value.ref x.2.1) ((xs.map (·.1)).map fun k => PyData.tuple (k.map kP)) []
  | [], _ => .nil
  | x :: xs, q => by
    have r := tkeys_read xs fun y hy => q y (List.mem_cons_of_mem _ hy)
    obtain ⟨o, items, n, h1, h2, h3, h4⟩ := q x List.mem_cons_self
    exact ReadsAll.cons (Reads.tuple h1 h2 h3 (items_reads h4)) r
section
variable {M : Gm} {F H : Hp} {X : Cx} {pins : List (Addr × Obj)} {σ : St} {s : Shared}
mutual
theorem rep_readsT (I : Inv X pins σ H s) (hs : Same F H) (hK : X.K = M.K) (sm : SmK X.K) : ∀ (d : D) (v : V) (u : Value) (p : PyData), rep M F d v → toPt d = some p → RelV v u → ∃ as, Reads s.heap u p as ∧ sysModules ∉ as
  | .non, v, u, p, h, e, r => by
    unfold rep at h; unfold toPt at e; cases e; subst h; cases r
    exact ⟨_, .none, by simp⟩
  | .bl b, v, u, p, h, e, r => by
    unfold rep at h; unfold toPt at e; cases e; subst h; cases r
    exact ⟨_, .bool b, by simp⟩
  | .int i, v, u, p, h, e, r => by
    unfold rep at h; unfold toPt at e; cases e; subst h; obtain ⟨t, rfl⟩ := r
    exact ⟨_, .int i t, by simp⟩
  | .str x, v, u, p, h, e, r => by
    unfold rep at h; unfold toPt at e; cases e; subst h; obtain ⟨t, rfl⟩ := r
    exact ⟨_, .str x t, by simp⟩
  | .lst ds, v, u, p, h, e, r => by
    unfold rep at h; unfold toPt at e
    obtain ⟨a, vs, rfl, h2, h3⟩ := h
    obtain ⟨ps, e1, rfl⟩ := Option.map_eq_some_iff.mp e
    cases r
    obtain ⟨its, rv, ⟨o, n, ho, hc, _, hd⟩, _⟩ := I.list (SqL.of (K := X.K) (hs _ _ h2))
    obtain ⟨as, k1, k2⟩ := reps_readsT I hs hK sm ds vs its ps h3 e1 rv
    refine ⟨_, Reads.list ho hc hd k1, fun z => ?_⟩
    rcases List.mem_cons.mp z with z | z
    · obtain ⟨o2, q1, q2⟩ := sm
      have := I.kIn _ _ q1
      rw [z, ho] at this
      have e3 := Option.some.inj this
      rw [← e3, hc] at q2
      injection q2 with q3
      exact absurd q3 (by decide)
    · exact k2 z
  | .tup ds, v, u, p, h, e, r => by
    unfold rep at h; unfold toPt at e
    obtain ⟨a, vs, rfl, h2, h3⟩ := h
    obtain ⟨ps, e1, rfl⟩ := Option.map_eq_some_iff.mp e
    cases r
    obtain ⟨its, rv, ⟨o, ho, hc, n, hd⟩, _⟩ := I.tuple (SqT.of (K := X.K) (hs _ _ h2))
    obtain ⟨as, k1, k2⟩ := reps_readsT I hs hK sm ds vs its ps h3 e1 rv
    exact ⟨_, Reads.tuple ho hc hd k1, k2⟩
  | .dK ks ds, v, u, p, h, e, r => by
    unfold rep at h; unfold toPt at e
    obtain ⟨a, od, kvs, rfl, h2, h3, h4⟩ := h
    obtain ⟨ps, e1, rfl⟩ := Option.map_eq_some_iff.mp e
    cases r
    obtain ⟨_, hsm, vs, kv, o, es, ep, ho, hx, hd, _, hp, _⟩ := dk_rd I.hok (.inr ⟨od, hs _ _ h2⟩)
    obtain ⟨rv, ek⟩ := kv_vals kv
    rw [← pairs_vals hp] at rv
    obtain ⟨as, k1, k2⟩ := reps_readsT I hs hK sm ds _ _ ps h4 e1 rv
    have kk := pairs_keys (s := s) hp
    rw [← ek, h3] at kk
    have hl : ps.length = ks.length := by
      rw [toPts_len e1, ← reps_length h4, ← h3]; simp
    refine ⟨_, Reads.dict ho hx.1 hd (kvs := (ks.map kP).zip ps) (as := []) (bs := as) ?_ ?_, ?_⟩
    · rw [List.map_fst_zip (by simp [hl])]; exact kk
    · rw [List.map_snd_zip (by simp [hl])]; exact k1
    · intro z
      simp only [List.append_nil, List.cons_append, List.nil_append, List.mem_cons] at z
      rcases z with z | z
      · rw [← z] at hsm; simp at hsm
      · exact k2 z
  | .scr ds, v, u, p, h, e, r => by unfold toPt at e; cases e
  | .dT ks ds, v, u, p, h, e, r => by
    unfold rep at h; unfold toPt at e
    obtain ⟨a, od, kvs, rfl, h2, h3, h4⟩ := h
    obtain ⟨ps, e1, rfl⟩ := Option.map_eq_some_iff.mp e
    cases r
    obtain ⟨_, hsm, xs, kt, o, es, ep, ho, hx, hd, he, hk, _⟩ := dt_rd I.hok (.inr ⟨od, hs _ _ h2⟩)
    obtain ⟨rv, ek⟩ := kt_vals kt
    have ev : es.toList.map (·.val) = xs.map (·.2.2) := by rw [he, List.map_map]; rfl
    rw [← ev] at rv
    obtain ⟨as, k1, k2⟩ := reps_readsT I hs hK sm ds _ _ ps h4 e1 rv
    have kk := tkeys_read (h := s.heap) xs hk
    rw [← ek, h3] at kk
    have ee : es.toList.map (·.key) = xs.map fun x => Value.ref x.2.1 := by rw [he, List.map_map]; rfl
    rw [← ee] at kk
    have hl : ps.length = ks.length := by
      rw [toPts_len e1, ← reps_length h4, ← h3]; simp
    refine ⟨_, Reads.dict ho hx.1 hd (kvs := (ks.map fun k => PyData.tuple (k.map kP)).zip ps) (as := []) (bs := as) ?_ ?_, ?_⟩
    · rw [List.map_fst_zip (by simp [hl])]; exact kk
    · rw [List.map_snd_zip (by simp [hl])]; exact k1
    · intro z
      simp only [List.append_nil, List.cons_append, List.nil_append, List.mem_cons] at z
      rcases z with z | z
      · rw [← z] at hsm; simp at hsm
      · exact k2 z
  | .obj _ ds, v, u, p, h, e, r => by unfold toPt at e; cases e
  | .cls _, v, u, p, h, e, r => by unfold toPt at e; cases e
  | .lam, v, u, p, h, e, r => by unfold toPt at e; cases e
  | .ktp ns, v, u, p, h, e, r => by
    unfold rep at h; unfold toPt at e; cases e
    obtain ⟨a, rfl, h2⟩ := h
    cases r
    obtain ⟨its, rv, ⟨o, ho, hc, n, hd⟩, _⟩ := I.tuple (a := a) (xs := ns.map V.int) (by rw [hK]; exact ktup_sq h2)
    obtain ⟨as, k1, k2⟩ := ints_reads (s := s) ns its rv
    exact ⟨_, Reads.tuple ho hc hd k1, k2⟩
theorem reps_readsT (I : Inv X pins σ H s) (hs : Same F H) (hK : X.K = M.K) (sm : SmK X.K) : ∀ (ds : List D) (vs : List V) (us : List Value) (ps : List PyData), reps M F ds vs → toPts ds = some ps → Vals vs us → ∃ as, ReadsAll s.heap us ps as ∧ sysModules ∉ as
  | [], vs, us, ps, h, e, r => by
    unfold reps at h; unfold toPts at e; cases e; subst h; cases r
    exact ⟨_, .nil, by simp⟩
  | d :: ds, vs, us, ps, h, e, r => by
    unfold reps at h; unfold toPts at e
    obtain ⟨v, vs', rfl, h1, h2⟩ := h
    obtain ⟨p, e1, e⟩ := Option.bind_eq_some_iff.mp e
    obtain ⟨ps', e2, rfl⟩ := Option.map_eq_some_iff.mp e
    cases r with
    | cons r1 r2 =>
      obtain ⟨as, k1, k2⟩ := rep_readsT I hs hK sm d v _ p h1 e1 r1
      obtain ⟨bs, k3, k4⟩ := reps_readsT I hs hK sm ds vs' _ ps' h2 e2 r2
      exact ⟨_, .cons k1 k3, by simp [k2, k4]⟩
end
end
def gReprT (d : D) : Option Str := match toPt d with
  | some p => if shOkD p then some p.shown else none
  | none => none
def fReprT (fa : FD) : FD := fun δ => (fa δ).bind fun d δ1 => match gReprT d with
  | some x => .ok (.str x) δ1
  | none => .bad
section
variable {X : Cx} {M : Gm} {W : WX} {e : Expr} {fa : FD} {p pos : Pos}
theorem call_reprT {k : Nat} (hr : Room k X.A) {F H : Hp} {d : D} {q : PyData} {x : V} (hs : Same F H) (hK : X.K = M.K) (sm : SmK X.K) (rx : rep M F d x) (hd : toPt d = some q) (ho : shOkD q = true) {pins : List (Addr × Obj)} {s : Shared} {σ : St} {u : Value} {Q : VK} (I : Inv X pins σ H s) (ru : RelV x u) (h : Q (.str q.shown) H) :
    wpAny (model X.prog X.w) X.A (call (.builtin "repr") [u]) (EP X pins σ Q) X.xe s := by
  obtain ⟨h1, h3, h4⟩ := of_gd ho
  obtain ⟨as, rd, na⟩ := rep_readsT I hs hK sm d x u q rx hd ru
  have hu := hr.units
  have fin : ∀ (h' : Heap) (t : Tok) (tk : Nat), (∀ b o, s.heap.get? b = some o → h'.get? b = some o) → EP X pins σ Q (.str q.shown t) { s with heap := h', toks := tk } := fun h' t tk kp => ⟨.str _, H, I.kept kp, ⟨_, rfl⟩, h⟩
  cases rd with
  | none => exact PySem.P.repr_of_none ⟨.str _, H, I.tok _, ⟨_, rfl⟩, h⟩
  | bool b => exact PySem.P.repr_of_bool ⟨.str _, H, I.tok _, ⟨_, rfl⟩, h⟩
  | int i t => exact PySem.P.repr_of_int (of_decide_eq_true h1) ⟨.str _, H, I.tok _, ⟨_, rfl⟩, h⟩
  | str y t => exact PySem.P.repr_of_str ⟨.str _, H, I.tok _, ⟨_, rfl⟩, h⟩ h4
  | list a1 a2 a3 a4 => exact repr_of_reads' (.list a1 a2 a3 a4) h1 (fun _ => na) hr.gu (by omega) (fun _ _ e => e) (fun h' u tk kp => fin h' u tk kp) h4
  | tuple a1 a2 a3 a4 => exact repr_of_reads' (.tuple a1 a2 a3 a4) h1 (fun _ => na) hr.gu (by omega) (fun _ _ e => e) (fun h' u tk kp => fin h' u tk kp) h4
  | dict a1 a2 a3 a4 a5 => exact repr_of_reads' (.dict a1 a2 a3 a4 a5) h1 (fun _ => na) hr.gu (by omega) (fun _ _ e => e) (fun h' u tk kp => fin h' u tk kp) h4
theorem b_reprT {k : Nat} (sm : SmK X.K) (hr : Room k X.A) (hg : Gl X "repr") (hm : X.mg "repr" = none) (ha : DI M W X e fa) (hK : X.K = M.K := by rfl) (he : starEach (e :: []) X.env = (false, eval e X.env) :: starEach [] X.env := by rfl) (hpl : (backTo pos (starEach [] X.env)).any (·.1) = false := by rfl) : DI M W X (.Call (.Name "repr" p) [e] [] pos) (fReprT fa) := by
  obtain ⟨t, pt, ha⟩ := ha
  let r : List V → Hp → VK → Prop := fun xs H Q => ∃ (F : Hp) (d : D) (x : V) (q : PyData), xs = [x] ∧ Same F H ∧ rep M F d x ∧ toPt d = some q ∧ shOkD q = true ∧ Q (.str q.shown) H
  have cr : CallR X (.builtin "repr") r := by
    rintro pins s σ H xs us Q I rv ⟨F, d, x, q, rfl, hs, rx, hd, ho, h⟩
    obtain ⟨u, rfl, ru⟩ := vals1 rv
    exact call_reprT hr hs hK sm rx hd ho I ru h
  refine ⟨_, pe_callB cr hg hm bt_repr (pa_cons pt pa_nil he) (by decide) (by decide) he hpl, fun c F H σ δ Q ok post => ?_⟩
  refine ha c F H σ δ _ ok (Post.bind post fun d δ1 v F1 H1 _ s1 ok1 rr post => ?_)
  unfold gReprT at post
  split at post
  · rename_i x q
    split at q
    · rename_i p' hp'
      split at q
      · rename_i hsh
        cases q
        exact ⟨F1, d, v, p', rfl, ok1.same, rr, hp', hsh, post.ok ok1 (rep_str' _)⟩
      · cases q
    · cases q
  · exact post.elim
end
end
end TS

namespace TS
open PySem L2
noncomputable section
section
variable {α β : Type} (δ : Sl)
@[simp] theorem Res.bind_bad (k : α → Sl → Res β) : (Res.bad : Res α).bind k = .bad := rfl
@[simp] theorem Res.bindS_bad (k : α → Sl → SR) : (Res.bad : Res α).bindS k = .bad := rfl
@[simp] theorem SR.bind_bk (k : Sl → SR) : (SR.bk δ).bind k = .bk δ := rfl
@[simp] theorem SR.bind_ct (k : Sl → SR) : (SR.ct δ).bind k = .ct δ := rfl
@[simp] theorem SR.bind_bad (k : Sl → SR) : (SR.bad).bind k = .bad := rfl
@[simp] theorem ap_kD (d : D) : kD d δ = .ok d δ := id rfl
@[simp] theorem ap_toE (f : FD) : toE f δ = (f δ).bind fun d δ => .ok (.imm d) δ := id rfl
@[simp] theorem ap_frz (f : FE) : frz f δ = (f δ).bind fun r δ => match r with | .imm d => .ok d δ | .own o => .ok o.toD δ | .brw _ => .bad | .nst _ _ => .bad := id rfl
@[simp] theorem ap_fBin (g : D → D → Option R) (fa fb : FD) : fBin g fa fb δ = (fa δ).bind fun x δ1 => (fb δ1).bind fun y δ2 => match g x y with | some z => .ok z δ2 | none => .bad := id rfl
@[simp] theorem ap_fBinV (g : D → D → Option R) (i : Nat) (fb : FD) : fBinV g i fb δ = if there δ i then (fb δ).bind fun y δ1 => (vP i δ1).bind fun x δ2 => match g x y with | some z => .ok z δ2 | none => .bad else .bad := id rfl
@[simp] theorem ap_aNil : aNil δ = .ok [] δ := id rfl
@[simp] theorem ap_aCons (f : FD) (g : FA) : aCons f g δ = (f δ).bind fun d δ1 => (g δ1).bind fun ds δ2 => .ok (d :: ds) δ2 := id rfl
@[simp] theorem ap_aOne (f : FD) : aOne f δ = (f δ).bind fun d δ1 => .ok [d] δ1 := id rfl
@[simp] theorem ap_fCal (g : List D → Option R) (fa : FA) : fCal g fa δ = (fa δ).bind fun ds δ1 => match g ds with | some z => .ok z δ1 | none => .bad := id rfl
@[simp] theorem ap_fTst (f : FE) : fTst f δ = (f δ).bind fun r δ => match r with | .imm (.bl b) => .ok b δ | _ => .bad := id rfl
@[simp] theorem ap_fNot (f : FT) : fNot f δ = (f δ).bind fun b δ => .ok (!b) δ := id rfl
@[simp] theorem ap_fAnd (f g : FT) : fAnd f g δ = (f δ).bind fun b δ => if b then g δ else .ok false δ := id rfl
@[simp] theorem ap_fOr (f g : FT) : fOr f g δ = (f δ).bind fun b δ => if b then .ok true δ else g δ := id rfl
@[simp] theorem ap_fAndV (f : FD) (g : FE) : fAndV f g δ = (f δ).bind fun d δ => match d with | .bl true => g δ | .bl false => .ok (.imm (.bl false)) δ | _ => .bad := id rfl
@[simp] theorem ap_fOrV (f : FD) (g : FE) : fOrV f g δ = (f δ).bind fun d δ => match d with | .bl true => .ok (.imm (.bl true)) δ | .bl false => g δ | _ => .bad := id rfl
@[simp] theorem ap_fNotV (f : FD) : fNotV f δ = (f δ).bind fun d δ => match d with | .bl b => .ok (.bl (!b)) δ | _ => .bad := id rfl
@[simp] theorem ap_fIfE (f : FT) (g h : FE) : fIfE f g h δ = (f δ).bind fun b δ => if b then g δ else h δ := id rfl
@[simp] theorem ap_fLst (fa : FA) : fLst fa δ = (fa δ).bind fun ds δ => if ds.length ≤ 16777216 then .ok (.own (.l ds)) δ else .bad := id rfl
@[simp] theorem ap_fTup (fa : FA) : fTup fa δ = (fa δ).bind fun ds δ => if ds.length ≤ 16777216 then .ok (.tup ds) δ else .bad := id rfl
@[simp] theorem ap_fSl (fe : FD) (fl fh : FO) : fSl fe fl fh δ = (fe δ).bind fun d δ => (fl δ).bind fun lo δ => (fh δ).bind fun hi δ => match gSl d lo hi with | some r => .ok r δ | none => .bad := id rfl
@[simp] theorem ap_oNone : oNone δ = .ok none δ := id rfl
@[simp] theorem ap_oSome (f : FD) : oSome f δ = (f δ).bind fun d δ => match d with | .int i => .ok (some i) δ | _ => .bad := id rfl
@[simp] theorem ap_fUnI (g : Int → Int) (fe : FD) : fUnI g fe δ = (fe δ).bind fun d δ => match d with | .int i => .ok (.int (g i)) δ | _ => .bad := id rfl
@[simp] theorem ap_fOwn (f : Fm) (fa : FA) : fOwn f fa δ = (fa δ).bind fun ds δ1 => outE (f none ds) δ1 := id rfl
@[simp] theorem outE_ok (r : R) (io : Option OB) : outE (.ok r io) δ = .ok r δ := rfl
@[simp] theorem ap_sSeq (f g : FS) : sSeq f g δ = (f δ).bind g := id rfl
@[simp] theorem ap_sNil : sNil δ = .nx δ := id rfl
@[simp] theorem ap_sRet (f : FE) : sRet f δ = (f δ).bindS fun r δ1 => .rt r δ1 := id rfl
@[simp] theorem ap_sExpr (f : FE) : sExpr f δ = (f δ).bindS fun _ δ1 => .nx δ1 := id rfl
@[simp] theorem ap_sIf (t : FT) (f g : FS) : sIf t f g δ = (t δ).bindS fun b δ1 => if b then f δ1 else g δ1 := id rfl
@[simp] theorem ap_sAsg (f : FE) (h : R → Sl → SR) : sAsg f h δ = (f δ).bindS h := id rfl
@[simp] theorem ap_tNameI (i : Nat) (d : D) : tName i (.imm d) δ = .nx (δ.set i (some (.imm d))) := id rfl
@[simp] theorem ap_tNameO (i : Nat) (d : OB) : tName i (.own d) δ = .nx (δ.set i (some (.own d))) := id rfl
@[simp] theorem ap_tsNil : tsNil [] δ = .nx δ := id rfl
@[simp] theorem ap_tsCons (h : R → Sl → SR) (hs : List D → Sl → SR) (d : D) (ds : List D) : tsCons h hs (d :: ds) δ = (h (.imm d) δ).bind (hs ds) := id rfl
@[simp] theorem ap_tTup (n : Nat) (hs : List D → Sl → SR) (ds : List D) : tTup n hs (.imm (.tup ds)) δ = if ds.length = n then hs ds δ else .bad := id rfl
@[simp] theorem ap_sFor (fi : FA) (tg : R → Sl → SR) (body : FS) : sFor fi tg body δ = (fi δ).bindS fun ds δ1 => forL tg body ds δ1 := id rfl
@[simp] theorem ap_itSeq (f : FD) : itSeq f δ = (f δ).bind fun d δ => match d with | .lst ds => .ok ds δ | _ => .bad := id rfl
@[simp] theorem ap_itTup (f : FD) : itTup f δ = (f δ).bind fun d δ => match d with | .tup ds => .ok ds δ | .ktp ns => .ok (ns.map D.int) δ | _ => .bad := id rfl
@[simp] theorem ap_itEnum (f : FD) : itEnum f δ = (f δ).bind fun d δ => match d with | .lst ds => .ok (enumD 0 ds) δ | _ => .bad := id rfl
@[simp] theorem ap_sPar (i j : Nat) (f g : FE) : sPar i j f g δ = (f δ).bindS fun r δ1 => match r with | .brw _ => .bad | .nst _ _ => .bad | r => (g δ1).bindS fun r' δ2 => match r' with | .brw _ => .bad | .nst _ _ => .bad | r' => .nx ((δ2.set i (some r)).set j (some r')) := id rfl
@[simp] theorem ap_fFld (ix : Nat → Option Nat) (fo : FD) : fFld ix fo δ = (fo δ).bind fun d δ1 => match d with | .obj n vs => (match ix n with | some j => (match vs[j]? with | some d => .ok d δ1 | none => .bad) | none => .bad) | _ => .bad := id rfl
@[simp] theorem ap_fMeth (tab : Nat → Option Fm) (fo : FD) (fa : FA) : fMeth tab fo fa δ = (fo δ).bind fun d δ1 => match d with | .obj n vs => (match tab n with | some f => (fa δ1).bind fun ds δ2 => outE (f none (.obj n vs :: ds)) δ2 | none => .bad) | _ => .bad := id rfl
@[simp] theorem ap_fIsi (tab : Tg → Option Bool) (fe : FD) : fIsi tab fe δ = (fe δ).bind fun d δ => match tagD d with | some t => (match tab t with | some b => .ok (.bl b) δ | none => .bad) | none => .bad := id rfl
@[simp] theorem ap_vI (i : Nat) : vI i δ = match δ[i]? with | some (some (.imm d)) => .ok d δ | some (some (.own o)) => .ok o.toD (δ.set i (some (.imm o.toD))) | _ => .bad := id rfl
@[simp] theorem ap_vP (i : Nat) : vP i δ = match δ[i]? with | some (some (.imm d)) => .ok d δ | some (some (.own o)) => .ok o.toD δ | some (some (.brw o)) => .ok o.toD δ | _ => .bad := id rfl
@[simp] theorem ap_vR (i : Nat) : vR i δ = match δ[i]? with | some (some (.imm d)) => .ok (.imm d) δ | some (some (.own o)) => .ok (.own o) (δ.set i none) | _ => .bad := id rfl
@[simp] theorem ap_there (i : Nat) : there δ i = match δ[i]? with | some (some _) => true | _ => false := id rfl
@[simp] theorem ap_tSub (x : Nat) (fi : FD) (d : D) : tSub x fi (.imm d) δ = match δ[x]? with | some (some r0) => if r0.mu then (fi δ).bindS fun i δ1 => match δ1[x]? with | some (some (.own o)) => (match setOB o i d with | some o' => .nx (δ1.set x (some (.own o'))) | none => .bad) | some (some (.brw o)) => (match setOB o i d with | some o' => .nx (δ1.set x (some (.brw o'))) | none => .bad) | _ => .bad else .bad | _ => .bad := id rfl
end
@[simp] theorem ap_tLstI (n : Nat) (hs : List D → Sl → SR) (ds : List D) (δ : Sl) : tLst n hs (.imm (.lst ds)) δ = if ds.length = n then hs ds δ else .bad := id rfl
@[simp] theorem ap_tLstO (n : Nat) (hs : List D → Sl → SR) (ds : List D) (δ : Sl) : tLst n hs (.own (.l ds)) δ = if ds.length = n then hs ds δ else .bad := id rfl
@[simp] theorem ap_fMethK (tab : Nat → Option Fm) (n l : Nat) (fo : FD) (fa fk : FA) (δ : Sl) : fMethK tab n l fo fa fk δ = (fo δ).bind fun d δ1 => match d with
  | .obj c vs => (match tab c with
    | some f => (fa δ1).bind fun ds δ2 => (fk δ2).bind fun es δ3 => if ds.length = n ∧ es.length = l then outE (f none (.obj c vs :: (ds ++ es))) δ3 else .bad
    | none => .bad)
  | _ => .bad := id rfl
@[simp] theorem ap_fBinO (tab : Nat → Option Fm) (fa fb : FD) (δ : Sl) : fBinO tab fa fb δ = (fa δ).bind fun x δ1 => (fb δ1).bind fun y δ2 => match x, y with
  | .obj n vs, .obj m ws => if n = m then (match tab n with
    | some f => outO (f none [.obj n vs, .obj m ws]) δ2
    | none => .bad) else .bad
  | _, _ => .bad := id rfl
@[simp] theorem outO_own (o : OB) (io : Option OB) (δ : Sl) : outO (.ok (.own o) io) δ = .ok (.own o) δ := rfl
@[simp] theorem ap_sPar3 (i j l : Nat) (fa : FA) (δ : Sl) : sPar3 i j l fa δ = (fa δ).bindS fun ds δ1 => match ds with | [a, b, c] => .nx (((δ1.set i (some (.imm a))).set j (some (.imm b))).set l (some (.imm c))) | _ => .bad := id rfl
@[simp] theorem ap_fOwnP (f : Fm) (fa : FA) (δ : Sl) : fOwnP f fa δ = (fa δ).bind fun ds δ1 => if ds.any D.dic then .bad else outP (f none ds) δ1 := id rfl
@[simp] theorem dic_lst (xs : List D) : D.dic (.lst xs) = false := rfl
@[simp] theorem dic_tup (xs : List D) : D.dic (.tup xs) = false := rfl
@[simp] theorem dic_scr (xs : List D) : D.dic (.scr xs) = false := rfl
@[simp] theorem dic_int (x : Int) : D.dic (.int x) = false := rfl
@[simp] theorem dic_str (x : Str) : D.dic (.str x) = false := rfl
@[simp] theorem dic_bl (x : Bool) : D.dic (.bl x) = false := rfl
@[simp] theorem dic_non : D.dic .non = false := rfl
@[simp] theorem dic_obj (c : Nat) (xs : List D) : D.dic (.obj c xs) = false := rfl
@[simp] theorem dic_cls (c : Nat) : D.dic (.cls c) = false := rfl
@[simp] theorem dic_dK (ks : List Key) (ds : List D) : D.dic (.dK ks ds) = true := rfl
@[simp] theorem dic_dT (ks : List (List Key)) (ds : List D) : D.dic (.dT ks ds) = true := rfl
@[simp] theorem outP_ok (r : R) (io : Option OB) (δ : Sl) : outP (.ok r io) δ = if flatR r then .ok r δ else .bad := rfl
@[simp] theorem flat_bl (b : Bool) : flatR (.imm (.bl b)) = true := rfl
@[simp] theorem flat_int (b : Int) : flatR (.imm (.int b)) = true := rfl
@[simp] theorem flat_non : flatR (.imm .non) = true := rfl
@[simp] theorem flat_str (x : Str) : flatR (.imm (.str x)) = true := rfl
@[simp] theorem mu_own (o : OB) : (R.own o).mu = true := rfl
@[simp] theorem mu_brw (o : OB) : (R.brw o).mu = true := rfl
@[simp] theorem mu_imm (d : D) : (R.imm d).mu = false := rfl
@[simp] theorem toD_l (xs : List D) : (OB.l xs).toD = .lst xs := rfl
@[simp] theorem toD_o (n : Nat) (xs : List D) : (OB.o n xs).toD = .obj n xs := rfl
@[simp] theorem gAdd_i (i j : Int) : gAdd (.int i) (.int j) = some (.imm (.int (i + j))) := rfl
@[simp] theorem gSub_i (i j : Int) : gSub (.int i) (.int j) = some (.imm (.int (i - j))) := rfl
@[simp] theorem gLt_i (i j : Int) : gLt (.int i) (.int j) = some (.imm (.bl (decide (i < j)))) := rfl
@[simp] theorem gLe_i (i j : Int) : gLe (.int i) (.int j) = some (.imm (.bl (decide (i ≤ j)))) := rfl
@[simp] theorem gGt_i (i j : Int) : gGt (.int i) (.int j) = some (.imm (.bl (decide (j < i)))) := rfl
@[simp] theorem gGe_i (i j : Int) : gGe (.int i) (.int j) = some (.imm (.bl (decide (j ≤ i)))) := rfl
theorem eqvI (i j : Int) : PyData.eqv (.int i) (.int j) = decide (i = j) := by
  by_cases h : i = j
  · subst h; simp [PyData.eqv]
  · simp [PyData.eqv, h]
theorem shapedI (i : Int) : SeqAt.shaped (.int i) = true := by
  first | rfl | (unfold SeqAt.shaped; simp [PyData.canLay0, PyData.depth])
@[simp] theorem gEq_i (i j : Int) : gEq (.int i) (.int j) = some (.imm (.bl (decide (i = j)))) := by
  simp [gEq, toP, eqvI, shapedI]
@[simp] theorem gNe_i (i j : Int) : gNe (.int i) (.int j) = some (.imm (.bl (!decide (i = j)))) := by
  simp [gNe, toP, eqvI, shapedI]
theorem gMod_i {i j : Int} (h : 0 < j) : gMod (.int i) (.int j) = some (.imm (.int (i % j))) := by
  simp [gI, CModB, h]
theorem log2_lt {n k : Nat} (h : n < 2 ^ k) (hk : 0 < k) : n.log2 < k := by
  by_cases h0 : n = 0
  · subst h0; simpa using hk
  · exact (Nat.log2_lt h0).mpr h
theorem gFdiv_i {i j : Int} (h : 0 < j) (h2 : j.natAbs < 2 ^ 255) : gFdiv (.int i) (.int j) = some (.imm (.int (i / j))) := by
  have := log2_lt h2 (by decide)
  have e : CDivB i j = true := gd_true ⟨h, by omega⟩
  simp [gFdiv, gOr, gI, e]
theorem gMul_i {i j : Int} (h : i.natAbs < 2 ^ 255) (h2 : j.natAbs < 2 ^ 255) : gMul (.int i) (.int j) = some (.imm (.int (i * j))) := by
  have h1 := log2_lt h (by decide)
  have h3 := log2_lt h2 (by decide)
  have e : CMulB i j = true := gd_true (by omega)
  simp [gMul, gOr, gI, e]
theorem gPow_i {i j : Int} (h : 0 ≤ j) (h2 : j ≤ 1000000) (h3 : i.natAbs < 18446744073709551616) : gPow (.int i) (.int j) = some (.imm (.int (i ^ j.toNat))) := by
  have e : CPowB i j = true := gd_true ⟨h, h2, h3⟩
  simp [gI, e]
@[simp] theorem gInt_i (i : Int) : gInt [.int i] = some (.imm (.int i)) := rfl
@[simp] theorem gAbs_i (i : Int) : gAbs [.int i] = some (.imm (.int (if i < 0 then -i else i))) := rfl
@[simp] theorem gLen_l (xs : List D) : gLen [.lst xs] = some (.imm (.int xs.length)) := rfl
@[simp] theorem gLen_s (xs : List D) : gLen [.scr xs] = some (.imm (.int xs.length)) := rfl
theorem gDivmod_i {i j : Int} (h : 0 < j) (h2 : j.natAbs < 2 ^ 255) : gDivmod [.int i, .int j] = some (.imm (.tup [.int (i / j), .int (i % j)])) := by
  have := log2_lt h2 (by decide)
  have e : decide (0 < j ∧ j.natAbs.log2 < 9000) = true := decide_eq_true ⟨h, by omega⟩
  simp only [gDivmod, e, if_true]
@[simp] theorem gIx_l (xs : List D) (i : Int) : gIx (.lst xs) (.int i) = (atI xs i).map .imm := rfl
section
open PySem.Spec PyProof.Rows
variable {P : Program} {w : World} {K : PySem.W.Frag} {mg mb : Str → Option Value} {CX : CXT} {k : Nat} {fa a : Addr} {fd : FuncData} {x : Str} {sp : Sp} {s1 : Shared} {vs : List Value} {ns : List Int}
end
theorem noCX {P : Program} {w : World} {H : Hp} {s : Shared} {e : Value} {s' : Shared} (h : L2.CX P w [] H s (fun _ _ _ => False) e s') : False := by
  obtain ⟨_, _, _, _, _, _, _, _, _, _, _, _, z⟩ := h
  exact z
end
end TS

namespace TS
open PySem L2
noncomputable section
section
open PySem.Spec PyProof.Rows
variable {P : Program} {w : World} {K : PySem.W.Frag} {mg mb : Str → Option Value} {CX : CXT} {k : Nat} {fa a : Addr} {cs : List (Addr × Addr)} {fd : FuncData} {x : Str} {sp : Sp} {s1 : Shared} {vs : List Value} {ns : List Int}
theorem law_coreT (KX : K.In s1.heap) (hns : s1.heap.Ns mainGlobals mg) (hb : s1.heap.Ns builtinsNs mb) (hbb : ∀ y : Str, y ≠ "__name__" → mb y = bootBuiltins y) (hlim : s1.heap.NoLimit) (hg : s1.gens = #[])
    (hT : ∀ p ∈ cs, s1.heap.get? p.2 = some (PySem.W.tabObj #[])) (nT : ∀ p ∈ cs, K.lookup p.2 = none) (C : ∀ p ∈ cs, PySem.W.CodeHd s1.heap p.1 p.2)
    (hbm : ∃ (bm : Addr) (ob : Obj), mg "__builtins__" = some (.ref bm) ∧ bm ≠ builtinsNs ∧ s1.heap.get? bm = some ob ∧ ob.cls = .type "module" ∧ ob.dict = some builtinsNs ∧ ob.data = .plain)
    (ha : s1.heap.get? a = some { cls := .type "list", data := .seq vs.toArray }) (hr : Room k callerA) (F : ∀ base : Heap, K.In base → base.Ns mainGlobals mg → (∀ p ∈ cs, LamX.TabB base mg p.1 p.2) → FnOk P w K mg base CX k fa fd [x] sp)
    (hbind : ∀ (s : Shared) (u : Value), BindsTo s fd ⟨[u], []⟩ [(x, u)]) (hCX : ∀ H e s', CX [] H s1 (fun _ _ _ => False) e s' → False)
    {H : Hp} (hH : ∀ p ∈ cs, H p.2 = some (.tbl #[])) (hO : ∀ b, H b = none ∨ (∃ p ∈ cs, p.2 = b) ∨ ∃ o xs, H b = some (.frz o (.lst xs))) (hsp : sp [.ref a] H (fun v _ => v = .bl true) fun _ _ _ => False) (hok : HOk P w H s1.heap) (hA : ∀ b, H b ≠ none → b = a ∨ ∃ p ∈ cs, p.2 = b) (hK : H a ≠ none → K.lookup a = none) :
    codeAny (model P w) callerA (.call (.ref fa) ⟨[.ref a], []⟩) (fun r s' => r = .ok (.ret (.bool true)) ∧ OldK s1.heap s'.heap ∧ s'.os = s1.os ∧ AllBare s'.gens) s1 := by
  -- neither the script nor a table
  have off : ∀ {b : Addr} {o : Obj}, s1.heap.get? b = some o → (∀ us n, o.data ≠ .seq us n) → o.data ≠ .fields #[] → H b = none := by
    intro b o e d1 d2
    rcases Option.eq_none_or_eq_some (H b) with q | ⟨u, q⟩
    · exact q
    · rcases hA b (by rw [q]; exact fun z => nomatch z) with z | ⟨p, hp, z⟩
      · subst z; rw [ha] at e; cases e; exact (d1 _ _ rfl).elim
      · subst z; rw [hT p hp] at e; cases e; exact (d2 rfl).elim
  have dictN : ∀ {b : Addr} {o : Obj} {es : Array DictEntry} {ep : Nat}, s1.heap.get? b = some o → o.data = .dict es ep → H b = none := fun e d => off e (fun us n z => by rw [d] at z; cases z) (fun z => by rw [d] at z; cases z)
  have nsH : ∀ {b : Addr} {m : Str → Option Value}, s1.heap.Ns b m → (hidT s1.heap H).Ns b m := by
    rintro b m ⟨o, es, ep, e, d, r⟩
    exact ⟨o, es, ep, hidT_get e (dictN e d), d, r⟩
  have kinH : K.In (hidT s1.heap H) := by
    intro b o e
    refine hidT_get (KX b o e) ?_
    rcases Option.eq_none_or_eq_some (H b) with q | ⟨u, q⟩
    · exact q
    · rcases hA b (by rw [q]; exact fun z => nomatch z) with z | ⟨p, hp, z⟩
      · subst z
        rw [hK (by rw [q]; exact fun z => nomatch z)] at e
        cases e
      · subst z; rw [nT p hp] at e; cases e
  obtain ⟨mc, c1, c2⟩ := hlim
  have hmod : Mod K mg (hidT s1.heap H) := ⟨kinH, nsH hns, ⟨mb, nsH hb, hbb⟩, ⟨mc, nsH c1, c2⟩⟩
  have tabs : ∀ p ∈ cs, LamX.TabB (hidT s1.heap H) mg p.1 p.2 := by
    intro p hp
    obtain ⟨o, us, fl, tf, fg, tg, iF, tx, tt, e1, r1, r2, r3, rr⟩ := C p hp
    obtain ⟨bm, ob, b1, b2, b3, b4, b5, b6⟩ := hbm
    have hTp := hT p hp
    refine ⟨⟨o, us, fl, tf, fg, tg, iF, tx, tt, hidT_get e1 (off e1 (fun vs n z => ?_) fun z => ?_), r1, r2, r3, rr⟩, ⟨bm, ob, b1, b2, fun z => ?_, fun z => ?_, hidT_get b3 (off b3 (fun vs n z => ?_) fun z => ?_), b4, b5, b6⟩, fun z => ?_⟩
    · rw [r2] at z; cases z
    · rw [r2] at z; cases z; simp at r3
    · obtain ⟨o2, es, ep, e, hd, _⟩ := hns
      rw [z, e] at b3; cases b3
      rw [hd] at b6; cases b6
    · rw [z, hTp] at b3; cases b3; cases b6
    · rw [b6] at z; cases z
    · rw [b6] at z; cases z
    · obtain ⟨o2, es, ep, e, hd, _⟩ := hns
      rw [z, hTp] at e; cases e; cases hd
  have env : Env0 P w K mg (hidT s1.heap H) callerA [] s1 H := ⟨rfl, hmod, fun _ _ e => of_hidT e, Nat.le_of_eq (hidT_size _ _), trivial, fun b z => absurd z (List.not_mem_nil (a := b)), hok, .of_eq hg⟩
  have run := (F _ kinH (nsH hns) tabs).run callerA [] s1 H ⟨[.ref a], []⟩ [.ref a] [.ref a] _ _ hr env (hbind s1 (.ref a)) (.cons rfl .nil) hsp
  refine codeAny_mono run ?_
  rintro (e | fl) s' z
  · exact (hCX H e s' z).elim
  · cases fl with
    | next => exact z.elim
    | brk => exact z.elim
    | cont => exact z.elim
    | ret u =>
      obtain ⟨v, H2, hos, hbare, un, hok2, rv, ev⟩ := z
      have ev : v = .bl true := ev
      rw [ev] at rv
      cases (show u = Value.bool true from rv)
      have more : ∀ p ∈ cs, ∃ ps : Array Value, s'.heap.get? p.2 = some (PySem.W.tabObj ps) := fun p hp => by
        obtain ⟨ps, q⟩ := un.tbls p.2 #[] (hH p hp)
        exact ⟨_, hok2 p.2 _ q⟩
      have same : ∀ b o, (¬ ∃ p ∈ cs, p.2 = b) → s1.heap.get? b = some o → s'.heap.get? b = some o := fun b o nb e => by
        rcases Option.eq_none_or_eq_some (H b) with q | ⟨u, q⟩
        · exact un.keep b o e q (fun z => absurd z (List.not_mem_nil (a := b))) (fun z => by simp at z)
        · rcases hO b with z | z | ⟨ob, xs, z⟩
          · rw [q] at z; cases z
          · exact absurd z nb
          · have t1 := (hok b _ z).1
            have t2 := (hok2 b _ (un.frzs b ob _ z)).1
            rw [e] at t1
            cases t1
            exact t2
      refine ⟨rfl, ⟨fun b o e => ?_, fun b o e => ?_⟩, hos, hbare⟩
      · by_cases hb : ∃ p ∈ cs, p.2 = b
        · obtain ⟨p, hp, z⟩ := hb
          subst z
          obtain ⟨ps, q⟩ := more p hp
          rw [hT p hp] at e
          cases e
          exact .inr (.inl ⟨((C p hp).tab (hT p hp)).isCodeTable, rfl, #[], ps, rfl, by rw [Array.empty_append]; exact q⟩)
        · exact .inl (same b o hb e)
      · by_cases hb : ∃ p ∈ cs, p.2 = b
        · obtain ⟨p, hp, z⟩ := hb
          subst z
          obtain ⟨ps, q⟩ := more p hp
          exact ⟨_, q⟩
        · exact ⟨o, same b o hb e⟩
open Classical in
theorem law_runT (KX : K.In s1.heap) (hns : s1.heap.Ns mainGlobals mg) (hb : s1.heap.Ns builtinsNs mb) (hbb : ∀ y : Str, y ≠ "__name__" → mb y = bootBuiltins y) (hlim : s1.heap.NoLimit) (hg : s1.gens = #[])
    (hT : ∀ p ∈ cs, s1.heap.get? p.2 = some (PySem.W.tabObj #[])) (nT : ∀ p ∈ cs, K.lookup p.2 = none) (C : ∀ p ∈ cs, PySem.W.CodeHd s1.heap p.1 p.2)
    (hbm : ∃ (bm : Addr) (ob : Obj), mg "__builtins__" = some (.ref bm) ∧ bm ≠ builtinsNs ∧ s1.heap.get? bm = some ob ∧ ob.cls = .type "module" ∧ ob.dict = some builtinsNs ∧ ob.data = .plain)
    (ha : s1.heap.get? a = some { cls := .type "list", data := .seq vs.toArray }) (hi : IntsAre vs ns) (hl : ns.length ≤ sizeLine) (hr : Room k callerA) (F : ∀ base : Heap, K.In base → base.Ns mainGlobals mg → (∀ p ∈ cs, LamX.TabB base mg p.1 p.2) → FnOk P w K mg base CX k fa fd [x] sp)
    (hbind : ∀ (s : Shared) (u : Value), BindsTo s fd ⟨[u], []⟩ [(x, u)])
    (hsp : ∀ H : Hp, (∀ p ∈ cs, H p.2 = some (.tbl #[])) → SqL K H a (ns.map V.int) → sp [.ref a] H (fun v _ => v = .bl true) fun _ _ _ => False) (hCX : ∀ H e s', CX [] H s1 (fun _ _ _ => False) e s' → False) :
    codeAny (model P w) callerA (.call (.ref fa) ⟨[.ref a], []⟩) (fun r s' => r = .ok (.ret (.bool true)) ∧ OldK s1.heap s'.heap ∧ s'.os = s1.os ∧ AllBare s'.gens) s1 := by
  have rv := vals_ints hi
  have lv := hi.length
  have nTa : ¬ ∃ p ∈ cs, p.2 = a := by
    rintro ⟨p, hp, z⟩
    have q := hT p hp
    rw [z, ha] at q
    cases (show Data.seq vs.toArray _ = Data.fields #[] from congrArg Obj.data (Option.some.inj q))
  let base : Hp := fun b => if ∃ p ∈ cs, p.2 = b then some (.tbl #[]) else none
  have bT : ∀ p ∈ cs, base p.2 = some (.tbl #[]) := fun p hp => if_pos ⟨p, hp, rfl⟩
  have bN : ∀ b, (¬ ∃ p ∈ cs, p.2 = b) → base b = none := fun b h => if_neg h
  have bO : ∀ b u, base b = some u → (∃ p ∈ cs, p.2 = b) ∧ u = .tbl #[] := fun b u e => by
    by_cases h : ∃ p ∈ cs, p.2 = b
    · rw [show base b = some (.tbl #[]) from if_pos h] at e
      exact ⟨h, (Option.some.inj e).symm⟩
    · rw [bN b h] at e; cases e
  have bok : ∀ b u, base b = some u → ObjOk P w base s1.heap b u := fun b u e => by
    obtain ⟨⟨p, hp, z⟩, rfl⟩ := bO b u e
    subst z
    exact hT p hp
  rcases Option.eq_none_or_eq_some (K.lookup a) with hk | ⟨o, hk⟩
  · let ho : HO := .frz { cls := .type "list", data := .seq vs.toArray } (.lst (ns.map V.int))
    have hH : (upd base a ho) a = some ho := upd_same
    have hn : ∀ b, b ≠ a → (upd base a ho) b = base b := fun b z => upd_ne z
    have hp2 : ∀ p ∈ cs, p.2 ≠ a := fun p hp z => nTa ⟨p, hp, z⟩
    refine law_coreT KX hns hb hbb hlim hg hT nT C hbm ha hr F hbind hCX (H := upd base a ho) (fun p hp => by rw [hn _ (hp2 p hp)]; exact bT p hp) (fun b => ?_) (hsp _ (fun p hp => by rw [hn _ (hp2 p hp)]; exact bT p hp) (.inl (.inr ⟨_, hH⟩))) ?_ (fun b z => ?_) fun _ => hk
    · by_cases z : b = a
      · exact .inr (.inr ⟨_, _, by rw [z]; exact hH⟩)
      · by_cases y : ∃ p ∈ cs, p.2 = b
        · exact .inr (.inl y)
        · exact .inl (by rw [hn b z]; exact bN b y)
    · intro b u z
      by_cases y : b = a
      · subst y
        rw [hH] at z
        cases z
        exact ⟨ha, by rw [List.length_map]; exact hl, vs, _, rv, ha⟩
      · rw [hn b y] at z
        obtain ⟨⟨p, hp, q⟩, rfl⟩ := bO b u z
        subst q
        exact hT p hp
    · by_cases y : b = a
      · exact .inl y
      · rw [hn b y] at z
        refine .inr (Classical.byContradiction fun q => z (bN b q))
  · have e := KX a o hk
    rw [ha] at e
    cases e
    have sq : SqL K base a (ns.map V.int) := .inr ⟨_, vs.toArray, _, hk, rfl, rfl, rfl, by rw [List.size_toArray, lv]; exact hl, by simpa using rv⟩
    refine law_coreT KX hns hb hbb hlim hg hT nT C hbm ha hr F hbind hCX (H := base) bT (fun b => ?_) (hsp _ bT sq) bok (fun b z => .inr (Classical.byContradiction fun q => z (bN b q))) fun z => absurd (bN a nTa) z
    by_cases y : ∃ p ∈ cs, p.2 = b
    · exact .inr (.inl y)
    · exact .inl (bN b y)
end
theorem walk_ofT {l : PySem.W.OpenLaw} {n k : Nat} {q : Program} {loose : List Str} {XP : (Str → Option Value) → Heap → Prop} {YP : World → Heap → Prop} {d : DefRec} {CX : World → CXT} {x : Str}
    (hn : l.most = some n) (hn2 : n ≤ sizeLine) (hdf : d.params.defaults = []) (hr : Room k callerA)
    (F : ∀ (w : World) (mg : Str → Option Value) (fa : Addr) (h : Heap), YP w h → h.Ns mainGlobals mg → mg d.name = some (.ref fa) →
      ∃ (K : PySem.W.Frag) (cs : List (Addr × Addr)) (fd : FuncData) (sp : Sp), K.In h ∧ (∀ p ∈ cs, h.get? p.2 = some (PySem.W.tabObj #[])) ∧ (∀ p ∈ cs, K.lookup p.2 = none) ∧ (∀ p ∈ cs, PySem.W.CodeHd h p.1 p.2) ∧ (∀ (s : Shared) (u : Value), BindsTo s fd ⟨[u], []⟩ [(x, u)]) ∧
        (∀ (H : Hp) (a : Addr) (ns : List Int), ns.length ≤ n → (∀ p ∈ cs, H p.2 = some (.tbl #[])) → SqL K H a (ns.map V.int) → sp [.ref a] H (fun v _ => v = .bl true) fun _ _ _ => False) ∧
        ∀ base : Heap, K.In base → base.Ns mainGlobals mg → (∀ p ∈ cs, LamX.TabB base mg p.1 p.2) → FnOk l.prog w K mg base (CX w) k fa fd [x] sp)
    (hCX : ∀ (w : World) (H : Hp) (s : Shared) (e : Value) (s' : Shared), CX w [] H s (fun _ _ _ => False) e s' → False) :
    PySem.W.WalkO q loose XP YP l.row.toRowW d [] (fun f vs => PySem.call f vs) := by
  refine Att.attach_call hn hdf fun w s₀ s₁ mg mb fa o pm cd doc a vs ns G Y ho hd hcd hmg hobj hints hlen hg => ?_
  obtain ⟨K, cs, fd, sp, KX, hT, nT, C, hb, hsp, hF⟩ := F w mg fa _ Y G.T.g hmg
  exact law_runT KX G.T.g G.T.b G.T.builtins G.T.nolimit hg hT nT C G.T.bmain hobj hints (Nat.le_trans hlen hn2) hr hF hb (fun H hH hS => hsp H a ns hlen hH hS) fun H e s' => hCX w H s₁ e s'
theorem entry {M : Gm} {H : Hp} {a : Addr} {ns : List Int} (hS : SqL M.K H a (ns.map V.int)) (hT : ∀ p ∈ M.T, H p.1 = some (.tbl #[])) : ∃ F, Same F H ∧ Tb M F H ∧ reps M F [.scr (ns.map D.int)] [.ref a] := by
  let F : Hp := fun b => match H b with
    | some (.tbl _) => none
    | x => x
  have hF : ∀ b o, F b = some o → H b = some o ∧ ∀ ps, o ≠ .tbl ps := fun b o e => by
    have e : (match H b with | some (.tbl _) => none | x => x) = some o := e
    split at e
    · cases e
    · rename_i q
      exact ⟨e, fun ps z => by subst z; exact q ps e⟩
  have hN : ∀ b o, H b = some o → (∀ ps, o ≠ .tbl ps) → F b = some o := fun b o e n => by
    show (match H b with | some (.tbl _) => none | x => x) = some o
    rw [e]
    cases o <;> first | rfl | exact absurd rfl (n _)
  refine ⟨F, fun b o e => (hF b o e).1, ⟨fun p hp => LamX.TabS.nil (hT p hp), fun p hp => ?_, fun b ps e => (hF b _ e).2 ps rfl⟩, reps_cons ?_ reps_nil⟩
  · show (match H p.1 with | some (.tbl _) => none | x => x) = none
    rw [hT p hp]
  · unfold rep
    refine ⟨a, _, rfl, ?_, reps_ints ns⟩
    rcases hS with (h | ⟨o, h⟩) | h
    · exact .inl (.inl (hN _ _ h fun ps z => nomatch z))
    · exact .inl (.inr ⟨o, hN _ _ h fun ps z => nomatch z⟩)
    · exact .inr h
end
end TS

namespace TS
open PySem L2
noncomputable section
def iL (xs : List Int) : List D := xs.map D.int
@[simp] theorem iL_len (xs : List Int) : (iL xs).length = xs.length := by simp [iL]
@[simp] theorem iL_nil : iL [] = [] := rfl
theorem toPs_ints : ∀ xs : List Int, toPs (iL xs) = some (xs.map PyData.int)
  | [] => by simp [toPs]
  | x :: xs => by
    have := toPs_ints xs
    simp only [iL, List.map_cons] at this ⊢
    simp [toPs, toP, this]
theorem canLay_ints : ∀ xs : List Int, PyData.canLayAll0 (xs.map PyData.int) = true
  | [] => by simp [PyData.canLayAll0]
  | x :: xs => by simp [PyData.canLayAll0, PyData.canLay0, canLay_ints xs]
theorem depth_ints : ∀ xs : List Int, PyData.depthAll (xs.map PyData.int) ≤ 1
  | [] => by simp [PyData.depthAll]
  | x :: xs => by
    have := depth_ints xs
    simp only [List.map_cons, PyData.depthAll, PyData.depth]
    omega
theorem shaped_l (xs : List Int) : SeqAt.shaped (.list (xs.map PyData.int)) = true := by
  have := depth_ints xs
  unfold SeqAt.shaped
  rw [Bool.and_eq_true]
  refine ⟨by simp only [PyData.canLay0]; exact canLay_ints xs, decide_eq_true ?_⟩
  simp only [PyData.depth]
  omega
theorem eqvAll_ints : ∀ xs ys : List Int, PyData.eqvAll (xs.map PyData.int) (ys.map PyData.int) = decide (xs = ys)
  | [], [] => by simp [PyData.eqvAll]
  | [], y :: ys => by simp [PyData.eqvAll]
  | x :: xs, [] => by simp [PyData.eqvAll]
  | x :: xs, y :: ys => by
    simp only [List.map_cons, PyData.eqvAll, eqvAll_ints xs ys, eqvI]
    by_cases h : x = y
    · by_cases h2 : xs = ys <;> simp [h, h2]
    · simp [h]
theorem toP_l (xs : List Int) : toP (.lst (iL xs)) = some (.list (xs.map PyData.int)) := by
  unfold toP; rw [toPs_ints]; rfl
@[simp] theorem gEq_l (xs ys : List Int) : gEq (.lst (iL xs)) (.lst (iL ys)) = some (.imm (.bl (decide (xs = ys)))) := by
  simp only [gEq, toP_l, shaped_l, Bool.and_self, if_true, PyData.eqv, eqvAll_ints]
@[simp] theorem gNe_l (xs ys : List Int) : gNe (.lst (iL xs)) (.lst (iL ys)) = some (.imm (.bl (!decide (xs = ys)))) := by
  simp only [gNe, toP_l, shaped_l, Bool.and_self, if_true, PyData.eqv, eqvAll_ints]
theorem intsD_ints : ∀ xs : List Int, intsD (iL xs) = some xs
  | [] => rfl
  | x :: xs => by
    have := intsD_ints xs
    simp only [iL, List.map_cons] at this ⊢
    simp [intsD, this]
@[simp] theorem gMax_2 (i j : Int) : gMax [.int i, .int j] = some (.imm (.int (if j > i then j else i))) := rfl
@[simp] theorem gMin_2 (i j : Int) : gMin [.int i, .int j] = some (.imm (.int (if j < i then j else i))) := rfl
theorem atI_ints (xs : List Int) (i : Int) : atI (iL xs) i = (atI xs i).map D.int := by
  unfold atI
  simp only [iL, List.length_map]
  cases ixN xs.length i with
  | none => rfl
  | some j => simp
theorem atI_in {α : Type} {xs : List α} {n : Nat} (h : n < xs.length) : atI xs (n : Int) = some xs[n] := by
  unfold atI ixN
  simp [h]
theorem gIx_ints {xs : List Int} {n : Nat} (h : n < xs.length) : gIx (.lst (iL xs)) (.int (n : Int)) = some (.imm (.int xs[n])) := by
  rw [gIx_l, atI_ints, atI_in h]; rfl
section
variable (δ : Sl)
@[simp] theorem ap_fOwnIo (f : Fm) (i : Nat) (fa : FA) : fOwnIo f i fa δ = match δ[i]? with
  | some (some r0) => if r0.mu then (fa δ).bind fun ds δ1 => match δ1[i]? with
      | some (some (.own o)) => (match f (some o) ds with
        | .ok r (some o') => .ok r (δ1.set i (some (.own o')))
        | .exc x (some o') => .exc x (δ1.set i (some (.own o')))
        | _ => .bad)
      | some (some (.brw o)) => (match f (some o) ds with
        | .ok r (some o') => .ok r (δ1.set i (some (.brw o')))
        | .exc x (some o') => .exc x (δ1.set i (some (.brw o')))
        | _ => .bad)
      | _ => .bad
    else .bad
  | _ => .bad := id rfl
@[simp] theorem ap_fMut (i : Nat) (m : List D → List D → Option (D × List D)) (fa : FA) : fMut i m fa δ = match getL δ i with
  | none => .bad
  | some _ => (fa δ).bind fun as δ1 => match getL δ1 i with
    | none => .bad
    | some ds => match m ds as with
      | none => .bad
      | some (z, ds') => .ok z (match δ1[i]? with
        | some (some (.own _)) => δ1.set i (some (.own (.l ds')))
        | _ => δ1.set i (some (.brw (.l ds')))) := id rfl
@[simp] theorem ap_getL (i : Nat) : getL δ i = match δ[i]? with | some (some (.own (.l ds))) => some ds | some (some (.brw (.l ds))) => some ds | _ => none := id rfl
end
theorem rg1_nat {k : Nat} (h : k ≤ 16777216) : gd (-4611686018427387904 ≤ (k : Int) ∧ (k : Int) < 4611686018427387904) = true := by
  refine gd_true ?_
  refine ⟨?_, ?_⟩ <;> omega
def nats (i k : Nat) : List Int := (List.range' i k).map fun z : Nat => (z : Int)
theorem rgD_nats (k : Nat) : rgD 0 (k : Int) = iL (nats 0 k) := by simp [rgD, iL, nats, List.range_eq_range']
theorem nats_succ (i k : Nat) : iL (nats i (k + 1)) = .int (i : Int) :: iL (nats (i + 1) k) := by simp [nats, iL, List.range'_succ]
theorem itRg1_ok {f : FD} {δ : Sl} {k : Nat} (h : k ≤ 16777216) (e : f δ = .ok (.int (k : Int)) δ) : itRg1 f δ = .ok (iL (nats 0 k)) δ := by
  unfold itRg1
  rw [e, Res.bind_ok]
  show (if gd (-4611686018427387904 ≤ (k : Int) ∧ (k : Int) < 4611686018427387904) = true then Res.ok (rgD 0 (k : Int)) δ else .bad) = _
  rw [if_pos (rg1_nat h), rgD_nats]
end
end TS

namespace TS
def act (t : List Int) (x : Int) : Int := t.getD (x % (t.length : Int)).toNat 0
def PerF (f : Int → Int) (p : Int) : Prop := ∀ x, f (x + p) = f x
theorem PerF.neg {f : Int → Int} {p : Int} (h : PerF f p) : PerF f (-p) := fun x => by
  have := h (x + -p)
  rw [← this]; congr 1; omega
theorem PerF.add {f : Int → Int} {p q : Int} (h : PerF f p) (h' : PerF f q) : PerF f (p + q) := fun x => by
  rw [← Int.add_assoc, h' (x + p), h x]
theorem PerF.zero {f : Int → Int} : PerF f 0 := fun x => by rw [Int.add_zero]
theorem PerF.mulN {f : Int → Int} {p : Int} (h : PerF f p) : ∀ n : Nat, PerF f (n * p)
  | 0 => by simpa using PerF.zero
  | n + 1 => by
    have := (PerF.mulN h n).add h
    have e : ((n + 1 : Nat) : Int) * p = n * p + p := by push_cast; rw [Int.add_mul, Int.one_mul]
    rw [e]; exact this
theorem PerF.mul {f : Int → Int} {p : Int} (h : PerF f p) (k : Int) : PerF f (k * p) := by
  rcases Int.le_total 0 k with hk | hk
  · obtain ⟨n, rfl⟩ := Int.eq_ofNat_of_zero_le hk
    exact h.mulN n
  · obtain ⟨n, e⟩ := Int.eq_ofNat_of_zero_le (show 0 ≤ -k by omega)
    have := (h.mulN n).neg
    have e2 : -((n : Int) * p) = k * p := by
      have : k = -(n : Int) := by omega
      rw [this, Int.neg_mul]
    rw [← e2]; exact this
theorem PerF.gcd {f : Int → Int} (p q : Nat) : PerF f p → PerF f q → PerF f (Nat.gcd p q : Nat) := by
  refine Nat.gcd.induction (P := fun p q => PerF f (p : Int) → PerF f (q : Int) → PerF f ((Nat.gcd p q : Nat) : Int)) p q (fun n _ h => ?_) fun m n hm ih h1 h2 => ?_
  · rw [Nat.gcd_zero_left]; exact h
  · rw [Nat.gcd_rec]
    refine ih ?_ h1
    have e : ((n % m : Nat) : Int) = n + (-((n / m : Nat) : Int)) * m := by
      have := Nat.div_add_mod n m
      have h3 : (n : Int) = (m : Int) * ((n / m : Nat) : Int) + ((n % m : Nat) : Int) := by exact_mod_cast this.symm
      rw [Int.neg_mul, Int.mul_comm]; omega
    rw [e]
    exact h2.add (h1.mul _)
theorem act_per (t : List Int) : PerF (act t) t.length := fun x => by
  unfold act
  rw [Int.add_emod_right]
end TS

namespace TS
theorem rep_get (s : List Int) : ∀ (k i : Nat), i < k * s.length → (List.replicate k s).flatten.getD i 0 = s.getD (i % s.length) 0
  | 0, i, h => by simp at h
  | k + 1, i, h => by
    rw [List.replicate_succ, List.flatten_cons, List.getD_eq_getElem?_getD]
    by_cases hi : i < s.length
    · rw [List.getElem?_append_left hi, Nat.mod_eq_of_lt hi, List.getD_eq_getElem?_getD]
    · have hs : i - s.length < k * s.length := by rw [Nat.succ_mul] at h; omega
      rw [List.getElem?_append_right (by omega), ← List.getD_eq_getElem?_getD, rep_get s k _ hs, Nat.mod_eq_sub_mod (by omega : s.length ≤ i)]
def repOf (p : Nat) (t : List Int) : List Int := (List.replicate (t.length / p) (t.take p)).flatten
def isPer (t : List Int) (p : Nat) : Bool := decide (t.length % p = 0) && decide (repOf p t = t)
theorem repOf_length {p : Nat} {t : List Int} (hp : 0 < p) (hd : p ∣ t.length) (h0 : 0 < t.length) : (repOf p t).length = t.length := by
  have hle : p ≤ t.length := Nat.le_of_dvd h0 hd
  unfold repOf
  have e : ∀ k : Nat, ((List.replicate k (t.take p)).flatten).length = k * p := fun k => by
    induction k with
    | zero => simp
    | succ k ih => rw [List.replicate_succ, List.flatten_cons, List.length_append, ih, List.length_take, Nat.min_eq_left hle, Nat.succ_mul, Nat.add_comm]
  rw [e]
  exact Nat.div_mul_cancel hd
theorem getD_ext {a b : List Int} (hl : a.length = b.length) (h : ∀ i, i < b.length → a.getD i 0 = b.getD i 0) : a = b := by
  apply List.ext_getElem hl
  intro i h1 h2
  have := h i h2
  rw [List.getD_eq_getElem?_getD, List.getD_eq_getElem?_getD, List.getElem?_eq_getElem h1, List.getElem?_eq_getElem h2] at this
  exact this
theorem act_nat {t : List Int} {i : Nat} (h : i < t.length) : act t i = t.getD i 0 := by
  unfold act
  rw [Int.emod_eq_of_lt (by omega) (by omega)]
  rfl
theorem act_mod (t : List Int) (x : Int) : act t (x % t.length) = act t x := by
  unfold act
  rw [Int.emod_emod_of_dvd _ (Int.dvd_refl _)]
theorem per_mod {f : Int → Int} {p : Int} (h : PerF f p) (x : Int) : f (x % p) = f x := by
  have := h.mul (-(x / p)) x
  rw [← this]
  congr 1
  have := Int.emod_add_mul_ediv x p
  rw [Int.neg_mul, Int.mul_comm]; omega
theorem isPer_iff {t : List Int} {p : Nat} (hp : 0 < p) (h0 : 0 < t.length) (hd : p ∣ t.length) : repOf p t = t ↔ PerF (act t) p := by
  have hle : p ≤ t.length := Nat.le_of_dvd h0 hd
  have key : ∀ i, i < t.length → (repOf p t).getD i 0 = t.getD (i % p) 0 := fun i hi => by
    have hl : (t.take p).length = p := by rw [List.length_take, Nat.min_eq_left hle]
    unfold repOf
    rw [rep_get (t.take p) (t.length / p) i (by rw [hl, Nat.div_mul_cancel hd]; exact hi), hl, List.getD_eq_getElem?_getD, List.getElem?_take_of_lt (Nat.mod_lt _ hp), List.getD_eq_getElem?_getD]
  have hb : ∀ x : Int, 0 ≤ x % (t.length : Int) ∧ x % (t.length : Int) < t.length := fun x => ⟨Int.emod_nonneg _ (by omega), Int.emod_lt_of_pos _ (by omega)⟩
  constructor
  · intro e x
    have step : ∀ y : Int, act t y = act t (y % (p : Int)) := fun y => by
      obtain ⟨b1, b2⟩ := hb y
      obtain ⟨i, ei⟩ := Int.eq_ofNat_of_zero_le b1
      have hi : i < t.length := by omega
      have q := key i hi
      rw [e] at q
      have hm : i % p < t.length := Nat.lt_of_lt_of_le (Nat.mod_lt _ hp) hle
      rw [← act_mod t y, ei, act_nat hi, q, ← act_nat hm]
      have : y % (p : Int) = ((i % p : Nat) : Int) := by
        rw [← Int.emod_emod_of_dvd y (Int.natCast_dvd_natCast.mpr hd), ei]; rfl
      rw [this]
    rw [step (x + p), Int.add_emod_right, ← step x]
  · intro h
    refine getD_ext (repOf_length hp hd h0) fun i hi => ?_
    rw [key i hi]
    have hm : i % p < t.length := Nat.lt_of_lt_of_le (Nat.mod_lt _ hp) hle
    rw [← act_nat hi, ← act_nat hm, ← per_mod h i]
    rfl
end TS

namespace TS
def leastP (t : List Int) : Nat := ((List.range' 1 (t.length - 1)).find? (isPer t)).getD t.length
def least (t : List Int) : List Int := t.take (leastP t)
structure IsMin (f : Int → Int) (p : Nat) : Prop where
  pos : 0 < p
  per : PerF f p
  min : ∀ q : Nat, 0 < q → PerF f q → p ≤ q
theorem IsMin.uniq {f : Int → Int} {p q : Nat} (h : IsMin f p) (h' : IsMin f q) : p = q := Nat.le_antisymm (h.min q h'.pos h'.per) (h'.min p h.pos h.per)
theorem isPer_spec {t : List Int} {p : Nat} (hp : 0 < p) (h0 : 0 < t.length) : isPer t p = true ↔ p ∣ t.length ∧ PerF (act t) p := by
  unfold isPer
  rw [Bool.and_eq_true, decide_eq_true_eq, decide_eq_true_eq, ← Nat.dvd_iff_mod_eq_zero]
  exact ⟨fun h => ⟨h.1, (isPer_iff hp h0 h.1).mp h.2⟩, fun h => ⟨h.1, (isPer_iff hp h0 h.1).mpr h.2⟩⟩
theorem leastP_dvd {t : List Int} (h0 : 0 < t.length) : leastP t ∣ t.length ∧ 0 < leastP t ∧ PerF (act t) (leastP t) := by
  unfold leastP
  cases e : (List.range' 1 (t.length - 1)).find? (isPer t) with
  | none => exact ⟨Nat.dvd_refl _, h0, act_per t⟩
  | some p =>
    have h1 := List.find?_some e
    have h2 := List.mem_of_find?_eq_some e
    rw [List.mem_range'_1] at h2
    obtain ⟨k1, k2⟩ := (isPer_spec (by omega) h0).mp h1
    exact ⟨k1, by simp; omega, k2⟩
theorem leastP_le {t : List Int} (h0 : 0 < t.length) {p : Nat} (hp : 0 < p) (hd : p ∣ t.length) (h : PerF (act t) p) : leastP t ≤ p := by
  have hle := Nat.le_of_dvd h0 hd
  by_cases hn : p = t.length
  · subst hn
    exact Nat.le_of_dvd h0 (leastP_dvd h0).1
  · unfold leastP
    cases e : (List.range' 1 (t.length - 1)).find? (isPer t) with
    | none =>
      have := List.find?_eq_none.mp e p (by rw [List.mem_range'_1]; omega)
      exact absurd ((isPer_spec hp h0).mpr ⟨hd, h⟩) this
    | some q =>
      obtain ⟨as, bs, e1, e2⟩ := (List.find?_eq_some_iff_append.mp e).2
      show q ≤ p
      rcases Nat.lt_or_ge p q with hlt | hge
      · exfalso
        have hm : p ∈ as := by
          have hq : p ∈ List.range' 1 (t.length - 1) := by rw [List.mem_range'_1]; omega
          rw [e1] at hq
          have hs : (List.range' 1 (t.length - 1)).Pairwise (· < ·) := List.pairwise_lt_range'
          rw [e1] at hs
          rcases List.mem_append.mp hq with z | z
          · exact z
          · rcases List.mem_cons.mp z with z | z
            · omega
            · have := (List.pairwise_cons.mp (List.pairwise_append.mp hs).2.1).1 p z
              omega
        have := e2 p hm
        have k := (isPer_spec hp h0).mpr ⟨hd, h⟩
        simp [k] at this
      · exact hge
theorem leastP_min {t : List Int} (h0 : 0 < t.length) : IsMin (act t) (leastP t) := by
  obtain ⟨h1, h2, h3⟩ := leastP_dvd h0
  refine ⟨h2, h3, fun q hq hper => ?_⟩
  have hg := PerF.gcd q t.length hper (act_per t)
  have hgp : 0 < Nat.gcd q t.length := Nat.gcd_pos_of_pos_left _ hq
  exact Nat.le_trans (leastP_le h0 hgp (Nat.gcd_dvd_right _ _) hg) (Nat.le_of_dvd hq (Nat.gcd_dvd_left _ _))
theorem least_length {t : List Int} (h0 : 0 < t.length) : (least t).length = leastP t := by
  unfold least
  rw [List.length_take, Nat.min_eq_left (Nat.le_of_dvd h0 (leastP_dvd h0).1)]
theorem least_act {t : List Int} (h0 : 0 < t.length) : act (least t) = act t := by
  funext x
  obtain ⟨h1, h2, h3⟩ := leastP_dvd h0
  have hle := Nat.le_of_dvd h0 h1
  rw [← per_mod h3 x]
  have b1 := Int.emod_nonneg x (show (leastP t : Int) ≠ 0 by omega)
  have b2 := Int.emod_lt_of_pos x (show 0 < (leastP t : Int) by omega)
  obtain ⟨i, ei⟩ := Int.eq_ofNat_of_zero_le b1
  have hi : i < leastP t := by omega
  rw [← act_mod (least t) x, least_length h0, ei]
  rw [act_nat (by rw [least_length h0]; exact hi), act_nat (by omega)]
  unfold least
  rw [List.getD_eq_getElem?_getD, List.getElem?_take_of_lt hi, List.getD_eq_getElem?_getD]
theorem least_pos {t : List Int} (h0 : 0 < t.length) : 0 < (least t).length := by rw [least_length h0]; exact (leastP_dvd h0).2.1
theorem least_le {t : List Int} (h0 : 0 < t.length) : (least t).length ≤ t.length := by rw [least_length h0]; exact Nat.le_of_dvd h0 (leastP_dvd h0).1
end TS

namespace TS
open PySem L2
noncomputable section
section
variable (δ : Sl)
@[simp] theorem ap_fMake (n : Nat) (f : Fm) (fa : FA) : fMake n f fa δ = (fa δ).bind fun ds δ1 => match f (some (.o n [])) ds with
  | .ok (.imm .non) (some (.o n' vs)) => if n' = n then .ok (.own (.o n vs)) δ1 else .bad
  | .exc x _ => .exc x δ1
  | _ => .bad := id rfl
@[simp] theorem ap_fMakeL (n i : Nat) (f : Fm) (fa : FA) : fMakeL n i f fa δ = match δ[i]? with
  | some (some (.imm (.cls n'))) => if n' = n then fMake n f fa δ else .bad
  | _ => .bad := id rfl
@[simp] theorem ap_fCMeth (n : Nat) (f : Fm) (fa : FA) : fCMeth n f fa δ = (fa δ).bind fun ds δ1 => outE (f none (.cls n :: ds)) δ1 := id rfl
@[simp] theorem ap_sFldS (i : Nat) (ix : Nat → Option Nat) (fe : FD) : sFldS i ix fe δ = (fe δ).bindS fun d δ1 => match δ1[i]? with
  | some (some (.own (.o n vs))) => (match ix n with
    | some j => (match setF vs j d with
      | some vs' => .nx (δ1.set i (some (.own (.o n vs'))))
      | none => .bad)
    | none => .bad)
  | some (some (.brw (.o n vs))) => (match ix n with
    | some j => (match setF vs j d with
      | some vs' => .nx (δ1.set i (some (.brw (.o n vs'))))
      | none => .bad)
    | none => .bad)
  | _ => .bad := id rfl
@[simp] theorem ap_fOwnT (f : Fm) (fe : FE) : fOwnT f fe δ = (fe δ).bind fun r δ1 => match r with
  | .own o => outE (f (some o) []) δ1
  | _ => .bad := id rfl
@[simp] theorem ap_fProp (tab : Nat → Option Fm) (fo : FD) : fProp tab fo δ = (fo δ).bind fun d δ1 => match d with
  | .obj n vs => (match tab n with
    | some f => (match f none [.obj n vs] with
      | .ok (.imm d) _ => .ok d δ1
      | _ => .bad)
    | none => .bad)
  | _ => .bad := id rfl
@[simp] theorem ap_fOwnK0 (f : Fm) (m : Nat) (fk : FA) : fOwnK0 f m fk δ = (fk δ).bind fun es δ2 => if es.length = m then outE (f none es) δ2 else .bad := id rfl
@[simp] theorem ap_fOwnK (f : Fm) (n m : Nat) (fa fk : FA) : fOwnK f n m fa fk δ = (fa δ).bind fun ds δ1 => (fk δ1).bind fun es δ2 => if ds.length = n ∧ es.length = m then outE (f none (ds ++ es)) δ2 else .bad := id rfl
@[simp] theorem ap_tTrue : tTrue δ = .ok true δ := id rfl
@[simp] theorem ap_sNev : sNev δ = .bad := id rfl
@[simp] theorem ap_fSlV (i : Nat) (fl fh : FO) : fSlV i fl fh δ = if there δ i then (fl δ).bind fun lo δ => (fh δ).bind fun hi δ => (vP i δ).bind fun d δ => match gSl d lo hi with | some r => .ok r δ | none => .bad else .bad := id rfl
end
theorem pow_7 : gPow (.int 10) (.int 7) = some (.imm (.int 10000000)) := by rw [gPow_i (by decide) (by decide) (by decide)]; rfl
theorem pow_18 : gPow (.int 10) (.int 18) = some (.imm (.int 1000000000000000000)) := by rw [gPow_i (by decide) (by decide) (by decide)]; rfl
theorem set_get {α : Type} (l : List α) (i : Nat) (a : α) (h : l[i]? = some a) : l.set i a = l := by
  apply List.ext_getElem?
  intro j
  rw [List.getElem?_set]
  split
  · rename_i e; subst e; split
    · exact h.symm
    · rename_i z; rw [List.getElem?_eq_none (by omega)]
  · rfl
theorem lc_map {α : Type} {inj : α → D} (out : α → D) {i : Nat} {fi : FA} {fe : FD} {δ δ1 : Sl} {xs : List α} (h1 : fi δ = .ok (xs.map inj) δ1) (hfree : freeS δ1 i = true) (hlen : xs.length ≤ 16777216)
    (he : ∀ x ∈ xs, fe (δ1.set i (some (.imm (inj x)))) = .ok (out x) (δ1.set i (some (.imm (inj x))))) : fLc (stName i) [i] fi tTrue fe δ = .ok (.own (.l (xs.map out))) δ1 := by
  have key : ∀ (ys : List α) (acc : List D), (∀ y ∈ ys, y ∈ xs) → acc.length + ys.length ≤ 16777216 → lcL (stName i) [i] tTrue fe (ys.map inj) acc (δ1.set i none) = .ok (acc ++ ys.map out) (δ1.set i none) := by
    intro ys
    induction ys with
    | nil => intro acc _ _; simp [lcL]
    | cons y ys ih =>
      intro acc hm hl
      have e := he y (hm y (by simp))
      simp only [List.map_cons, lcL, stName, List.set_set, ap_tTrue, noX, Res.bind_ok, if_true, e]
      rw [if_pos (by simp at hl; omega)]
      show lcL (stName i) [i] tTrue fe (ys.map inj) (acc ++ [out y]) ((δ1.set i (some (.imm (inj y)))).set i none) = _
      rw [List.set_set, ih (acc ++ [out y]) (fun z hz => hm z (by simp [hz])) (by simp at hl ⊢; omega)]
      simp
  obtain ⟨o, ho⟩ : ∃ o, δ1[i]? = some o := by
    unfold freeS at hfree
    cases q : δ1[i]? with
    | none => rw [q] at hfree; cases hfree
    | some o => exact ⟨o, rfl⟩
  unfold fLc
  rw [h1, Res.bind_ok]
  simp only [List.all_cons, List.all_nil, Bool.and_true, hfree, if_true]
  show ((lcL (stName i) [i] tTrue fe (xs.map inj) [] (δ1.set i none)).bind fun acc δ2 => Res.ok (R.own (.l acc)) (restD δ1 [i] δ2)) = _
  rw [key xs [] (fun _ h => h) (by simpa using hlen), Res.bind_ok]
  simp only [List.nil_append, restD, ho, Option.join, List.set_set]
  rw [set_get _ _ _ (by rw [ho]; rfl)]
theorem lc_intsD {i : Nat} {fi : FA} {fe : FD} {δ δ1 : Sl} {xs : List Int} (f : Int → D) (h1 : fi δ = .ok (iL xs) δ1) (hfree : freeS δ1 i = true) (hlen : xs.length ≤ 16777216)
    (he : ∀ x ∈ xs, fe (δ1.set i (some (.imm (.int x)))) = .ok (f x) (δ1.set i (some (.imm (.int x))))) : fLc (stName i) [i] fi tTrue fe δ = .ok (.own (.l (xs.map f))) δ1 :=
  lc_map (xs := xs) (inj := D.int) f h1 hfree hlen he
end
end TS

namespace TS
theorem nodup_iff {α : Type} {l : List α} : l.Nodup ↔ ∀ i j, i < j → j < l.length → l[i]? ≠ l[j]? := by
  unfold List.Nodup
  rw [List.pairwise_iff_getElem]
  constructor
  · intro h i j hij hj e
    rw [List.getElem?_eq_getElem hj, List.getElem?_eq_getElem (by omega)] at e
    exact h i j (by omega) hj hij (Option.some.inj e)
  · intro h i j hi hj hij e
    exact h i j hij hj (by rw [List.getElem?_eq_getElem hj, List.getElem?_eq_getElem hi, e])
def mv (t : List Int) (x : Int) : Int := x + act t x
structure Good (t : List Int) : Prop where
  pos : 0 < t.length
  len : t.length ≤ 2520
  inj : ∀ x y, mv t x = mv t y → x = y
def rems (n : Int) : Nat → List Int → List Int
  | _, [] => []
  | i, x :: t => ((i : Int) + x) % n :: rems n (i + 1) t
theorem rems_len (n : Int) : ∀ (t : List Int) (i : Nat), (rems n i t).length = t.length
  | [], i => rfl
  | x :: t, i => by simp [rems, rems_len n t (i + 1)]
theorem rems_get (n : Int) : ∀ (t : List Int) (i j : Nat), (rems n i t)[j]? = (t[j]?).map fun x => (((i + j : Nat) : Int) + x) % n
  | [], i, j => by simp [rems]
  | x :: t, i, 0 => by simp [rems]
  | x :: t, i, j + 1 => by
    simp only [rems, List.getElem?_cons_succ, rems_get n t (i + 1) j]
    congr 1; funext z; congr 2; omega
theorem act_get {t : List Int} {i : Nat} {x : Int} (h : t[i]? = some x) : act t i = x := by
  obtain ⟨hl, e⟩ := List.getElem?_eq_some_iff.mp h
  rw [act_nat hl, List.getD_eq_getElem?_getD, h]; rfl
theorem act_get' {t : List Int} {i : Nat} (h : i < t.length) : t[i]? = some (act t i) := by
  rw [act_nat h, List.getD_eq_getElem?_getD, List.getElem?_eq_getElem h]; rfl
theorem mv_perk (t : List Int) (x k : Int) : mv t (x + k * t.length) = mv t x + k * t.length := by
  unfold mv; rw [(act_per t).mul k x]; omega
theorem Good.rems {t : List Int} (h : Good t) : (rems t.length 0 t).Nodup := by
  rw [nodup_iff]
  intro i j hij hj e
  rw [rems_len] at hj
  have hi : i < t.length := by omega
  rw [rems_get, rems_get, act_get' hi, act_get' hj] at e
  simp only [Option.map_some, Option.some.injEq, Nat.zero_add] at e
  have h0 : (t.length : Int) ≠ 0 := by omega
  -- mv i = mv j + k n
  have d : ∃ k : Int, mv t i = mv t j + k * t.length := by
    refine ⟨((i : Int) + act t i) / t.length - ((j : Int) + act t j) / t.length, ?_⟩
    have e1 := Int.emod_add_mul_ediv ((i : Int) + act t i) t.length
    have e2 := Int.emod_add_mul_ediv ((j : Int) + act t j) t.length
    unfold mv
    rw [Int.sub_mul, Int.mul_comm _ (t.length : Int), Int.mul_comm _ (t.length : Int)]
    omega
  obtain ⟨k, hk⟩ := d
  rw [← mv_perk] at hk
  have := h.inj _ _ hk
  -- i = j + k n with both in [0, n)
  have hk0 : k = 0 := by
    rcases Int.lt_trichotomy k 0 with hk | hk | hk
    · have : k * (t.length : Int) ≤ -1 * t.length := Int.mul_le_mul_of_nonneg_right (by omega) (by omega)
      omega
    · exact hk
    · have : 1 * (t.length : Int) ≤ k * t.length := Int.mul_le_mul_of_nonneg_right (by omega) (by omega)
      omega
  subst hk0
  omega
theorem Good.least {t : List Int} (h : Good t) : Good (least t) := by
  refine ⟨least_pos h.pos, Nat.le_trans (least_le h.pos) h.len, fun x y e => h.inj x y ?_⟩
  unfold mv at e ⊢
  rw [least_act h.pos] at e
  exact e
theorem mv_least {t : List Int} (h : Good t) : mv (least t) = mv t := by
  funext x; unfold mv; rw [least_act h.pos]
def tabOf (n : Nat) (f : Int → Int) : List Int := (List.range n).map fun i : Nat => f (i : Int)
theorem tabOf_len (n : Nat) (f : Int → Int) : (tabOf n f).length = n := by simp [tabOf]
theorem tabOf_self (t : List Int) : tabOf t.length (act t) = t := by
  apply getD_ext (tabOf_len _ _)
  intro i hi
  have : (tabOf t.length (act t))[i]? = some (act t i) := by simp [tabOf, hi]
  rw [List.getD_eq_getElem?_getD, this, Option.getD_some, act_nat hi]
end TS

namespace TS
open PySem L2
noncomputable section
theorem strOk_of (s : String) : PyData.strOk (Str.ofString s) = true := by
  unfold PyData.strOk
  rw [Str.ofString_eq_toList]
  rw [Array.all_eq_true']
  intro n hn
  simp at hn
  obtain ⟨c, _, rfl⟩ := hn
  have := c.valid
  simp only [decide_eq_true_eq]
  show c.val.toNat < 1114112
  rcases this with h | h
  · have : c.val.toNat < 55296 := h
    omega
  · exact h.2
theorem shaped_str {x : Str} (h : PyData.strOk x = true) : SeqAt.shaped (PyData.str x) = true := by unfold SeqAt.shaped; simp [PyData.canLay0, PyData.depth, h]
theorem gEq_str {x y : Str} (h : PyData.strOk x = true) (h' : PyData.strOk y = true) : gEq (.str x) (.str y) = some (.imm (.bl (decide (x = y)))) := by
  have : PyData.eqv (.str x) (.str y) = decide (x = y) := by
    by_cases e : x = y
    · subst e; simp [PyData.eqv]
    · simp [PyData.eqv, e]
  simp [gEq, toP, shaped_str h, shaped_str h', this]
theorem cells_ok (c : Int) (n : Nat) (hc : 0 ≤ c ∧ c < 100) : ∃ k : Nat, k < 100 ∧ (if 1 < (if (n : Int) < c then (n : Int) else c) then (if (n : Int) < c then (n : Int) else c) else 1) = (k : Int) := by
  by_cases h5 : (n : Int) < c
  · rw [if_pos h5]
    by_cases h1 : (1 : Int) < n
    · rw [if_pos h1]; exact ⟨n, by omega, rfl⟩
    · rw [if_neg h1]; exact ⟨1, by omega, rfl⟩
  · rw [if_neg h5]
    by_cases h1 : (1 : Int) < c
    · rw [if_pos h1]; exact ⟨c.toNat, by omega, by omega⟩
    · rw [if_neg h1]; exact ⟨1, by omega, rfl⟩
theorem blsOf_true : ∀ l : List Int, blsOf (l.map fun _ => D.bl true) = some (l.map fun _ => true)
  | [] => rfl
  | x :: l => by simp only [List.map_cons, blsOf, blsOf_true l, Option.map_some]
theorem gAll_true (l : List Int) : gAll [.lst (l.map fun _ => D.bl true)] = some (.imm (.bl true)) := by
  simp only [gAll, blsOf_true]
  simp
end
end TS

namespace TS
def srcL (n : Nat) : Nat → List Int → List Int → List Int
  | _, [], acc => acc
  | i, x :: t, acc => srcL n (i + 1) t (acc.set (((i : Int) + x) % n).toNat i)
def srcs (t : List Int) : List Int := srcL t.length 0 t (List.replicate t.length 0)
theorem srcL_len (n : Nat) : ∀ (t : List Int) (i : Nat) (acc : List Int), (srcL n i t acc).length = acc.length
  | [], i, acc => rfl
  | x :: t, i, acc => by rw [srcL, srcL_len n t]; simp
theorem srcs_len (t : List Int) : (srcs t).length = t.length := by unfold srcs; rw [srcL_len]; simp
theorem srcL_stay (n : Nat) (hn : 0 < n) : ∀ (t : List Int) (i : Nat) (acc : List Int) (j : Nat), (∀ r ∈ rems n i t, r ≠ j) → (srcL n i t acc)[j]? = acc[j]?
  | [], i, acc, j, _ => rfl
  | x :: t, i, acc, j, h => by
    rw [srcL, srcL_stay n hn t (i + 1) _ j (fun r hr => h r (by simp [rems, hr]))]
    have h0 := h (((i : Int) + x) % n) (by simp [rems])
    have b := Int.emod_nonneg ((i : Int) + x) (show (n : Int) ≠ 0 by omega)
    rw [List.getElem?_set_ne (by omega)]
theorem srcL_at (n : Nat) (hn : 0 < n) : ∀ (t : List Int) (i : Nat) (acc : List Int) (k : Nat) (x : Int), acc.length = n → (rems n i t).Nodup → t[k]? = some x → (srcL n i t acc)[((((i + k : Nat) : Int) + x) % n).toNat]? = some ((i + k : Nat) : Int)
  | [], i, acc, k, x, _, _, h => by simp at h
  | y :: t, i, acc, 0, x, hl, hnd, h => by
    simp at h
    subst h
    have b0 := Int.emod_nonneg ((i : Int) + y) (show (n : Int) ≠ 0 by omega)
    have b1 := Int.emod_lt_of_pos ((i : Int) + y) (show 0 < (n : Int) by omega)
    rw [srcL]
    simp only [Nat.add_zero]
    have hnd' := List.nodup_cons.mp (show (((i : Int) + y) % n :: rems n (i + 1) t).Nodup from hnd)
    rw [srcL_stay n hn t (i + 1) _ _ (fun r hr e => hnd'.1 (by
      have : r = ((i : Int) + y) % n := by omega
      rw [← this]; exact hr))]
    rw [List.getElem?_set_self (by omega)]
  | y :: t, i, acc, k + 1, x, hl, hnd, h => by
    have hnd' := List.nodup_cons.mp (show (((i : Int) + y) % n :: rems n (i + 1) t).Nodup from hnd)
    have e := srcL_at n hn t (i + 1) (acc.set (((i : Int) + y) % n).toNat i) k x (by simp [hl]) hnd'.2 (by simpa using h)
    rw [srcL]
    have z : i + 1 + k = i + (k + 1) := by omega
    rw [z] at e
    exact e
theorem srcs_at {t : List Int} (h : Good t) {k : Nat} (hk : k < t.length) : (srcs t)[((((k : Nat) : Int) + act t k) % t.length).toNat]? = some (k : Int) := by
  have e := srcL_at t.length h.pos t 0 (List.replicate t.length 0) k (act t k) (by simp) h.rems (act_get' hk)
  rw [Nat.zero_add] at e
  exact e
theorem nd_le : ∀ (n : Nat) (l : List Nat), l.Nodup → (∀ x ∈ l, x < n) → l.length ≤ n
  | 0, l, _, h => by
    cases l with
    | nil => simp
    | cons a l => exact absurd (h a (by simp)) (by omega)
  | n + 1, l, hn, h => by
    by_cases hm : n ∈ l
    · have e := nd_le n (l.erase n) (hn.erase n) fun x hx => by
        have h1 := h x (List.mem_of_mem_erase hx)
        have h2 : x ≠ n := fun z => by
          subst z
          exact absurd hx (List.Nodup.not_mem_erase hn)
        omega
      rw [List.length_erase_of_mem hm] at e
      omega
    · have e := nd_le n l hn fun x hx => by
        have h1 := h x hx
        have h2 : x ≠ n := fun z => hm (z ▸ hx)
        omega
      omega
theorem nd_all (n : Nat) (l : List Nat) (hn : l.Nodup) (h : ∀ x ∈ l, x < n) (hl : l.length = n) (j : Nat) (hj : j < n) : j ∈ l := by
  refine Classical.byContradiction fun hm => ?_
  have := nd_le n (j :: l) (List.nodup_cons.mpr ⟨hm, hn⟩) (fun x hx => by
    rcases List.mem_cons.mp hx with rfl | hx
    · exact hj
    · exact h x hx)
  simp at this
  omega
theorem rems_bd {n : Nat} (hn : 0 < n) (t : List Int) (i : Nat) : ∀ r ∈ rems n i t, 0 ≤ r ∧ r < n := by
  intro r hr
  obtain ⟨j, hj, e⟩ := List.getElem_of_mem hr
  have := rems_get n t i j
  rw [List.getElem?_eq_getElem hj, e] at this
  obtain ⟨x, _, q⟩ := Option.map_eq_some_iff.mp this.symm
  rw [← q]
  exact ⟨Int.emod_nonneg _ (by omega), Int.emod_lt_of_pos _ (by omega)⟩
theorem src_ex {t : List Int} (h : Good t) {j : Nat} (hj : j < t.length) : ∃ k : Nat, k < t.length ∧ ((k : Int) + act t k) % t.length = j ∧ (srcs t)[j]? = some (k : Int) := by
  have hnd := h.rems
  have hb := rems_bd h.pos t 0
  have hm : j ∈ (rems t.length 0 t).map Int.toNat := by
    refine nd_all t.length _ ?_ ?_ ?_ j hj
    · unfold List.Nodup
      rw [List.pairwise_map]
      refine List.Pairwise.imp_of_mem ?_ hnd
      intro a b ha hb' hab e
      have := hb a ha
      have := hb b hb'
      omega
    · intro x hx
      obtain ⟨r, hr, rfl⟩ := List.mem_map.mp hx
      have := hb r hr
      omega
    · simp [rems_len]
  obtain ⟨r, hr, e⟩ := List.mem_map.mp hm
  obtain ⟨k, hk, ek⟩ := List.getElem_of_mem hr
  rw [rems_len] at hk
  have q := rems_get t.length t 0 k
  rw [List.getElem?_eq_getElem (by rw [rems_len]; exact hk), ek, act_get' hk, Option.map_some, Nat.zero_add] at q
  have q := Option.some.inj q
  have rb := hb r hr
  refine ⟨k, hk, by omega, ?_⟩
  have s := srcs_at h hk
  rw [← q, e] at s
  exact s
def inv (t : List Int) (x : Int) : Int := x - act t (act (srcs t) x)
theorem mv_inv {t : List Int} (h : Good t) (x : Int) : mv t (inv t x) = x := by
  have b0 := Int.emod_nonneg x (show (t.length : Int) ≠ 0 by have := h.pos; omega)
  have b1 := Int.emod_lt_of_pos x (show 0 < (t.length : Int) by have := h.pos; omega)
  obtain ⟨j, ej⟩ := Int.eq_ofNat_of_zero_le b0
  obtain ⟨k, hk, e1, e2⟩ := src_ex h (j := j) (by omega)
  have e3 : act (srcs t) x = k := by
    rw [← act_mod, srcs_len, ej]
    exact act_get e2
  unfold inv
  rw [e3]
  -- x = k + act t k + q n
  have d : ∃ q : Int, x - act t k = k + q * t.length := by
    have h1 := Int.emod_add_mul_ediv x t.length
    have h2 := Int.emod_add_mul_ediv ((k : Int) + act t k) t.length
    refine ⟨x / t.length - ((k : Int) + act t k) / t.length, ?_⟩
    rw [Int.sub_mul, Int.mul_comm _ (t.length : Int), Int.mul_comm _ (t.length : Int)]
    omega
  obtain ⟨q, hq⟩ := d
  rw [hq, mv_perk]
  unfold mv
  omega
end TS

namespace TS
def itr (f : Int → Int) : Nat → Int → Int
  | 0, x => x
  | k + 1, x => f (itr f k x)
def pwr (t : List Int) (n : Int) (x : Int) : Int := if 0 ≤ n then itr (mv t) n.toNat x else itr (inv t) (-n).toNat x
theorem pwr_zero (t : List Int) (x : Int) : pwr t 0 x = x := rfl
theorem pwr_succ {t : List Int} (h : Good t) (n : Int) (x : Int) : pwr t (n + 1) x = mv t (pwr t n x) := by
  unfold pwr
  by_cases h0 : 0 ≤ n
  · rw [if_pos h0, if_pos (by omega), show (n + 1).toNat = n.toNat + 1 by omega]; rfl
  · rw [if_neg h0]
    by_cases h1 : n = -1
    · subst h1
      rw [if_pos (by omega)]
      show x = mv t (inv t x)
      rw [mv_inv h]
    · rw [if_neg (by omega), show (-n).toNat = (-(n + 1)).toNat + 1 by omega]
      show _ = mv t (inv t _)
      rw [mv_inv h]
theorem pwr_uniq {t : List Int} (h : Good t) {x : Int} {g : Int → Int} (h0 : g 0 = x) (h1 : ∀ n, g (n + 1) = mv t (g n)) (n : Int) : g n = pwr t n x := by
  have up : ∀ k : Nat, g (k : Int) = pwr t k x := fun k => by
    induction k with
    | zero => rw [Int.natCast_zero, h0, pwr_zero]
    | succ k ih => rw [Int.natCast_succ, h1, ih, pwr_succ h]
  have dn : ∀ k : Nat, g (-(k : Int)) = pwr t (-(k : Int)) x := fun k => by
    induction k with
    | zero => simpa using up 0
    | succ k ih =>
      refine h.inj _ _ ?_
      rw [← h1, ← pwr_succ h]
      have : -((k + 1 : Nat) : Int) + 1 = -(k : Int) := by omega
      rw [this]; exact ih
  rcases Int.le_total 0 n with q | q
  · obtain ⟨k, rfl⟩ := Int.eq_ofNat_of_zero_le q
    exact up k
  · obtain ⟨k, e⟩ := Int.eq_ofNat_of_zero_le (show 0 ≤ -n by omega)
    have : n = -(k : Int) := by omega
    rw [this]; exact dn k
theorem pwr_add {t : List Int} (h : Good t) (m n x : Int) : pwr t (m + n) x = pwr t n (pwr t m x) :=
  pwr_uniq h (g := fun n => pwr t (m + n) x) (by show pwr t (m + 0) x = _; rw [Int.add_zero]) (fun n => by show pwr t (m + (n + 1)) x = _; rw [← Int.add_assoc, pwr_succ h]) n
theorem pwr_inj {t : List Int} (h : Good t) (n x y : Int) (e : pwr t n x = pwr t n y) : x = y := by
  have q : ∀ z, pwr t (-n) (pwr t n z) = z := fun z => by rw [← pwr_add h, Int.add_right_neg, pwr_zero]
  rw [← q x, e, q]
theorem pwr_perk {t : List Int} (h : Good t) (n x k : Int) : pwr t n (x + k * t.length) = pwr t n x + k * t.length :=
  (pwr_uniq h (g := fun n => pwr t n x + k * t.length) (by show pwr t 0 x + _ = _; rw [pwr_zero]) (fun n => by show pwr t (n + 1) x + _ = mv t (pwr t n x + _); rw [mv_perk, pwr_succ h]) n).symm
def nx (t : List Int) (j : Nat) : Nat := (((j : Int) + act t j) % t.length).toNat
theorem nx_int {t : List Int} (h : 0 < t.length) (j : Nat) : ((nx t j : Nat) : Int) = ((j : Int) + act t j) % t.length := by
  have := Int.emod_nonneg ((j : Int) + act t j) (show (t.length : Int) ≠ 0 by omega)
  unfold nx; omega
theorem nx_lt {t : List Int} (h : 0 < t.length) (j : Nat) : nx t j < t.length := by
  have := Int.emod_lt_of_pos ((j : Int) + act t j) (show 0 < (t.length : Int) by omega)
  have := nx_int h j
  omega
structure Path (t : List Int) (c : List Nat) : Prop where
  lt : ∀ j ∈ c, j < t.length
  step : ∀ (k : Nat) (a b : Nat), c[k]? = some a → c[k + 1]? = some b → b = nx t a
structure Cyc (t : List Int) (c : List Nat) : Prop where
  path : Path t c
  nd : c.Nodup
  ne : 0 < c.length
  close : ∀ a b, c[c.length - 1]? = some a → c[0]? = some b → b = nx t a
def sumK (t : List Int) (c : List Nat) : Nat → Int
  | 0 => 0
  | k + 1 => sumK t c k + act t (c.getD (k % c.length) 0)
def sumG (t : List Int) (c : List Nat) (k : Int) : Int := k / c.length * sumK t c c.length + sumK t c (k % c.length).toNat
theorem sumG_step {t : List Int} {c : List Nat} (hc : 0 < c.length) (k : Int) : sumG t c (k + 1) = sumG t c k + act t (c.getD (k % c.length).toNat 0) := by
  have b0 := Int.emod_nonneg k (show (c.length : Int) ≠ 0 by omega)
  have b1 := Int.emod_lt_of_pos k (show 0 < (c.length : Int) by omega)
  have e := Int.emod_add_mul_ediv k c.length
  obtain ⟨r, hr⟩ := Int.eq_ofNat_of_zero_le b0
  have hrl : r < c.length := by omega
  by_cases hl : r + 1 < c.length
  · have q : (k + 1) / (c.length : Int) = k / c.length ∧ (k + 1) % (c.length : Int) = r + 1 := by
      rw [Int.ediv_emod_unique (by omega)]
      refine ⟨?_, by omega, by omega⟩
      omega
    unfold sumG
    rw [q.1, q.2, hr]
    rw [show ((r : Int) + 1).toNat = r + 1 by omega, Int.toNat_natCast, sumK, Nat.mod_eq_of_lt hrl]
    omega
  · have hrm : r + 1 = c.length := by omega
    have q : (k + 1) / (c.length : Int) = k / c.length + 1 ∧ (k + 1) % (c.length : Int) = 0 := by
      rw [Int.ediv_emod_unique (by omega)]
      refine ⟨?_, by omega, by omega⟩
      rw [Int.mul_add, Int.mul_one]
      omega
    unfold sumG
    rw [q.1, q.2, hr]
    have e2 : sumK t c c.length = sumK t c r + act t (c.getD r 0) := by
      rw [← hrm, sumK, Nat.mod_eq_of_lt hrl]
    show (k / c.length + 1) * sumK t c c.length + sumK t c 0 = k / c.length * sumK t c c.length + sumK t c (r : Int).toNat + act t (c.getD (r : Int).toNat 0)
    rw [Int.toNat_natCast, Int.add_mul, Int.one_mul]
    show _ + 0 = _
    omega
theorem sumG_nat {t : List Int} {c : List Nat} (hc : 0 < c.length) : ∀ k : Nat, sumG t c (k : Int) = sumK t c k
  | 0 => by
    unfold sumG
    show 0 / (c.length : Int) * _ + sumK t c ((0 : Int) % c.length).toNat = 0
    rw [Int.zero_ediv, Int.zero_emod, Int.zero_mul]; rfl
  | k + 1 => by
    rw [Int.natCast_succ, sumG_step hc, sumG_nat hc k, sumK]
    congr 2
theorem sumG_lap {t : List Int} {c : List Nat} (hc : 0 < c.length) (k l : Int) : sumG t c (k + l * c.length) = sumG t c k + l * sumK t c c.length := by
  unfold sumG
  rw [Int.add_mul_emod_self_right, Int.add_mul_ediv_right _ _ (by omega), Int.add_mul]
  omega
theorem sumG_rem {t : List Int} {c : List Nat} (hc : Cyc t c) (ht : 0 < t.length) {c0 : Nat} (h0 : c[0]? = some c0) (k : Int) : ((c0 : Int) + sumG t c k) % t.length = (c.getD (k % c.length).toNat 0 : Nat) := by
  have hl := hc.ne
  have step : ∀ k : Int, ((c0 : Int) + sumG t c k) % t.length = (c.getD (k % c.length).toNat 0 : Nat) → ((c0 : Int) + sumG t c (k + 1)) % t.length = (c.getD ((k + 1) % c.length).toNat 0 : Nat) := by
    intro k e
    have b0 := Int.emod_nonneg k (show (c.length : Int) ≠ 0 by omega)
    have b1 := Int.emod_lt_of_pos k (show 0 < (c.length : Int) by omega)
    obtain ⟨r, hr⟩ := Int.eq_ofNat_of_zero_le b0
    have hrl : r < c.length := by omega
    rw [hr, Int.toNat_natCast] at e
    have ga : c[r]? = some (c.getD r 0) := by rw [List.getD_eq_getElem?_getD, List.getElem?_eq_getElem hrl]; rfl
    have nxt : c.getD ((k + 1) % c.length).toNat 0 = nx t (c.getD r 0) := by
      by_cases hll : r + 1 < c.length
      · have q : (k + 1) % (c.length : Int) = r + 1 := by
          rw [← Int.emod_add_emod, hr, Int.emod_eq_of_lt (by omega) (by omega)]
        rw [q, show ((r : Int) + 1).toNat = r + 1 by omega]
        refine hc.path.step r _ _ ga ?_
        rw [List.getD_eq_getElem?_getD, List.getElem?_eq_getElem hll]; rfl
      · have hrm : r + 1 = c.length := by omega
        have q : (k + 1) % (c.length : Int) = 0 := by
          rw [← Int.emod_add_emod, hr, show (r : Int) + 1 = c.length by omega, Int.emod_self]
        rw [q]
        refine hc.close _ _ (by rw [show c.length - 1 = r by omega]; exact ga) ?_
        show c[0]? = some (c.getD 0 0)
        rw [List.getD_eq_getElem?_getD, List.getElem?_eq_getElem hl]; rfl
    rw [nxt, nx_int ht, sumG_step hl, hr, Int.toNat_natCast, ← Int.add_assoc, ← Int.emod_add_emod, e]
  have base : ((c0 : Int) + sumG t c 0) % t.length = (c.getD ((0 : Int) % c.length).toNat 0 : Nat) := by
    have g0 : sumG t c 0 = 0 := sumG_nat hl 0
    rw [g0, Int.zero_emod, Int.add_zero]
    show (c0 : Int) % _ = (c.getD 0 0 : Nat)
    have : c.getD 0 0 = c0 := by rw [List.getD_eq_getElem?_getD, h0]; rfl
    rw [this]
    have := hc.path.lt c0 (List.mem_of_getElem? h0)
    exact Int.emod_eq_of_lt (by omega) (by omega)
  have nonneg : ∀ k : Nat, ((c0 : Int) + sumG t c k) % t.length = (c.getD ((k : Int) % c.length).toNat 0 : Nat) := fun k => by
    induction k with
    | zero => exact base
    | succ k ih => rw [Int.natCast_succ]; exact step k ih
  -- all k by whole laps
  have lap0 : sumK t c c.length % t.length = 0 := by
    have e1 := nonneg c.length
    rw [sumG_nat hl, Int.emod_self] at e1
    have : c.getD ((0 : Int)).toNat 0 = c0 := by
      show c.getD 0 0 = c0
      rw [List.getD_eq_getElem?_getD, h0]; rfl
    rw [this] at e1
    have hlt := hc.path.lt c0 (List.mem_of_getElem? h0)
    have e2 : ((c0 : Int) + sumK t c c.length - c0) % t.length = 0 := by
      rw [Int.sub_emod, e1, Int.emod_eq_of_lt (show (0 : Int) ≤ c0 by omega) (by omega), Int.sub_self, Int.zero_emod]
    rw [show (c0 : Int) + sumK t c c.length - c0 = sumK t c c.length by omega] at e2
    exact e2
  have hk : k = (k % c.length) + (k / c.length) * c.length := by
    have := Int.emod_add_mul_ediv k c.length
    rw [Int.mul_comm] at this
    omega
  have b0 := Int.emod_nonneg k (show (c.length : Int) ≠ 0 by omega)
  obtain ⟨r, hr⟩ := Int.eq_ofNat_of_zero_le b0
  have e3 := nonneg r
  have b1 := Int.emod_lt_of_pos k (show 0 < (c.length : Int) by omega)
  rw [show (r : Int) % (c.length : Int) = r from Int.emod_eq_of_lt (by omega) (by omega)] at e3
  rw [hr, ← e3]
  conv => lhs; rw [hk, sumG_lap hl, hr]
  rw [← Int.add_assoc, Int.add_emod, Int.mul_emod, lap0, Int.mul_zero, Int.zero_emod, Int.add_zero, Int.emod_emod_of_dvd _ (Int.dvd_refl _)]
end TS

namespace TS
open PySem L2
noncomputable section
def sm (f : Int → Int) : Nat → Int
  | 0 => 0
  | n + 1 => sm f n + f (n : Int)
theorem tabOf_sum (f : Int → Int) : ∀ n : Nat, (tabOf n f).sum = sm f n
  | 0 => rfl
  | n + 1 => by
    have e : tabOf (n + 1) f = tabOf n f ++ [f n] := by simp [tabOf, List.range_succ]
    rw [e, List.sum_append, tabOf_sum f n]
    simp [sm]
theorem sum_act (t : List Int) : t.sum = sm (act t) t.length := by
  conv => lhs; rw [← tabOf_self t]
  exact tabOf_sum _ _
theorem sm_congr {f g : Int → Int} : ∀ {n : Nat}, (∀ i : Nat, i < n → f i = g i) → sm f n = sm g n
  | 0, _ => rfl
  | n + 1, h => by
    simp only [sm]
    rw [sm_congr fun i hi => h i (by omega), h n (by omega)]
theorem sm_plus (f g : Int → Int) : ∀ n : Nat, sm (fun i => f i + g i) n = sm f n + sm g n
  | 0 => rfl
  | n + 1 => by simp only [sm]; rw [sm_plus f g n]; omega
theorem sm_minus (f g : Int → Int) : ∀ n : Nat, sm (fun i => f i - g i) n = sm f n - sm g n
  | 0 => rfl
  | n + 1 => by simp only [sm]; rw [sm_minus f g n]; omega
theorem sm_times (k : Int) (f : Int → Int) : ∀ n : Nat, sm (fun i => k * f i) n = k * sm f n
  | 0 => by simp [sm]
  | n + 1 => by simp only [sm]; rw [sm_times k f n, Int.mul_add]
theorem sm_const (k : Int) : ∀ n : Nat, sm (fun _ => k) n = n * k
  | 0 => by simp [sm]
  | n + 1 => by simp only [sm]; rw [sm_const k n, Int.natCast_succ, Int.add_mul, Int.one_mul]
theorem sm_add (f : Int → Int) (a : Nat) : ∀ b : Nat, sm f (a + b) = sm f a + sm (fun i => f (a + i)) b
  | 0 => by simp [sm]
  | b + 1 => by
    rw [← Nat.add_assoc]
    simp only [sm]
    rw [sm_add f a b, Int.natCast_add]
    omega
theorem sm_per {f : Int → Int} {p : Nat} (h : PerF f p) : ∀ k : Nat, sm f (k * p) = k * sm f p
  | 0 => by simp [sm]
  | k + 1 => by
    rw [Nat.succ_mul, sm_add, sm_per h k]
    have e : sm (fun i => f (((k * p : Nat) : Int) + i)) p = sm f p := sm_congr fun i hi => by
      rw [Int.natCast_mul, Int.add_comm]
      exact (h.mulN k) i
    rw [e, Int.natCast_succ, Int.add_mul, Int.one_mul]
theorem nd_len : ∀ (n : Nat) (l : List Int), l.Nodup → (∀ x ∈ l, 0 ≤ x ∧ x < n) → l.length ≤ n
  | 0, [], _, _ => Nat.le_refl _
  | 0, x :: l, _, h => by have := h x (by simp); omega
  | n + 1, l, hn, h => by
    have e : (l.erase (n : Int)).length ≤ n := nd_len n _ (hn.erase _) fun x hx => by
      have h1 := h x (List.mem_of_mem_erase hx)
      have h2 : x ≠ n := fun q => by subst q; exact (List.Nodup.not_mem_erase hn) hx
      omega
    have : l.length ≤ (l.erase (n : Int)).length + 1 := by
      rw [List.length_erase]; split <;> omega
    omega
theorem nd_perm : ∀ (n : Nat) (l : List Int), l.Nodup → (∀ x ∈ l, 0 ≤ x ∧ x < n) → l.length = n → l.Perm (nats 0 n)
  | 0, l, _, _, hl => by
    have : l = [] := List.length_eq_zero_iff.mp hl
    subst this
    exact List.Perm.refl _
  | n + 1, l, hn, h, hl => by
    have hm : (n : Int) ∈ l := by
      by_cases hm : (n : Int) ∈ l
      · exact hm
      · have := nd_len n l hn fun x hx => by
          have h1 := h x hx
          have h2 : x ≠ n := fun q => by subst q; exact hm hx
          omega
        omega
    have e := nd_perm n (l.erase (n : Int)) (hn.erase _) (fun x hx => by
      have h1 := h x (List.mem_of_mem_erase hx)
      have h2 : x ≠ n := fun q => by subst q; exact (List.Nodup.not_mem_erase hn) hx
      omega) (by rw [List.length_erase_of_mem hm]; omega)
    have e2 : nats 0 (n + 1) = nats 0 n ++ [(n : Int)] := by simp [nats, List.range'_concat]
    rw [e2]
    exact (List.perm_cons_erase hm).trans ((e.cons _).trans (List.perm_append_comm (l₁ := [(n : Int)])))
theorem perm_sum {a b : List Int} (h : a.Perm b) : a.sum = b.sum := by
  induction h with
  | nil => rfl
  | cons x _ ih => simp [ih]
  | swap x y l => simp; omega
  | trans _ _ h1 h2 => exact h1.trans h2
theorem tabOf_nodup {n : Nat} {g : Int → Int} (h : ∀ i j : Nat, i < n → j < n → g i = g j → i = j) : (tabOf n g).Nodup := by
  rw [nodup_iff]
  intro i j hij hj e
  rw [tabOf_len] at hj
  simp only [tabOf, List.getElem?_map, List.getElem?_range hj, List.getElem?_range (show i < n by omega), Option.map_some] at e
  have := h i j (by omega) hj (Option.some.inj e)
  omega
theorem tabOf_perm {n : Nat} {g : Int → Int} (h : ∀ i j : Nat, i < n → j < n → g i = g j → i = j) (hb : ∀ i : Nat, i < n → 0 ≤ g i ∧ g i < n) : (tabOf n g).Perm (nats 0 n) :=
  nd_perm n _ (tabOf_nodup h) (fun x hx => by
    obtain ⟨i, hi, rfl⟩ := List.mem_map.mp hx
    exact hb i (by simpa using hi)) (tabOf_len _ _)
theorem nats_tab (n : Nat) : nats 0 n = tabOf n id := by simp [nats, tabOf, List.range_eq_range']
theorem sm_comp (f : Int → Int) {n : Nat} {g : Int → Int} (h : ∀ i j : Nat, i < n → j < n → g i = g j → i = j) (hb : ∀ i : Nat, i < n → 0 ≤ g i ∧ g i < n) : sm (fun i => f (g i)) n = sm f n := by
  have p := (tabOf_perm h hb).map f
  have q := perm_sum p
  rw [nats_tab] at q
  simp only [tabOf, List.map_map] at q
  have e1 := tabOf_sum (fun i => f (g i)) n
  have e2 := tabOf_sum f n
  simp only [tabOf] at e1 e2
  rw [← e1, ← e2]
  exact q
theorem rem_inj {t : List Int} (h : Good t) {n : Nat} (hd : t.length ∣ n) (h0 : 0 < n) (c : Int) : ∀ i j : Nat, i < n → j < n → (mv t i - c) % n = (mv t j - c) % n → i = j := by
  intro i j hi hj e
  have e2 : (n : Int) ∣ (mv t i - mv t j) := by
    have := Int.dvd_of_emod_eq_zero (Int.emod_eq_emod_iff_emod_sub_eq_zero.mp e)
    rwa [show mv t i - c - (mv t j - c) = mv t i - mv t j by omega] at this
  obtain ⟨k, hk⟩ := e2
  obtain ⟨m, rfl⟩ := hd
  have e3 : mv t i = mv t ((j : Int) + (m * k) * t.length) := by
    rw [mv_perk]
    have : ((t.length * m : Nat) : Int) * k = m * k * t.length := by rw [Int.natCast_mul, Int.mul_comm (t.length : Int), Int.mul_right_comm]
    omega
  have e4 := h.inj _ _ e3
  have e5 : ((m : Int) * k) * t.length = ((t.length * m : Nat) : Int) * k := by rw [Int.natCast_mul, Int.mul_comm (t.length : Int), Int.mul_right_comm]
  rw [e5] at e4
  have hk0 : k = 0 := by
    rcases Int.lt_trichotomy k 0 with hk | hk | hk
    · have : ((t.length * m : Nat) : Int) * k ≤ ((t.length * m : Nat) : Int) * (-1) := Int.mul_le_mul_of_nonneg_left (by omega) (by omega)
      omega
    · exact hk
    · have : ((t.length * m : Nat) : Int) * 1 ≤ ((t.length * m : Nat) : Int) * k := Int.mul_le_mul_of_nonneg_left (by omega) (by omega)
      omega
  subst hk0
  omega
theorem rem_sum {t : List Int} (h : Good t) {n : Nat} (hd : t.length ∣ n) (h0 : 0 < n) (c : Int) (f : Int → Int) (hf : PerF f n) : sm (fun i => f (mv t i - c)) n = sm f n := by
  have e := sm_comp f (g := fun i => (mv t i - c) % n) (rem_inj h hd h0 c) fun i _ => ⟨Int.emod_nonneg _ (by omega), Int.emod_lt_of_pos _ (by omega)⟩
  rw [← e]
  exact sm_congr fun i _ => (per_mod hf _).symm
theorem good_id : Good [0] := by
  refine ⟨by decide, by decide, fun x y e => ?_⟩
  have : ∀ x, act [0] x = 0 := fun x => by rw [← act_mod]; simp [act]
  simpa [mv, this] using e
theorem mv_id (x : Int) : mv [0] x = x := by
  have : act [0] x = 0 := by rw [← act_mod]; simp [act]
  simp [mv, this]
def cnt (t : List Int) (c : Int) : Int := sm (fun i => (i + act t i - c) / t.length - (i - c) / t.length) t.length
theorem cnt_sum {t : List Int} (h : Good t) (c : Int) : t.length * cnt t c = t.sum := by
  have hp := h.pos
  unfold cnt
  rw [← sm_times, sum_act]
  have r1 := rem_sum h (Nat.dvd_refl _) hp c (fun z => z % t.length) (fun z => by simp)
  have r2 := rem_sum good_id (n := t.length) ⟨t.length, by simp⟩ hp c (fun z => z % t.length) (fun z => by simp)
  simp only [mv_id] at r2
  have e : sm (fun i => (t.length : Int) * ((i + act t i - c) / t.length - (i - c) / t.length)) t.length = sm (fun i => act t i - ((mv t i - c) % t.length - (i - c) % t.length)) t.length := sm_congr fun i _ => by
    have a1 := Int.mul_ediv_add_emod (i + act t i - c) t.length
    have a2 := Int.mul_ediv_add_emod ((i : Int) - c) t.length
    unfold mv
    rw [Int.mul_sub]
    omega
  rw [e, sm_minus, sm_minus, r1, r2]
  omega
def flw (t : List Int) : Int := t.sum / t.length
theorem cnt_flw {t : List Int} (h : Good t) (c : Int) : cnt t c = flw t := by
  unfold flw
  rw [← cnt_sum h c, Int.mul_ediv_cancel_left _ (by have := h.pos; omega)]
theorem flw_sum {t : List Int} (h : Good t) : t.sum = t.length * flw t := by rw [← cnt_flw h 0, cnt_sum h]
theorem flw_per {t : List Int} (h : Good t) {n : Nat} (h0 : 0 < n) (hp : PerF (act t) n) : sm (act t) n = n * flw t := by
  have a1 := sm_per (act_per t) n
  have a2 := sm_per hp t.length
  rw [Nat.mul_comm, a2, ← sum_act, flw_sum h] at a1
  have : (t.length : Int) * sm (act t) n = t.length * (n * flw t) := by rw [a1, ← Int.mul_assoc, ← Int.mul_assoc, Int.mul_comm (n : Int)]
  exact Int.eq_of_mul_eq_mul_left (by have := h.pos; omega) this
theorem lc_gen {α : Type} {inj : α → D} {setT : D → Sl → Option Sl} {vs : List Nat} {fi : FA} {ft : FT} {fe : FD} {δ δ1 : Sl} {xs : List α} (p : α → Bool) (out : α → D) (δw : Sl) (h1 : fi δ = .ok (xs.map inj) δ1) (hfree : vs.all (freeS δ1) = true) (hw : wipeD δ1 vs = δw) (hr : restD δ1 vs δw = δ1) (hlen : xs.length ≤ 16777216)
    (he : ∀ x ∈ xs, ∃ δx, setT (inj x) δw = some δx ∧ ft δx = .ok (p x) δx ∧ (p x = true → fe δx = .ok (out x) δx) ∧ wipeD δx vs = δw) : fLc setT vs fi ft fe δ = .ok (.own (.l ((xs.filter p).map out))) δ1 := by
  have key : ∀ (ys : List α) (acc : List D), (∀ y ∈ ys, y ∈ xs) → acc.length + ys.length ≤ 16777216 → lcL setT vs ft fe (ys.map inj) acc δw = .ok (acc ++ (ys.filter p).map out) δw := by
    intro ys
    induction ys with
    | nil => intro acc _ _; simp [lcL]
    | cons y ys ih =>
      intro acc hm hl
      obtain ⟨δx, e1, e2, e3, e4⟩ := he y (hm y (by simp))
      simp only [List.map_cons, lcL, e1, e2, noX, Res.bind_ok]
      cases hp : p y with
      | true =>
        rw [if_pos rfl, e3 hp]
        simp only [noX, Res.bind_ok]
        rw [if_pos (by simp at hl; omega), e4, ih (acc ++ [out y]) (fun z hz => hm z (by simp [hz])) (by simp at hl ⊢; omega)]
        simp [hp]
      | false =>
        rw [if_neg (by simp), e4, ih acc (fun z hz => hm z (by simp [hz])) (by simp at hl ⊢; omega)]
        simp [hp]
  unfold fLc
  rw [h1, Res.bind_ok, if_pos hfree, hw, key xs [] (fun _ h => h) (by simpa using hlen), Res.bind_ok]
  simp only [List.nil_append, hr]
theorem lc_all {α : Type} {inj : α → D} {setT : D → Sl → Option Sl} {vs : List Nat} {fi : FA} {fe : FD} {δ δ1 : Sl} {xs : List α} (out : α → D) (δw : Sl) (h1 : fi δ = .ok (xs.map inj) δ1) (hfree : vs.all (freeS δ1) = true) (hw : wipeD δ1 vs = δw) (hr : restD δ1 vs δw = δ1) (hlen : xs.length ≤ 16777216)
    (he : ∀ x ∈ xs, ∃ δx, setT (inj x) δw = some δx ∧ fe δx = .ok (out x) δx ∧ wipeD δx vs = δw) : fLc setT vs fi tTrue fe δ = .ok (.own (.l (xs.map out))) δ1 := by
  have := lc_gen (ft := tTrue) (fun _ => true) out δw h1 hfree hw hr hlen fun x hx => by
    obtain ⟨δx, e1, e2, e3⟩ := he x hx
    exact ⟨δx, e1, rfl, fun _ => e2, e3⟩
  rw [this, List.filter_eq_self.mpr (fun _ _ => rfl)]
theorem gSorted_l (xs : List Int) : gSorted [.lst (iL xs)] = some (.own (.l (iL (srt xs)))) := by
  simp only [gSorted, intsD_ints]; rfl
end
end TS

namespace TS
open PySem L2
noncomputable section
theorem strOk_app {a b : Str} (h : PyData.strOk a = true) (h' : PyData.strOk b = true) : PyData.strOk (a ++ b) = true := by
  have e : (a ++ b).cps = a.cps ++ b.cps := rfl
  unfold PyData.strOk at *
  rw [e, Array.all_append, h, h']; rfl
theorem strOk_from : ∀ (ts : List Str) (k : Nat) (acc : Str), PyData.strOk acc = true → (∀ t ∈ ts, PyData.strOk t = true) → PyData.strOk (textFrom k acc ts) = true
  | [], _, _, h, _ => h
  | t :: ts, k, acc, h, ht => strOk_from ts (k + 1) _ (strOk_app (strOk_app h (strOk_of _)) (ht t (by simp))) fun x hx => ht x (by simp [hx])
theorem strOk_join : ∀ (ts : List Str), (∀ t ∈ ts, PyData.strOk t = true) → PyData.strOk (Str.join ", " ts) = true
  | [], _ => strOk_of ""
  | [x], h => h x (by simp)
  | x :: y :: r, h => strOk_app (strOk_app (h x (by simp)) (strOk_of _)) (strOk_join (y :: r) fun z hz => h z (by simp [hz]))
end
end TS

namespace TS
theorem per_dvd {t : List Int} (h : 0 < t.length) {n : Nat} (h0 : 0 < n) (hp : PerF (act t) n) : (least t).length ∣ n := by
  have m := leastP_min h
  rw [least_length h]
  have g := PerF.gcd (leastP t) n (leastP_dvd h).2.2 hp
  have hg : 0 < Nat.gcd (leastP t) n := Nat.gcd_pos_of_pos_right _ h0
  have := m.min _ hg g
  have e : Nat.gcd (leastP t) n = leastP t := Nat.le_antisymm (Nat.gcd_le_left _ (leastP_dvd h).2.1) this
  rw [← e]
  exact Nat.gcd_dvd_right _ _
theorem sm_mv {t : List Int} (h : Good t) {n : Nat} (h0 : 0 < n) (hp : PerF (act t) n) (f : Int → Int) (hf : PerF f n) : sm (fun i => f (mv t i)) n = sm f n := by
  have hd := per_dvd h.pos h0 hp
  have := rem_sum h.least hd h0 0 f hf
  simp only [Int.sub_zero, mv_least h] at this
  exact this
structure PF (u : List Int) (F B : Int) : Prop where
  good : Good u
  flow : flw u = F
  bd : ∀ x, -B ≤ act u x ∧ act u x ≤ B
  per : PerF (act u) (2520 : Nat)
theorem PF.sum {u : List Int} {F B : Int} (h : PF u F B) : sm (act u) 2520 = 2520 * F := by
  rw [← h.flow]; exact flw_per h.good (by decide) h.per
theorem PF.dvd {u : List Int} {F B : Int} (h : PF u F B) : (least u).length ∣ 2520 := per_dvd h.good.pos (by decide) h.per
theorem PF.lcm {u v : List Int} {F B F' B' : Int} (h : PF u F B) (h' : PF v F' B') : Nat.lcm (least u).length (least v).length ≤ 2520 := Nat.le_of_dvd (by decide) (Nat.lcm_dvd h.dvd h'.dvd)
theorem PF.mvper {u : List Int} {F B : Int} (h : PF u F B) (x : Int) : mv u (x + (2520 : Nat)) = mv u x + (2520 : Nat) := by
  unfold mv; rw [h.per]; omega
theorem PF.of_sum {u : List Int} {F B : Int} (g : Good u) (hp : PerF (act u) (2520 : Nat)) (hs : sm (act u) 2520 = 2520 * F) (hb : ∀ x, -B ≤ act u x ∧ act u x ≤ B) : PF u F B :=
  ⟨g, by have := flw_per g (by decide) hp; rw [hs] at this; omega, hb, hp⟩
theorem PF.mono {u : List Int} {F B B' : Int} (h : PF u F B) (hb : B ≤ B') : PF u F B' := ⟨h.good, h.flow, fun x => by have := h.bd x; omega, h.per⟩
theorem PF.join {u v w : List Int} {F B F' B' : Int} (h : PF u F B) (h' : PF v F' B') (g : Good w) (e : ∀ x, mv w x = mv v (mv u x)) : PF w (F + F') (B + B') := by
  have ea : ∀ x, act w x = act u x + act v (mv u x) := fun x => by
    have := e x
    unfold mv at this ⊢
    omega
  refine PF.of_sum g (fun x => ?_) ?_ fun x => ?_
  · rw [ea, ea, h.per, h.mvper, h'.per]
  · rw [sm_congr (g := fun i => act u i + act v (mv u i)) fun i _ => ea i, sm_plus, sm_mv h.good (by decide) h.per _ h'.per, h.sum, h'.sum, Int.mul_add]
  · have := h.bd x
    have := h'.bd (mv u x)
    rw [ea]; omega
theorem PF.id : PF [0] 0 0 := by
  have a : ∀ x, act [0] x = 0 := fun x => by have := mv_id x; unfold mv at this; omega
  exact PF.of_sum good_id (fun x => by rw [a, a]) (by rw [sm_congr (g := fun _ => 0) fun i _ => a i, sm_const]; rfl) fun x => by rw [a]; omega
end TS

namespace TS
open PySem L2
theorem for_st {fi : FA} {tg : R → Sl → SR} {body : FS} {δ δ1 : Sl} {ds : List D} {s : SR} (h1 : fi δ = .ok ds δ1) (h2 : forL tg body ds δ1 = s) : sFor fi tg body δ = s := by
  rw [ap_sFor, h1, Res.bindS_ok, h2]
end TS

namespace TS
open PySem L2
end TS

namespace TS
open PySem L2
noncomputable section
@[simp] theorem ap_fLenSet (f : FD) (δ : Sl) : fLenSet f δ = (f δ).bind fun d δ => match d with
  | .lst ds => (match intsD ds with
    | some ns => if ns.length ≤ 4000 then .ok (.int (ns.eraseDups.length : Nat)) δ else .bad
    | none => .bad)
  | _ => .bad := id rfl
@[simp] theorem ap_fxNil (δ : Sl) : fxNil δ = .ok [] δ := id rfl
@[simp] theorem ap_fxCons (f : FE) (g : FX) (δ : Sl) : fxCons f g δ = (f δ).bind fun r δ1 => match r with
  | .brw _ => .bad
  | .nst _ _ => .bad
  | r => (g δ1).bind fun rs δ2 => .ok (r :: rs) δ2 := id rfl
@[simp] theorem ap_sPar2E (i j : Nat) (f : FX) (δ : Sl) : sPar2E i j f δ = (f δ).bindS fun rs δ1 => match rs with
  | [a, b] => if i < δ1.length then .nx ((δ1.set i (some a)).set j (some b)) else .bad
  | _ => .bad := id rfl
@[simp] theorem ap_sPar3E (i j l : Nat) (f : FX) (δ : Sl) : sPar3E i j l f δ = (f δ).bindS fun rs δ1 => match rs with
  | [a, b, c] => if i < δ1.length ∧ j < δ1.length then .nx (((δ1.set i (some a)).set j (some b)).set l (some c)) else .bad
  | _ => .bad := id rfl
structure IsLap (t : List Int) (x : Int) (m : Nat) : Prop where
  pos : 0 < m
  le : m ≤ t.length
  dv : (pwr t (m : Int) x - x) % t.length = 0
  min : ∀ j : Nat, 0 < j → j < m → (pwr t (j : Int) x - x) % t.length ≠ 0
theorem pwr_lapN {t : List Int} (h : Good t) {m : Nat} {x q : Int} (e : pwr t (m : Int) x = x + q * t.length) : ∀ j : Nat, pwr t ((j : Int) * m) x = x + j * q * t.length
  | 0 => by simp [pwr_zero]
  | j + 1 => by
    rw [Int.natCast_succ, Int.add_mul, Int.one_mul, pwr_add h, pwr_lapN h e j, pwr_perk h, e, Int.add_mul, Int.one_mul, Int.add_mul]
    omega
theorem pwr_lapM {t : List Int} (h : Good t) {m : Nat} {x q : Int} (e : pwr t (m : Int) x = x + q * t.length) : ∀ j : Nat, pwr t (-(j : Int) * m) x = x + -(j : Int) * q * t.length
  | 0 => by simp [pwr_zero]
  | j + 1 => by
    have ih := pwr_lapM h e j
    have e2 : -((j + 1 : Nat) : Int) * m + m = -(j : Int) * m := by
      rw [Int.natCast_succ, Int.neg_add, Int.add_mul, Int.neg_mul 1, Int.one_mul]; omega
    rw [← e2, pwr_add h] at ih
    have e3 : x + -(j : Int) * q * t.length = pwr t (m : Int) (x + (-((j + 1 : Nat) : Int) * q) * t.length) := by
      rw [pwr_perk h, e, Int.natCast_succ, Int.neg_add, Int.add_mul, Int.add_mul, Int.neg_mul 1, Int.one_mul, Int.neg_mul q]
      omega
    rw [e3] at ih
    exact pwr_inj h _ _ _ ih
theorem pwr_lap {t : List Int} (h : Good t) {m : Nat} {x q : Int} (e : pwr t (m : Int) x = x + q * t.length) (j : Int) : pwr t (j * m) x = x + j * q * t.length := by
  rcases Int.le_total 0 j with z | z
  · obtain ⟨k, rfl⟩ := Int.eq_ofNat_of_zero_le z
    exact pwr_lapN h e k
  · obtain ⟨k, hk⟩ := Int.eq_ofNat_of_zero_le (show 0 ≤ -j by omega)
    have : j = -(k : Int) := by omega
    subst this
    exact pwr_lapM h e k
theorem IsLap.far {t : List Int} {x : Int} {m : Nat} (l : IsLap t x m) : pwr t (m : Int) x = x + (pwr t (m : Int) x - x) / t.length * t.length := by
  have := Int.ediv_mul_cancel_of_emod_eq_zero l.dv
  omega
theorem IsLap.after {t : List Int} (h : Good t) {x : Int} {m : Nat} (l : IsLap t x m) (k : Int) : pwr t (k % m) (x + k / m * (pwr t (m : Int) x - x)) = pwr t k x := by
  have e1 := pwr_lap h l.far (k / m)
  have e2 : k / m * ((pwr t (m : Int) x - x) / t.length) * t.length = k / m * (pwr t (m : Int) x - x) := by
    rw [Int.mul_assoc, Int.ediv_mul_cancel_of_emod_eq_zero l.dv]
  rw [e2] at e1
  have e3 : k / m * m + k % m = k := by have := Int.mul_ediv_add_emod k m; rw [Int.mul_comm] at this; omega
  rw [← e1, ← pwr_add h, e3]
end
end TS

namespace TS
open PySem L2
noncomputable section
@[simp] theorem ap_fChain (g g' : D → D → Option R) (fa fb fc : FD) (δ : Sl) : fChain g g' fa fb fc δ = (fa δ).bind fun x δ1 => (fb δ1).bind fun y δ2 => match g x y with
  | some (.imm (.bl true)) => (fc δ2).bind fun w δ3 => (match g' y w with
    | some z => .ok z δ3
    | none => .bad)
  | some (.imm (.bl false)) => .ok (.imm (.bl false)) δ2
  | _ => .bad := id rfl
@[simp] theorem ap_fGet (fo fk fx : FD) (δ : Sl) : fGet fo fk fx δ = (fo δ).bind fun d δ1 => if isDD d then (fk δ1).bind fun k δ2 => (fx δ2).bind fun x δ3 => (match gGet d k x with
  | some z => .ok z δ3
  | none => .bad) else .bad := id rfl
def isI : Option R → Bool
  | none => true
  | some (.imm _) => true
  | _ => false
@[simp] theorem isI_none : isI none = true := rfl
@[simp] theorem isI_imm (d : D) : isI (some (.imm d)) = true := rfl
theorem look_put {κ : Type} [DecidableEq κ] : ∀ {ks : List κ} {ds : List D} (k : κ) (d : D), ks.length = ds.length → (∀ k', lookD (putD ks ds k d).1 (putD ks ds k d).2 k' = if k' = k then some d else lookD ks ds k') ∧ (putD ks ds k d).1.length = (putD ks ds k d).2.length ∧ (putD ks ds k d).2.length ≤ ds.length + 1 := by
  intro ks ds k d hl
  have app : ∀ (ks : List κ) (ds : List D), ks.length = ds.length → (ks.any fun k' => decide (k' = k)) = false → ∀ k', lookD (ks ++ [k]) (ds ++ [d]) k' = if k' = k then some d else lookD ks ds k' := by
    intro ks
    induction ks with
    | nil =>
      intro ds hl _ k'
      cases ds with
      | nil =>
        by_cases z : k = k'
        · subst z; simp [lookD]
        · simp [lookD, z, Ne.symm z]
      | cons d' ds => simp at hl
    | cons a ks ih =>
      intro ds hl ha k'
      cases ds with
      | nil => simp at hl
      | cons d' ds =>
        rw [List.any_cons, Bool.or_eq_false_iff] at ha
        have ih := ih ds (by simpa using hl) ha.2 k'
        have hak : a ≠ k := of_decide_eq_false ha.1
        simp only [List.cons_append, lookD, ih]
        by_cases z : a = k'
        · subst z; simp [hak]
        · simp [z]
  have rep : ∀ (ks : List κ) (ds : List D), ks.length = ds.length → (ks.any fun k' => decide (k' = k)) = true → (∀ k', lookD ks (repD k d ks ds) k' = if k' = k then some d else lookD ks ds k') ∧ (repD k d ks ds).length = ds.length := by
    intro ks
    induction ks with
    | nil => intro ds _ h; simp at h
    | cons a ks ih =>
      intro ds hl ha
      cases ds with
      | nil => simp at hl
      | cons d' ds =>
        by_cases hany : (ks.any fun k' => decide (k' = k)) = true
        · obtain ⟨i1, i2⟩ := ih ds (by simpa using hl) hany
          refine ⟨fun k' => ?_, by simp [repD, i2]⟩
          simp only [repD, lookD, i1]
          by_cases z : a = k'
          · subst z
            by_cases w : a = k
            · simp [w]
            · simp [w]
          · simp [z]
        · have hak : a = k := by
            rw [List.any_cons] at ha
            simp only [Bool.not_eq_true] at hany
            rw [hany, Bool.or_false] at ha
            exact of_decide_eq_true ha
          have same : ∀ (ks : List κ) (ds : List D), ks.length = ds.length → ¬ (ks.any fun k' => decide (k' = k)) = true → repD k d ks ds = ds := by
            intro ks
            induction ks with
            | nil => intro ds _ _; cases ds <;> rfl
            | cons b ks ih2 =>
              intro ds hl hn
              cases ds with
              | nil => simp at hl
              | cons e ds =>
                rw [List.any_cons, Bool.or_eq_true, not_or] at hn
                have hb : b ≠ k := fun z => hn.1 (by simp [z])
                simp only [repD, if_neg hb, ih2 ds (by simpa using hl) hn.2]
          have sm := same ks ds (by simpa using hl) hany
          refine ⟨fun k' => ?_, by simp [repD, sm]⟩
          simp only [repD, sm, if_pos hak, lookD]
          by_cases z : a = k'
          · subst z; simp [hak]
          · have : ¬ k' = k := fun w => z (hak.trans w.symm)
            simp [z, this]
  unfold putD
  by_cases hany : (ks.any fun k' => decide (k' = k)) = true
  · rw [if_pos hany]
    obtain ⟨r1, r2⟩ := rep ks ds hl hany
    exact ⟨r1, by rw [r2]; exact hl, by rw [r2]; omega⟩
  · rw [if_neg hany]
    simp only [Bool.not_eq_true] at hany
    exact ⟨app ks ds hl hany, by simp [hl], by simp⟩
def lkR {κ : Type} [DecidableEq κ] (L : List (κ × List D)) (k : κ) : Option (List D) := (L.find? fun x => decide (x.1 = k)).map (·.2)
end
end TS

namespace TS
open PySem L2
end TS

namespace TS
open PySem L2
noncomputable section
def reprT (x : Str) (xs : List Int) : Str := (PyData.tuple (.str x :: xs.map PyData.int)).shown
end
end TS

namespace TS
open PySem L2
noncomputable section
@[simp] theorem ap_fRes (i : Nat) (res : Res D) (δ : Sl) : fRes i res δ = match δ[i]? with
  | some (some (.imm .lam)) => (match res with
    | .ok d _ => .ok (.imm d) δ
    | .exc x _ => .exc x δ
    | .bad => .bad)
  | _ => .bad := rfl
@[simp] theorem ap_fReprD (fa : FD) (δ : Sl) : fReprD fa δ = (fa δ).bind fun d δ1 => match gReprD d with
  | some x => .ok (.str x) δ1
  | none => .bad := rfl
@[simp] theorem ap_fLam (ixs : List Nat) (mt : Res D → Fm) (fb : FE) (δ : Sl) : fLam ixs mt fb δ = outL (mt (thk fb (frzS ixs δ)) none [.lam]) (frzS ixs δ) := rfl
@[simp] theorem ap_fCMethK (n : Nat) (f : Fm) (l : Nat) (fk : FA) (δ : Sl) : fCMethK n f l fk δ = (fk δ).bind fun ds δ1 => if ds.length = l then outE (f none (.cls n :: ds)) δ1 else .bad := rfl
@[simp] theorem ap_hNil (y : XD) : hNil y = none := rfl
@[simp] theorem ap_sRaise (n k : Nat) (fa : FA) (δ : Sl) : sRaise n k fa δ = (fa δ).bindS fun ds δ1 => if ds.length = k then .exc ⟨n, ds.reverse⟩ δ1 else .bad := rfl
theorem try_nx {i : Nat} {gb : FS} {hs : XD → Option FS} {δ δ1 : Sl} (e : gb δ = .nx δ1) : sTry i gb hs δ = .nx δ1 := by
  unfold sTry; rw [e]
@[simp] theorem outE_exc (x : XD) (io : Option OB) (δ : Sl) : outE (.exc x io) δ = .exc x δ := rfl
theorem gNe_self {d : D} {p : PyData} (e : toP d = some p) (h : SeqAt.shaped p = true) : gNe d d = some (.imm (.bl false)) := by
  have h2 : p.canLay0 = true := by unfold SeqAt.shaped at h; exact (Bool.and_eq_true _ _ ▸ h).1
  simp only [gNe, e, h, Bool.and_self, if_true, SeqAt.eqv_refl p h2]
  rfl
end
end TS

namespace TS
open PySem L2
noncomputable section
@[simp] theorem mu_nst (tp : Bool) (ps : List (D ⊕ OB)) : (R.nst tp ps).mu = false := rfl
@[simp] theorem seeS_nil : seeS [] = [] := rfl
@[simp] theorem seeS_cons (x : Option R) (δ : Sl) : seeS (x :: δ) = x.bind seeR :: seeS δ := rfl
@[simp] theorem seeR_imm (d : D) : seeR (.imm d) = some (.imm d) := rfl
@[simp] theorem seeR_l (xs : List D) : seeR (.own (.l xs)) = some (.imm (.lst xs)) := rfl
@[simp] theorem seeR_o (n : Nat) (xs : List D) : seeR (.own (.o n xs)) = some (.imm (.obj n xs)) := rfl
@[simp] theorem seeR_dK (ks : List Key) (xs : List D) : seeR (.own (.dK ks xs)) = none := rfl
@[simp] theorem seeR_dT (ks : List (List Key)) (xs : List D) : seeR (.own (.dT ks xs)) = none := rfl
@[simp] theorem seeR_bl (xs : List D) : seeR (.brw (.l xs)) = some (.imm (.lst xs)) := rfl
@[simp] theorem seeR_nst (tp : Bool) (ps : List (D ⊕ OB)) : seeR (.nst tp ps) = if ps.all pL then some (.imm (nstD tp ps)) else none := rfl
@[simp] theorem pD_l (d : D) : pD (.inl d) = d := rfl
@[simp] theorem pD_r (o : OB) : pD (.inr o) = o.toD := rfl
@[simp] theorem pL_l (d : D) : pL (.inl d) = true := rfl
@[simp] theorem pL_r (o : OB) : pL (.inr o) = !o.dic := rfl
@[simp] theorem dic_l (xs : List D) : (OB.l xs).dic = false := rfl
@[simp] theorem dic_o (n : Nat) (xs : List D) : (OB.o n xs).dic = false := rfl
@[simp] theorem nstD_f (ps : List (D ⊕ OB)) : nstD false ps = .lst (ps.map pD) := rfl
@[simp] theorem nstD_t (ps : List (D ⊕ OB)) : nstD true ps = .tup (ps.map pD) := rfl
@[simp] theorem flatQ_bl (b : Bool) : flatQ (.imm (.bl b)) = true := rfl
@[simp] theorem flatQ_int (b : Int) : flatQ (.imm (.int b)) = true := rfl
@[simp] theorem flatQ_str (b : Str) : flatQ (.imm (.str b)) = true := rfl
@[simp] theorem flatQ_non : flatQ (.imm .non) = true := rfl
@[simp] theorem flatQ_l (xs : List D) : flatQ (.own (.l xs)) = xs.all flatD := rfl
@[simp] theorem ap_fSee (f : FE) (δ : Sl) : fSee f δ = match f (seeS δ) with
  | .ok r _ => if flatQ r then .ok r δ else .bad
  | _ => .bad := rfl
@[simp] theorem ap_tSee (f : FT) (δ : Sl) : tSee f δ = match f (seeS δ) with
  | .ok b _ => .ok b δ
  | _ => .bad := rfl
@[simp] theorem killN_nil : killN [] = [] := rfl
@[simp] theorem killN_cons (x : Option R) (δ : Sl) : killN (x :: δ) = kill1 x :: killN δ := rfl
@[simp] theorem kill1_none : kill1 none = none := rfl
@[simp] theorem kill1_imm (d : D) : kill1 (some (.imm d)) = some (.imm d) := rfl
@[simp] theorem kill1_own (d : OB) : kill1 (some (.own d)) = some (.own d) := rfl
@[simp] theorem kill1_brw (d : OB) : kill1 (some (.brw d)) = some (.brw d) := rfl
@[simp] theorem kill1_nst (tp : Bool) (ps : List (D ⊕ OB)) : kill1 (some (.nst tp ps)) = none := rfl
@[simp] theorem kill_nx (δ : Sl) : SR.kill (.nx δ) = .nx (killN δ) := rfl
@[simp] theorem kill_rt (r : R) (δ : Sl) : SR.kill (.rt r δ) = .rt r (killN δ) := rfl
@[simp] theorem kill_bk (δ : Sl) : SR.kill (.bk δ) = .bk (killN δ) := rfl
@[simp] theorem kill_ct (δ : Sl) : SR.kill (.ct δ) = .ct (killN δ) := rfl
@[simp] theorem kill_exc (x : XD) (δ : Sl) : SR.kill (.exc x δ) = .exc x (killN δ) := rfl
@[simp] theorem ndOf_nil : ndOf [] = [] := rfl
@[simp] theorem ndOf_imm (d : D) (rs : List R) : ndOf (.imm d :: rs) = .inl d :: ndOf rs := rfl
@[simp] theorem ndOf_own (d : OB) (rs : List R) : ndOf (.own d :: rs) = .inr d :: ndOf rs := rfl
@[simp] theorem ap_fNst (f : FX) (δ : Sl) : fNst f δ = (f δ).bind fun rs δ1 => if (ndOf rs).length ≤ 16777216 then .ok (.nst false (ndOf rs)) δ1 else .bad := rfl
@[simp] theorem ap_fNstT (f : FX) (δ : Sl) : fNstT f δ = (f δ).bind fun rs δ1 => if (ndOf rs).length ≤ 16777216 then .ok (.nst true (ndOf rs)) δ1 else .bad := rfl
end
end TS

namespace TS
open PySem L2
noncomputable section
@[simp] theorem ap_fReprT (fa : FD) (δ : Sl) : fReprT fa δ = (fa δ).bind fun d δ1 => match gReprT d with
  | some x => .ok (.str x) δ1
  | none => .bad := rfl
end
end TS

set_option maxHeartbeats 0
namespace K47
open PySem L2 TS
structure Ev (K : PySem.W.Frag) (mg : Str → Option Value) (base : Heap) : Prop where
  c : SaysS fa fn K
  X : K.In base
  G : base.Ns mainGlobals mg
  t : ∀ p ∈ csOf tn K, LamX.TabB base mg p.1 p.2
  m : ∀ x ∈ tn, fnRef x.1 K = true
  u : ∀ x ∈ tn, ∀ y ∈ tn, tbA x.1 K = tbA y.1 K → x.2 = y.2
def MM (K : PySem.W.Frag) : Gm where
  K := K
  G := fun n => match n with | 5 => some (He.ga K "Profile") | 100 => some (He.ga K "InvalidInteger") | 101 => some (He.ga K "InvalidRatio") | 102 => some (He.ga K "InvalidTable") | 104 => some (He.ga K "InvalidAddress") | 105 => some (He.ga K "InvalidProfile") | 110 => some (He.ga K "NoTrack") | 115 => some (He.ga K "TooLong") | _ => none
  nm := fun n => match n with | 5 => ["own_lines", "own_rounds"] | 100 => ["value"] | 101 => ["value"] | 102 => ["earlier", "position", "problem"] | 104 => ["value"] | 105 => ["problem"] | 110 => ["number", "key"] | 115 => ["multiple"] | _ => []
  T := tsOf tn K
noncomputable section
variable {P : Program} {w : World} {K : PySem.W.Frag} {mg : Str → Option Value} {base : Heap}
theorem nm_lt : ∀ n, ((MM K).nm n).length < 1000 := by
  intro n
  show (match n with | 5 => ["own_lines", "own_rounds"] | 100 => ["value"] | 101 => ["value"] | 102 => ["earlier", "position", "problem"] | 104 => ["value"] | 105 => ["problem"] | 110 => ["number", "key"] | 115 => ["multiple"] | _ => [] : List Str).length < 1000
  split <;> decide
theorem u_len (v : Ev K mg base) : mg "len" = none := He.free_ok v.X v.G (v.c.fact 0 (f := .he (.free "len")))
theorem u_min (v : Ev K mg base) : mg "min" = none := He.free_ok v.X v.G (v.c.fact 1 (f := .he (.free "min")))
theorem u_max (v : Ev K mg base) : mg "max" = none := He.free_ok v.X v.G (v.c.fact 2 (f := .he (.free "max")))
theorem u_range (v : Ev K mg base) : mg "range" = none := He.free_ok v.X v.G (v.c.fact 3 (f := .he (.free "range")))
theorem u_abs (v : Ev K mg base) : mg "abs" = none := He.free_ok v.X v.G (v.c.fact 4 (f := .he (.free "abs")))
theorem u_int (v : Ev K mg base) : mg "int" = none := He.free_ok v.X v.G (v.c.fact 5 (f := .he (.free "int")))
theorem u__law_pot (v : Ev K mg base) : mg "_law_pot" = some (.ref (He.ga K "_law_pot")) := He.glo_ok v.X v.G (v.c.fact 6 (f := .he (.glo "_law_pot")))
theorem u_divmod (v : Ev K mg base) : mg "divmod" = none := He.free_ok v.X v.G (v.c.fact 7 (f := .he (.free "divmod")))
theorem u__law_draw (v : Ev K mg base) : mg "_law_draw" = some (.ref (He.ga K "_law_draw")) := He.glo_ok v.X v.G (v.c.fact 8 (f := .he (.glo "_law_draw")))
theorem u__law_pick (v : Ev K mg base) : mg "_law_pick" = some (.ref (He.ga K "_law_pick")) := He.glo_ok v.X v.G (v.c.fact 9 (f := .he (.glo "_law_pick")))
theorem u__law_great (v : Ev K mg base) : mg "_law_great" = some (.ref (He.ga K "_law_great")) := He.glo_ok v.X v.G (v.c.fact 10 (f := .he (.glo "_law_great")))
theorem u__law_divisor (v : Ev K mg base) : mg "_law_divisor" = some (.ref (He.ga K "_law_divisor")) := He.glo_ok v.X v.G (v.c.fact 11 (f := .he (.glo "_law_divisor")))
theorem u__law_lowest (v : Ev K mg base) : mg "_law_lowest" = some (.ref (He.ga K "_law_lowest")) := He.glo_ok v.X v.G (v.c.fact 12 (f := .he (.glo "_law_lowest")))
theorem u__law_plus (v : Ev K mg base) : mg "_law_plus" = some (.ref (He.ga K "_law_plus")) := He.glo_ok v.X v.G (v.c.fact 13 (f := .he (.glo "_law_plus")))
theorem u__law_parts (v : Ev K mg base) : mg "_law_parts" = some (.ref (He.ga K "_law_parts")) := He.glo_ok v.X v.G (v.c.fact 14 (f := .he (.glo "_law_parts")))
theorem u__law_number (v : Ev K mg base) : mg "_law_number" = some (.ref (He.ga K "_law_number")) := He.glo_ok v.X v.G (v.c.fact 15 (f := .he (.glo "_law_number")))
theorem u__law_dicts (v : Ev K mg base) : mg "_law_dicts" = some (.ref (He.ga K "_law_dicts")) := He.glo_ok v.X v.G (v.c.fact 16 (f := .he (.glo "_law_dicts")))
theorem u__law_sum (v : Ev K mg base) : mg "_law_sum" = some (.ref (He.ga K "_law_sum")) := He.glo_ok v.X v.G (v.c.fact 17 (f := .he (.glo "_law_sum")))
theorem u_repr (v : Ev K mg base) : mg "repr" = none := He.free_ok v.X v.G (v.c.fact 19 (f := .he (.free "repr")))
theorem u_isinstance (v : Ev K mg base) : mg "isinstance" = none := He.free_ok v.X v.G (v.c.fact 20 (f := .he (.free "isinstance")))
theorem u_dict (v : Ev K mg base) : mg "dict" = none := He.free_ok v.X v.G (v.c.fact 21 (f := .he (.free "dict")))
theorem u_bool (v : Ev K mg base) : mg "bool" = none := He.free_ok v.X v.G (v.c.fact 22 (f := .he (.free "bool")))
theorem u_is_integer (v : Ev K mg base) : mg "is_integer" = some (.ref (He.ga K "is_integer")) := He.glo_ok v.X v.G (v.c.fact 23 (f := .he (.glo "is_integer")))
theorem u_ZERO (v : Ev K mg base) : mg "ZERO" = some (.ref (He.ga K "ZERO")) := He.glo_ok v.X v.G (v.c.fact 25 (f := .he (.glo "ZERO")))
theorem u_all (v : Ev K mg base) : mg "all" = none := He.free_ok v.X v.G (v.c.fact 26 (f := .he (.free "all")))
theorem u_tuple (v : Ev K mg base) : mg "tuple" = none := He.free_ok v.X v.G (v.c.fact 27 (f := .he (.free "tuple")))
theorem u_InvalidInteger (v : Ev K mg base) : mg "InvalidInteger" = some (.ref (He.ga K "InvalidInteger")) := He.glo_ok v.X v.G (v.c.fact 30 (f := .he (.glo "InvalidInteger")))
theorem u_require_integer (v : Ev K mg base) : mg "require_integer" = some (.ref (He.ga K "require_integer")) := He.glo_ok v.X v.G (v.c.fact 31 (f := .he (.glo "require_integer")))
theorem u_divisor_of_two (v : Ev K mg base) : mg "divisor_of_two" = some (.ref (He.ga K "divisor_of_two")) := He.glo_ok v.X v.G (v.c.fact 32 (f := .he (.glo "divisor_of_two")))
theorem u_common_divisor (v : Ev K mg base) : mg "common_divisor" = some (.ref (He.ga K "common_divisor")) := He.glo_ok v.X v.G (v.c.fact 33 (f := .he (.glo "common_divisor")))
theorem u_is_ratio (v : Ev K mg base) : mg "is_ratio" = some (.ref (He.ga K "is_ratio")) := He.glo_ok v.X v.G (v.c.fact 34 (f := .he (.glo "is_ratio")))
theorem u_are_lines (v : Ev K mg base) : mg "are_lines" = some (.ref (He.ga K "are_lines")) := He.glo_ok v.X v.G (v.c.fact 35 (f := .he (.glo "are_lines")))
theorem u_InvalidProfile (v : Ev K mg base) : mg "InvalidProfile" = some (.ref (He.ga K "InvalidProfile")) := He.glo_ok v.X v.G (v.c.fact 38 (f := .he (.glo "InvalidProfile")))
theorem u_are_rounds (v : Ev K mg base) : mg "are_rounds" = some (.ref (He.ga K "are_rounds")) := He.glo_ok v.X v.G (v.c.fact 39 (f := .he (.glo "are_rounds")))
theorem u_InvalidRatio (v : Ev K mg base) : mg "InvalidRatio" = some (.ref (He.ga K "InvalidRatio")) := He.glo_ok v.X v.G (v.c.fact 42 (f := .he (.glo "InvalidRatio")))
theorem u_in_lowest_terms (v : Ev K mg base) : mg "in_lowest_terms" = some (.ref (He.ga K "in_lowest_terms")) := He.glo_ok v.X v.G (v.c.fact 43 (f := .he (.glo "in_lowest_terms")))
theorem u_ratio (v : Ev K mg base) : mg "ratio" = some (.ref (He.ga K "ratio")) := He.glo_ok v.X v.G (v.c.fact 44 (f := .he (.glo "ratio")))
theorem u_require_ratio (v : Ev K mg base) : mg "require_ratio" = some (.ref (He.ga K "require_ratio")) := He.glo_ok v.X v.G (v.c.fact 45 (f := .he (.glo "require_ratio")))
theorem u_ratio_product (v : Ev K mg base) : mg "ratio_product" = some (.ref (He.ga K "ratio_product")) := He.glo_ok v.X v.G (v.c.fact 46 (f := .he (.glo "ratio_product")))
theorem u_ratio_sum (v : Ev K mg base) : mg "ratio_sum" = some (.ref (He.ga K "ratio_sum")) := He.glo_ok v.X v.G (v.c.fact 47 (f := .he (.glo "ratio_sum")))
theorem u_profile_sum (v : Ev K mg base) : mg "profile_sum" = some (.ref (He.ga K "profile_sum")) := He.glo_ok v.X v.G (v.c.fact 48 (f := .he (.glo "profile_sum")))
theorem u_list (v : Ev K mg base) : mg "list" = none := He.free_ok v.X v.G (v.c.fact 49 (f := .he (.free "list")))
theorem u__law_mixed (v : Ev K mg base) : mg "_law_mixed" = some (.ref (He.ga K "_law_mixed")) := He.glo_ok v.X v.G (v.c.fact 50 (f := .he (.glo "_law_mixed")))
theorem u__law_turned (v : Ev K mg base) : mg "_law_turned" = some (.ref (He.ga K "_law_turned")) := He.glo_ok v.X v.G (v.c.fact 51 (f := .he (.glo "_law_turned")))
theorem u_ONE (v : Ev K mg base) : mg "ONE" = some (.ref (He.ga K "ONE")) := He.glo_ok v.X v.G (v.c.fact 53 (f := .he (.glo "ONE")))
theorem u_common_multiple (v : Ev K mg base) : mg "common_multiple" = some (.ref (He.ga K "common_multiple")) := He.glo_ok v.X v.G (v.c.fact 56 (f := .he (.glo "common_multiple")))
theorem u_sorted (v : Ev K mg base) : mg "sorted" = none := He.free_ok v.X v.G (v.c.fact 57 (f := .he (.free "sorted")))
theorem u_sorted_ratios (v : Ev K mg base) : mg "sorted_ratios" = some (.ref (He.ga K "sorted_ratios")) := He.glo_ok v.X v.G (v.c.fact 58 (f := .he (.glo "sorted_ratios")))
theorem u_Profile (v : Ev K mg base) : mg "Profile" = some (.ref (He.ga K "Profile")) := He.glo_ok v.X v.G (v.c.fact 61 (f := .he (.glo "Profile")))
theorem u__law_made (v : Ev K mg base) : mg "_law_made" = some (.ref (He.ga K "_law_made")) := He.glo_ok v.X v.G (v.c.fact 82 (f := .he (.glo "_law_made")))
theorem u__law_right (v : Ev K mg base) : mg "_law_right" = some (.ref (He.ga K "_law_right")) := He.glo_ok v.X v.G (v.c.fact 83 (f := .he (.glo "_law_right")))
abbrev g__law_pot_1 : FS := (sAsg (fIfE (fTst (fBin gLt (vI 1) (frz (fCal gLen (aOne (vP 0)))))) (fCal gAbs (aOne (frz (fBin gIx (vI 0) (vP 1))))) (fBin gAdd (frz (fBin gMul (kD (.int 79)) (vP 1))) (kD (.int 13)))) (tName 2))
abbrev g__law_pot_2 : FS := (sRet (fLst (aCons (frz (fCal gMax (aCons (kD (.int 0)) (aCons (frz (fBin gSub (vI 2) (frz (fBin gPow (kD (.int 10)) (kD (.int 18)))))) aNil)))) (aCons (frz (fBin gAdd (frz (fBin gMod (frz (fCal gInt (aOne (frz (fBin gAdd (frz (fBin gAdd (frz (fBin gMul (frz (fBin gMod (frz (fCal gInt (aOne (vP 2)))) (kD (.int 2147483587)))) (kD (.int 44017)))) (frz (fBin gMul (kD (.int 41017)) (vP 1))))) (kD (.int 59))))))) (kD (.int 2147483629)))) (kD (.int 1)))) aNil))))
def g__law_pot : FS := (sSeq g__law_pot_1 g__law_pot_2)
theorem S__law_pot : FnScope ["_law_script", "_law_k", "_law_cell"] ["_law_script", "_law_k"] (defScope (top 53)) := ⟨rfl, rfl, rfl, by decide +kernel, rfl, by decide +kernel, by decide +kernel⟩
theorem kp__law_pot (v : Ev K mg base) : PySem.W.keepIn K (.ref (He.ga K "_law_pot")) = true := (v.c.def_ 0 (d := d__law_pot) rfl).elim fun _ F => F.kp
theorem b__law_pot (v : Ev K mg base) : BodyOk (MM K) P w K mg base 0 "_law_pot" (top 53) (He.ga K "_law_pot") ["_law_script", "_law_k", "_law_cell"] g__law_pot :=
  fun cdv A outer s H E hr tk hp => (dss_cons (ds_set (i := 2) S__law_pot.nd (by rfl) (by first | exact Or.inl rfl | exact Or.inr rfl) (de_if (t_lt (di_var (pv 1)) (DE.pk (b_len (by rfl) (u_len v) (db_one (dp_var (pv 0)))))) (b_abs (by rfl) (u_abs v) (db_one (DE.pk (x_ix hr (di_var (pv 0)) (dp_var (pv 1)))))) (x_add (DE.frz (x_mul di_int (dp_var (pv 1)))) (DI.pk di_int))))
    (dss_one (ds_ret (de_lst (da_cons (DE.frz (b_max (by rfl) (by rfl) (u_max v) (DA.b (da_cons di_int (da_cons (DE.frz (x_sub (di_var (pv 2)) (DE.pk (x_pow di_int (DI.pk di_int))))) da_nil))))) (da_cons (DE.frz (x_add (DE.frz (x_mod (DE.frz (b_int (by rfl) (u_int v) (db_one (DE.pk (x_add (DE.frz (x_add (DE.frz (x_mul (DE.frz (x_mod (DE.frz (b_int (by rfl) (u_int v) (db_one (dp_var (pv 2))))) (DI.pk di_int))) (DI.pk di_int))) (DE.pk (x_mul di_int (dp_var (pv 1)))))) (DI.pk di_int)))))) (DI.pk di_int))) (DI.pk di_int))) da_nil))))))
def m__law_pot : Fm := mir 3 2 g__law_pot
theorem o__law_pot (v : Ev K mg base) : DefOk (MM K) P w K mg base 1 "_law_pot" "_law_pot" (top 53) [] (He.ga K "_law_pot") ["_law_script", "_law_k"] m__law_pot := by
  obtain ⟨fd, F⟩ := v.c.def_ 0 (d := d__law_pot) rfl
  exact ⟨fd, F, funD_mir (M := MM K) F S__law_pot (by decide) (fun cdv A outer s H E hr tk hp => b__law_pot v cdv A outer s H E hr tk hp)⟩
theorem f__law_pot (v : Ev K mg base) : TS.FnR P w K mg base (L2.CX P w) 1 (He.ga K "_law_pot") (spD (MM K) m__law_pot) := by
  obtain ⟨fd, F, O⟩ := o__law_pot (P := P) (w := w) v
  exact fnR_raw (M := MM K) O (F.bindsN (ps := ["_law_script", "_law_k"]) fun _ _ _ _ _ _ us hl => match us, hl with | [_, _], _ => rfl)
abbrev g__law_draw_1a_1 : FS := (sAsg (fCal gDivmod (aCons (frz (fBinV gIx 0 (kD (.int 0)))) (aCons (vI 1) aNil))) (tTup 2 (tsCons (tSub 0 (kD (.int 0))) (tsCons (tName 2) tsNil))))
abbrev g__law_draw_1a_2 : FS := (sRet (vR 2))
abbrev g__law_draw_1 : FS := (sIf (fTst (fBin gGt (frz (fBinV gIx 0 (kD (.int 0)))) (kD (.int 0)))) (sSeq g__law_draw_1a_1 g__law_draw_1a_2) sNil)
abbrev g__law_draw_2 : FS := (sAsg (toE (frz (fBin gMod (frz (fCal gInt (aOne (frz (fBin gAdd (frz (fBin gMul (frz (fBinV gIx 0 (kD (.int 1)))) (kD (.int 48271)))) (kD (.int 20011))))))) (kD (.int 2147483629))))) (tSub 0 (kD (.int 1))))
abbrev g__law_draw_3 : FS := (sRet (fBin gMod (frz (fCal gInt (aOne (frz (fBin gFdiv (frz (fBin gMod (frz (fCal gInt (aOne (frz (fBin gMul (frz (fBinV gIx 0 (kD (.int 1)))) (frz (fBinV gIx 0 (kD (.int 1))))))))) (kD (.int 2147483563)))) (kD (.int 13))))))) (vP 1)))
def g__law_draw : FS := (sSeq g__law_draw_1 (sSeq g__law_draw_2 g__law_draw_3))
theorem S__law_draw : FnScope ["_law_pot_here", "_law_many", "_law_digit"] ["_law_pot_here", "_law_many"] (defScope (top 54)) := ⟨rfl, rfl, rfl, by decide +kernel, rfl, by decide +kernel, by decide +kernel⟩
theorem kp__law_draw (v : Ev K mg base) : PySem.W.keepIn K (.ref (He.ga K "_law_draw")) = true := (v.c.def_ 1 (d := d__law_draw) rfl).elim fun _ F => F.kp
theorem b__law_draw (v : Ev K mg base) : BodyOk (MM K) P w K mg base 0 "_law_draw" (top 54) (He.ga K "_law_draw") ["_law_pot_here", "_law_many", "_law_digit"] g__law_draw :=
  fun cdv A outer s H E hr tk hp => (dss_cons (ds_if (t_gt (DE.frz (x_ixV hr (pv 0) (DI.pk di_int))) (DI.pk di_int)) (dss_cons (ds_asg (b_divmod (by rfl) (u_divmod v) (DA.b (da_cons (DE.frz (x_ixV hr (pv 0) (DI.pk di_int))) (da_cons (di_var (pv 1)) da_nil)))) (dg_tup (by rfl) (dgs_cons (dg_sub (pv 0) di_int (hu_of hr)) (dgs_cons (dg_name (pg_name S__law_draw.nd (by rfl) (by first | exact Or.inl rfl | exact Or.inr rfl))) dgs_nil))) (tgt_tup (tgs_cons tgt_sub (tgs_cons (tgt_name 2) tgs_nil))))
    (dss_one (ds_ret (de_var (pv 2))))) dss_nil)
    (dss_cons (ds_asg (DI.toE (DE.frz (x_mod (DE.frz (b_int (by rfl) (u_int v) (db_one (DE.pk (x_add (DE.frz (x_mul (DE.frz (x_ixV hr (pv 0) (DI.pk di_int))) (DI.pk di_int))) (DI.pk di_int)))))) (DI.pk di_int)))) (dg_sub (pv 0) di_int (hu_of hr)) tgt_sub)
    (dss_one (ds_ret (x_mod (DE.frz (b_int (by rfl) (u_int v) (db_one (DE.pk (x_fdiv (DE.frz (x_mod (DE.frz (b_int (by rfl) (u_int v) (db_one (DE.pk (x_mul (DE.frz (x_ixV hr (pv 0) (DI.pk di_int))) (DE.pk (x_ixV hr (pv 0) (DI.pk di_int)))))))) (DI.pk di_int))) (DI.pk di_int)))))) (dp_var (pv 1)))))))
def m__law_draw : Fm := mir 3 2 g__law_draw
theorem o__law_draw (v : Ev K mg base) : DefOk (MM K) P w K mg base 1 "_law_draw" "_law_draw" (top 54) [] (He.ga K "_law_draw") ["_law_pot_here", "_law_many"] m__law_draw := by
  obtain ⟨fd, F⟩ := v.c.def_ 1 (d := d__law_draw) rfl
  exact ⟨fd, F, funD_mir (M := MM K) F S__law_draw (by decide) (fun cdv A outer s H E hr tk hp => b__law_draw v cdv A outer s H E hr tk hp)⟩
theorem f__law_draw (v : Ev K mg base) : TS.FnR P w K mg base (L2.CX P w) 1 (He.ga K "_law_draw") (spD (MM K) m__law_draw) := by
  obtain ⟨fd, F, O⟩ := o__law_draw (P := P) (w := w) v
  exact fnR_raw (M := MM K) O (F.bindsN (ps := ["_law_pot_here", "_law_many"]) fun _ _ _ _ _ _ us hl => match us, hl with | [_, _], _ => rfl)
abbrev g__law_pick_1 : FS := (sRet (fBin gIx (vI 1) (frz (fOwnIo m__law_draw 0 (aCons (frz (fCal gLen (aOne (vP 1)))) aNil)))))
def g__law_pick : FS := g__law_pick_1
theorem S__law_pick : FnScope ["_law_pot_here", "_law_some"] ["_law_pot_here", "_law_some"] (defScope (top 55)) := ⟨rfl, rfl, rfl, by decide +kernel, rfl, by decide +kernel, by decide +kernel⟩
theorem kp__law_pick (v : Ev K mg base) : PySem.W.keepIn K (.ref (He.ga K "_law_pick")) = true := (v.c.def_ 2 (d := d__law_pick) rfl).elim fun _ F => F.kp
theorem b__law_pick (v : Ev K mg base) : BodyOk (MM K) P w K mg base 1 "_law_pick" (top 55) (He.ga K "_law_pick") ["_law_pot_here", "_law_some"] g__law_pick :=
  fun cdv A outer s H E hr tk hp => (dss_one (ds_ret (x_ix hr (di_var (pv 1)) (DE.pk (d_ownIo (fun h => pe_own ((f__law_draw v).mono (by decide)) hr tk (by rfl) (u__law_draw v) (kp__law_draw v) h) (pv 0) (da_cons (DE.frz (b_len (by rfl) (u_len v) (db_one (dp_var (pv 1))))) da_nil))))))
def m__law_pick : Fm := mir 2 2 g__law_pick
theorem o__law_pick (v : Ev K mg base) : DefOk (MM K) P w K mg base 2 "_law_pick" "_law_pick" (top 55) [] (He.ga K "_law_pick") ["_law_pot_here", "_law_some"] m__law_pick := by
  obtain ⟨fd, F⟩ := v.c.def_ 2 (d := d__law_pick) rfl
  exact ⟨fd, F, funD_mir (M := MM K) F S__law_pick (by decide) (fun cdv A outer s H E hr tk hp => b__law_pick v cdv A outer s H E hr tk hp)⟩
theorem f__law_pick (v : Ev K mg base) : TS.FnR P w K mg base (L2.CX P w) 2 (He.ga K "_law_pick") (spD (MM K) m__law_pick) := by
  obtain ⟨fd, F, O⟩ := o__law_pick (P := P) (w := w) v
  exact fnR_raw (M := MM K) O (F.bindsN (ps := ["_law_pot_here", "_law_some"]) fun _ _ _ _ _ _ us hl => match us, hl with | [_, _], _ => rfl)
abbrev g__law_great_1 : FS := (sAsg (toE (kD (.int 0))) (tName 2))
abbrev g__law_great_2_1 : FS := (sAsg (fBin gAdd (frz (fBin gMul (vI 2) (frz (fBin gPow (kD (.int 10)) (kD (.int 7)))))) (frz (fOwnIo m__law_draw 0 (aCons (frz (fBin gPow (kD (.int 10)) (kD (.int 7)))) aNil)))) (tName 2))
abbrev g__law_great_2B : FS := g__law_great_2_1
abbrev g__law_great_2 : FS := (sFor (itRg1 (vI 1)) (tName 3) g__law_great_2B)
abbrev g__law_great_3 : FS := (sRet (fBin gMul (vI 2) (frz (fOwnIo m__law_pick 0 (aCons (frz (fLst (aCons (kD (.int 1)) (aCons (fUnI (fun i => -i) (kD (.int 1))) aNil)))) aNil)))))
def g__law_great : FS := (sSeq g__law_great_1 (sSeq g__law_great_2 g__law_great_3))
theorem S__law_great : FnScope ["_law_pot_here", "_law_groups", "_law_number_here", "_law_turn"] ["_law_pot_here", "_law_groups"] (defScope (top 57)) := ⟨rfl, rfl, rfl, by decide +kernel, rfl, by decide +kernel, by decide +kernel⟩
theorem kp__law_great (v : Ev K mg base) : PySem.W.keepIn K (.ref (He.ga K "_law_great")) = true := (v.c.def_ 3 (d := d__law_great) rfl).elim fun _ F => F.kp
theorem b__law_great (v : Ev K mg base) : BodyOk (MM K) P w K mg base 2 "_law_great" (top 57) (He.ga K "_law_great") ["_law_pot_here", "_law_groups", "_law_number_here", "_law_turn"] g__law_great :=
  fun cdv A outer s H E hr tk hp => (dss_cons (ds_set (i := 2) S__law_great.nd (by rfl) (by first | exact Or.inl rfl | exact Or.inr rfl) (DI.toE di_int))
    (dss_cons (ds_for hp (by rfl) (dit_rg1 (by rfl) (u_range v) (di_var (pv 1))) (dg_name (pg_name S__law_great.nd (by rfl) (by first | exact Or.inl rfl | exact Or.inr rfl))) (tgt_name 3) (dss_one (ds_set (i := 2) S__law_great.nd (by rfl) (by first | exact Or.inl rfl | exact Or.inr rfl) (x_add (DE.frz (x_mul (di_var (pv 2)) (DE.pk (x_pow di_int (DI.pk di_int))))) (DE.pk (d_ownIo (fun h => pe_own ((f__law_draw v).mono (by decide)) hr tk (by rfl) (u__law_draw v) (kp__law_draw v) h) (pv 0) (da_cons (DE.frz (x_pow di_int (DI.pk di_int))) da_nil)))))))
    (dss_one (ds_ret (x_mul (di_var (pv 2)) (DE.pk (d_ownIo (fun h => pe_own ((f__law_pick v).mono (by decide)) hr tk (by rfl) (u__law_pick v) (kp__law_pick v) h) (pv 0) (da_cons (DE.frz (de_lst (da_cons di_int (da_cons (di_neg di_int) da_nil)))) da_nil))))))))
def m__law_great : Fm := mir 4 2 g__law_great
theorem o__law_great (v : Ev K mg base) : DefOk (MM K) P w K mg base 3 "_law_great" "_law_great" (top 57) [] (He.ga K "_law_great") ["_law_pot_here", "_law_groups"] m__law_great := by
  obtain ⟨fd, F⟩ := v.c.def_ 3 (d := d__law_great) rfl
  exact ⟨fd, F, funD_mir (M := MM K) F S__law_great (by decide) (fun cdv A outer s H E hr tk hp => b__law_great v cdv A outer s H E hr tk hp)⟩
theorem f__law_great (v : Ev K mg base) : TS.FnR P w K mg base (L2.CX P w) 3 (He.ga K "_law_great") (spD (MM K) m__law_great) := by
  obtain ⟨fd, F, O⟩ := o__law_great (P := P) (w := w) v
  exact fnR_raw (M := MM K) O (F.bindsN (ps := ["_law_pot_here", "_law_groups"]) fun _ _ _ _ _ _ us hl => match us, hl with | [_, _], _ => rfl)
abbrev g__law_divisor_1 : FS := (sPar 2 3 (fCal gAbs (aOne (vP 0))) (fCal gAbs (aOne (vP 1))))
abbrev g__law_divisor_2_1 : FS := (sPar 2 3 (toE (vI 3)) (fBin gMod (frz (fCal gInt (aOne (vP 2)))) (vP 3)))
abbrev g__law_divisor_2B : FS := g__law_divisor_2_1
abbrev g__law_divisor_2 : FS := (sWhile (muI 3) (fTst (fBin gNe (vI 3) (kD (.int 0)))) g__law_divisor_2B)
abbrev g__law_divisor_3 : FS := (sRet (vR 2))
def g__law_divisor : FS := (sSeq g__law_divisor_1 (sSeq g__law_divisor_2 g__law_divisor_3))
theorem S__law_divisor : FnScope ["_law_one", "_law_other", "_law_left", "_law_right_here"] ["_law_one", "_law_other"] (defScope (top 58)) := ⟨rfl, rfl, rfl, by decide +kernel, rfl, by decide +kernel, by decide +kernel⟩
theorem kp__law_divisor (v : Ev K mg base) : PySem.W.keepIn K (.ref (He.ga K "_law_divisor")) = true := (v.c.def_ 4 (d := d__law_divisor) rfl).elim fun _ F => F.kp
theorem b__law_divisor (v : Ev K mg base) : BodyOk (MM K) P w K mg base 0 "_law_divisor" (top 58) (He.ga K "_law_divisor") ["_law_one", "_law_other", "_law_left", "_law_right_here"] g__law_divisor :=
  fun cdv A outer s H E hr tk hp => (dss_cons (ds_par (i := 2) (j := 3) (by rfl) S__law_divisor.nd (by rfl) (by rfl) (by decide) (by rfl) (by rfl) (b_abs (by rfl) (u_abs v) (db_one (dp_var (pv 0)))) (b_abs (by rfl) (u_abs v) (db_one (dp_var (pv 1)))) (by rfl))
    (dss_cons (ds_while (muI 3) hp (t_ne hr (di_var (pv 3)) (DI.pk di_int)) (dss_one (ds_par (i := 2) (j := 3) (by rfl) S__law_divisor.nd (by rfl) (by rfl) (by decide) (by rfl) (by rfl) (DI.toE (di_var (pv 3))) (x_mod (DE.frz (b_int (by rfl) (u_int v) (db_one (dp_var (pv 2))))) (dp_var (pv 3))) (by rfl))))
    (dss_one (ds_ret (de_var (pv 2))))))
def m__law_divisor : Fm := mir 4 2 g__law_divisor
theorem o__law_divisor (v : Ev K mg base) : DefOk (MM K) P w K mg base 1 "_law_divisor" "_law_divisor" (top 58) [] (He.ga K "_law_divisor") ["_law_one", "_law_other"] m__law_divisor := by
  obtain ⟨fd, F⟩ := v.c.def_ 4 (d := d__law_divisor) rfl
  exact ⟨fd, F, funD_mir (M := MM K) F S__law_divisor (by decide) (fun cdv A outer s H E hr tk hp => b__law_divisor v cdv A outer s H E hr tk hp)⟩
theorem f__law_divisor (v : Ev K mg base) : TS.FnR P w K mg base (L2.CX P w) 1 (He.ga K "_law_divisor") (spD (MM K) m__law_divisor) := by
  obtain ⟨fd, F, O⟩ := o__law_divisor (P := P) (w := w) v
  exact fnR_raw (M := MM K) O (F.bindsN (ps := ["_law_one", "_law_other"]) fun _ _ _ _ _ _ us hl => match us, hl with | [_, _], _ => rfl)
abbrev g__law_lowest_1 : FS := (sAsg (fOwn m__law_divisor (aCons (vI 0) (aCons (vI 1) aNil))) (tName 2))
abbrev g__law_lowest_2 : FS := (sRet (toE (fTup (aCons (frz (fBin gFdiv (vI 0) (vP 2))) (aCons (frz (fBin gFdiv (vI 1) (vP 2))) aNil)))))
def g__law_lowest : FS := (sSeq g__law_lowest_1 g__law_lowest_2)
theorem S__law_lowest : FnScope ["_law_top", "_law_bottom", "_law_shared"] ["_law_top", "_law_bottom"] (defScope (top 59)) := ⟨rfl, rfl, rfl, by decide +kernel, rfl, by decide +kernel, by decide +kernel⟩
theorem kp__law_lowest (v : Ev K mg base) : PySem.W.keepIn K (.ref (He.ga K "_law_lowest")) = true := (v.c.def_ 5 (d := d__law_lowest) rfl).elim fun _ F => F.kp
theorem b__law_lowest (v : Ev K mg base) : BodyOk (MM K) P w K mg base 1 "_law_lowest" (top 59) (He.ga K "_law_lowest") ["_law_top", "_law_bottom", "_law_shared"] g__law_lowest :=
  fun cdv A outer s H E hr tk hp => (dss_cons (ds_set (i := 2) S__law_lowest.nd (by rfl) (by first | exact Or.inl rfl | exact Or.inr rfl) (d_own (fun h => pe_own ((f__law_divisor v).mono (by decide)) hr tk (by rfl) (u__law_divisor v) (kp__law_divisor v) h) (da_cons (di_var (pv 0)) (da_cons (di_var (pv 1)) da_nil))))
    (dss_one (ds_ret (DI.toE (di_tup (da_cons (DE.frz (x_fdiv (di_var (pv 0)) (dp_var (pv 2)))) (da_cons (DE.frz (x_fdiv (di_var (pv 1)) (dp_var (pv 2)))) da_nil)))))))
def m__law_lowest : Fm := mir 3 2 g__law_lowest
theorem o__law_lowest (v : Ev K mg base) : DefOk (MM K) P w K mg base 2 "_law_lowest" "_law_lowest" (top 59) [] (He.ga K "_law_lowest") ["_law_top", "_law_bottom"] m__law_lowest := by
  obtain ⟨fd, F⟩ := v.c.def_ 5 (d := d__law_lowest) rfl
  exact ⟨fd, F, funD_mir (M := MM K) F S__law_lowest (by decide) (fun cdv A outer s H E hr tk hp => b__law_lowest v cdv A outer s H E hr tk hp)⟩
theorem f__law_lowest (v : Ev K mg base) : TS.FnR P w K mg base (L2.CX P w) 2 (He.ga K "_law_lowest") (spD (MM K) m__law_lowest) := by
  obtain ⟨fd, F, O⟩ := o__law_lowest (P := P) (w := w) v
  exact fnR_raw (M := MM K) O (F.bindsN (ps := ["_law_top", "_law_bottom"]) fun _ _ _ _ _ _ us hl => match us, hl with | [_, _], _ => rfl)
abbrev g__law_plus_1 : FS := (sRet (fOwn m__law_lowest (aCons (frz (fBin gAdd (frz (fBin gMul (frz (fBin gIx (vI 0) (kD (.int 0)))) (frz (fBin gIx (vI 1) (kD (.int 1)))))) (frz (fBin gMul (frz (fBin gIx (vI 1) (kD (.int 0)))) (frz (fBin gIx (vI 0) (kD (.int 1)))))))) (aCons (frz (fBin gMul (frz (fBin gIx (vI 0) (kD (.int 1)))) (frz (fBin gIx (vI 1) (kD (.int 1)))))) aNil))))
def g__law_plus : FS := g__law_plus_1
theorem S__law_plus : FnScope ["_law_one", "_law_other"] ["_law_one", "_law_other"] (defScope (top 60)) := ⟨rfl, rfl, rfl, by decide +kernel, rfl, by decide +kernel, by decide +kernel⟩
theorem kp__law_plus (v : Ev K mg base) : PySem.W.keepIn K (.ref (He.ga K "_law_plus")) = true := (v.c.def_ 6 (d := d__law_plus) rfl).elim fun _ F => F.kp
theorem b__law_plus (v : Ev K mg base) : BodyOk (MM K) P w K mg base 2 "_law_plus" (top 60) (He.ga K "_law_plus") ["_law_one", "_law_other"] g__law_plus :=
  fun cdv A outer s H E hr tk hp => (dss_one (ds_ret (d_own (fun h => pe_own ((f__law_lowest v).mono (by decide)) hr tk (by rfl) (u__law_lowest v) (kp__law_lowest v) h) (da_cons (DE.frz (x_add (DE.frz (x_mul (DE.frz (x_ix hr (di_var (pv 0)) (DI.pk di_int))) (DE.pk (x_ix hr (di_var (pv 1)) (DI.pk di_int))))) (DE.pk (x_mul (DE.frz (x_ix hr (di_var (pv 1)) (DI.pk di_int))) (DE.pk (x_ix hr (di_var (pv 0)) (DI.pk di_int))))))) (da_cons (DE.frz (x_mul (DE.frz (x_ix hr (di_var (pv 0)) (DI.pk di_int))) (DE.pk (x_ix hr (di_var (pv 1)) (DI.pk di_int))))) da_nil)))))
def m__law_plus : Fm := mir 2 2 g__law_plus
theorem o__law_plus (v : Ev K mg base) : DefOk (MM K) P w K mg base 3 "_law_plus" "_law_plus" (top 60) [] (He.ga K "_law_plus") ["_law_one", "_law_other"] m__law_plus := by
  obtain ⟨fd, F⟩ := v.c.def_ 6 (d := d__law_plus) rfl
  exact ⟨fd, F, funD_mir (M := MM K) F S__law_plus (by decide) (fun cdv A outer s H E hr tk hp => b__law_plus v cdv A outer s H E hr tk hp)⟩
theorem f__law_plus (v : Ev K mg base) : TS.FnR P w K mg base (L2.CX P w) 3 (He.ga K "_law_plus") (spD (MM K) m__law_plus) := by
  obtain ⟨fd, F, O⟩ := o__law_plus (P := P) (w := w) v
  exact fnR_raw (M := MM K) O (F.bindsN (ps := ["_law_one", "_law_other"]) fun _ _ _ _ _ _ us hl => match us, hl with | [_, _], _ => rfl)
abbrev g__law_parts_1 : FS := (sPar3E 2 3 4 (fxCons (fBin gAdd (kD (.int 1)) (frz (fOwnIo m__law_draw 0 (aCons (kD (.int 9)) aNil)))) (fxCons (fun δ => .ok (.own (.dT [] [])) δ) (fxCons (fun δ => .ok (.own (.dK [] [])) δ) fxNil))))
abbrev g__law_parts_2 : FS := (sAsg (toE (vI 2)) (tName 1))
abbrev g__law_parts_3_1 : FS := (sAsg (fBin gAdd (kD (.int 1)) (frz (fOwnIo m__law_draw 0 (aCons (vI 1) aNil)))) (tName 5))
abbrev g__law_parts_3_2 : FS := (sAsg (fBin gSub (vI 1) (vP 5)) (tName 1))
abbrev g__law_parts_3_3 : FS := (sAsg (fIfE (fTst (fBin gGt (frz (fOwnIo m__law_draw 0 (aCons (kD (.int 6)) aNil))) (kD (.int 0)))) (fBin gAdd (kD (.int 1)) (frz (fOwnIo m__law_draw 0 (aCons (kD (.int 4)) aNil)))) (fBin gAdd (frz (fCal gAbs (aOne (frz (fOwnIo m__law_great 0 (aCons (kD (.int 3)) aNil)))))) (kD (.int 1)))) (tName 6))
abbrev g__law_parts_3_4a_1 : FS := (sAsg (fOwn m__law_lowest (aCons (frz (fBin gMul (frz (fBin gMul (vI 6) (vP 2))) (frz (fOwnIo m__law_pick 0 (aCons (frz (fLst (aCons (kD (.int 1)) (aCons (fUnI (fun i => -i) (kD (.int 1))) aNil)))) aNil))))) (aCons (vI 5) aNil))) (tName 7))
abbrev g__law_parts_3_4a_2 : FS := (sAsg (toE (frz (fBin gAdd (frz (fGetV 3 (vI 7) (kD (.int 0)))) (vP 6)))) (tSub 3 (vI 7)))
abbrev g__law_parts_3_4b_1 : FS := (sAsg (toE (frz (fOwn m__law_plus (aCons (frz (fGetV 4 (vI 6) (fTup (aCons (kD (.int 0)) (aCons (kD (.int 1)) aNil))))) (aCons (fTup (aCons (vI 5) (aCons (frz (fBin gMul (vI 6) (vP 2))) aNil))) aNil))))) (tSub 4 (vI 6)))
abbrev g__law_parts_3_4 : FS := (sIf (fTst (fBin gGt (frz (fOwnIo m__law_draw 0 (aCons (kD (.int 3)) aNil))) (kD (.int 0)))) (sSeq g__law_parts_3_4a_1 g__law_parts_3_4a_2) g__law_parts_3_4b_1)
abbrev g__law_parts_3B : FS := (sSeq g__law_parts_3_1 (sSeq g__law_parts_3_2 (sSeq g__law_parts_3_3 g__law_parts_3_4)))
abbrev g__law_parts_3 : FS := (sWhile (muI 1) (fTst (fBin gGt (vI 1) (kD (.int 0)))) g__law_parts_3B)
abbrev g__law_parts_4 : FS := (sRet (toE (fTup (aCons (vI 3) (aCons (vI 4) aNil)))))
def g__law_parts : FS := (sSeq g__law_parts_1 (sSeq g__law_parts_2 (sSeq g__law_parts_3 g__law_parts_4)))
theorem S__law_parts : FnScope ["_law_pot_here", "_law_left", "_law_whole", "_law_by_pace", "_law_by_size", "_law_share", "_law_many", "_law_speed"] ["_law_pot_here"] (defScope (top 61)) := ⟨rfl, rfl, rfl, by decide +kernel, rfl, by decide +kernel, by decide +kernel⟩
theorem kp__law_parts (v : Ev K mg base) : PySem.W.keepIn K (.ref (He.ga K "_law_parts")) = true := (v.c.def_ 7 (d := d__law_parts) rfl).elim fun _ F => F.kp
theorem b__law_parts (v : Ev K mg base) : BodyOk (MM K) P w K mg base 3 "_law_parts" (top 61) (He.ga K "_law_parts") ["_law_pot_here", "_law_left", "_law_whole", "_law_by_pace", "_law_by_size", "_law_share", "_law_many", "_law_speed"] g__law_parts :=
  fun cdv A outer s H E hr tk hp => (dss_cons (ds_par3E (i := 2) (j := 3) (l := 4) (by rfl) S__law_parts.nd (by rfl) (by rfl) (by rfl) (by decide) (by decide) (by decide) (by rfl) (by rfl) (by rfl) (dx_cons (x_add di_int (DE.pk (d_ownIo (fun h => pe_own ((f__law_draw v).mono (by decide)) hr tk (by rfl) (u__law_draw v) (kp__law_draw v) h) (pv 0) (da_cons di_int da_nil)))) (dx_cons de_dnewT (dx_cons de_dnew dx_nil))) (by rfl))
    (dss_cons (ds_set (i := 1) S__law_parts.nd (by rfl) (by first | exact Or.inl rfl | exact Or.inr rfl) (DI.toE (di_var (pv 2))))
    (dss_cons (ds_while (muI 1) hp (t_gt (di_var (pv 1)) (DI.pk di_int)) (dss_cons (ds_set (i := 5) S__law_parts.nd (by rfl) (by first | exact Or.inl rfl | exact Or.inr rfl) (x_add di_int (DE.pk (d_ownIo (fun h => pe_own ((f__law_draw v).mono (by decide)) hr tk (by rfl) (u__law_draw v) (kp__law_draw v) h) (pv 0) (da_cons (di_var (pv 1)) da_nil)))))
    (dss_cons (ds_set (i := 1) S__law_parts.nd (by rfl) (by first | exact Or.inl rfl | exact Or.inr rfl) (x_sub (di_var (pv 1)) (dp_var (pv 5))))
    (dss_cons (ds_set (i := 6) S__law_parts.nd (by rfl) (by first | exact Or.inl rfl | exact Or.inr rfl) (de_if (t_gt (DE.frz (d_ownIo (fun h => pe_own ((f__law_draw v).mono (by decide)) hr tk (by rfl) (u__law_draw v) (kp__law_draw v) h) (pv 0) (da_cons di_int da_nil))) (DI.pk di_int)) (x_add di_int (DE.pk (d_ownIo (fun h => pe_own ((f__law_draw v).mono (by decide)) hr tk (by rfl) (u__law_draw v) (kp__law_draw v) h) (pv 0) (da_cons di_int da_nil)))) (x_add (DE.frz (b_abs (by rfl) (u_abs v) (db_one (DE.pk (d_ownIo (fun h => pe_own ((f__law_great v).mono (by decide)) hr tk (by rfl) (u__law_great v) (kp__law_great v) h) (pv 0) (da_cons di_int da_nil)))))) (DI.pk di_int))))
    (dss_one (ds_if (t_gt (DE.frz (d_ownIo (fun h => pe_own ((f__law_draw v).mono (by decide)) hr tk (by rfl) (u__law_draw v) (kp__law_draw v) h) (pv 0) (da_cons di_int da_nil))) (DI.pk di_int)) (dss_cons (ds_set (i := 7) S__law_parts.nd (by rfl) (by first | exact Or.inl rfl | exact Or.inr rfl) (d_own (fun h => pe_own ((f__law_lowest v).mono (by decide)) hr tk (by rfl) (u__law_lowest v) (kp__law_lowest v) h) (da_cons (DE.frz (x_mul (DE.frz (x_mul (di_var (pv 6)) (dp_var (pv 2)))) (DE.pk (d_ownIo (fun h => pe_own ((f__law_pick v).mono (by decide)) hr tk (by rfl) (u__law_pick v) (kp__law_pick v) h) (pv 0) (da_cons (DE.frz (de_lst (da_cons di_int (da_cons (di_neg di_int) da_nil)))) da_nil))))) (da_cons (di_var (pv 5)) da_nil))))
    (dss_one (ds_asg (DI.toE (DE.frz (x_add (DE.frz (de_getV (hu_of hr) (pv 3) (di_var (pv 7)) di_int)) (dp_var (pv 6))))) (dg_sub (pv 3) (di_var (pv 7)) (hu_of hr)) tgt_sub))) (dss_one (ds_asg (DI.toE (DE.frz (d_own (fun h => pe_own ((f__law_plus v).mono (by decide)) hr tk (by rfl) (u__law_plus v) (kp__law_plus v) h) (da_cons (DE.frz (de_getV (hu_of hr) (pv 4) (di_var (pv 6)) (di_tup (da_cons di_int (da_cons di_int da_nil))))) (da_cons (di_tup (da_cons (di_var (pv 5)) (da_cons (DE.frz (x_mul (di_var (pv 6)) (dp_var (pv 2)))) da_nil))) da_nil))))) (dg_sub (pv 4) (di_var (pv 6)) (hu_of hr)) tgt_sub))))))))
    (dss_one (ds_ret (DI.toE (di_tup (da_cons (di_var (pv 3)) (da_cons (di_var (pv 4)) da_nil)))))))))
def m__law_parts : Fm := mir 8 1 g__law_parts
theorem o__law_parts (v : Ev K mg base) : DefOk (MM K) P w K mg base 4 "_law_parts" "_law_parts" (top 61) [] (He.ga K "_law_parts") ["_law_pot_here"] m__law_parts := by
  obtain ⟨fd, F⟩ := v.c.def_ 7 (d := d__law_parts) rfl
  exact ⟨fd, F, funD_mir (M := MM K) F S__law_parts (by decide) (fun cdv A outer s H E hr tk hp => b__law_parts v cdv A outer s H E hr tk hp)⟩
theorem f__law_parts (v : Ev K mg base) : TS.FnR P w K mg base (L2.CX P w) 4 (He.ga K "_law_parts") (spD (MM K) m__law_parts) := by
  obtain ⟨fd, F, O⟩ := o__law_parts (P := P) (w := w) v
  exact fnR_raw (M := MM K) O (F.bindsN (ps := ["_law_pot_here"]) fun _ _ _ _ _ _ us hl => match us, hl with | [_], _ => rfl)
abbrev g__law_number_1 : FS := (sRet (fIfE (fTst (fBin gGt (frz (fOwnIo m__law_draw 0 (aCons (kD (.int 5)) aNil))) (kD (.int 0)))) (fBin gAdd (kD (.int 1)) (frz (fOwnIo m__law_draw 0 (aCons (kD (.int 9)) aNil)))) (fBin gAdd (kD (.int 1)) (frz (fCal gAbs (aOne (frz (fOwnIo m__law_great 0 (aCons (kD (.int 3)) aNil)))))))))
def g__law_number : FS := g__law_number_1
theorem S__law_number : FnScope ["_law_pot_here"] ["_law_pot_here"] (defScope (top 63)) := ⟨rfl, rfl, rfl, by decide +kernel, rfl, by decide +kernel, by decide +kernel⟩
theorem kp__law_number (v : Ev K mg base) : PySem.W.keepIn K (.ref (He.ga K "_law_number")) = true := (v.c.def_ 8 (d := d__law_number) rfl).elim fun _ F => F.kp
theorem b__law_number (v : Ev K mg base) : BodyOk (MM K) P w K mg base 3 "_law_number" (top 63) (He.ga K "_law_number") ["_law_pot_here"] g__law_number :=
  fun cdv A outer s H E hr tk hp => (dss_one (ds_ret (de_if (t_gt (DE.frz (d_ownIo (fun h => pe_own ((f__law_draw v).mono (by decide)) hr tk (by rfl) (u__law_draw v) (kp__law_draw v) h) (pv 0) (da_cons di_int da_nil))) (DI.pk di_int)) (x_add di_int (DE.pk (d_ownIo (fun h => pe_own ((f__law_draw v).mono (by decide)) hr tk (by rfl) (u__law_draw v) (kp__law_draw v) h) (pv 0) (da_cons di_int da_nil)))) (x_add di_int (DE.pk (b_abs (by rfl) (u_abs v) (db_one (DE.pk (d_ownIo (fun h => pe_own ((f__law_great v).mono (by decide)) hr tk (by rfl) (u__law_great v) (kp__law_great v) h) (pv 0) (da_cons di_int da_nil))))))))))
def m__law_number : Fm := mir 1 1 g__law_number
theorem o__law_number (v : Ev K mg base) : DefOk (MM K) P w K mg base 4 "_law_number" "_law_number" (top 63) [] (He.ga K "_law_number") ["_law_pot_here"] m__law_number := by
  obtain ⟨fd, F⟩ := v.c.def_ 8 (d := d__law_number) rfl
  exact ⟨fd, F, funD_mir (M := MM K) F S__law_number (by decide) (fun cdv A outer s H E hr tk hp => b__law_number v cdv A outer s H E hr tk hp)⟩
theorem f__law_number (v : Ev K mg base) : TS.FnR P w K mg base (L2.CX P w) 4 (He.ga K "_law_number") (spD (MM K) m__law_number) := by
  obtain ⟨fd, F, O⟩ := o__law_number (P := P) (w := w) v
  exact fnR_raw (M := MM K) O (F.bindsN (ps := ["_law_pot_here"]) fun _ _ _ _ _ _ us hl => match us, hl with | [_], _ => rfl)
abbrev g__law_dicts_1 : FS := (sPar 2 3 (fun δ => .ok (.own (.dT [] [])) δ) (fun δ => .ok (.own (.dK [] [])) δ))
abbrev g__law_dicts_2_1 : FS := (sAsg (fOwn m__law_lowest (aCons (frz (fBin gMul (frz (fOwnIo m__law_number 0 aNil)) (frz (fOwnIo m__law_pick 0 (aCons (frz (fLst (aCons (kD (.int 1)) (aCons (fUnI (fun i => -i) (kD (.int 1))) aNil)))) aNil))))) (aCons (frz (fBin gAdd (kD (.int 1)) (frz (fOwnIo m__law_draw 0 (aCons (kD (.int 9)) aNil))))) aNil))) (tName 4))
abbrev g__law_dicts_2_2 : FS := (sAsg (toE (frz (fOwnIo m__law_number 0 aNil))) (tSub 2 (vI 4)))
abbrev g__law_dicts_2B : FS := (sSeq g__law_dicts_2_1 g__law_dicts_2_2)
abbrev g__law_dicts_2 : FS := (sFor (itRg1 (frz (fOwnIo m__law_draw 0 (aCons (kD (.int 6)) aNil)))) (tName 1) g__law_dicts_2B)
abbrev g__law_dicts_3_1 : FS := (sAsg (toE (frz (fOwn m__law_lowest (aCons (frz (fOwnIo m__law_number 0 aNil)) (aCons (frz (fOwnIo m__law_number 0 aNil)) aNil))))) (tSub 3 (frz (fOwnIo m__law_number 0 aNil))))
abbrev g__law_dicts_3B : FS := g__law_dicts_3_1
abbrev g__law_dicts_3 : FS := (sFor (itRg1 (frz (fOwnIo m__law_draw 0 (aCons (kD (.int 6)) aNil)))) (tName 1) g__law_dicts_3B)
abbrev g__law_dicts_4 : FS := (sRet (toE (fTup (aCons (vI 2) (aCons (vI 3) aNil)))))
def g__law_dicts : FS := (sSeq g__law_dicts_1 (sSeq g__law_dicts_2 (sSeq g__law_dicts_3 g__law_dicts_4)))
theorem S__law_dicts : FnScope ["_law_pot_here", "_law_turn", "_law_by_pace", "_law_by_size", "_law_speed"] ["_law_pot_here"] (defScope (top 64)) := ⟨rfl, rfl, rfl, by decide +kernel, rfl, by decide +kernel, by decide +kernel⟩
theorem kp__law_dicts (v : Ev K mg base) : PySem.W.keepIn K (.ref (He.ga K "_law_dicts")) = true := (v.c.def_ 9 (d := d__law_dicts) rfl).elim fun _ F => F.kp
theorem b__law_dicts (v : Ev K mg base) : BodyOk (MM K) P w K mg base 4 "_law_dicts" (top 64) (He.ga K "_law_dicts") ["_law_pot_here", "_law_turn", "_law_by_pace", "_law_by_size", "_law_speed"] g__law_dicts :=
  fun cdv A outer s H E hr tk hp => (dss_cons (ds_par (i := 2) (j := 3) (by rfl) S__law_dicts.nd (by rfl) (by rfl) (by decide) (by rfl) (by rfl) de_dnewT de_dnew (by rfl))
    (dss_cons (ds_for hp (by rfl) (dit_rg1 (by rfl) (u_range v) (DE.frz (d_ownIo (fun h => pe_own ((f__law_draw v).mono (by decide)) hr tk (by rfl) (u__law_draw v) (kp__law_draw v) h) (pv 0) (da_cons di_int da_nil)))) (dg_name (pg_name S__law_dicts.nd (by rfl) (by first | exact Or.inl rfl | exact Or.inr rfl))) (tgt_name 1) (dss_cons (ds_set (i := 4) S__law_dicts.nd (by rfl) (by first | exact Or.inl rfl | exact Or.inr rfl) (d_own (fun h => pe_own ((f__law_lowest v).mono (by decide)) hr tk (by rfl) (u__law_lowest v) (kp__law_lowest v) h) (da_cons (DE.frz (x_mul (DE.frz (d_ownIo (fun h => pe_own ((f__law_number v).mono (by decide)) hr tk (by rfl) (u__law_number v) (kp__law_number v) h) (pv 0) da_nil)) (DE.pk (d_ownIo (fun h => pe_own ((f__law_pick v).mono (by decide)) hr tk (by rfl) (u__law_pick v) (kp__law_pick v) h) (pv 0) (da_cons (DE.frz (de_lst (da_cons di_int (da_cons (di_neg di_int) da_nil)))) da_nil))))) (da_cons (DE.frz (x_add di_int (DE.pk (d_ownIo (fun h => pe_own ((f__law_draw v).mono (by decide)) hr tk (by rfl) (u__law_draw v) (kp__law_draw v) h) (pv 0) (da_cons di_int da_nil))))) da_nil))))
    (dss_one (ds_asg (DI.toE (DE.frz (d_ownIo (fun h => pe_own ((f__law_number v).mono (by decide)) hr tk (by rfl) (u__law_number v) (kp__law_number v) h) (pv 0) da_nil))) (dg_sub (pv 2) (di_var (pv 4)) (hu_of hr)) tgt_sub))))
    (dss_cons (ds_for hp (by rfl) (dit_rg1 (by rfl) (u_range v) (DE.frz (d_ownIo (fun h => pe_own ((f__law_draw v).mono (by decide)) hr tk (by rfl) (u__law_draw v) (kp__law_draw v) h) (pv 0) (da_cons di_int da_nil)))) (dg_name (pg_name S__law_dicts.nd (by rfl) (by first | exact Or.inl rfl | exact Or.inr rfl))) (tgt_name 1) (dss_one (ds_asg (DI.toE (DE.frz (d_own (fun h => pe_own ((f__law_lowest v).mono (by decide)) hr tk (by rfl) (u__law_lowest v) (kp__law_lowest v) h) (da_cons (DE.frz (d_ownIo (fun h => pe_own ((f__law_number v).mono (by decide)) hr tk (by rfl) (u__law_number v) (kp__law_number v) h) (pv 0) da_nil)) (da_cons (DE.frz (d_ownIo (fun h => pe_own ((f__law_number v).mono (by decide)) hr tk (by rfl) (u__law_number v) (kp__law_number v) h) (pv 0) da_nil)) da_nil))))) (dg_sub (pv 3) (DE.frz (d_ownIo (fun h => pe_own ((f__law_number v).mono (by decide)) hr tk (by rfl) (u__law_number v) (kp__law_number v) h) (pv 0) da_nil)) (hu_of hr)) tgt_sub)))
    (dss_one (ds_ret (DI.toE (di_tup (da_cons (di_var (pv 2)) (da_cons (di_var (pv 3)) da_nil)))))))))
def m__law_dicts : Fm := mir 5 1 g__law_dicts
theorem o__law_dicts (v : Ev K mg base) : DefOk (MM K) P w K mg base 5 "_law_dicts" "_law_dicts" (top 64) [] (He.ga K "_law_dicts") ["_law_pot_here"] m__law_dicts := by
  obtain ⟨fd, F⟩ := v.c.def_ 9 (d := d__law_dicts) rfl
  exact ⟨fd, F, funD_mir (M := MM K) F S__law_dicts (by decide) (fun cdv A outer s H E hr tk hp => b__law_dicts v cdv A outer s H E hr tk hp)⟩
theorem f__law_dicts (v : Ev K mg base) : TS.FnR P w K mg base (L2.CX P w) 5 (He.ga K "_law_dicts") (spD (MM K) m__law_dicts) := by
  obtain ⟨fd, F, O⟩ := o__law_dicts (P := P) (w := w) v
  exact fnR_raw (M := MM K) O (F.bindsN (ps := ["_law_pot_here"]) fun _ _ _ _ _ _ us hl => match us, hl with | [_], _ => rfl)
abbrev g__law_sum_1 : FS := (sAsg (toE (fTup (aCons (kD (.int 0)) (aCons (kD (.int 1)) aNil)))) (tName 2))
abbrev g__law_sum_2_1 : FS := (sAsg (fOwn m__law_plus (aCons (vI 2) (aCons (fTup (aCons (frz (fBin gMul (vI 3) (vP 6))) (aCons (frz (fCal gAbs (aOne (vP 5)))) aNil))) aNil))) (tName 2))
abbrev g__law_sum_2B : FS := g__law_sum_2_1
abbrev g__law_sum_2 : FS := (sFor (itItems (vI 0)) (tTup 2 (tsCons (tTup 2 (tsCons (tName 5) (tsCons (tName 6) tsNil))) (tsCons (tName 3) tsNil))) g__law_sum_2B)
abbrev g__law_sum_3_1 : FS := (sAsg (fOwn m__law_plus (aCons (vI 2) (aCons (fTup (aCons (frz (fBin gMul (vI 4) (vP 5))) (aCons (vI 6) aNil))) aNil))) (tName 2))
abbrev g__law_sum_3B : FS := g__law_sum_3_1
abbrev g__law_sum_3 : FS := (sFor (itItems (vI 1)) (tTup 2 (tsCons (tName 4) (tsCons (tTup 2 (tsCons (tName 5) (tsCons (tName 6) tsNil))) tsNil))) g__law_sum_3B)
abbrev g__law_sum_4 : FS := (sRet (vR 2))
def g__law_sum : FS := (sSeq g__law_sum_1 (sSeq g__law_sum_2 (sSeq g__law_sum_3 g__law_sum_4)))
theorem S__law_sum : FnScope ["_law_by_pace", "_law_by_size", "_law_found", "_law_many", "_law_length", "_law_top", "_law_bottom"] ["_law_by_pace", "_law_by_size"] (defScope (top 65)) := ⟨rfl, rfl, rfl, by decide +kernel, rfl, by decide +kernel, by decide +kernel⟩
theorem kp__law_sum (v : Ev K mg base) : PySem.W.keepIn K (.ref (He.ga K "_law_sum")) = true := (v.c.def_ 10 (d := d__law_sum) rfl).elim fun _ F => F.kp
theorem b__law_sum (v : Ev K mg base) : BodyOk (MM K) P w K mg base 3 "_law_sum" (top 65) (He.ga K "_law_sum") ["_law_by_pace", "_law_by_size", "_law_found", "_law_many", "_law_length", "_law_top", "_law_bottom"] g__law_sum :=
  fun cdv A outer s H E hr tk hp => (dss_cons (ds_set (i := 2) S__law_sum.nd (by rfl) (by first | exact Or.inl rfl | exact Or.inr rfl) (DI.toE (di_tup (da_cons di_int (da_cons di_int da_nil)))))
    (dss_cons (ds_for hp (by rfl) (dit_items (di_var (pv 0))) (dg_tup (by rfl) (dgs_cons (dg_tup (by rfl) (dgs_cons (dg_name (pg_name S__law_sum.nd (by rfl) (by first | exact Or.inl rfl | exact Or.inr rfl))) (dgs_cons (dg_name (pg_name S__law_sum.nd (by rfl) (by first | exact Or.inl rfl | exact Or.inr rfl))) dgs_nil))) (dgs_cons (dg_name (pg_name S__law_sum.nd (by rfl) (by first | exact Or.inl rfl | exact Or.inr rfl))) dgs_nil))) (tgt_tup (tgs_cons (tgt_tup (tgs_cons (tgt_name 5) (tgs_cons (tgt_name 6) tgs_nil))) (tgs_cons (tgt_name 3) tgs_nil))) (dss_one (ds_set (i := 2) S__law_sum.nd (by rfl) (by first | exact Or.inl rfl | exact Or.inr rfl) (d_own (fun h => pe_own ((f__law_plus v).mono (by decide)) hr tk (by rfl) (u__law_plus v) (kp__law_plus v) h) (da_cons (di_var (pv 2)) (da_cons (di_tup (da_cons (DE.frz (x_mul (di_var (pv 3)) (dp_var (pv 6)))) (da_cons (DE.frz (b_abs (by rfl) (u_abs v) (db_one (dp_var (pv 5))))) da_nil))) da_nil))))))
    (dss_cons (ds_for hp (by rfl) (dit_items (di_var (pv 1))) (dg_tup (by rfl) (dgs_cons (dg_name (pg_name S__law_sum.nd (by rfl) (by first | exact Or.inl rfl | exact Or.inr rfl))) (dgs_cons (dg_tup (by rfl) (dgs_cons (dg_name (pg_name S__law_sum.nd (by rfl) (by first | exact Or.inl rfl | exact Or.inr rfl))) (dgs_cons (dg_name (pg_name S__law_sum.nd (by rfl) (by first | exact Or.inl rfl | exact Or.inr rfl))) dgs_nil))) dgs_nil))) (tgt_tup (tgs_cons (tgt_name 4) (tgs_cons (tgt_tup (tgs_cons (tgt_name 5) (tgs_cons (tgt_name 6) tgs_nil))) tgs_nil))) (dss_one (ds_set (i := 2) S__law_sum.nd (by rfl) (by first | exact Or.inl rfl | exact Or.inr rfl) (d_own (fun h => pe_own ((f__law_plus v).mono (by decide)) hr tk (by rfl) (u__law_plus v) (kp__law_plus v) h) (da_cons (di_var (pv 2)) (da_cons (di_tup (da_cons (DE.frz (x_mul (di_var (pv 4)) (dp_var (pv 5)))) (da_cons (di_var (pv 6)) da_nil))) da_nil))))))
    (dss_one (ds_ret (de_var (pv 2)))))))
def m__law_sum : Fm := mir 7 2 g__law_sum
theorem o__law_sum (v : Ev K mg base) : DefOk (MM K) P w K mg base 4 "_law_sum" "_law_sum" (top 65) [] (He.ga K "_law_sum") ["_law_by_pace", "_law_by_size"] m__law_sum := by
  obtain ⟨fd, F⟩ := v.c.def_ 10 (d := d__law_sum) rfl
  exact ⟨fd, F, funD_mir (M := MM K) F S__law_sum (by decide) (fun cdv A outer s H E hr tk hp => b__law_sum v cdv A outer s H E hr tk hp)⟩
theorem f__law_sum (v : Ev K mg base) : TS.FnR P w K mg base (L2.CX P w) 4 (He.ga K "_law_sum") (spD (MM K) m__law_sum) := by
  obtain ⟨fd, F, O⟩ := o__law_sum (P := P) (w := w) v
  exact fnR_raw (M := MM K) O (F.bindsN (ps := ["_law_by_pace", "_law_by_size"]) fun _ _ _ _ _ _ us hl => match us, hl with | [_, _], _ => rfl)
def is_dict : Tg → Option Bool := tabTy ["dict"] fun _ => none
theorem is_dict_ok : IsT (MM K) ((["dict"] : List String).map Value.type) is_dict := isT_own0
def is_bool : Tg → Option Bool := tabTy ["bool"] fun _ => none
theorem is_bool_ok : IsT (MM K) ((["bool"] : List String).map Value.type) is_bool := isT_own0
def is_int : Tg → Option Bool := tabTy ["int"] fun _ => none
theorem is_int_ok : IsT (MM K) ((["int"] : List String).map Value.type) is_int := isT_own0
abbrev g_is_integer_1 : FS := (sRet (fAndV (fIsi is_int (vP 0)) (toE (fNotV (fIsi is_bool (vP 0))))))
def g_is_integer : FS := g_is_integer_1
theorem S_is_integer : FnScope ["value"] ["value"] (defScope (top 13)) := ⟨rfl, rfl, rfl, by decide +kernel, rfl, by decide +kernel, by decide +kernel⟩
theorem kp_is_integer (v : Ev K mg base) : PySem.W.keepIn K (.ref (He.ga K "is_integer")) = true := (v.c.def_ 11 (d := d_is_integer) rfl).elim fun _ F => F.kp
theorem b_is_integer (v : Ev K mg base) : BodyOk (MM K) P w K mg base 0 "is_integer" (top 13) (He.ga K "is_integer") ["value"] g_is_integer :=
  fun cdv A outer s H E hr tk hp => (dss_one (ds_ret (de_and (b_isi (by rfl) (u_isinstance v) (dp_var (pv 0)) (k_ty bt_int (by rfl) (u_int v)) (ClsV.ty "int") is_int_ok) (de_one (DI.toE (di_not (b_isi (by rfl) (u_isinstance v) (dp_var (pv 0)) (k_ty bt_bool (by rfl) (u_bool v)) (ClsV.ty "bool") is_bool_ok)))))))
def m_is_integer : Fm := mir 1 1 g_is_integer
theorem o_is_integer (v : Ev K mg base) : DefOk (MM K) P w K mg base 1 "is_integer" "is_integer" (top 13) [] (He.ga K "is_integer") ["value"] m_is_integer := by
  obtain ⟨fd, F⟩ := v.c.def_ 11 (d := d_is_integer) rfl
  exact ⟨fd, F, funD_mir (M := MM K) F S_is_integer (by decide) (fun cdv A outer s H E hr tk hp => b_is_integer v cdv A outer s H E hr tk hp)⟩
theorem f_is_integer (v : Ev K mg base) : TS.FnR P w K mg base (L2.CX P w) 1 (He.ga K "is_integer") (spD (MM K) m_is_integer) := by
  obtain ⟨fd, F, O⟩ := o_is_integer (P := P) (w := w) v
  exact fnR_raw (M := MM K) O (F.bindsN (ps := ["value"]) fun _ _ _ _ _ _ us hl => match us, hl with | [_], _ => rfl)
def is_tuple : Tg → Option Bool := tabTy ["tuple"] fun _ => none
theorem is_tuple_ok : IsT (MM K) ((["tuple"] : List String).map Value.type) is_tuple := isT_own0
theorem ex_InvalidInteger (v : Ev K mg base) : OxC K (He.ga K "InvalidInteger") ∧ XqC K (He.ga K "InvalidInteger") ∧ PySem.W.findIn K (.ref (He.ga K "InvalidInteger")) "__init__" = some (some (.ref (He.ma K (He.ga K "InvalidInteger") "__init__"))) ∧ PySem.W.typeIn K (.ref (He.ma K (He.ga K "InvalidInteger") "__init__")) = some (.type "function") := exc_ok Bas.ve (v.c.fact 28 (f := .exc "InvalidInteger" "ValueError"))
theorem S_InvalidInteger___init__ : FnScope ["self", "value"] ["self", "value"] (defScope (inClass (top 3) 0)) := ⟨rfl, rfl, rfl, by decide +kernel, rfl, by decide +kernel, by decide +kernel⟩
theorem xd_InvalidInteger (v : Ev K mg base) : ∃ fd, TS.FnOk P w K mg base (L2.CX P w) 1 (He.ma K (He.ga K "InvalidInteger") "__init__") fd ["self", "value"] (spX (He.ga K "InvalidInteger") ["value"]) ∧ Binds K fd ["self", "value"] [] := by
  obtain ⟨fd, F⟩ := v.c.def_ 12 (d := d_InvalidInteger___init__) rfl
  exact ⟨fd, funD_ini F S_InvalidInteger___init__ (by decide) (fun cdv A outer s H E => (init_body (N := []) (sp0 := ()) (ex_InvalidInteger v).1 (He.noat_ok (K := K) (v.c.fact 29 (f := .he (.noat "InvalidInteger" "value")))) rfl (pv 0) (pv 1) (inis_nil rfl))), F.bindsN (ps := ["self", "value"]) fun _ _ _ _ _ _ us hl => match us, hl with | [_, _], _ => rfl⟩
abbrev g_require_integer_1a_1 : FS := (sRaise 100 1 (aCons (vI 0) aNil))
abbrev g_require_integer_1 : FS := (sIf (fOr (fNot (fTst (fOwn m_is_integer (aCons (vI 0) aNil)))) (fAnd (fTst (fBin gNotN (vI 1) (kD .non))) (fTst (fBin gLt (vI 0) (vP 1))))) g_require_integer_1a_1 sNil)
def g_require_integer : FS := g_require_integer_1
theorem S_require_integer : FnScope ["value", "least"] ["value", "least"] (defScope (top 14)) := ⟨rfl, rfl, rfl, by decide +kernel, rfl, by decide +kernel, by decide +kernel⟩
theorem kp_require_integer (v : Ev K mg base) : PySem.W.keepIn K (.ref (He.ga K "require_integer")) = true := (v.c.def_ 13 (d := d_require_integer) rfl).elim fun _ F => F.kp
theorem b_require_integer (v : Ev K mg base) : BodyOk (MM K) P w K mg base 2 "require_integer" (top 14) (He.ga K "require_integer") ["value", "least"] g_require_integer :=
  fun cdv A outer s H E hr tk hp => (dss_one (ds_if (DW.pt (dw_or (dt_not (dt_val (d_own (fun h => pe_own ((f_is_integer v).mono (by decide)) hr tk (by rfl) (u_is_integer v) (kp_is_integer v) h) (da_cons (di_var (pv 0)) da_nil)))) (dw_or1 (DW.pt (dw_and (t_notN (di_var (pv 1)) (DI.pk di_non)) (dw_and1 (t_lt (di_var (pv 0)) (dp_var (pv 1))))))))) (dss_one (Exists.elim (xd_InvalidInteger (P := P) (w := w) v) fun _ h => ds_raise (n := 100) (ns := ["value"]) rfl rfl rfl (ex_InvalidInteger v).1 (ex_InvalidInteger v).2.2.1 (ex_InvalidInteger v).2.2.2 h.1 hr (by decide) (by decide) h.2 (by rfl) tk (by rfl) (u_InvalidInteger v) (da_cons (di_var (pv 0)) da_nil))) dss_nil))
def m_require_integer : Fm := mir 2 2 g_require_integer
theorem o_require_integer (v : Ev K mg base) : DefOk (MM K) P w K mg base 3 "require_integer" "require_integer" (top 14) [V.non] (He.ga K "require_integer") ["value", "least"] m_require_integer := by
  obtain ⟨fd, F⟩ := v.c.def_ 13 (d := d_require_integer) rfl
  exact ⟨fd, F, funD_mir (M := MM K) F S_require_integer (by decide) (fun cdv A outer s H E hr tk hp => b_require_integer v cdv A outer s H E hr tk hp)⟩
theorem f_require_integer (v : Ev K mg base) : TS.FnR P w K mg base (L2.CX P w) 3 (He.ga K "require_integer") (spD (MM K) m_require_integer) := by
  obtain ⟨fd, F, O⟩ := o_require_integer (P := P) (w := w) v
  obtain ⟨ds, hv, hb⟩ := FunD.binds1 (ps := ["value", "least"]) F 2 1 (by intro z; cases z) rfl (fun T kV doc pm an cdv ct us its h1 h2 => match us, its, h1, h2 with | [_, _], [_], _, _ => ⟨_, rfl, rfl⟩)
  cases hv
  exact fnR_raw (M := MM K) O hb
def m_require_integer_d1 : Fm := fmDfl m_require_integer [.non]
theorem f_require_integer_d1 (v : Ev K mg base) : TS.FnR P w K mg base (L2.CX P w) 3 (He.ga K "require_integer") (spD (MM K) m_require_integer_d1) := by
  obtain ⟨fd, F, O⟩ := o_require_integer (P := P) (w := w) v
  obtain ⟨ds, hv, hb⟩ := FunD.binds1 (ps := ["value", "least"]) F 1 0 (by intro z; cases z) rfl (fun T kV doc pm an cdv ct us its h1 h2 => match us, its, h1, h2 with | [_], [_], _, _ => ⟨_, rfl, rfl⟩)
  exact fnR_dfl (M := MM K) (fun F => (reps_cons rep_non' reps_nil)) (O.raw hb hv)
abbrev g_divisor_of_two_1 : FS := (sPar 2 3 (fCal gAbs (aOne (vP 0))) (fCal gAbs (aOne (vP 1))))
abbrev g_divisor_of_two_2_1 : FS := (sPar 2 3 (toE (vI 3)) (fBin gMod (vI 2) (vP 3)))
abbrev g_divisor_of_two_2B : FS := g_divisor_of_two_2_1
abbrev g_divisor_of_two_2 : FS := (sWhile (muI 3) (fTst (fBin gNe (vI 3) (kD (.int 0)))) g_divisor_of_two_2B)
abbrev g_divisor_of_two_3 : FS := (sRet (vR 2))
def g_divisor_of_two : FS := (sSeq g_divisor_of_two_1 (sSeq g_divisor_of_two_2 g_divisor_of_two_3))
theorem S_divisor_of_two : FnScope ["one", "other", "greater", "less"] ["one", "other"] (defScope (top 15)) := ⟨rfl, rfl, rfl, by decide +kernel, rfl, by decide +kernel, by decide +kernel⟩
theorem kp_divisor_of_two (v : Ev K mg base) : PySem.W.keepIn K (.ref (He.ga K "divisor_of_two")) = true := (v.c.def_ 14 (d := d_divisor_of_two) rfl).elim fun _ F => F.kp
theorem b_divisor_of_two (v : Ev K mg base) : BodyOk (MM K) P w K mg base 0 "divisor_of_two" (top 15) (He.ga K "divisor_of_two") ["one", "other", "greater", "less"] g_divisor_of_two :=
  fun cdv A outer s H E hr tk hp => (dss_cons (ds_par (i := 2) (j := 3) (by rfl) S_divisor_of_two.nd (by rfl) (by rfl) (by decide) (by rfl) (by rfl) (b_abs (by rfl) (u_abs v) (db_one (dp_var (pv 0)))) (b_abs (by rfl) (u_abs v) (db_one (dp_var (pv 1)))) (by rfl))
    (dss_cons (ds_while (muI 3) hp (t_ne hr (di_var (pv 3)) (DI.pk di_int)) (dss_one (ds_par (i := 2) (j := 3) (by rfl) S_divisor_of_two.nd (by rfl) (by rfl) (by decide) (by rfl) (by rfl) (DI.toE (di_var (pv 3))) (x_mod (di_var (pv 2)) (dp_var (pv 3))) (by rfl))))
    (dss_one (ds_ret (de_var (pv 2))))))
def m_divisor_of_two : Fm := mir 4 2 g_divisor_of_two
theorem o_divisor_of_two (v : Ev K mg base) : DefOk (MM K) P w K mg base 1 "divisor_of_two" "divisor_of_two" (top 15) [] (He.ga K "divisor_of_two") ["one", "other"] m_divisor_of_two := by
  obtain ⟨fd, F⟩ := v.c.def_ 14 (d := d_divisor_of_two) rfl
  exact ⟨fd, F, funD_mir (M := MM K) F S_divisor_of_two (by decide) (fun cdv A outer s H E hr tk hp => b_divisor_of_two v cdv A outer s H E hr tk hp)⟩
theorem f_divisor_of_two (v : Ev K mg base) : TS.FnR P w K mg base (L2.CX P w) 1 (He.ga K "divisor_of_two") (spD (MM K) m_divisor_of_two) := by
  obtain ⟨fd, F, O⟩ := o_divisor_of_two (P := P) (w := w) v
  exact fnR_raw (M := MM K) O (F.bindsN (ps := ["one", "other"]) fun _ _ _ _ _ _ us hl => match us, hl with | [_, _], _ => rfl)
abbrev g_common_divisor_1_1 : FS := (sExpr (fOwn m_require_integer_d1 (aCons (vI 1) aNil)))
abbrev g_common_divisor_1B : FS := g_common_divisor_1_1
abbrev g_common_divisor_1 : FS := (sFor (itTup (vI 0)) (tName 1) g_common_divisor_1B)
abbrev g_common_divisor_2 : FS := (sAsg (toE (kD (.int 0))) (tName 2))
abbrev g_common_divisor_3_1 : FS := (sAsg (fOwn m_divisor_of_two (aCons (vI 2) (aCons (vI 1) aNil))) (tName 2))
abbrev g_common_divisor_3B : FS := g_common_divisor_3_1
abbrev g_common_divisor_3 : FS := (sFor (itTup (vI 0)) (tName 1) g_common_divisor_3B)
abbrev g_common_divisor_4 : FS := (sRet (vR 2))
def g_common_divisor : FS := (sSeq g_common_divisor_1 (sSeq g_common_divisor_2 (sSeq g_common_divisor_3 g_common_divisor_4)))
theorem S_common_divisor : FnScope ["numbers", "number", "found"] ["numbers"] (defScope (top 16)) := ⟨rfl, rfl, rfl, by decide +kernel, rfl, by decide +kernel, by decide +kernel⟩
theorem kp_common_divisor (v : Ev K mg base) : PySem.W.keepIn K (.ref (He.ga K "common_divisor")) = true := (v.c.def_ 15 (d := d_common_divisor) rfl).elim fun _ F => F.kp
theorem b_common_divisor (v : Ev K mg base) : BodyOk (MM K) P w K mg base 3 "common_divisor" (top 16) (He.ga K "common_divisor") ["numbers", "number", "found"] g_common_divisor :=
  fun cdv A outer s H E hr tk hp => (dss_cons (ds_for hp (by rfl) (dit_tup (di_var (pv 0))) (dg_name (pg_name S_common_divisor.nd (by rfl) (by first | exact Or.inl rfl | exact Or.inr rfl))) (tgt_name 1) (dss_one (ds_expr (d_own (fun h => pe_own ((f_require_integer_d1 v).mono (by decide)) hr tk (by rfl) (u_require_integer v) (kp_require_integer v) h) (da_cons (di_var (pv 1)) da_nil)))))
    (dss_cons (ds_set (i := 2) S_common_divisor.nd (by rfl) (by first | exact Or.inl rfl | exact Or.inr rfl) (DI.toE di_int))
    (dss_cons (ds_for hp (by rfl) (dit_tup (di_var (pv 0))) (dg_name (pg_name S_common_divisor.nd (by rfl) (by first | exact Or.inl rfl | exact Or.inr rfl))) (tgt_name 1) (dss_one (ds_set (i := 2) S_common_divisor.nd (by rfl) (by first | exact Or.inl rfl | exact Or.inr rfl) (d_own (fun h => pe_own ((f_divisor_of_two v).mono (by decide)) hr tk (by rfl) (u_divisor_of_two v) (kp_divisor_of_two v) h) (da_cons (di_var (pv 2)) (da_cons (di_var (pv 1)) da_nil))))))
    (dss_one (ds_ret (de_var (pv 2)))))))
def m_common_divisor : Fm := fmStar 0 (mir 3 1 g_common_divisor)
theorem f_common_divisor (v : Ev K mg base) : TS.FnR P w K mg base (L2.CX P w) 4 (He.ga K "common_divisor") (spD (MM K) m_common_divisor) := by
  obtain ⟨fd, F⟩ := v.c.def_ 15 (d := d_common_divisor) rfl
  exact funD_star (M := MM K) (ps := []) (pv := "numbers") F S_common_divisor (by decide) (fun _ _ _ _ _ _ us rest h => match us, rest, h with | [], [], _ => rfl | [], _ :: _, _ => rfl) (fun cdv A outer s H E hr tk hp => b_common_divisor v cdv A outer s H E hr tk hp)
abbrev g_is_ratio_1a_1 : FS := (sRet (toE (kD (.bl false))))
abbrev g_is_ratio_1 : FS := (sIf (fOr (fNot (fTst (toE (fIsi is_tuple (vP 0))))) (fOr (fTst (fBin gNe (frz (fCal gLen (aOne (vP 0)))) (kD (.int 2)))) (fNot (fTst (fCal gAll (aOne (frz (fLc (stName 1) [1] (itTup (vI 0)) tTrue (frz (fOwn m_is_integer (aCons (vI 1) aNil))))))))))) g_is_ratio_1a_1 sNil)
abbrev g_is_ratio_2 : FS := (sRet (fAndV (frz (fBin gGe (frz (fBin gIx (vI 0) (kD (.int 1)))) (kD (.int 1)))) (fBin gEq (frz (fOwn m_common_divisor (aCons (frz (fBin gIx (vI 0) (kD (.int 0)))) (aCons (frz (fBin gIx (vI 0) (kD (.int 1)))) aNil)))) (kD (.int 1)))))
def g_is_ratio : FS := (sSeq g_is_ratio_1 g_is_ratio_2)
theorem S_is_ratio : FnScope ["value", "part"] ["value"] (defScope (top 31)) := ⟨rfl, rfl, rfl, by decide +kernel, rfl, by decide +kernel, by decide +kernel⟩
theorem kp_is_ratio (v : Ev K mg base) : PySem.W.keepIn K (.ref (He.ga K "is_ratio")) = true := (v.c.def_ 16 (d := d_is_ratio) rfl).elim fun _ F => F.kp
theorem b_is_ratio (v : Ev K mg base) : BodyOk (MM K) P w K mg base 4 "is_ratio" (top 31) (He.ga K "is_ratio") ["value", "part"] g_is_ratio :=
  fun cdv A outer s H E hr tk hp => (dss_cons (ds_if (DW.pt (dw_or (dt_not (dt_val (DI.toE (b_isi (by rfl) (u_isinstance v) (dp_var (pv 0)) (k_ty bt_tuple (by rfl) (u_tuple v)) (ClsV.ty "tuple") is_tuple_ok)))) (dw_or (t_ne hr (DE.frz (b_len (by rfl) (u_len v) (db_one (dp_var (pv 0))))) (DI.pk di_int)) (dw_or1 (dt_not (dt_val (b_all (by rfl) (by rfl) (u_all v) (db_one (DE.pk (de_lc (own := [("part", 1)]) (by rfl) (by rfl) S_is_ratio.nd (dit_tup (di_var (pv 0))) (blkOk_by (by kernel_rfl)) (st_name 1) (fun _ _ _ _ _ => pg_name S_is_ratio.nd (by rfl) (by first | exact Or.inl rfl | exact Or.inr rfl)) (fun _ _ _ _ _ => pts_no) (fun _ _ _ _ _ => (DE.frz (d_own (fun h => pe_own ((f_is_integer v).mono (by decide)) hr TS.takes0 (by rfl) (u_is_integer v) (kp_is_integer v) h) (da_cons (di_var (pv 1)) da_nil)))))))))))))) (dss_one (ds_ret (DI.toE di_bl))) dss_nil)
    (dss_one (ds_ret (de_and (DE.frz (x_ge (DE.frz (x_ix hr (di_var (pv 0)) (DI.pk di_int))) (DI.pk di_int))) (de_one (x_eq hr (DE.frz (d_own (fun h => pe_own ((f_common_divisor v).mono (by decide)) hr tk (by rfl) (u_common_divisor v) (kp_common_divisor v) h) (da_cons (DE.frz (x_ix hr (di_var (pv 0)) (DI.pk di_int))) (da_cons (DE.frz (x_ix hr (di_var (pv 0)) (DI.pk di_int))) da_nil)))) (DI.pk di_int)))))))
def m_is_ratio : Fm := mir 2 1 g_is_ratio
theorem o_is_ratio (v : Ev K mg base) : DefOk (MM K) P w K mg base 5 "is_ratio" "is_ratio" (top 31) [] (He.ga K "is_ratio") ["value"] m_is_ratio := by
  obtain ⟨fd, F⟩ := v.c.def_ 16 (d := d_is_ratio) rfl
  exact ⟨fd, F, funD_mir (M := MM K) F S_is_ratio (by decide) (fun cdv A outer s H E hr tk hp => b_is_ratio v cdv A outer s H E hr tk hp)⟩
theorem f_is_ratio (v : Ev K mg base) : TS.FnR P w K mg base (L2.CX P w) 5 (He.ga K "is_ratio") (spD (MM K) m_is_ratio) := by
  obtain ⟨fd, F, O⟩ := o_is_ratio (P := P) (w := w) v
  exact fnR_raw (M := MM K) O (F.bindsN (ps := ["value"]) fun _ _ _ _ _ _ us hl => match us, hl with | [_], _ => rfl)
abbrev g_are_lines_1a_1 : FS := (sRet (toE (kD (.bl false))))
abbrev g_are_lines_1 : FS := (sIf (fNot (fTst (toE (fIsiD is_dict (vI 0))))) g_are_lines_1a_1 sNil)
abbrev g_are_lines_2_1a_1 : FS := (sRet (toE (kD (.bl false))))
abbrev g_are_lines_2_1 : FS := (sIf (fOr (fNot (fTst (fOwn m_is_ratio (aCons (vI 1) aNil)))) (fOr (fTst (fBin gEq (vI 1) (kD (.tup (([0, 1] : List Int).map D.int))))) (fOr (fNot (fTst (fOwn m_is_integer (aCons (vI 2) aNil)))) (fTst (fBin gLt (vI 2) (kD (.int 1))))))) g_are_lines_2_1a_1 sNil)
abbrev g_are_lines_2B : FS := g_are_lines_2_1
abbrev g_are_lines_2 : FS := (sFor (itItems (vI 0)) (tTup 2 (tsCons (tName 1) (tsCons (tName 2) tsNil))) g_are_lines_2B)
abbrev g_are_lines_3 : FS := (sRet (toE (kD (.bl true))))
def g_are_lines : FS := (sSeq g_are_lines_1 (sSeq g_are_lines_2 g_are_lines_3))
theorem S_are_lines : FnScope ["value", "speed", "many"] ["value"] (defScope (top 46)) := ⟨rfl, rfl, rfl, by decide +kernel, rfl, by decide +kernel, by decide +kernel⟩
theorem kp_are_lines (v : Ev K mg base) : PySem.W.keepIn K (.ref (He.ga K "are_lines")) = true := (v.c.def_ 17 (d := d_are_lines) rfl).elim fun _ F => F.kp
theorem b_are_lines (v : Ev K mg base) : BodyOk (MM K) P w K mg base 5 "are_lines" (top 46) (He.ga K "are_lines") ["value", "speed", "many"] g_are_lines :=
  fun cdv A outer s H E hr tk hp => (dss_cons (ds_if (dt_not (dt_val (DI.toE (di_isiD (by rfl) (u_isinstance v) (di_var (pv 0)) (k_ty bt_dict (by rfl) (u_dict v)) is_dict_ok)))) (dss_one (ds_ret (DI.toE di_bl))) dss_nil)
    (dss_cons (ds_for hp (by rfl) (dit_items (di_var (pv 0))) (dg_tup (by rfl) (dgs_cons (dg_name (pg_name S_are_lines.nd (by rfl) (by first | exact Or.inl rfl | exact Or.inr rfl))) (dgs_cons (dg_name (pg_name S_are_lines.nd (by rfl) (by first | exact Or.inl rfl | exact Or.inr rfl))) dgs_nil))) (tgt_tup (tgs_cons (tgt_name 1) (tgs_cons (tgt_name 2) tgs_nil))) (dss_one (ds_if (DW.pt (dw_or (dt_not (dt_val (d_own (fun h => pe_own ((f_is_ratio v).mono (by decide)) hr tk (by rfl) (u_is_ratio v) (kp_is_ratio v) h) (da_cons (di_var (pv 1)) da_nil)))) (dw_or (t_eqK hr (by rfl) (u_ZERO v) (gtup_ok (v.c.fact 24 (f := .gtup "ZERO" [0, 1]))) (di_var (pv 1))) (dw_or (dt_not (dt_val (d_own (fun h => pe_own ((f_is_integer v).mono (by decide)) hr tk (by rfl) (u_is_integer v) (kp_is_integer v) h) (da_cons (di_var (pv 2)) da_nil)))) (dw_or1 (t_lt (di_var (pv 2)) (DI.pk di_int))))))) (dss_one (ds_ret (DI.toE di_bl))) dss_nil)))
    (dss_one (ds_ret (DI.toE di_bl)))))
def m_are_lines : Fm := mir 3 1 g_are_lines
theorem o_are_lines (v : Ev K mg base) : DefOk (MM K) P w K mg base 6 "are_lines" "are_lines" (top 46) [] (He.ga K "are_lines") ["value"] m_are_lines := by
  obtain ⟨fd, F⟩ := v.c.def_ 17 (d := d_are_lines) rfl
  exact ⟨fd, F, funD_mir (M := MM K) F S_are_lines (by decide) (fun cdv A outer s H E hr tk hp => b_are_lines v cdv A outer s H E hr tk hp)⟩
theorem f_are_lines (v : Ev K mg base) : TS.FnR P w K mg base (L2.CX P w) 6 (He.ga K "are_lines") (spD (MM K) m_are_lines) := by
  obtain ⟨fd, F, O⟩ := o_are_lines (P := P) (w := w) v
  exact fnR_raw (M := MM K) O (F.bindsN (ps := ["value"]) fun _ _ _ _ _ _ us hl => match us, hl with | [_], _ => rfl)
theorem ex_InvalidProfile (v : Ev K mg base) : OxC K (He.ga K "InvalidProfile") ∧ XqC K (He.ga K "InvalidProfile") ∧ PySem.W.findIn K (.ref (He.ga K "InvalidProfile")) "__init__" = some (some (.ref (He.ma K (He.ga K "InvalidProfile") "__init__"))) ∧ PySem.W.typeIn K (.ref (He.ma K (He.ga K "InvalidProfile") "__init__")) = some (.type "function") := exc_ok Bas.ve (v.c.fact 36 (f := .exc "InvalidProfile" "ValueError"))
theorem S_InvalidProfile___init__ : FnScope ["self", "problem"] ["self", "problem"] (defScope (inClass (top 7) 0)) := ⟨rfl, rfl, rfl, by decide +kernel, rfl, by decide +kernel, by decide +kernel⟩
theorem xd_InvalidProfile (v : Ev K mg base) : ∃ fd, TS.FnOk P w K mg base (L2.CX P w) 1 (He.ma K (He.ga K "InvalidProfile") "__init__") fd ["self", "problem"] (spX (He.ga K "InvalidProfile") ["problem"]) ∧ Binds K fd ["self", "problem"] [] := by
  obtain ⟨fd, F⟩ := v.c.def_ 18 (d := d_InvalidProfile___init__) rfl
  exact ⟨fd, funD_ini F S_InvalidProfile___init__ (by decide) (fun cdv A outer s H E => (init_body (N := []) (sp0 := ()) (ex_InvalidProfile v).1 (He.noat_ok (K := K) (v.c.fact 37 (f := .he (.noat "InvalidProfile" "problem")))) rfl (pv 0) (pv 1) (inis_nil rfl))), F.bindsN (ps := ["self", "problem"]) fun _ _ _ _ _ _ us hl => match us, hl with | [_, _], _ => rfl⟩
abbrev g_are_rounds_1a_1 : FS := (sRet (toE (kD (.bl false))))
abbrev g_are_rounds_1 : FS := (sIf (fNot (fTst (toE (fIsiD is_dict (vI 0))))) g_are_rounds_1a_1 sNil)
abbrev g_are_rounds_2_1a_1 : FS := (sRet (toE (kD (.bl false))))
abbrev g_are_rounds_2_1 : FS := (sIf (fOr (fNot (fTst (fOwn m_is_integer (aCons (vI 1) aNil)))) (fOr (fTst (fBin gLt (vI 1) (kD (.int 1)))) (fOr (fNot (fTst (fOwn m_is_ratio (aCons (vI 2) aNil)))) (fTst (fBin gLt (frz (fBin gIx (vI 2) (kD (.int 0)))) (kD (.int 1))))))) g_are_rounds_2_1a_1 sNil)
abbrev g_are_rounds_2B : FS := g_are_rounds_2_1
abbrev g_are_rounds_2 : FS := (sFor (itItems (vI 0)) (tTup 2 (tsCons (tName 1) (tsCons (tName 2) tsNil))) g_are_rounds_2B)
abbrev g_are_rounds_3 : FS := (sRet (toE (kD (.bl true))))
def g_are_rounds : FS := (sSeq g_are_rounds_1 (sSeq g_are_rounds_2 g_are_rounds_3))
theorem S_are_rounds : FnScope ["value", "length", "density"] ["value"] (defScope (top 47)) := ⟨rfl, rfl, rfl, by decide +kernel, rfl, by decide +kernel, by decide +kernel⟩
theorem kp_are_rounds (v : Ev K mg base) : PySem.W.keepIn K (.ref (He.ga K "are_rounds")) = true := (v.c.def_ 19 (d := d_are_rounds) rfl).elim fun _ F => F.kp
theorem b_are_rounds (v : Ev K mg base) : BodyOk (MM K) P w K mg base 5 "are_rounds" (top 47) (He.ga K "are_rounds") ["value", "length", "density"] g_are_rounds :=
  fun cdv A outer s H E hr tk hp => (dss_cons (ds_if (dt_not (dt_val (DI.toE (di_isiD (by rfl) (u_isinstance v) (di_var (pv 0)) (k_ty bt_dict (by rfl) (u_dict v)) is_dict_ok)))) (dss_one (ds_ret (DI.toE di_bl))) dss_nil)
    (dss_cons (ds_for hp (by rfl) (dit_items (di_var (pv 0))) (dg_tup (by rfl) (dgs_cons (dg_name (pg_name S_are_rounds.nd (by rfl) (by first | exact Or.inl rfl | exact Or.inr rfl))) (dgs_cons (dg_name (pg_name S_are_rounds.nd (by rfl) (by first | exact Or.inl rfl | exact Or.inr rfl))) dgs_nil))) (tgt_tup (tgs_cons (tgt_name 1) (tgs_cons (tgt_name 2) tgs_nil))) (dss_one (ds_if (DW.pt (dw_or (dt_not (dt_val (d_own (fun h => pe_own ((f_is_integer v).mono (by decide)) hr tk (by rfl) (u_is_integer v) (kp_is_integer v) h) (da_cons (di_var (pv 1)) da_nil)))) (dw_or (t_lt (di_var (pv 1)) (DI.pk di_int)) (dw_or (dt_not (dt_val (d_own (fun h => pe_own ((f_is_ratio v).mono (by decide)) hr tk (by rfl) (u_is_ratio v) (kp_is_ratio v) h) (da_cons (di_var (pv 2)) da_nil)))) (dw_or1 (t_lt (DE.frz (x_ix hr (di_var (pv 2)) (DI.pk di_int))) (DI.pk di_int))))))) (dss_one (ds_ret (DI.toE di_bl))) dss_nil)))
    (dss_one (ds_ret (DI.toE di_bl)))))
def m_are_rounds : Fm := mir 3 1 g_are_rounds
theorem o_are_rounds (v : Ev K mg base) : DefOk (MM K) P w K mg base 6 "are_rounds" "are_rounds" (top 47) [] (He.ga K "are_rounds") ["value"] m_are_rounds := by
  obtain ⟨fd, F⟩ := v.c.def_ 19 (d := d_are_rounds) rfl
  exact ⟨fd, F, funD_mir (M := MM K) F S_are_rounds (by decide) (fun cdv A outer s H E hr tk hp => b_are_rounds v cdv A outer s H E hr tk hp)⟩
theorem f_are_rounds (v : Ev K mg base) : TS.FnR P w K mg base (L2.CX P w) 6 (He.ga K "are_rounds") (spD (MM K) m_are_rounds) := by
  obtain ⟨fd, F, O⟩ := o_are_rounds (P := P) (w := w) v
  exact fnR_raw (M := MM K) O (F.bindsN (ps := ["value"]) fun _ _ _ _ _ _ us hl => match us, hl with | [_], _ => rfl)
theorem ex_InvalidRatio (v : Ev K mg base) : OxC K (He.ga K "InvalidRatio") ∧ XqC K (He.ga K "InvalidRatio") ∧ PySem.W.findIn K (.ref (He.ga K "InvalidRatio")) "__init__" = some (some (.ref (He.ma K (He.ga K "InvalidRatio") "__init__"))) ∧ PySem.W.typeIn K (.ref (He.ma K (He.ga K "InvalidRatio") "__init__")) = some (.type "function") := exc_ok Bas.ve (v.c.fact 40 (f := .exc "InvalidRatio" "ValueError"))
theorem S_InvalidRatio___init__ : FnScope ["self", "value"] ["self", "value"] (defScope (inClass (top 4) 0)) := ⟨rfl, rfl, rfl, by decide +kernel, rfl, by decide +kernel, by decide +kernel⟩
theorem xd_InvalidRatio (v : Ev K mg base) : ∃ fd, TS.FnOk P w K mg base (L2.CX P w) 1 (He.ma K (He.ga K "InvalidRatio") "__init__") fd ["self", "value"] (spX (He.ga K "InvalidRatio") ["value"]) ∧ Binds K fd ["self", "value"] [] := by
  obtain ⟨fd, F⟩ := v.c.def_ 20 (d := d_InvalidRatio___init__) rfl
  exact ⟨fd, funD_ini F S_InvalidRatio___init__ (by decide) (fun cdv A outer s H E => (init_body (N := []) (sp0 := ()) (ex_InvalidRatio v).1 (He.noat_ok (K := K) (v.c.fact 41 (f := .he (.noat "InvalidRatio" "value")))) rfl (pv 0) (pv 1) (inis_nil rfl))), F.bindsN (ps := ["self", "value"]) fun _ _ _ _ _ _ us hl => match us, hl with | [_, _], _ => rfl⟩
abbrev g_in_lowest_terms_1 : FS := (sAsg (fOwn m_common_divisor (aCons (vI 0) (aCons (vI 1) aNil))) (tName 2))
abbrev g_in_lowest_terms_2a_1 : FS := (sAsg (toE (fUnI (fun i => -i) (vI 2))) (tName 2))
abbrev g_in_lowest_terms_2 : FS := (sIf (fTst (fBin gLt (vI 1) (kD (.int 0)))) g_in_lowest_terms_2a_1 sNil)
abbrev g_in_lowest_terms_3 : FS := (sRet (toE (fTup (aCons (frz (fBin gFdiv (vI 0) (vP 2))) (aCons (frz (fBin gFdiv (vI 1) (vP 2))) aNil)))))
def g_in_lowest_terms : FS := (sSeq g_in_lowest_terms_1 (sSeq g_in_lowest_terms_2 g_in_lowest_terms_3))
theorem S_in_lowest_terms : FnScope ["top", "bottom", "divisor"] ["top", "bottom"] (defScope (top 33)) := ⟨rfl, rfl, rfl, by decide +kernel, rfl, by decide +kernel, by decide +kernel⟩
theorem kp_in_lowest_terms (v : Ev K mg base) : PySem.W.keepIn K (.ref (He.ga K "in_lowest_terms")) = true := (v.c.def_ 21 (d := d_in_lowest_terms) rfl).elim fun _ F => F.kp
theorem b_in_lowest_terms (v : Ev K mg base) : BodyOk (MM K) P w K mg base 4 "in_lowest_terms" (top 33) (He.ga K "in_lowest_terms") ["top", "bottom", "divisor"] g_in_lowest_terms :=
  fun cdv A outer s H E hr tk hp => (dss_cons (ds_set (i := 2) S_in_lowest_terms.nd (by rfl) (by first | exact Or.inl rfl | exact Or.inr rfl) (d_own (fun h => pe_own ((f_common_divisor v).mono (by decide)) hr tk (by rfl) (u_common_divisor v) (kp_common_divisor v) h) (da_cons (di_var (pv 0)) (da_cons (di_var (pv 1)) da_nil))))
    (dss_cons (ds_if (t_lt (di_var (pv 1)) (DI.pk di_int)) (dss_one (ds_set (i := 2) S_in_lowest_terms.nd (by rfl) (by first | exact Or.inl rfl | exact Or.inr rfl) (DI.toE (di_neg (di_var (pv 2)))))) dss_nil)
    (dss_one (ds_ret (DI.toE (di_tup (da_cons (DE.frz (x_fdiv (di_var (pv 0)) (dp_var (pv 2)))) (da_cons (DE.frz (x_fdiv (di_var (pv 1)) (dp_var (pv 2)))) da_nil))))))))
def m_in_lowest_terms : Fm := mir 3 2 g_in_lowest_terms
theorem o_in_lowest_terms (v : Ev K mg base) : DefOk (MM K) P w K mg base 5 "in_lowest_terms" "in_lowest_terms" (top 33) [] (He.ga K "in_lowest_terms") ["top", "bottom"] m_in_lowest_terms := by
  obtain ⟨fd, F⟩ := v.c.def_ 21 (d := d_in_lowest_terms) rfl
  exact ⟨fd, F, funD_mir (M := MM K) F S_in_lowest_terms (by decide) (fun cdv A outer s H E hr tk hp => b_in_lowest_terms v cdv A outer s H E hr tk hp)⟩
theorem f_in_lowest_terms (v : Ev K mg base) : TS.FnR P w K mg base (L2.CX P w) 5 (He.ga K "in_lowest_terms") (spD (MM K) m_in_lowest_terms) := by
  obtain ⟨fd, F, O⟩ := o_in_lowest_terms (P := P) (w := w) v
  exact fnR_raw (M := MM K) O (F.bindsN (ps := ["top", "bottom"]) fun _ _ _ _ _ _ us hl => match us, hl with | [_, _], _ => rfl)
abbrev g_ratio_1 : FS := (sExpr (fOwn m_require_integer_d1 (aCons (vI 0) aNil)))
abbrev g_ratio_2 : FS := (sExpr (fOwn m_require_integer_d1 (aCons (vI 1) aNil)))
abbrev g_ratio_3a_1 : FS := (sRaise 101 1 (aCons (fTup (aCons (vI 0) (aCons (vI 1) aNil))) aNil))
abbrev g_ratio_3 : FS := (sIf (fTst (fBin gEq (vI 1) (kD (.int 0)))) g_ratio_3a_1 sNil)
abbrev g_ratio_4 : FS := (sRet (fOwn m_in_lowest_terms (aCons (vI 0) (aCons (vI 1) aNil))))
def g_ratio : FS := (sSeq g_ratio_1 (sSeq g_ratio_2 (sSeq g_ratio_3 g_ratio_4)))
theorem S_ratio : FnScope ["numerator", "denominator"] ["numerator", "denominator"] (defScope (top 34)) := ⟨rfl, rfl, rfl, by decide +kernel, rfl, by decide +kernel, by decide +kernel⟩
theorem kp_ratio (v : Ev K mg base) : PySem.W.keepIn K (.ref (He.ga K "ratio")) = true := (v.c.def_ 22 (d := d_ratio) rfl).elim fun _ F => F.kp
theorem b_ratio (v : Ev K mg base) : BodyOk (MM K) P w K mg base 5 "ratio" (top 34) (He.ga K "ratio") ["numerator", "denominator"] g_ratio :=
  fun cdv A outer s H E hr tk hp => (dss_cons (ds_expr (d_own (fun h => pe_own ((f_require_integer_d1 v).mono (by decide)) hr tk (by rfl) (u_require_integer v) (kp_require_integer v) h) (da_cons (di_var (pv 0)) da_nil)))
    (dss_cons (ds_expr (d_own (fun h => pe_own ((f_require_integer_d1 v).mono (by decide)) hr tk (by rfl) (u_require_integer v) (kp_require_integer v) h) (da_cons (di_var (pv 1)) da_nil)))
    (dss_cons (ds_if (t_eq hr (di_var (pv 1)) (DI.pk di_int)) (dss_one (Exists.elim (xd_InvalidRatio (P := P) (w := w) v) fun _ h => ds_raise (n := 101) (ns := ["value"]) rfl rfl rfl (ex_InvalidRatio v).1 (ex_InvalidRatio v).2.2.1 (ex_InvalidRatio v).2.2.2 h.1 hr (by decide) (by decide) h.2 (by rfl) tk (by rfl) (u_InvalidRatio v) (da_cons (di_tup (da_cons (di_var (pv 0)) (da_cons (di_var (pv 1)) da_nil))) da_nil))) dss_nil)
    (dss_one (ds_ret (d_own (fun h => pe_own ((f_in_lowest_terms v).mono (by decide)) hr tk (by rfl) (u_in_lowest_terms v) (kp_in_lowest_terms v) h) (da_cons (di_var (pv 0)) (da_cons (di_var (pv 1)) da_nil))))))))
def m_ratio : Fm := mir 2 2 g_ratio
theorem o_ratio (v : Ev K mg base) : DefOk (MM K) P w K mg base 6 "ratio" "ratio" (top 34) [V.int 1] (He.ga K "ratio") ["numerator", "denominator"] m_ratio := by
  obtain ⟨fd, F⟩ := v.c.def_ 22 (d := d_ratio) rfl
  exact ⟨fd, F, funD_mir (M := MM K) F S_ratio (by decide) (fun cdv A outer s H E hr tk hp => b_ratio v cdv A outer s H E hr tk hp)⟩
theorem f_ratio (v : Ev K mg base) : TS.FnR P w K mg base (L2.CX P w) 6 (He.ga K "ratio") (spD (MM K) m_ratio) := by
  obtain ⟨fd, F, O⟩ := o_ratio (P := P) (w := w) v
  obtain ⟨ds, hv, hb⟩ := FunD.binds1 (ps := ["numerator", "denominator"]) F 2 1 (by intro z; cases z) rfl (fun T kV doc pm an cdv ct us its h1 h2 => match us, its, h1, h2 with | [_, _], [_], _, _ => ⟨_, rfl, rfl⟩)
  cases hv
  exact fnR_raw (M := MM K) O hb
abbrev g_require_ratio_1a_1 : FS := (sRaise 101 1 (aCons (vI 0) aNil))
abbrev g_require_ratio_1 : FS := (sIf (fNot (fTst (fOwn m_is_ratio (aCons (vI 0) aNil)))) g_require_ratio_1a_1 sNil)
def g_require_ratio : FS := g_require_ratio_1
theorem S_require_ratio : FnScope ["value"] ["value"] (defScope (top 32)) := ⟨rfl, rfl, rfl, by decide +kernel, rfl, by decide +kernel, by decide +kernel⟩
theorem kp_require_ratio (v : Ev K mg base) : PySem.W.keepIn K (.ref (He.ga K "require_ratio")) = true := (v.c.def_ 23 (d := d_require_ratio) rfl).elim fun _ F => F.kp
theorem b_require_ratio (v : Ev K mg base) : BodyOk (MM K) P w K mg base 5 "require_ratio" (top 32) (He.ga K "require_ratio") ["value"] g_require_ratio :=
  fun cdv A outer s H E hr tk hp => (dss_one (ds_if (dt_not (dt_val (d_own (fun h => pe_own ((f_is_ratio v).mono (by decide)) hr tk (by rfl) (u_is_ratio v) (kp_is_ratio v) h) (da_cons (di_var (pv 0)) da_nil)))) (dss_one (Exists.elim (xd_InvalidRatio (P := P) (w := w) v) fun _ h => ds_raise (n := 101) (ns := ["value"]) rfl rfl rfl (ex_InvalidRatio v).1 (ex_InvalidRatio v).2.2.1 (ex_InvalidRatio v).2.2.2 h.1 hr (by decide) (by decide) h.2 (by rfl) tk (by rfl) (u_InvalidRatio v) (da_cons (di_var (pv 0)) da_nil))) dss_nil))
def m_require_ratio : Fm := mir 1 1 g_require_ratio
theorem o_require_ratio (v : Ev K mg base) : DefOk (MM K) P w K mg base 6 "require_ratio" "require_ratio" (top 32) [] (He.ga K "require_ratio") ["value"] m_require_ratio := by
  obtain ⟨fd, F⟩ := v.c.def_ 23 (d := d_require_ratio) rfl
  exact ⟨fd, F, funD_mir (M := MM K) F S_require_ratio (by decide) (fun cdv A outer s H E hr tk hp => b_require_ratio v cdv A outer s H E hr tk hp)⟩
theorem f_require_ratio (v : Ev K mg base) : TS.FnR P w K mg base (L2.CX P w) 6 (He.ga K "require_ratio") (spD (MM K) m_require_ratio) := by
  obtain ⟨fd, F, O⟩ := o_require_ratio (P := P) (w := w) v
  exact fnR_raw (M := MM K) O (F.bindsN (ps := ["value"]) fun _ _ _ _ _ _ us hl => match us, hl with | [_], _ => rfl)
abbrev g_ratio_product_1_1 : FS := (sExpr (fOwn m_require_ratio (aCons (vI 1) aNil)))
abbrev g_ratio_product_1B : FS := g_ratio_product_1_1
abbrev g_ratio_product_1 : FS := (sFor (itTup (vI 0)) (tName 1) g_ratio_product_1B)
abbrev g_ratio_product_2 : FS := (sPar2E 2 3 (fxCons (toE (kD (.int 1))) (fxCons (toE (kD (.int 1))) fxNil)))
abbrev g_ratio_product_3_1 : FS := (sAsg (fOwn m_in_lowest_terms (aCons (frz (fBin gMul (vI 2) (vP 4))) (aCons (frz (fBin gMul (vI 3) (vP 5))) aNil))) (tTup 2 (tsCons (tName 2) (tsCons (tName 3) tsNil))))
abbrev g_ratio_product_3B : FS := g_ratio_product_3_1
abbrev g_ratio_product_3 : FS := (sFor (itTup (vI 0)) (tTup 2 (tsCons (tName 4) (tsCons (tName 5) tsNil))) g_ratio_product_3B)
abbrev g_ratio_product_4 : FS := (sRet (toE (fTup (aCons (vI 2) (aCons (vI 3) aNil)))))
def g_ratio_product : FS := (sSeq g_ratio_product_1 (sSeq g_ratio_product_2 (sSeq g_ratio_product_3 g_ratio_product_4)))
theorem S_ratio_product : FnScope ["ratios", "one", "top", "bottom", "numerator", "denominator"] ["ratios"] (defScope (top 36)) := ⟨rfl, rfl, rfl, by decide +kernel, rfl, by decide +kernel, by decide +kernel⟩
theorem kp_ratio_product (v : Ev K mg base) : PySem.W.keepIn K (.ref (He.ga K "ratio_product")) = true := (v.c.def_ 24 (d := d_ratio_product) rfl).elim fun _ F => F.kp
theorem b_ratio_product (v : Ev K mg base) : BodyOk (MM K) P w K mg base 6 "ratio_product" (top 36) (He.ga K "ratio_product") ["ratios", "one", "top", "bottom", "numerator", "denominator"] g_ratio_product :=
  fun cdv A outer s H E hr tk hp => (dss_cons (ds_for hp (by rfl) (dit_tup (di_var (pv 0))) (dg_name (pg_name S_ratio_product.nd (by rfl) (by first | exact Or.inl rfl | exact Or.inr rfl))) (tgt_name 1) (dss_one (ds_expr (d_own (fun h => pe_own ((f_require_ratio v).mono (by decide)) hr tk (by rfl) (u_require_ratio v) (kp_require_ratio v) h) (da_cons (di_var (pv 1)) da_nil)))))
    (dss_cons (ds_par2T (pg_tup (by rfl) (pgs_cons (pg_name S_ratio_product.nd (by rfl) (by first | exact Or.inl rfl | exact Or.inr rfl)) (pgs_cons (pg_name S_ratio_product.nd (by rfl) (by first | exact Or.inl rfl | exact Or.inr rfl)) pgs_nil))) (dx_cons (DI.toE di_int) (dx_cons (DI.toE di_int) dx_nil)))
    (dss_cons (ds_for hp (by rfl) (dit_tup (di_var (pv 0))) (dg_tup (by rfl) (dgs_cons (dg_name (pg_name S_ratio_product.nd (by rfl) (by first | exact Or.inl rfl | exact Or.inr rfl))) (dgs_cons (dg_name (pg_name S_ratio_product.nd (by rfl) (by first | exact Or.inl rfl | exact Or.inr rfl))) dgs_nil))) (tgt_tup (tgs_cons (tgt_name 4) (tgs_cons (tgt_name 5) tgs_nil))) (dss_one (ds_asg (d_own (fun h => pe_own ((f_in_lowest_terms v).mono (by decide)) hr tk (by rfl) (u_in_lowest_terms v) (kp_in_lowest_terms v) h) (da_cons (DE.frz (x_mul (di_var (pv 2)) (dp_var (pv 4)))) (da_cons (DE.frz (x_mul (di_var (pv 3)) (dp_var (pv 5)))) da_nil))) (dg_tup (by rfl) (dgs_cons (dg_name (pg_name S_ratio_product.nd (by rfl) (by first | exact Or.inl rfl | exact Or.inr rfl))) (dgs_cons (dg_name (pg_name S_ratio_product.nd (by rfl) (by first | exact Or.inl rfl | exact Or.inr rfl))) dgs_nil))) (tgt_tup (tgs_cons (tgt_name 2) (tgs_cons (tgt_name 3) tgs_nil))))))
    (dss_one (ds_ret (DI.toE (di_tup (da_cons (di_var (pv 2)) (da_cons (di_var (pv 3)) da_nil)))))))))
def m_ratio_product : Fm := fmStar 0 (mir 6 1 g_ratio_product)
theorem f_ratio_product (v : Ev K mg base) : TS.FnR P w K mg base (L2.CX P w) 7 (He.ga K "ratio_product") (spD (MM K) m_ratio_product) := by
  obtain ⟨fd, F⟩ := v.c.def_ 24 (d := d_ratio_product) rfl
  exact funD_star (M := MM K) (ps := []) (pv := "ratios") F S_ratio_product (by decide) (fun _ _ _ _ _ _ us rest h => match us, rest, h with | [], [], _ => rfl | [], _ :: _, _ => rfl) (fun cdv A outer s H E hr tk hp => b_ratio_product v cdv A outer s H E hr tk hp)
abbrev g_ratio_sum_1_1 : FS := (sExpr (fOwn m_require_ratio (aCons (vI 1) aNil)))
abbrev g_ratio_sum_1B : FS := g_ratio_sum_1_1
abbrev g_ratio_sum_1 : FS := (sFor (itTup (vI 0)) (tName 1) g_ratio_sum_1B)
abbrev g_ratio_sum_2 : FS := (sPar2E 2 3 (fxCons (toE (kD (.int 0))) (fxCons (toE (kD (.int 1))) fxNil)))
abbrev g_ratio_sum_3_1 : FS := (sAsg (fOwn m_in_lowest_terms (aCons (frz (fBin gAdd (frz (fBin gMul (vI 2) (vP 5))) (frz (fBin gMul (vI 4) (vP 3))))) (aCons (frz (fBin gMul (vI 3) (vP 5))) aNil))) (tTup 2 (tsCons (tName 2) (tsCons (tName 3) tsNil))))
abbrev g_ratio_sum_3B : FS := g_ratio_sum_3_1
abbrev g_ratio_sum_3 : FS := (sFor (itTup (vI 0)) (tTup 2 (tsCons (tName 4) (tsCons (tName 5) tsNil))) g_ratio_sum_3B)
abbrev g_ratio_sum_4 : FS := (sRet (toE (fTup (aCons (vI 2) (aCons (vI 3) aNil)))))
def g_ratio_sum : FS := (sSeq g_ratio_sum_1 (sSeq g_ratio_sum_2 (sSeq g_ratio_sum_3 g_ratio_sum_4)))
theorem S_ratio_sum : FnScope ["ratios", "one", "top", "bottom", "numerator", "denominator"] ["ratios"] (defScope (top 35)) := ⟨rfl, rfl, rfl, by decide +kernel, rfl, by decide +kernel, by decide +kernel⟩
theorem kp_ratio_sum (v : Ev K mg base) : PySem.W.keepIn K (.ref (He.ga K "ratio_sum")) = true := (v.c.def_ 25 (d := d_ratio_sum) rfl).elim fun _ F => F.kp
theorem b_ratio_sum (v : Ev K mg base) : BodyOk (MM K) P w K mg base 6 "ratio_sum" (top 35) (He.ga K "ratio_sum") ["ratios", "one", "top", "bottom", "numerator", "denominator"] g_ratio_sum :=
  fun cdv A outer s H E hr tk hp => (dss_cons (ds_for hp (by rfl) (dit_tup (di_var (pv 0))) (dg_name (pg_name S_ratio_sum.nd (by rfl) (by first | exact Or.inl rfl | exact Or.inr rfl))) (tgt_name 1) (dss_one (ds_expr (d_own (fun h => pe_own ((f_require_ratio v).mono (by decide)) hr tk (by rfl) (u_require_ratio v) (kp_require_ratio v) h) (da_cons (di_var (pv 1)) da_nil)))))
    (dss_cons (ds_par2T (pg_tup (by rfl) (pgs_cons (pg_name S_ratio_sum.nd (by rfl) (by first | exact Or.inl rfl | exact Or.inr rfl)) (pgs_cons (pg_name S_ratio_sum.nd (by rfl) (by first | exact Or.inl rfl | exact Or.inr rfl)) pgs_nil))) (dx_cons (DI.toE di_int) (dx_cons (DI.toE di_int) dx_nil)))
    (dss_cons (ds_for hp (by rfl) (dit_tup (di_var (pv 0))) (dg_tup (by rfl) (dgs_cons (dg_name (pg_name S_ratio_sum.nd (by rfl) (by first | exact Or.inl rfl | exact Or.inr rfl))) (dgs_cons (dg_name (pg_name S_ratio_sum.nd (by rfl) (by first | exact Or.inl rfl | exact Or.inr rfl))) dgs_nil))) (tgt_tup (tgs_cons (tgt_name 4) (tgs_cons (tgt_name 5) tgs_nil))) (dss_one (ds_asg (d_own (fun h => pe_own ((f_in_lowest_terms v).mono (by decide)) hr tk (by rfl) (u_in_lowest_terms v) (kp_in_lowest_terms v) h) (da_cons (DE.frz (x_add (DE.frz (x_mul (di_var (pv 2)) (dp_var (pv 5)))) (DE.pk (x_mul (di_var (pv 4)) (dp_var (pv 3)))))) (da_cons (DE.frz (x_mul (di_var (pv 3)) (dp_var (pv 5)))) da_nil))) (dg_tup (by rfl) (dgs_cons (dg_name (pg_name S_ratio_sum.nd (by rfl) (by first | exact Or.inl rfl | exact Or.inr rfl))) (dgs_cons (dg_name (pg_name S_ratio_sum.nd (by rfl) (by first | exact Or.inl rfl | exact Or.inr rfl))) dgs_nil))) (tgt_tup (tgs_cons (tgt_name 2) (tgs_cons (tgt_name 3) tgs_nil))))))
    (dss_one (ds_ret (DI.toE (di_tup (da_cons (di_var (pv 2)) (da_cons (di_var (pv 3)) da_nil)))))))))
def m_ratio_sum : Fm := fmStar 0 (mir 6 1 g_ratio_sum)
theorem f_ratio_sum (v : Ev K mg base) : TS.FnR P w K mg base (L2.CX P w) 7 (He.ga K "ratio_sum") (spD (MM K) m_ratio_sum) := by
  obtain ⟨fd, F⟩ := v.c.def_ 25 (d := d_ratio_sum) rfl
  exact funD_star (M := MM K) (ps := []) (pv := "ratios") F S_ratio_sum (by decide) (fun _ _ _ _ _ _ us rest h => match us, rest, h with | [], [], _ => rfl | [], _ :: _, _ => rfl) (fun cdv A outer s H E hr tk hp => b_ratio_sum v cdv A outer s H E hr tk hp)
abbrev g_profile_sum_1a_1 : FS := (sRaise 105 1 (aCons (kD (.str "lines")) aNil))
abbrev g_profile_sum_1 : FS := (sIf (fNot (fTst (fOwn m_are_lines (aCons (vI 0) aNil)))) g_profile_sum_1a_1 sNil)
abbrev g_profile_sum_2a_1 : FS := (sRaise 105 1 (aCons (kD (.str "rounds")) aNil))
abbrev g_profile_sum_2 : FS := (sIf (fNot (fTst (fOwn m_are_rounds (aCons (vI 1) aNil)))) g_profile_sum_2a_1 sNil)
abbrev g_profile_sum_3 : FS := (sAsg (fLc (stPair 3 4) [3, 4] (itItems (vI 0)) tTrue (frz (fOwn m_ratio (aCons (frz (fBin gMul (vI 4) (frz (fBin gIx (vI 3) (kD (.int 1)))))) (aCons (frz (fCal gAbs (aOne (frz (fBin gIx (vI 3) (kD (.int 0))))))) aNil))))) (tName 2))
abbrev g_profile_sum_4 : FS := (sExpr (toE (fMut 2 mExtend (aCons (frz (fLc (stPair 5 6) [5, 6] (itItems (vI 1)) tTrue (frz (fOwn m_ratio_product (aCons (fTup (aCons (vI 5) (aCons (kD (.int 1)) aNil))) (aCons (vI 6) aNil)))))) aNil))))
abbrev g_profile_sum_5 : FS := (sRet (fun δ => ((vP 2) δ).bind fun d δ1 => match d with | .lst ds => outE (m_ratio_sum none ds) δ1 | .tup ds => outE (m_ratio_sum none ds) δ1 | _ => .bad))
def g_profile_sum : FS := (sSeq g_profile_sum_1 (sSeq g_profile_sum_2 (sSeq g_profile_sum_3 (sSeq g_profile_sum_4 g_profile_sum_5))))
theorem S_profile_sum : FnScope ["lines", "rounds", "shares", "speed", "many", "length", "density"] ["lines", "rounds"] (defScope (top 48)) := ⟨rfl, rfl, rfl, by decide +kernel, rfl, by decide +kernel, by decide +kernel⟩
theorem kp_profile_sum (v : Ev K mg base) : PySem.W.keepIn K (.ref (He.ga K "profile_sum")) = true := (v.c.def_ 26 (d := d_profile_sum) rfl).elim fun _ F => F.kp
theorem b_profile_sum (v : Ev K mg base) : BodyOk (MM K) P w K mg base 7 "profile_sum" (top 48) (He.ga K "profile_sum") ["lines", "rounds", "shares", "speed", "many", "length", "density"] g_profile_sum :=
  fun cdv A outer s H E hr tk hp => (dss_cons (ds_if (dt_not (dt_val (d_own (fun h => pe_own ((f_are_lines v).mono (by decide)) hr tk (by rfl) (u_are_lines v) (kp_are_lines v) h) (da_cons (di_var (pv 0)) da_nil)))) (dss_one (Exists.elim (xd_InvalidProfile (P := P) (w := w) v) fun _ h => ds_raise (n := 105) (ns := ["problem"]) rfl rfl rfl (ex_InvalidProfile v).1 (ex_InvalidProfile v).2.2.1 (ex_InvalidProfile v).2.2.2 h.1 hr (by decide) (by decide) h.2 (by rfl) tk (by rfl) (u_InvalidProfile v) (da_cons di_str da_nil))) dss_nil)
    (dss_cons (ds_if (dt_not (dt_val (d_own (fun h => pe_own ((f_are_rounds v).mono (by decide)) hr tk (by rfl) (u_are_rounds v) (kp_are_rounds v) h) (da_cons (di_var (pv 1)) da_nil)))) (dss_one (Exists.elim (xd_InvalidProfile (P := P) (w := w) v) fun _ h => ds_raise (n := 105) (ns := ["problem"]) rfl rfl rfl (ex_InvalidProfile v).1 (ex_InvalidProfile v).2.2.1 (ex_InvalidProfile v).2.2.2 h.1 hr (by decide) (by decide) h.2 (by rfl) tk (by rfl) (u_InvalidProfile v) (da_cons di_str da_nil))) dss_nil)
    (dss_cons (ds_setLc (i := 2) (own := [("speed", 3), ("many", 4)]) (by rfl) (by rfl) S_profile_sum.nd (by rfl) (by rfl) (by rfl) (dit_items (di_var (pv 0))) (blkOk_by (by kernel_rfl)) (st_pair (i := 3) (j := 4) (by decide)) (fun _ _ _ _ _ => pg_tup (by rfl) (pgs_cons (pg_name S_profile_sum.nd (by rfl) (by first | exact Or.inl rfl | exact Or.inr rfl)) (pgs_cons (pg_name S_profile_sum.nd (by rfl) (by first | exact Or.inl rfl | exact Or.inr rfl)) pgs_nil))) (fun _ _ _ _ _ => pts_no) (fun _ _ _ _ _ => (DE.frz (d_own (fun h => pe_own ((f_ratio v).mono (by decide)) hr TS.takes0 (by rfl) (u_ratio v) (kp_ratio v) h) (da_cons (DE.frz (x_mul (di_var (pv 4)) (DE.pk (x_ix hr (di_var (pv 3)) (DI.pk di_int))))) (da_cons (DE.frz (b_abs (by rfl) (u_abs v) (db_one (DE.pk (x_ix hr (di_var (pv 3)) (DI.pk di_int)))))) da_nil))))))
    (dss_cons (ds_expr (DI.toE (m_extend (pv 2) (da_cons (DE.frz (de_lc (own := [("length", 5), ("density", 6)]) (by rfl) (by rfl) S_profile_sum.nd (dit_items (di_var (pv 1))) (blkOk_by (by kernel_rfl)) (st_pair (i := 5) (j := 6) (by decide)) (fun _ _ _ _ _ => pg_tup (by rfl) (pgs_cons (pg_name S_profile_sum.nd (by rfl) (by first | exact Or.inl rfl | exact Or.inr rfl)) (pgs_cons (pg_name S_profile_sum.nd (by rfl) (by first | exact Or.inl rfl | exact Or.inr rfl)) pgs_nil))) (fun _ _ _ _ _ => pts_no) (fun _ _ _ _ _ => (DE.frz (d_own (fun h => pe_own ((f_ratio_product v).mono (by decide)) hr TS.takes0 (by rfl) (u_ratio_product v) (kp_ratio_product v) h) (da_cons (di_tup (da_cons (di_var (pv 5)) (da_cons di_int da_nil))) (da_cons (di_var (pv 6)) da_nil))))))) da_nil))))
    (dss_one (ds_ret (d_ownS (fun h => pe_ownS ((f_ratio_sum v).mono (by decide)) hr tk (by rfl) (u_ratio_sum v) (kp_ratio_sum v) h) (dp_var (pv 2)))))))))
def m_profile_sum : Fm := mir 7 2 g_profile_sum
theorem o_profile_sum (v : Ev K mg base) : DefOk (MM K) P w K mg base 8 "profile_sum" "profile_sum" (top 48) [] (He.ga K "profile_sum") ["lines", "rounds"] m_profile_sum := by
  obtain ⟨fd, F⟩ := v.c.def_ 26 (d := d_profile_sum) rfl
  exact ⟨fd, F, funD_mir (M := MM K) F S_profile_sum (by decide) (fun cdv A outer s H E hr tk hp => b_profile_sum v cdv A outer s H E hr tk hp)⟩
theorem f_profile_sum (v : Ev K mg base) : TS.FnR P w K mg base (L2.CX P w) 8 (He.ga K "profile_sum") (spD (MM K) m_profile_sum) := by
  obtain ⟨fd, F, O⟩ := o_profile_sum (P := P) (w := w) v
  exact fnR_raw (M := MM K) O (F.bindsN (ps := ["lines", "rounds"]) fun _ _ _ _ _ _ us hl => match us, hl with | [_, _], _ => rfl)
def m_fk_profile_sum_0_rounds_lines : Fm := fmIx 0 [1, 0] m_profile_sum
theorem fk_profile_sum_0_rounds_lines (v : Ev K mg base) : FnK P w K mg base (L2.CX P w) 8 (He.ga K "profile_sum") 0 ["rounds", "lines"] (spD (MM K) m_fk_profile_sum_0_rounds_lines) := by
  obtain ⟨fd, F, O⟩ := o_profile_sum (P := P) (w := w) v
  exact fnK_ix (M := MM K) (ix := [1, 0]) O (kb_ix0 F fun _ _ _ _ _ _ us ws h1 h2 => match us, ws, h1, h2 with | [], [_, _], _, _ => rfl)
abbrev g__law_mixed_1 : FS := (sPar 2 3 (fCal gList (aOne (vP 1))) (fLst aNil))
abbrev g__law_mixed_2_1 : FS := (sExpr (toE (fMut 3 mAppend (aCons (fMut 2 mPop (aCons (frz (fOwnIo m__law_draw 0 (aCons (frz (fCal gLen (aOne (vP 2)))) aNil))) aNil)) aNil))))
abbrev g__law_mixed_2B : FS := g__law_mixed_2_1
abbrev g__law_mixed_2 : FS := (sWhile (muL 2) (fTst (fBinV gNe 2 (frz (fLst aNil)))) g__law_mixed_2B)
abbrev g__law_mixed_3 : FS := (sRet (vR 3))
def g__law_mixed : FS := (sSeq g__law_mixed_1 (sSeq g__law_mixed_2 g__law_mixed_3))
theorem S__law_mixed : FnScope ["_law_pot_here", "_law_some", "_law_rest", "_law_found"] ["_law_pot_here", "_law_some"] (defScope (top 56)) := ⟨rfl, rfl, rfl, by decide +kernel, rfl, by decide +kernel, by decide +kernel⟩
theorem kp__law_mixed (v : Ev K mg base) : PySem.W.keepIn K (.ref (He.ga K "_law_mixed")) = true := (v.c.def_ 27 (d := d__law_mixed) rfl).elim fun _ F => F.kp
theorem b__law_mixed (v : Ev K mg base) : BodyOk (MM K) P w K mg base 1 "_law_mixed" (top 56) (He.ga K "_law_mixed") ["_law_pot_here", "_law_some", "_law_rest", "_law_found"] g__law_mixed :=
  fun cdv A outer s H E hr tk hp => (dss_cons (ds_par (i := 2) (j := 3) (by rfl) S__law_mixed.nd (by rfl) (by rfl) (by decide) (by rfl) (by rfl) (b_list (by rfl) (u_list v) (db_one (dp_var (pv 1)))) (de_lst da_nil) (by rfl))
    (dss_cons (ds_while (muL 2) hp (t_neV hr (pv 2) (DE.pk (de_lst da_nil))) (dss_one (ds_expr (DI.toE (m_append (pv 3) (da_cons (m_pop (pv 2) (da_cons (DE.frz (d_ownIo (fun h => pe_own ((f__law_draw v).mono (by decide)) hr tk (by rfl) (u__law_draw v) (kp__law_draw v) h) (pv 0) (da_cons (DE.frz (b_len (by rfl) (u_len v) (db_one (dp_var (pv 2))))) da_nil))) da_nil)) da_nil))))))
    (dss_one (ds_ret (de_var (pv 3))))))
def m__law_mixed : Fm := mir 4 2 g__law_mixed
theorem o__law_mixed (v : Ev K mg base) : DefOk (MM K) P w K mg base 2 "_law_mixed" "_law_mixed" (top 56) [] (He.ga K "_law_mixed") ["_law_pot_here", "_law_some"] m__law_mixed := by
  obtain ⟨fd, F⟩ := v.c.def_ 27 (d := d__law_mixed) rfl
  exact ⟨fd, F, funD_mir (M := MM K) F S__law_mixed (by decide) (fun cdv A outer s H E hr tk hp => b__law_mixed v cdv A outer s H E hr tk hp)⟩
theorem f__law_mixed (v : Ev K mg base) : TS.FnR P w K mg base (L2.CX P w) 2 (He.ga K "_law_mixed") (spD (MM K) m__law_mixed) := by
  obtain ⟨fd, F, O⟩ := o__law_mixed (P := P) (w := w) v
  exact fnR_raw (M := MM K) O (F.bindsN (ps := ["_law_pot_here", "_law_some"]) fun _ _ _ _ _ _ us hl => match us, hl with | [_, _], _ => rfl)
abbrev g__law_turned_1 : FS := (sRet (fCal gDictA (aOne (frz (fLc (stName 2) [2] (itSeq (frz (fOwnIo m__law_mixed 0 (aCons (frz (fCal gListK (aOne (vP 1)))) aNil)))) tTrue (fTup (aCons (vI 2) (aCons (frz (fBin gIx (vI 1) (vP 2))) aNil))))))))
def g__law_turned : FS := g__law_turned_1
theorem S__law_turned : FnScope ["_law_pot_here", "_law_given", "_law_key"] ["_law_pot_here", "_law_given"] (defScope (top 62)) := ⟨rfl, rfl, rfl, by decide +kernel, rfl, by decide +kernel, by decide +kernel⟩
theorem kp__law_turned (v : Ev K mg base) : PySem.W.keepIn K (.ref (He.ga K "_law_turned")) = true := (v.c.def_ 28 (d := d__law_turned) rfl).elim fun _ F => F.kp
theorem b__law_turned (v : Ev K mg base) : BodyOk (MM K) P w K mg base 2 "_law_turned" (top 62) (He.ga K "_law_turned") ["_law_pot_here", "_law_given", "_law_key"] g__law_turned :=
  fun cdv A outer s H E hr tk hp => (dss_one (ds_ret (b_dictA hr (by rfl) (by rfl) (u_dict v) (db_one (DE.pk (de_lc (own := [("_law_key", 2)]) (by rfl) (by rfl) S__law_turned.nd (dit_list (DE.frz (d_ownIo (fun h => pe_own ((f__law_mixed v).mono (by decide)) hr tk (by rfl) (u__law_mixed v) (kp__law_mixed v) h) (pv 0) (da_cons (DE.frz (b_listK (by rfl) (by rfl) (u_list v) (db_one (dp_var (pv 1))))) da_nil)))) (blkOk_by (by kernel_rfl)) (st_name 2) (fun _ _ _ _ _ => pg_name S__law_turned.nd (by rfl) (by first | exact Or.inl rfl | exact Or.inr rfl)) (fun _ _ _ _ _ => pts_no) (fun _ _ _ _ _ => (di_tup (da_cons (di_var (pv 2)) (da_cons (DE.frz (x_ix hr (di_var (pv 1)) (dp_var (pv 2)))) da_nil))))))))))
def m__law_turned : Fm := mir 3 2 g__law_turned
theorem o__law_turned (v : Ev K mg base) : DefOk (MM K) P w K mg base 3 "_law_turned" "_law_turned" (top 62) [] (He.ga K "_law_turned") ["_law_pot_here", "_law_given"] m__law_turned := by
  obtain ⟨fd, F⟩ := v.c.def_ 28 (d := d__law_turned) rfl
  exact ⟨fd, F, funD_mir (M := MM K) F S__law_turned (by decide) (fun cdv A outer s H E hr tk hp => b__law_turned v cdv A outer s H E hr tk hp)⟩
theorem f__law_turned (v : Ev K mg base) : TS.FnR P w K mg base (L2.CX P w) 3 (He.ga K "_law_turned") (spD (MM K) m__law_turned) := by
  obtain ⟨fd, F, O⟩ := o__law_turned (P := P) (w := w) v
  exact fnR_raw (M := MM K) O (F.bindsN (ps := ["_law_pot_here", "_law_given"]) fun _ _ _ _ _ _ us hl => match us, hl with | [_, _], _ => rfl)
def ix_own_lines : Nat → Option Nat := fun n => match n with
  | 5 => some 0
  | _ => none
theorem F_own_lines (v : Ev K mg base) : FldT (MM K) "own_lines" ix_own_lines := by
  intro n j h
  unfold ix_own_lines at h
  split at h
  · cases h
    exact ⟨fun C e => by cases e; exact ⟨He.cls_ok (v.c.fact 54 (f := .he (.cls "Profile"))), He.noat_ok (v.c.fact 55 (f := .he (.noat "Profile" "own_lines")))⟩, rfl, show ("own_lines" : Str) ∉ (["own_lines", "own_rounds"] : List Str).take 0 from by decide +kernel⟩
  · cases h
abbrev g_common_multiple_1_1 : FS := (sExpr (fOwn m_require_integer (aCons (vI 1) (aCons (kD (.int 1)) aNil))))
abbrev g_common_multiple_1B : FS := g_common_multiple_1_1
abbrev g_common_multiple_1 : FS := (sFor (itTup (vI 0)) (tName 1) g_common_multiple_1B)
abbrev g_common_multiple_2 : FS := (sAsg (toE (kD (.int 1))) (tName 2))
abbrev g_common_multiple_3_1 : FS := (sAsg (fBin gFdiv (frz (fBin gMul (vI 2) (vP 1))) (frz (fOwn m_divisor_of_two (aCons (vI 2) (aCons (vI 1) aNil))))) (tName 2))
abbrev g_common_multiple_3B : FS := g_common_multiple_3_1
abbrev g_common_multiple_3 : FS := (sFor (itTup (vI 0)) (tName 1) g_common_multiple_3B)
abbrev g_common_multiple_4 : FS := (sRet (vR 2))
def g_common_multiple : FS := (sSeq g_common_multiple_1 (sSeq g_common_multiple_2 (sSeq g_common_multiple_3 g_common_multiple_4)))
theorem S_common_multiple : FnScope ["numbers", "number", "found"] ["numbers"] (defScope (top 17)) := ⟨rfl, rfl, rfl, by decide +kernel, rfl, by decide +kernel, by decide +kernel⟩
theorem kp_common_multiple (v : Ev K mg base) : PySem.W.keepIn K (.ref (He.ga K "common_multiple")) = true := (v.c.def_ 29 (d := d_common_multiple) rfl).elim fun _ F => F.kp
theorem b_common_multiple (v : Ev K mg base) : BodyOk (MM K) P w K mg base 3 "common_multiple" (top 17) (He.ga K "common_multiple") ["numbers", "number", "found"] g_common_multiple :=
  fun cdv A outer s H E hr tk hp => (dss_cons (ds_for hp (by rfl) (dit_tup (di_var (pv 0))) (dg_name (pg_name S_common_multiple.nd (by rfl) (by first | exact Or.inl rfl | exact Or.inr rfl))) (tgt_name 1) (dss_one (ds_expr (d_own (fun h => pe_own ((f_require_integer v).mono (by decide)) hr tk (by rfl) (u_require_integer v) (kp_require_integer v) h) (da_cons (di_var (pv 1)) (da_cons di_int da_nil))))))
    (dss_cons (ds_set (i := 2) S_common_multiple.nd (by rfl) (by first | exact Or.inl rfl | exact Or.inr rfl) (DI.toE di_int))
    (dss_cons (ds_for hp (by rfl) (dit_tup (di_var (pv 0))) (dg_name (pg_name S_common_multiple.nd (by rfl) (by first | exact Or.inl rfl | exact Or.inr rfl))) (tgt_name 1) (dss_one (ds_set (i := 2) S_common_multiple.nd (by rfl) (by first | exact Or.inl rfl | exact Or.inr rfl) (x_fdiv (DE.frz (x_mul (di_var (pv 2)) (dp_var (pv 1)))) (DE.pk (d_own (fun h => pe_own ((f_divisor_of_two v).mono (by decide)) hr tk (by rfl) (u_divisor_of_two v) (kp_divisor_of_two v) h) (da_cons (di_var (pv 2)) (da_cons (di_var (pv 1)) da_nil))))))))
    (dss_one (ds_ret (de_var (pv 2)))))))
def m_common_multiple : Fm := fmStar 0 (mir 3 1 g_common_multiple)
theorem f_common_multiple (v : Ev K mg base) : TS.FnR P w K mg base (L2.CX P w) 4 (He.ga K "common_multiple") (spD (MM K) m_common_multiple) := by
  obtain ⟨fd, F⟩ := v.c.def_ 29 (d := d_common_multiple) rfl
  exact funD_star (M := MM K) (ps := []) (pv := "numbers") F S_common_multiple (by decide) (fun _ _ _ _ _ _ us rest h => match us, rest, h with | [], [], _ => rfl | [], _ :: _, _ => rfl) (fun cdv A outer s H E hr tk hp => b_common_multiple v cdv A outer s H E hr tk hp)
abbrev g_sorted_ratios_1_1 : FS := (sExpr (fOwn m_require_ratio (aCons (vI 1) aNil)))
abbrev g_sorted_ratios_1B : FS := g_sorted_ratios_1_1
abbrev g_sorted_ratios_1 : FS := (sFor (itSeq (vI 0)) (tName 1) g_sorted_ratios_1B)
abbrev g_sorted_ratios_2 : FS := (sAsg (fLc (stName 1) [1] (itSeq (vI 0)) tTrue (frz (fBin gIx (vI 1) (kD (.int 1))))) (tName 2))
abbrev g_sorted_ratios_3 : FS := (sAsg (fun δ => ((vP 2) δ).bind fun d δ1 => match d with | .lst ds => outE (m_common_multiple none ds) δ1 | .tup ds => outE (m_common_multiple none ds) δ1 | _ => .bad) (tName 3))
abbrev g_sorted_ratios_4 : FS := (sRet (fSortR 3 (vI 0)))
def g_sorted_ratios : FS := (sSeq g_sorted_ratios_1 (sSeq g_sorted_ratios_2 (sSeq g_sorted_ratios_3 g_sorted_ratios_4)))
theorem S_sorted_ratios : FnScope ["ratios", "one", "denominators", "whole"] ["ratios"] (defScope (top 37)) := ⟨rfl, rfl, rfl, by decide +kernel, rfl, by decide +kernel, by decide +kernel⟩
theorem kp_sorted_ratios (v : Ev K mg base) : PySem.W.keepIn K (.ref (He.ga K "sorted_ratios")) = true := (v.c.def_ 30 (d := d_sorted_ratios) rfl).elim fun _ F => F.kp
theorem mk_sorted_ratios (v : Ev K mg base) : LamX.TabB base mg (cdA (gA "sorted_ratios") K) (tbA (gA "sorted_ratios") K) ∧ (tbA (gA "sorted_ratios") K, ("sorted_ratios.<locals>.<lambda>" : Str)) ∈ (MM K).T ∧ ∀ p ∈ (MM K).T, p.1 = tbA (gA "sorted_ratios") K → p.2 = ("sorted_ratios.<locals>.<lambda>" : Str) :=
  mk_of v.t v.u (i := 0) rfl
theorem b_sorted_ratios (v : Ev K mg base) (cdv : Value) (hcd : cdv = .ref (cdA (gA "sorted_ratios") K)) (A : Around) (outer : List Env) (s : Shared) (H : Hp) (E : XK) (hr : TS.Room 6 (A.deeper (PyProof.Rows.envOfC "sorted_ratios" (defScope (top 37)) s.heap.objs.size (He.ga K "sorted_ratios") cdv))) (tk : Takes (cxOf (L2.CX P w) P w K mg base ["ratios", "one", "denominators", "whole"] "sorted_ratios" (defScope (top 37)) (He.ga K "sorted_ratios") cdv A outer s H E) (fun cls d _ H => E cls d H))
    (hp : PassesOwn (model P w) (A.deeper (PyProof.Rows.envOfC "sorted_ratios" (defScope (top 37)) s.heap.objs.size (He.ga K "sorted_ratios") cdv)) (PyProof.Rows.envOfC "sorted_ratios" (defScope (top 37)) s.heap.objs.size (He.ga K "sorted_ratios") cdv) (cxOf (L2.CX P w) P w K mg base ["ratios", "one", "denominators", "whole"] "sorted_ratios" (defScope (top 37)) (He.ga K "sorted_ratios") cdv A outer s H E).xe) : DSs (MM K) (fun cls d _ H => E cls d H) (cxOf (L2.CX P w) P w K mg base ["ratios", "one", "denominators", "whole"] "sorted_ratios" (defScope (top 37)) (He.ga K "sorted_ratios") cdv A outer s H E) (defBody (top 37)) g_sorted_ratios :=
  (dss_cons (ds_for hp (by rfl) (dit_list (di_var (pv 0))) (dg_name (pg_name S_sorted_ratios.nd (by rfl) (by first | exact Or.inl rfl | exact Or.inr rfl))) (tgt_name 1) (dss_one (ds_expr (d_own (fun h => pe_own ((f_require_ratio v).mono (by decide)) hr tk (by rfl) (u_require_ratio v) (kp_require_ratio v) h) (da_cons (di_var (pv 1)) da_nil)))))
    (dss_cons (ds_setLc (i := 2) (own := [("one", 1)]) (by rfl) (by rfl) S_sorted_ratios.nd (by rfl) (by rfl) (by rfl) (dit_list (di_var (pv 0))) (blkOk_by (by kernel_rfl)) (st_name 1) (fun _ _ _ _ _ => pg_name S_sorted_ratios.nd (by rfl) (by first | exact Or.inl rfl | exact Or.inr rfl)) (fun _ _ _ _ _ => pts_no) (fun _ _ _ _ _ => (DE.frz (x_ix hr (di_var (pv 1)) (DI.pk di_int)))))
    (dss_cons (ds_set (i := 3) S_sorted_ratios.nd (by rfl) (by first | exact Or.inl rfl | exact Or.inr rfl) (d_ownS (fun h => pe_ownS ((f_common_multiple v).mono (by decide)) hr tk (by rfl) (u_common_multiple v) (kp_common_multiple v) h) (dp_var (pv 2))))
    (dss_one (ds_ret (de_sortR (jw := 3) rfl (by rfl) (u_sorted v) hr (by decide) (by rfl) (di_var (pv 0)) (by rfl) (by rfl) (mk_sorted_ratios v).1 hcd (mk_sorted_ratios v).2.1 (mk_sorted_ratios v).2.2 (lamY_by (by rfl)) rfl))))))
def m_sorted_ratios : Fm := mir 4 1 g_sorted_ratios
theorem o_sorted_ratios (v : Ev K mg base) : DefOk (MM K) P w K mg base 7 "sorted_ratios" "sorted_ratios" (top 37) [] (He.ga K "sorted_ratios") ["ratios"] m_sorted_ratios := by
  obtain ⟨fd, F⟩ := v.c.def_ 30 (d := d_sorted_ratios) rfl
  exact ⟨fd, F, funD_mirC (M := MM K) F S_sorted_ratios (by decide) (fun cdv hc A outer s H E hr tk hp => b_sorted_ratios v cdv (code_of (f := (gA "sorted_ratios")) (v.m _ (List.mem_of_getElem? (show tn[0]? = some _ from rfl))) hc) A outer s H E hr tk hp)⟩
theorem f_sorted_ratios (v : Ev K mg base) : TS.FnR P w K mg base (L2.CX P w) 7 (He.ga K "sorted_ratios") (spD (MM K) m_sorted_ratios) := by
  obtain ⟨fd, F, O⟩ := o_sorted_ratios (P := P) (w := w) v
  exact fnR_raw (M := MM K) O (F.bindsN (ps := ["ratios"]) fun _ _ _ _ _ _ us hl => match us, hl with | [_], _ => rfl)
def ix_own_rounds : Nat → Option Nat := fun n => match n with
  | 5 => some 1
  | _ => none
theorem F_own_rounds (v : Ev K mg base) : FldT (MM K) "own_rounds" ix_own_rounds := by
  intro n j h
  unfold ix_own_rounds at h
  split at h
  · cases h
    exact ⟨fun C e => by cases e; exact ⟨He.cls_ok (v.c.fact 54 (f := .he (.cls "Profile"))), He.noat_ok (v.c.fact 59 (f := .he (.noat "Profile" "own_rounds")))⟩, rfl, show ("own_rounds" : Str) ∉ (["own_lines", "own_rounds"] : List Str).take 1 from by decide +kernel⟩
  · cases h
abbrev g_Profile___init___1a_1 : FS := (sRaise 105 1 (aCons (kD (.str "sum")) aNil))
abbrev g_Profile___init___1 : FS := (sIf (fTst (fBin gNe (frz (fOwn m_profile_sum (aCons (vI 1) (aCons (vI 2) aNil)))) (kD (.tup (([1, 1] : List Int).map D.int))))) g_Profile___init___1a_1 sNil)
abbrev g_Profile___init___2 : FS := (sFldS 0 ix_own_lines (frz (fDc (.dT [] []) (stName 3) [3] (itSeq (frz (fOwn m_sorted_ratios (aCons (frz (fCal gListK (aOne (vP 1)))) aNil)))) tTrue (vI 3) (frz (fBin gIx (vI 1) (vP 3))))))
abbrev g_Profile___init___3 : FS := (sFldS 0 ix_own_rounds (frz (fDc (.dK [] []) (stName 4) [4] (itSeq (frz (fCal gSorted (aOne (frz (fCal gListK (aOne (vP 2)))))))) tTrue (vI 4) (frz (fBin gIx (vI 2) (vP 4))))))
def g_Profile___init__ : FS := (sSeq g_Profile___init___1 (sSeq g_Profile___init___2 g_Profile___init___3))
theorem S_Profile___init__ : FnScope ["self", "lines", "rounds", "speed", "length"] ["self", "lines", "rounds"] (defScope (inClass (top 51) 0)) := ⟨rfl, rfl, rfl, by decide +kernel, rfl, by decide +kernel, by decide +kernel⟩
theorem b_Profile___init__ (v : Ev K mg base) : BodyOk (MM K) P w K mg base 8 "Profile.__init__" (inClass (top 51) 0) (He.ma K (He.ga K "Profile") "__init__") ["self", "lines", "rounds", "speed", "length"] g_Profile___init__ :=
  fun cdv A outer s H E hr tk hp => (dss_cons (ds_if (t_neK hr (by rfl) (u_ONE v) (gtup_ok (v.c.fact 52 (f := .gtup "ONE" [1, 1]))) (DE.frz (d_own (fun h => pe_own ((f_profile_sum v).mono (by decide)) hr tk (by rfl) (u_profile_sum v) (kp_profile_sum v) h) (da_cons (di_var (pv 1)) (da_cons (di_var (pv 2)) da_nil))))) (dss_one (Exists.elim (xd_InvalidProfile (P := P) (w := w) v) fun _ h => ds_raise (n := 105) (ns := ["problem"]) rfl rfl rfl (ex_InvalidProfile v).1 (ex_InvalidProfile v).2.2.1 (ex_InvalidProfile v).2.2.2 h.1 hr (by decide) (by decide) h.2 (by rfl) tk (by rfl) (u_InvalidProfile v) (da_cons di_str da_nil))) dss_nil)
    (dss_cons (ds_fld (F_own_lines v) nm_lt (pv 0) (DE.frz (de_dc (own := [("speed", 3)]) (.inr ⟨rfl, rfl⟩) hr (by rfl) (by rfl) S_Profile___init__.nd (dit_list (DE.frz (d_own (fun h => pe_own ((f_sorted_ratios v).mono (by decide)) hr tk (by rfl) (u_sorted_ratios v) (kp_sorted_ratios v) h) (da_cons (DE.frz (b_listK (by rfl) (by rfl) (u_list v) (db_one (dp_var (pv 1))))) da_nil)))) (blkOk_by (by kernel_rfl)) (st_name 3) (fun _ _ _ _ _ => pg_name S_Profile___init__.nd (by rfl) (by first | exact Or.inl rfl | exact Or.inr rfl)) (fun _ _ _ _ _ => pts_no)  (fun _ _ _ _ _ => (di_var (pv 3))) (fun _ _ _ _ _ => (DE.frz (x_ix hr (di_var (pv 1)) (dp_var (pv 3))))))))
    (dss_one (ds_fld (F_own_rounds v) nm_lt (pv 0) (DE.frz (de_dc (own := [("length", 4)]) (.inl ⟨rfl, rfl⟩) hr (by rfl) (by rfl) S_Profile___init__.nd (dit_list (DE.frz (b_sorted (by rfl) (u_sorted v) (db_one (DE.pk (b_listK (by rfl) (by rfl) (u_list v) (db_one (dp_var (pv 2))))))))) (blkOk_by (by kernel_rfl)) (st_name 4) (fun _ _ _ _ _ => pg_name S_Profile___init__.nd (by rfl) (by first | exact Or.inl rfl | exact Or.inr rfl)) (fun _ _ _ _ _ => pts_no)  (fun _ _ _ _ _ => (di_var (pv 4))) (fun _ _ _ _ _ => (DE.frz (x_ix hr (di_var (pv 2)) (dp_var (pv 4)))))))))))
def m_Profile___init__ : Fm := mir 5 3 g_Profile___init__
theorem o_Profile___init__ (v : Ev K mg base) : DefOk (MM K) P w K mg base 9 "__init__" "Profile.__init__" (inClass (top 51) 0) [] (He.ma K (He.ga K "Profile") "__init__") ["self", "lines", "rounds"] m_Profile___init__ := by
  obtain ⟨fd, F⟩ := v.c.def_ 31 (d := d_Profile___init__) rfl
  exact ⟨fd, F, funD_mir (M := MM K) F S_Profile___init__ (by decide) (fun cdv A outer s H E hr tk hp => b_Profile___init__ v cdv A outer s H E hr tk hp)⟩
theorem f_Profile___init__ (v : Ev K mg base) : TS.FnR P w K mg base (L2.CX P w) 9 (He.ma K (He.ga K "Profile") "__init__") (spD (MM K) m_Profile___init__) := by
  obtain ⟨fd, F, O⟩ := o_Profile___init__ (P := P) (w := w) v
  exact fnR_raw (M := MM K) O (F.bindsN (ps := ["self", "lines", "rounds"]) fun _ _ _ _ _ _ us hl => match us, hl with | [_, _, _], _ => rfl)
theorem ex_InvalidTable (v : Ev K mg base) : OxC K (He.ga K "InvalidTable") ∧ XqC K (He.ga K "InvalidTable") ∧ PySem.W.findIn K (.ref (He.ga K "InvalidTable")) "__init__" = some (some (.ref (He.ma K (He.ga K "InvalidTable") "__init__"))) ∧ PySem.W.typeIn K (.ref (He.ma K (He.ga K "InvalidTable") "__init__")) = some (.type "function") := exc_ok Bas.ve (v.c.fact 62 (f := .exc "InvalidTable" "ValueError"))
def xm_InvalidProfile : Nat → Option Bool := fun n => match n with
  | 100 => some false
  | 101 => some false
  | 102 => some false
  | 104 => some false
  | 105 => some true
  | 110 => some false
  | 115 => some false
  | _ => none
theorem xm_InvalidProfile_ok (v : Ev K mg base) : ∀ k b C, xm_InvalidProfile k = some b → (MM K).G k = some C → PySem.W.exmOne K (.ref C) (.ref (He.ga K "InvalidProfile")) = some b := by
  intro k b C h hG
  unfold xm_InvalidProfile at h
  split at h
  · cases h
    cases hG
    exact exm_ok (v.c.fact 73 (f := .exm "InvalidInteger" "InvalidProfile" false))
  · cases h
    cases hG
    exact exm_ok (v.c.fact 74 (f := .exm "InvalidRatio" "InvalidProfile" false))
  · cases h
    cases hG
    exact exm_ok (v.c.fact 75 (f := .exm "InvalidTable" "InvalidProfile" false))
  · cases h
    cases hG
    exact exm_ok (v.c.fact 76 (f := .exm "InvalidAddress" "InvalidProfile" false))
  · cases h
    cases hG
    exact exm_ok (v.c.fact 77 (f := .exm "InvalidProfile" "InvalidProfile" true))
  · cases h
    cases hG
    exact exm_ok (v.c.fact 78 (f := .exm "NoTrack" "InvalidProfile" false))
  · cases h
    cases hG
    exact exm_ok (v.c.fact 79 (f := .exm "TooLong" "InvalidProfile" false))
  · cases h
def xf_problem : Nat → Option Nat := fun n => match n with
  | 102 => some 2
  | 105 => some 0
  | _ => none
theorem xf_problem_ok (v : Ev K mg base) : ∀ k j C, xf_problem k = some j → (MM K).G k = some C → XqC K C ∧ PySem.W.findIn K (.ref C) "problem" = some none ∧ ((MM K).nm k)[j]? = some "problem" ∧ ("problem" : Str) ∉ ((MM K).nm k).take j := by
  intro k j C h hG
  unfold xf_problem at h
  split at h
  · cases h
    cases hG
    exact ⟨(ex_InvalidTable v).2.1, He.noat_ok (v.c.fact 63 (f := .he (.noat "InvalidTable" "problem"))), rfl, show ("problem" : Str) ∉ (["earlier", "position", "problem"] : List Str).take 2 from by decide +kernel⟩
  · cases h
    cases hG
    exact ⟨(ex_InvalidProfile v).2.1, He.noat_ok (v.c.fact 37 (f := .he (.noat "InvalidProfile" "problem"))), rfl, show ("problem" : Str) ∉ (["problem"] : List Str).take 0 from by decide +kernel⟩
  · cases h
abbrev g_Profile_rounds_1 : FS := (sRet (fDc (.dK [] []) (stPair 1 2) [1, 2] (itItems (fFld ix_own_rounds (vP 0))) tTrue (vI 1) (vI 2)))
def g_Profile_rounds : FS := g_Profile_rounds_1
theorem S_Profile_rounds : FnScope ["self", "length", "density"] ["self"] (defScope (inClass (top 51) 6)) := ⟨rfl, rfl, rfl, by decide +kernel, rfl, by decide +kernel, by decide +kernel⟩
theorem b_Profile_rounds (v : Ev K mg base) : BodyOk (MM K) P w K mg base 3 "Profile.rounds" (inClass (top 51) 6) (He.ma K (He.ga K "Profile") "rounds") ["self", "length", "density"] g_Profile_rounds :=
  fun cdv A outer s H E hr tk hp => (dss_one (ds_ret (de_dc (own := [("length", 1), ("density", 2)]) (.inl ⟨rfl, rfl⟩) hr (by rfl) (by rfl) S_Profile_rounds.nd (dit_items (di_fld (F_own_rounds v) (dp_var (pv 0)))) (blkOk_by (by kernel_rfl)) (st_pair (i := 1) (j := 2) (by decide)) (fun _ _ _ _ _ => pg_tup (by rfl) (pgs_cons (pg_name S_Profile_rounds.nd (by rfl) (by first | exact Or.inl rfl | exact Or.inr rfl)) (pgs_cons (pg_name S_Profile_rounds.nd (by rfl) (by first | exact Or.inl rfl | exact Or.inr rfl)) pgs_nil))) (fun _ _ _ _ _ => pts_no)  (fun _ _ _ _ _ => (di_var (pv 1))) (fun _ _ _ _ _ => (di_var (pv 2))))))
def m_Profile_rounds : Fm := mir 3 1 g_Profile_rounds
theorem o_Profile_rounds (v : Ev K mg base) : DefOk (MM K) P w K mg base 4 "rounds" "Profile.rounds" (inClass (top 51) 6) [] (He.ma K (He.ga K "Profile") "rounds") ["self"] m_Profile_rounds := by
  obtain ⟨fd, F⟩ := v.c.def_ 36 (d := d_Profile_rounds) rfl
  exact ⟨fd, F, funD_mir (M := MM K) F S_Profile_rounds (by decide) (fun cdv A outer s H E hr tk hp => b_Profile_rounds v cdv A outer s H E hr tk hp)⟩
theorem f_Profile_rounds (v : Ev K mg base) : TS.FnR P w K mg base (L2.CX P w) 4 (He.ma K (He.ga K "Profile") "rounds") (spD (MM K) m_Profile_rounds) := by
  obtain ⟨fd, F, O⟩ := o_Profile_rounds (P := P) (w := w) v
  exact fnR_raw (M := MM K) O (F.bindsN (ps := ["self"]) fun _ _ _ _ _ _ us hl => match us, hl with | [_], _ => rfl)
def tab_rounds : Nat → Option Fm := fun n => match n with
  | 5 => some m_Profile_rounds
  | _ => none
theorem T_rounds (v : Ev K mg base) : ∀ n f, tab_rounds n = some f → ∃ C g, (MM K).G n = some C ∧ Cls K C ∧ Meth K C "rounds" g ∧ TS.FnR P w K mg base (L2.CX P w) 4 g (spD (MM K) f) := by
  intro n f h
  unfold tab_rounds at h
  split at h
  · cases h
    exact ⟨_, _, rfl, He.cls_ok (v.c.fact 54 (f := .he (.cls "Profile"))), He.meth_ok (v.c.fact 80 (f := .he (.meth "Profile" "rounds"))), (f_Profile_rounds v).mono (by decide)⟩
  · cases h
theorem n_rounds : ∀ n f, tab_rounds n = some f → (("rounds" : Str) ∉ (MM K).nm n) := by
  intro n f h
  unfold tab_rounds at h
  split at h
  · show ("rounds" : Str) ∉ (["own_lines", "own_rounds"] : List Str)
    decide +kernel
  · cases h
abbrev g_Profile_lines_1 : FS := (sRet (fDc (.dT [] []) (stPair 1 2) [1, 2] (itItems (fFld ix_own_lines (vP 0))) tTrue (vI 1) (vI 2)))
def g_Profile_lines : FS := g_Profile_lines_1
theorem S_Profile_lines : FnScope ["self", "speed", "many"] ["self"] (defScope (inClass (top 51) 5)) := ⟨rfl, rfl, rfl, by decide +kernel, rfl, by decide +kernel, by decide +kernel⟩
theorem b_Profile_lines (v : Ev K mg base) : BodyOk (MM K) P w K mg base 3 "Profile.lines" (inClass (top 51) 5) (He.ma K (He.ga K "Profile") "lines") ["self", "speed", "many"] g_Profile_lines :=
  fun cdv A outer s H E hr tk hp => (dss_one (ds_ret (de_dc (own := [("speed", 1), ("many", 2)]) (.inr ⟨rfl, rfl⟩) hr (by rfl) (by rfl) S_Profile_lines.nd (dit_items (di_fld (F_own_lines v) (dp_var (pv 0)))) (blkOk_by (by kernel_rfl)) (st_pair (i := 1) (j := 2) (by decide)) (fun _ _ _ _ _ => pg_tup (by rfl) (pgs_cons (pg_name S_Profile_lines.nd (by rfl) (by first | exact Or.inl rfl | exact Or.inr rfl)) (pgs_cons (pg_name S_Profile_lines.nd (by rfl) (by first | exact Or.inl rfl | exact Or.inr rfl)) pgs_nil))) (fun _ _ _ _ _ => pts_no)  (fun _ _ _ _ _ => (di_var (pv 1))) (fun _ _ _ _ _ => (di_var (pv 2))))))
def m_Profile_lines : Fm := mir 3 1 g_Profile_lines
theorem o_Profile_lines (v : Ev K mg base) : DefOk (MM K) P w K mg base 4 "lines" "Profile.lines" (inClass (top 51) 5) [] (He.ma K (He.ga K "Profile") "lines") ["self"] m_Profile_lines := by
  obtain ⟨fd, F⟩ := v.c.def_ 37 (d := d_Profile_lines) rfl
  exact ⟨fd, F, funD_mir (M := MM K) F S_Profile_lines (by decide) (fun cdv A outer s H E hr tk hp => b_Profile_lines v cdv A outer s H E hr tk hp)⟩
theorem f_Profile_lines (v : Ev K mg base) : TS.FnR P w K mg base (L2.CX P w) 4 (He.ma K (He.ga K "Profile") "lines") (spD (MM K) m_Profile_lines) := by
  obtain ⟨fd, F, O⟩ := o_Profile_lines (P := P) (w := w) v
  exact fnR_raw (M := MM K) O (F.bindsN (ps := ["self"]) fun _ _ _ _ _ _ us hl => match us, hl with | [_], _ => rfl)
def tab_lines : Nat → Option Fm := fun n => match n with
  | 5 => some m_Profile_lines
  | _ => none
theorem T_lines (v : Ev K mg base) : ∀ n f, tab_lines n = some f → ∃ C g, (MM K).G n = some C ∧ Cls K C ∧ Meth K C "lines" g ∧ TS.FnR P w K mg base (L2.CX P w) 4 g (spD (MM K) f) := by
  intro n f h
  unfold tab_lines at h
  split at h
  · cases h
    exact ⟨_, _, rfl, He.cls_ok (v.c.fact 54 (f := .he (.cls "Profile"))), He.meth_ok (v.c.fact 81 (f := .he (.meth "Profile" "lines"))), (f_Profile_lines v).mono (by decide)⟩
  · cases h
theorem n_lines : ∀ n f, tab_lines n = some f → (("lines" : Str) ∉ (MM K).nm n) := by
  intro n f h
  unfold tab_lines at h
  split at h
  · show ("lines" : Str) ∉ (["own_lines", "own_rounds"] : List Str)
    decide +kernel
  · cases h
abbrev g__law_made_1t_1 : FS := (sAsg (fMake 5 m_Profile___init__ (aCons (vI 0) (aCons (vI 1) aNil))) (tName 3))
abbrev g__law_made_1B : FS := g__law_made_1t_1
abbrev g__law_made_1 : FS := (sTry 2 g__law_made_1B (hCons xm_InvalidProfile (fun y => (sRet (toE (xFldT xf_problem y)))) hNil))
abbrev g__law_made_2 : FS := (sRet (toE (fReprT (frz (fOwn m_profile_sum (aCons (frz (fMeth tab_lines (vI 3) aNil)) (aCons (frz (fMeth tab_rounds (vI 3) aNil)) aNil)))))))
def g__law_made : FS := (sSeq g__law_made_1 g__law_made_2)
theorem S__law_made : FnScope ["_law_by_pace", "_law_by_size", "e", "_law_found"] ["_law_by_pace", "_law_by_size"] (defScope (top 66)) := ⟨rfl, rfl, rfl, by decide +kernel, rfl, by decide +kernel, by decide +kernel⟩
theorem kp__law_made (v : Ev K mg base) : PySem.W.keepIn K (.ref (He.ga K "_law_made")) = true := (v.c.def_ 38 (d := d__law_made) rfl).elim fun _ F => F.kp
theorem b__law_made (v : Ev K mg base) : BodyOk (MM K) P w K mg base 10 "_law_made" (top 66) (He.ga K "_law_made") ["_law_by_pace", "_law_by_size", "e", "_law_found"] g__law_made :=
  fun cdv A outer s H E hr tk hp => (dss_cons (ds_try (by rfl) (by rfl) S__law_made.nd (by rfl) (by rfl) tk (fun W pn xe tk hp => (dss_one (ds_set (i := 3) S__law_made.nd (by rfl) (by first | exact Or.inl rfl | exact Or.inr rfl) (d_make (fun h => pe_makeS (He.mkr_ok (v.c.fact 60 (f := .he (.mkr "Profile")))) ((f_Profile___init__ v).mono (by decide)) (hr.mono (by decide : 10 ≤ 10)) tk (by rfl) (u_Profile v) h) rfl (da_cons (di_var (pv 0)) (da_cons (di_var (pv 1)) da_nil)))))) (ClA.cons (tab := xm_InvalidProfile) ⟨by rfl, by decide, Or.inl (u_InvalidProfile v)⟩ (xm_InvalidProfile_ok v) (fun a oe cls d pn y hz hf => (zs_one (z_ret (z_toE (z_fld (xf_problem_ok v) hz hf (pv 2)))))) ClA.nil))
    (dss_one (ds_ret (DI.toE (b_reprT (smd_ok (v.c.fact 18 (f := .smd))) hr (by rfl) (u_repr v) (DE.frz (d_own (fun h => pe_own ((f_profile_sum v).mono (by decide)) hr tk (by rfl) (u_profile_sum v) (kp_profile_sum v) h) (da_cons (DE.frz (d_meth0 (fun h => pe_methD0 h (methOk_of (T_lines v)) (hr.mono (by decide : 4 ≤ 10)) tk) n_lines (di_var (pv 3)))) (da_cons (DE.frz (d_meth0 (fun h => pe_methD0 h (methOk_of (T_rounds v)) (hr.mono (by decide : 4 ≤ 10)) tk) n_rounds (di_var (pv 3)))) da_nil)))))))))
def m__law_made : Fm := mir 4 2 g__law_made
theorem o__law_made (v : Ev K mg base) : DefOk (MM K) P w K mg base 11 "_law_made" "_law_made" (top 66) [] (He.ga K "_law_made") ["_law_by_pace", "_law_by_size"] m__law_made := by
  obtain ⟨fd, F⟩ := v.c.def_ 38 (d := d__law_made) rfl
  exact ⟨fd, F, funD_mir (M := MM K) F S__law_made (by decide) (fun cdv A outer s H E hr tk hp => b__law_made v cdv A outer s H E hr tk hp)⟩
theorem f__law_made (v : Ev K mg base) : TS.FnR P w K mg base (L2.CX P w) 11 (He.ga K "_law_made") (spD (MM K) m__law_made) := by
  obtain ⟨fd, F, O⟩ := o__law_made (P := P) (w := w) v
  exact fnR_raw (M := MM K) O (F.bindsN (ps := ["_law_by_pace", "_law_by_size"]) fun _ _ _ _ _ _ us hl => match us, hl with | [_, _], _ => rfl)
abbrev g__law_right_1 : FS := (sAsg (fIfE (fTst (fBin gEq (frz (fOwnIo m__law_draw 0 (aCons (kD (.int 3)) aNil))) (kD (.int 0)))) (fOwnIo m__law_parts 0 aNil) (fOwnIo m__law_dicts 0 aNil)) (tTup 2 (tsCons (tName 3) (tsCons (tName 4) tsNil))))
abbrev g__law_right_2 : FS := (sPar 5 6 (fOwn m__law_sum (aCons (vI 3) (aCons (vI 4) aNil))) (toE (fReprT (frz (fLst (aCons (vI 3) (aCons (vI 4) aNil)))))))
abbrev g__law_right_3 : FS := (sAsg (fLst (aCons (frz (fOwn m_profile_sum (aCons (vI 3) (aCons (vI 4) aNil)))) aNil)) (tName 1))
abbrev g__law_right_4 : FS := (sExpr (toE (fMut 1 mAppend (aCons (frz (fOwnK0 m_fk_profile_sum_0_rounds_lines 2 (aCons (frz (fOwnIo m__law_turned 0 (aCons (vI 4) aNil))) (aCons (frz (fOwnIo m__law_turned 0 (aCons (vI 3) aNil))) aNil)))) aNil))))
abbrev g__law_right_5 : FS := (sExpr (toE (fMut 1 mAppend (aCons (frz (fOwn m_profile_sum (aCons (frz (fun δ => .ok (.own (.dT [] [])) δ)) (aCons (vI 4) aNil)))) aNil))))
abbrev g__law_right_6 : FS := (sExpr (toE (fMut 1 mAppend (aCons (frz (fOwn m_profile_sum (aCons (vI 3) (aCons (frz (fun δ => .ok (.own (.dK [] [])) δ)) aNil)))) aNil))))
abbrev g__law_right_7 : FS := (sAsg (fLst (aCons (frz (fOwn m__law_sum (aCons (frz (fun δ => .ok (.own (.dT [] [])) δ)) (aCons (vI 4) aNil)))) (aCons (frz (fOwn m__law_sum (aCons (vI 3) (aCons (frz (fun δ => .ok (.own (.dK [] [])) δ)) aNil)))) aNil))) (tName 2))
abbrev g__law_right_8a_1 : FS := (sRet (toE (kD (.bl false))))
abbrev g__law_right_8 : FS := (sIf (fOr (fTst (fBin gNe (fReprT (vI 1)) (fReprT (frz (fBin gAdd (frz (fLst (aCons (vI 5) (aCons (vI 5) aNil)))) (vP 2)))))) (fTst (fBin gNe (frz (fOwn m__law_plus (aCons (frz (fBin gIx (vI 2) (kD (.int 0)))) (aCons (frz (fBin gIx (vI 2) (kD (.int 1)))) aNil)))) (vP 5)))) g__law_right_8a_1 sNil)
abbrev g__law_right_9 : FS := (sRet (fAndV (frz (fBin gEq (frz (fOwn m__law_made (aCons (vI 3) (aCons (vI 4) aNil)))) (frz (fIfE (fTst (fBin gEq (vI 5) (fTup (aCons (kD (.int 1)) (aCons (kD (.int 1)) aNil))))) (toE (kD (.str "(1, 1)"))) (toE (kD (.str "sum"))))))) (fBin gEq (fReprT (frz (fLst (aCons (vI 3) (aCons (vI 4) aNil))))) (vP 6))))
def g__law_right : FS := (sSeq g__law_right_1 (sSeq g__law_right_2 (sSeq g__law_right_3 (sSeq g__law_right_4 (sSeq g__law_right_5 (sSeq g__law_right_6 (sSeq g__law_right_7 (sSeq g__law_right_8 g__law_right_9))))))))
theorem S__law_right : FnScope ["_law_pot_here", "_law_told", "_law_parts_here", "_law_by_pace", "_law_by_size", "_law_due", "_law_shown"] ["_law_pot_here"] (defScope (top 67)) := ⟨rfl, rfl, rfl, by decide +kernel, rfl, by decide +kernel, by decide +kernel⟩
theorem kp__law_right (v : Ev K mg base) : PySem.W.keepIn K (.ref (He.ga K "_law_right")) = true := (v.c.def_ 39 (d := d__law_right) rfl).elim fun _ F => F.kp
theorem b__law_right (v : Ev K mg base) : BodyOk (MM K) P w K mg base 11 "_law_right" (top 67) (He.ga K "_law_right") ["_law_pot_here", "_law_told", "_law_parts_here", "_law_by_pace", "_law_by_size", "_law_due", "_law_shown"] g__law_right :=
  fun cdv A outer s H E hr tk hp => (dss_cons (ds_asg (de_if (t_eq hr (DE.frz (d_ownIo (fun h => pe_own ((f__law_draw v).mono (by decide)) hr tk (by rfl) (u__law_draw v) (kp__law_draw v) h) (pv 0) (da_cons di_int da_nil))) (DI.pk di_int)) (d_ownIo (fun h => pe_own ((f__law_parts v).mono (by decide)) hr tk (by rfl) (u__law_parts v) (kp__law_parts v) h) (pv 0) da_nil) (d_ownIo (fun h => pe_own ((f__law_dicts v).mono (by decide)) hr tk (by rfl) (u__law_dicts v) (kp__law_dicts v) h) (pv 0) da_nil)) (dg_tup (by rfl) (dgs_cons (dg_name (pg_name S__law_right.nd (by rfl) (by first | exact Or.inl rfl | exact Or.inr rfl))) (dgs_cons (dg_name (pg_name S__law_right.nd (by rfl) (by first | exact Or.inl rfl | exact Or.inr rfl))) dgs_nil))) (tgt_tup (tgs_cons (tgt_name 3) (tgs_cons (tgt_name 4) tgs_nil))))
    (dss_cons (ds_par (i := 5) (j := 6) (by rfl) S__law_right.nd (by rfl) (by rfl) (by decide) (by rfl) (by rfl) (d_own (fun h => pe_own ((f__law_sum v).mono (by decide)) hr tk (by rfl) (u__law_sum v) (kp__law_sum v) h) (da_cons (di_var (pv 3)) (da_cons (di_var (pv 4)) da_nil))) (DI.toE (b_reprT (smd_ok (v.c.fact 18 (f := .smd))) hr (by rfl) (u_repr v) (DE.frz (de_lst (da_cons (di_var (pv 3)) (da_cons (di_var (pv 4)) da_nil)))))) (by rfl))
    (dss_cons (ds_set (i := 1) S__law_right.nd (by rfl) (by first | exact Or.inl rfl | exact Or.inr rfl) (de_lst (da_cons (DE.frz (d_own (fun h => pe_own ((f_profile_sum v).mono (by decide)) hr tk (by rfl) (u_profile_sum v) (kp_profile_sum v) h) (da_cons (di_var (pv 3)) (da_cons (di_var (pv 4)) da_nil)))) da_nil)))
    (dss_cons (ds_expr (DI.toE (m_append (pv 1) (da_cons (DE.frz (d_ownK0 (fun h' => pe_ownK0 ((fk_profile_sum_0_rounds_lines v).mono (by decide)) hr tk (by rfl) (u_profile_sum v) (kp_profile_sum v) h') (dk_cons (DE.frz (d_ownIo (fun h => pe_own ((f__law_turned v).mono (by decide)) hr tk (by rfl) (u__law_turned v) (kp__law_turned v) h) (pv 0) (da_cons (di_var (pv 4)) da_nil))) (dk_cons (DE.frz (d_ownIo (fun h => pe_own ((f__law_turned v).mono (by decide)) hr tk (by rfl) (u__law_turned v) (kp__law_turned v) h) (pv 0) (da_cons (di_var (pv 3)) da_nil))) dk_nil)))) da_nil))))
    (dss_cons (ds_expr (DI.toE (m_append (pv 1) (da_cons (DE.frz (d_own (fun h => pe_own ((f_profile_sum v).mono (by decide)) hr tk (by rfl) (u_profile_sum v) (kp_profile_sum v) h) (da_cons (DE.frz de_dnewT) (da_cons (di_var (pv 4)) da_nil)))) da_nil))))
    (dss_cons (ds_expr (DI.toE (m_append (pv 1) (da_cons (DE.frz (d_own (fun h => pe_own ((f_profile_sum v).mono (by decide)) hr tk (by rfl) (u_profile_sum v) (kp_profile_sum v) h) (da_cons (di_var (pv 3)) (da_cons (DE.frz de_dnew) da_nil)))) da_nil))))
    (dss_cons (ds_set (i := 2) S__law_right.nd (by rfl) (by first | exact Or.inl rfl | exact Or.inr rfl) (de_lst (da_cons (DE.frz (d_own (fun h => pe_own ((f__law_sum v).mono (by decide)) hr tk (by rfl) (u__law_sum v) (kp__law_sum v) h) (da_cons (DE.frz de_dnewT) (da_cons (di_var (pv 4)) da_nil)))) (da_cons (DE.frz (d_own (fun h => pe_own ((f__law_sum v).mono (by decide)) hr tk (by rfl) (u__law_sum v) (kp__law_sum v) h) (da_cons (di_var (pv 3)) (da_cons (DE.frz de_dnew) da_nil)))) da_nil))))
    (dss_cons (ds_if (DW.pt (dw_or (t_ne hr (b_reprT (smd_ok (v.c.fact 18 (f := .smd))) hr (by rfl) (u_repr v) (di_var (pv 1))) (DI.pk (b_reprT (smd_ok (v.c.fact 18 (f := .smd))) hr (by rfl) (u_repr v) (DE.frz (x_add (DE.frz (de_lst (da_cons (di_var (pv 5)) (da_cons (di_var (pv 5)) da_nil)))) (dp_var (pv 2))))))) (dw_or1 (t_ne hr (DE.frz (d_own (fun h => pe_own ((f__law_plus v).mono (by decide)) hr tk (by rfl) (u__law_plus v) (kp__law_plus v) h) (da_cons (DE.frz (x_ix hr (di_var (pv 2)) (DI.pk di_int))) (da_cons (DE.frz (x_ix hr (di_var (pv 2)) (DI.pk di_int))) da_nil)))) (dp_var (pv 5)))))) (dss_one (ds_ret (DI.toE di_bl))) dss_nil)
    (dss_one (ds_ret (de_and (DE.frz (x_eq hr (DE.frz (d_own (fun h => pe_own ((f__law_made v).mono (by decide)) hr tk (by rfl) (u__law_made v) (kp__law_made v) h) (da_cons (di_var (pv 3)) (da_cons (di_var (pv 4)) da_nil)))) (DE.pk (de_if (t_eq hr (di_var (pv 5)) (DI.pk (di_tup (da_cons di_int (da_cons di_int da_nil))))) (DI.toE di_str) (DI.toE di_str))))) (de_one (x_eq hr (b_reprT (smd_ok (v.c.fact 18 (f := .smd))) hr (by rfl) (u_repr v) (DE.frz (de_lst (da_cons (di_var (pv 3)) (da_cons (di_var (pv 4)) da_nil))))) (dp_var (pv 6)))))))))))))))
def m__law_right : Fm := mir 7 1 g__law_right
theorem o__law_right (v : Ev K mg base) : DefOk (MM K) P w K mg base 12 "_law_right" "_law_right" (top 67) [] (He.ga K "_law_right") ["_law_pot_here"] m__law_right := by
  obtain ⟨fd, F⟩ := v.c.def_ 39 (d := d__law_right) rfl
  exact ⟨fd, F, funD_mir (M := MM K) F S__law_right (by decide) (fun cdv A outer s H E hr tk hp => b__law_right v cdv A outer s H E hr tk hp)⟩
theorem f__law_right (v : Ev K mg base) : TS.FnR P w K mg base (L2.CX P w) 12 (He.ga K "_law_right") (spD (MM K) m__law_right) := by
  obtain ⟨fd, F, O⟩ := o__law_right (P := P) (w := w) v
  exact fnR_raw (M := MM K) O (F.bindsN (ps := ["_law_pot_here"]) fun _ _ _ _ _ _ us hl => match us, hl with | [_], _ => rfl)
abbrev g_law_1_1 : FS := (sAsg (fOwn m__law_pot (aCons (vI 0) (aCons (vI 1) aNil))) (tName 2))
abbrev g_law_1_2_1a_1 : FS := (sRet (toE (kD (.bl false))))
abbrev g_law_1_2_1 : FS := (sIf (fNot (fTst (fOwnIo m__law_right 2 aNil))) g_law_1_2_1a_1 sNil)
abbrev g_law_1_2B : FS := g_law_1_2_1
abbrev g_law_1_2 : FS := (sFor (itRg1 (kD (.int 4))) (tName 3) g_law_1_2B)
abbrev g_law_1B : FS := (sSeq g_law_1_1 g_law_1_2)
abbrev g_law_1 : FS := (sFor (itRg1 (frz (fCal gMax (aCons (kD (.int 1)) (aCons (frz (fCal gMin (aCons (kD (.int 4)) (aCons (frz (fCal gLen (aOne (vP 0)))) aNil)))) aNil))))) (tName 1) g_law_1B)
abbrev g_law_2 : FS := (sRet (toE (kD (.bl true))))
def g_law : FS := (sSeq g_law_1 g_law_2)
theorem S_law : FnScope ["_law_script", "_law_k", "_law_pot_here", "_law_turn"] ["_law_script"] (defScope (top 68)) := ⟨rfl, rfl, rfl, by decide +kernel, rfl, by decide +kernel, by decide +kernel⟩
theorem b_law (v : Ev K mg base) : BodyOk (MM K) P w K mg base 12 "law" (top 68) (He.ga K "law") ["_law_script", "_law_k", "_law_pot_here", "_law_turn"] g_law :=
  fun cdv A outer s H E hr tk hp => (dss_cons (ds_for hp (by rfl) (dit_rg1 (by rfl) (u_range v) (DE.frz (b_max (by rfl) (by rfl) (u_max v) (DA.b (da_cons di_int (da_cons (DE.frz (b_min (by rfl) (by rfl) (u_min v) (DA.b (da_cons di_int (da_cons (DE.frz (b_len (by rfl) (u_len v) (db_one (dp_var (pv 0))))) da_nil))))) da_nil)))))) (dg_name (pg_name S_law.nd (by rfl) (by first | exact Or.inl rfl | exact Or.inr rfl))) (tgt_name 1) (dss_cons (ds_set (i := 2) S_law.nd (by rfl) (by first | exact Or.inl rfl | exact Or.inr rfl) (d_own (fun h => pe_own ((f__law_pot v).mono (by decide)) hr tk (by rfl) (u__law_pot v) (kp__law_pot v) h) (da_cons (di_var (pv 0)) (da_cons (di_var (pv 1)) da_nil))))
    (dss_one (ds_for hp (by rfl) (dit_rg1 (by rfl) (u_range v) di_int) (dg_name (pg_name S_law.nd (by rfl) (by first | exact Or.inl rfl | exact Or.inr rfl))) (tgt_name 3) (dss_one (ds_if (dt_not (dt_val (d_ownIo (fun h => pe_own ((f__law_right v).mono (by decide)) hr tk (by rfl) (u__law_right v) (kp__law_right v) h) (pv 2) da_nil))) (dss_one (ds_ret (DI.toE di_bl))) dss_nil))))))
    (dss_one (ds_ret (DI.toE di_bl))))
def m_law : Fm := mir 4 1 g_law
theorem o_law (v : Ev K mg base) : DefOk (MM K) P w K mg base 13 "law" "law" (top 68) [] (He.ga K "law") ["_law_script"] m_law := by
  obtain ⟨fd, F⟩ := v.c.def_ 40 (d := d_law) rfl
  exact ⟨fd, F, funD_mir (M := MM K) F S_law (by decide) (fun cdv A outer s H E hr tk hp => b_law v cdv A outer s H E hr tk hp)⟩
end
end K47

namespace K47
open PySem L2 TS
noncomputable section
-- needs:
section
variable {κ : Type} [DecidableEq κ]
theorem putD_new {ks : List κ} {ds : List D} {k : κ} {d : D} (h : k ∉ ks) : putD ks ds k d = (ks ++ [k], ds ++ [d]) := by
  unfold putD
  rw [if_neg]
  intro z
  obtain ⟨x, hx, e⟩ := List.any_eq_true.mp z
  have := of_decide_eq_true e
  subst this
  exact h hx
theorem dc_all {α : Type} (mk : List κ → List D → OB) (kd : κ → D) (hset : ∀ ks ds k d, ds.length < 16777216 → setOB (mk ks ds) (kd k) d = some (mk (putD ks ds k d).1 (putD ks ds k d).2)) {inj : α → D} {setT : D → Sl → Option Sl} {vs : List Nat} {fi : FA} {fk fv : FD} {δ δ1 : Sl} {xs : List α} (key : α → κ) (out : α → D) (δw : Sl)
    (h1 : fi δ = .ok (xs.map inj) δ1) (hfree : vs.all (freeS δ1) = true) (hw : wipeD δ1 vs = δw) (hr : restD δ1 vs δw = δ1) (hlen : xs.length ≤ 16777216) (nd : (xs.map key).Nodup)
    (he : ∀ x ∈ xs, ∃ δx, setT (inj x) δw = some δx ∧ fk δx = .ok (kd (key x)) δx ∧ fv δx = .ok (out x) δx ∧ wipeD δx vs = δw) : fDc (mk [] []) setT vs fi tTrue fk fv δ = .ok (.own (mk (xs.map key) (xs.map out))) δ1 := by
  have go : ∀ (ys pre : List α), pre ++ ys = xs → dcL setT vs tTrue fk fv (ys.map inj) (mk (pre.map key) (pre.map out)) δw = .ok (mk (xs.map key) (xs.map out)) δw := by
    intro ys
    induction ys with
    | nil => intro pre e; rw [List.append_nil] at e; subst e; simp [dcL]
    | cons y ys ih =>
      intro pre e
      obtain ⟨δx, e1, e2, e3, e4⟩ := he y (by rw [← e]; simp)
      have hn : key y ∉ pre.map key := by
        rw [← e, List.map_append, List.map_cons, List.nodup_append] at nd
        intro hm
        exact nd.2.2 _ hm (key y) (by simp) rfl
      have hl : (pre.map out).length < 16777216 := by
        have := congrArg List.length e
        simp at this
        rw [List.length_map]; omega
      have st := hset (pre.map key) (pre.map out) (key y) (out y) hl
      rw [putD_new hn] at st
      have ih := ih (pre ++ [y]) (by rw [← e]; simp)
      rw [List.map_append, List.map_append] at ih
      simp only [List.map_cons, dcL, e1, tTrue, noX, Res.bind_ok, if_true, e2, e3, st, e4]
      exact ih
  unfold fDc
  have := go xs [] rfl
  simp only [List.map_nil] at this
  rw [h1, Res.bind_ok, if_pos hfree, hw, this, Res.bind_ok, hr]
end
theorem keysOf_D : ∀ k : List Key, keysOf (k.map keyD) = some k
  | [] => rfl
  | k :: ks => by
    have e : TS.keyOf (keyD k) = some k := by cases k <;> rfl
    simp only [List.map_cons, keysOf, e, keysOf_D ks]
theorem setT_new (ks : List (List Key)) (ds : List D) (k : List Key) (d : D) (h : ds.length < 16777216) : setOB (.dT ks ds) (keysD k) d = some (.dT (putD ks ds k d).1 (putD ks ds k d).2) := by
  show (keysOf (k.map keyD)).bind _ = _
  rw [keysOf_D]
  show (if ds.length < 16777216 then _ else _) = _
  rw [if_pos h]
theorem setK_new (ks : List Key) (ds : List D) (k : Key) (d : D) (h : ds.length < 16777216) : setOB (.dK ks ds) (keyD k) d = some (.dK (putD ks ds k d).1 (putD ks ds k d).2) := by
  have e : TS.keyOf (keyD k) = some k := by cases k <;> rfl
  show (TS.keyOf (keyD k)).bind _ = _
  rw [e]
  show (if ds.length < 16777216 then _ else _) = _
  rw [if_pos h]
def grpS {κ : Type} [DecidableEq κ] (f : List Nat → Option κ) (w : List Nat → Int) (cs : List (List Nat)) (k : κ) : Int := ((cs.filter fun c => decide (f c = some k)).map w).sum
structure GC {κ : Type} [DecidableEq κ] (f : List Nat → Option κ) (w : List Nat → Int) (cs : List (List Nat)) (ks : List κ) (vs : List D) : Prop where
  len : ks.length = vs.length
  nd : ks.Nodup
  sz : vs.length ≤ cs.length
  key : ∀ k ∈ ks, ∃ c ∈ cs, f c = some k
  has : ∀ c ∈ cs, ∀ k, f c = some k → k ∈ ks
  val : ∀ k, (lookD ks vs k).getD (.int 0) = .int (grpS f w cs k)
section
variable {κ : Type} [DecidableEq κ] {f : List Nat → Option κ} {w : List Nat → Int} {cs : List (List Nat)} {ks : List κ} {vs : List D}
theorem grpS_app (c : List Nat) (k : κ) : grpS f w (cs ++ [c]) k = grpS f w cs k + (if f c = some k then w c else 0) := by
  unfold grpS
  rw [List.filter_append, List.map_append, List.sum_append]
  by_cases h : f c = some k
  · rw [if_pos h, List.filter_cons_of_pos (by simp [h])]; simp
  · rw [if_neg h, List.filter_cons_of_neg (by simp [h])]; simp
theorem GC.nil : GC f w [] ([] : List κ) [] := ⟨rfl, by simp, by simp, fun k hk => by simp at hk, fun c hc => by simp at hc, fun k => rfl⟩
open Classical in
theorem putG_keys {ks : List κ} {ds : List D} (k : κ) (d : D) : (putD ks ds k d).1 = if k ∈ ks then ks else ks ++ [k] := by
  by_cases h : k ∈ ks
  · rw [if_pos h]
    unfold putD
    rw [if_pos (List.any_eq_true.mpr ⟨k, h, by simp⟩)]
  · rw [if_neg h, putD_new h]
theorem GC.add (I : GC f w cs ks vs) {c : List Nat} {k : κ} (hc : f c = some k) :
    GC f w (cs ++ [c]) (putD ks vs k (.int (grpS f w cs k + w c))).1 (putD ks vs k (.int (grpS f w cs k + w c))).2 := by
  obtain ⟨p1, p2, p3⟩ := look_put (ks := ks) (ds := vs) k (.int (grpS f w cs k + w c)) I.len
  have pk := putG_keys (ks := ks) (ds := vs) k (.int (grpS f w cs k + w c))
  refine ⟨p2, ?_, ?_, fun k' hk => ?_, fun d hd k' hk => ?_, fun k' => ?_⟩
  · rw [pk]
    split
    · exact I.nd
    · rename_i hn
      rw [List.nodup_append]
      exact ⟨I.nd, by simp, fun x hx y hy e => by simp at hy; subst hy e; exact hn hx⟩
  · have := I.sz
    rw [List.length_append, List.length_singleton]; omega
  · have hk' : k' ∈ ks ∨ k' = k := by
      rw [pk] at hk
      split at hk
      · exact .inl hk
      · simpa using hk
    rcases hk' with h | rfl
    · obtain ⟨d, hd, r⟩ := I.key k' h; exact ⟨d, List.mem_append_left _ hd, r⟩
    · exact ⟨c, by simp, hc⟩
  · have : k' ∈ ks ∨ k' = k := by
      rcases List.mem_append.mp hd with hd | hd
      · exact .inl (I.has d hd k' hk)
      · simp at hd; subst hd; rw [hc] at hk; cases hk; exact .inr rfl
    rw [pk]
    split
    · rename_i hm
      rcases this with z | rfl
      · exact z
      · exact hm
    · simpa using this
  · rw [p1, grpS_app]
    by_cases e : k' = k
    · subst e
      rw [if_pos rfl, if_pos hc]; rfl
    · rw [if_neg e, I.val, if_neg (by rw [hc]; exact fun z => e (Option.some.inj z).symm), Int.add_zero]
end
end
end K47

namespace K47
open PySem L2 TS
noncomputable section
-- needs:
theorem is_int_int : is_int (.inl "int") = some true := by decide +kernel
theorem is_bool_int : is_bool (.inl "int") = some false := by decide +kernel
@[simp] theorem tag_int (i : Int) : tagD (.int i) = some (.inl "int") := rfl
@[simp] theorem tag_lst (xs : List D) : tagD (.lst xs) = some (.inl "list") := rfl
@[simp] theorem tag_obj (n : Nat) (xs : List D) : tagD (.obj n xs) = some (.inr n) := rfl
theorem is_integer_ok (i : Int) : m_is_integer none [.int i] = .ok (.imm (.bl true)) none := by
  simp [m_is_integer, mir, ini, ioS, ioN, outR, ioOut, g_is_integer, is_int_int, is_bool_int]
theorem require1_ok (i : Int) : m_require_integer_d1 none [.int i] = .ok (.imm .non) none := by
  have e : gNotN .non .non = some (.imm (.bl false)) := rfl
  simp [m_require_integer_d1, fmDfl, m_require_integer, mir, ini, ioS, ioN, outR, ioOut, g_require_integer, is_integer_ok, e]
theorem require2_ok {i j : Int} (h : j ≤ i) : m_require_integer none [.int i, .int j] = .ok (.imm .non) none := by
  have e : gNotN (.int j) .non = some (.imm (.bl true)) := rfl
  have h2 : ¬ i < j := by omega
  simp [m_require_integer, mir, ini, ioS, ioN, outR, ioOut, g_require_integer, is_integer_ok, e, h2]
end
end K47

namespace K47
open PySem L2 TS
noncomputable section
-- needs: ints
abbrev gcT : FT := fTst (fBin gNe (vI 3) (kD (.int 0)))
abbrev gcB : FS := sPar 2 3 (toE (vI 3)) (fBin gMod (vI 2) (vP 3))
theorem gcd_loop {x y : Option TS.R} : ∀ (k : Nat) (a b fuel : Nat), b ≤ k → k < fuel → whileL gcT gcB fuel [x, y, some (.imm (.int (a : Int))), some (.imm (.int (b : Int)))] = .nx [x, y, some (.imm (.int (Nat.gcd a b : Nat))), some (.imm (.int 0))] := by
  intro k
  induction k with
  | zero =>
    intro a b fuel hb hf
    obtain rfl : b = 0 := by omega
    obtain ⟨f, rfl⟩ : ∃ f, fuel = f + 1 := ⟨fuel - 1, by omega⟩
    simp [whileL]
  | succ k ih =>
    intro a b fuel hb hf
    obtain ⟨f, rfl⟩ : ∃ f, fuel = f + 1 := ⟨fuel - 1, by omega⟩
    by_cases h0 : b = 0
    · subst h0; simp [whileL]
    · have e1 : gMod (.int (a : Int)) (.int (b : Int)) = some (.imm (.int ((a % b : Nat) : Int))) := gMod_i (by omega)
      have hlt : a % b < b := Nat.mod_lt _ (by omega)
      have e2 := ih b (a % b) f (by omega) (by omega)
      have hz : ¬ ((b : Int) = 0) := by omega
      have hg : Nat.gcd b (a % b) = Nat.gcd a b := by rw [Nat.gcd_comm a b, Nat.gcd_rec b a, Nat.gcd_comm]
      rw [hg] at e2
      simp only [whileL]
      simp [h0, e1]
      exact e2
theorem ifabs (a : Int) : (if a < 0 then -a else a) = (a.natAbs : Int) := by split <;> omega
theorem divisor_ok (a b : Int) : m_divisor_of_two none [.int a, .int b] = .ok (.imm (.int (Nat.gcd a.natAbs b.natAbs : Nat))) none := by
  have e := gcd_loop (x := some (.imm (.int a))) (y := some (.imm (.int b))) b.natAbs a.natAbs b.natAbs (b.natAbs + 2) (by omega) (by omega)
  simp only [m_divisor_of_two, mir, ini, ioS, ioN, outR, ioOut, g_divisor_of_two]
  simp [ifabs, sWhile, muI, e]
def lcmL (ns : List Nat) : Nat := ns.foldl Nat.lcm 1
theorem foldl_lcm_dvd : ∀ (ns : List Nat) (a : Nat), a ∣ ns.foldl Nat.lcm a ∧ ∀ n ∈ ns, n ∣ ns.foldl Nat.lcm a
  | [], a => ⟨Nat.dvd_refl _, fun _ h => by cases h⟩
  | n :: ns, a => by
    obtain ⟨h1, h2⟩ := foldl_lcm_dvd ns (Nat.lcm a n)
    refine ⟨Nat.dvd_trans (Nat.dvd_lcm_left _ _) h1, fun m hm => ?_⟩
    rcases List.mem_cons.mp hm with rfl | hm
    · exact Nat.dvd_trans (Nat.dvd_lcm_right _ _) h1
    · exact h2 m hm
theorem foldl_lcm_pos : ∀ (ns : List Nat) (a : Nat), 0 < a → (∀ n ∈ ns, 0 < n) → 0 < ns.foldl Nat.lcm a
  | [], a, h, _ => h
  | n :: ns, a, h, hn => foldl_lcm_pos ns _ (Nat.lcm_pos h (hn n (by simp))) fun m hm => hn m (by simp [hm])
def nL (ns : List Nat) : List D := ns.map fun n : Nat => D.int (n : Int)
@[simp] theorem nL_len (ns : List Nat) : (nL ns).length = ns.length := by simp [nL]
abbrev cmA : FS := sExpr (fOwn m_require_integer (aCons (vI 1) (aCons (kD (.int 1)) aNil)))
theorem cm_loop1 {x z : Option TS.R} : ∀ (ns : List Nat) (y : Option TS.R), (∀ n ∈ ns, 0 < n) → ∃ y', forL (tName 1) cmA (nL ns) [x, y, z] = .nx [x, y', z]
  | [], y, _ => ⟨y, rfl⟩
  | n :: ns, y, h => by
    obtain ⟨y', e⟩ := cm_loop1 (x := x) (z := z) ns (some (.imm (.int (n : Int)))) fun m hm => h m (by simp [hm])
    have hn := h n (by simp)
    have r := require2_ok (i := (n : Int)) (j := 1) (by omega)
    refine ⟨y', ?_⟩
    rw [← e]
    simp [nL, forL, r]
abbrev cmB : FS := sAsg (fBin gFdiv (frz (fBin gMul (vI 2) (vP 1))) (frz (fOwn m_divisor_of_two (aCons (vI 2) (aCons (vI 1) aNil))))) (tName 2)
end
end K47

namespace K47
open PySem L2 TS
noncomputable section
-- needs: lcm
end
end K47

namespace K47
open PySem L2 TS
noncomputable section
-- needs: ints
@[simp] theorem toD_dK (ks : List Key) (ds : List D) : (OB.dK ks ds).toD = .dK ks ds := rfl
end
end K47

namespace K47
open PySem L2 TS
noncomputable section
-- needs:
end
end K47

namespace K47
open PySem L2 TS
noncomputable section
-- needs:
end
end K47

namespace K47
open PySem L2 TS
noncomputable section
-- needs: join checked least srcs
def planD (s : List Int) : List D := [.lst (iL s), .lst (iL (srcs s))]
abbrev pl (t : List Int) : D := .obj 0 (planD (least t))
end
end K47

namespace K47
open PySem L2 TS
noncomputable section
-- needs: plan
end
end K47

namespace K47
open PySem L2 TS
noncomputable section
-- needs: inverse
structure Wk (t : List Int) (a : Nat) (S c : List Nat) (here : Nat) : Prop where
  path : Path t c
  nd : c.Nodup
  dis : ∀ j ∈ c, j ∉ S
  hl : here < t.length
  beg : c = [] → here = a
  fst : ∀ b, c[0]? = some b → b = a
  lst : ∀ b, c[c.length - 1]? = some b → here = nx t b
theorem Wk.next {t : List Int} (h : Good t) {a : Nat} {S c : List Nat} {here : Nat} (w : Wk t a S c here) (hn : here ∉ S ++ c) : Wk t a S (c ++ [here]) (nx t here) := by
  simp only [List.mem_append, not_or] at hn
  refine ⟨⟨fun j hj => ?_, fun k x y h1 h2 => ?_⟩, ?_, fun j hj => ?_, nx_lt h.pos _, fun z => by simp at z, fun b hb => ?_, fun b hb => ?_⟩
  · rcases List.mem_append.mp hj with hj | hj
    · exact w.path.lt j hj
    · simp at hj; subst hj; exact w.hl
  · by_cases hk : k + 1 < c.length
    · rw [List.getElem?_append_left (by omega)] at h1 h2
      exact w.path.step k x y h1 h2
    · by_cases hk2 : k + 1 = c.length
      · rw [List.getElem?_append_left (by omega)] at h1
        rw [List.getElem?_append_right (by omega), hk2, Nat.sub_self] at h2
        simp at h2
        subst h2
        exact w.lst x (by rw [show c.length - 1 = k by omega]; exact h1)
      · rw [List.getElem?_eq_none (by simp; omega)] at h2
        cases h2
  · rw [List.nodup_append]
    refine ⟨w.nd, by simp, fun x hx y hy e => ?_⟩
    simp at hy
    subst hy e
    exact hn.2 hx
  · rcases List.mem_append.mp hj with hj | hj
    · exact w.dis j hj
    · simp at hj; subst hj; exact hn.1
  · by_cases hc : c = []
    · subst hc
      simp at hb
      rw [← hb]; exact w.beg rfl
    · have : 0 < c.length := List.length_pos_iff.mpr hc
      rw [List.getElem?_append_left this] at hb
      exact w.fst b hb
  · simp at hb
    rw [hb]
inductive CyR (t : List Int) : Nat → List (List Nat) → Prop where
  | nil : CyR t 0 []
  | old {a : Nat} {cs : List (List Nat)} (h : CyR t a cs) (hin : a ∈ cs.flatten) : CyR t (a + 1) cs
  | new {a : Nat} {cs : List (List Nat)} {c : List Nat} (h : CyR t a cs) (hn : a ∉ cs.flatten) (r : Cyc t c) (hd : c[0]? = some a) : CyR t (a + 1) (cs ++ [c])
theorem cyc_uniq {t : List Int} {c d : List Nat} (hc : Cyc t c) (hd : Cyc t d) {a : Nat} (h1 : c[0]? = some a) (h2 : d[0]? = some a) : c = d := by
  have key : ∀ i : Nat, i < c.length → i < d.length → c[i]? = d[i]? := by
    intro i
    induction i with
    | zero => intro _ _; rw [h1, h2]
    | succ i ih =>
      intro a1 a2
      have e := ih (by omega) (by omega)
      rw [List.getElem?_eq_getElem (show i < c.length by omega), List.getElem?_eq_getElem (show i < d.length by omega)] at e
      have e := Option.some.inj e
      have s1 := hc.path.step i c[i] c[i + 1] (List.getElem?_eq_getElem (by omega)) (List.getElem?_eq_getElem a1)
      have s2 := hd.path.step i d[i] d[i + 1] (List.getElem?_eq_getElem (by omega)) (List.getElem?_eq_getElem a2)
      rw [List.getElem?_eq_getElem a1, List.getElem?_eq_getElem a2, s1, s2, e]
  have short : ∀ {c d : List Nat}, Cyc t c → Cyc t d → c[0]? = some a → d[0]? = some a → (∀ i : Nat, i < c.length → i < d.length → c[i]? = d[i]?) → ¬ c.length < d.length := fun {c d} hc hd h1 h2 key hlt => by
    have hne := hc.ne
    have last : c[c.length - 1]? = some c[c.length - 1] := List.getElem?_eq_getElem (by omega)
    have cl := hc.close _ _ last h1
    have e := key (c.length - 1) (by omega) (by omega)
    rw [last] at e
    have s := hd.path.step (c.length - 1) c[c.length - 1] d[c.length] e.symm (by rw [show c.length - 1 + 1 = c.length by omega]; exact List.getElem?_eq_getElem hlt)
    rw [← cl] at s
    refine nodup_iff.mp hd.nd 0 c.length hne hlt ?_
    rw [h2, List.getElem?_eq_getElem hlt, s]
  have n1 := short hc hd h1 h2 key
  have n2 := short hd hc h2 h1 fun i a b => (key i b a).symm
  apply List.ext_getElem?
  intro i
  by_cases hi : i < c.length
  · exact key i hi (by omega)
  · rw [List.getElem?_eq_none (by omega), List.getElem?_eq_none (by omega)]
theorem CyR.uniq {t : List Int} {a : Nat} {cs : List (List Nat)} (h : CyR t a cs) : ∀ {cs' : List (List Nat)}, CyR t a cs' → cs = cs' := by
  induction h with
  | nil => intro cs' h'; cases h'; rfl
  | old h hin ih =>
    intro cs' h'
    cases h' with
    | old h' _ => exact ih h'
    | new h' hn _ _ => rw [ih h'] at hin; exact absurd hin hn
  | new h hn r hd ih =>
    intro cs' h'
    cases h' with
    | old h' hin => rw [ih h'] at hn; exact absurd hin hn
    | new h' _ r' hd' => rw [ih h', cyc_uniq r r' hd hd']
structure Cys (t : List Int) (m : Nat) (cs : List (List Nat)) : Prop where
  all : ∀ c ∈ cs, Cyc t c
  nd : cs.flatten.Nodup
  pre : ∀ j ∈ cs.flatten, ∃ z ∈ cs.flatten, nx t z = j
  dn : ∀ j, j < m → j ∈ cs.flatten
  beg : ∀ c ∈ cs, ∀ b, c[0]? = some b → ∀ j ∈ c, b ≤ j
  rr : CyR t m cs
theorem Cys.lt {t : List Int} {m : Nat} {cs : List (List Nat)} (h : Cys t m cs) : ∀ j ∈ cs.flatten, j < t.length := fun j hj => by
  obtain ⟨c, hc, hj⟩ := List.mem_flatten.mp hj
  exact (h.all c hc).path.lt j hj
theorem Cys.len {t : List Int} {m : Nat} {cs : List (List Nat)} (h : Cys t m cs) : cs.flatten.length ≤ t.length := nd_le _ _ h.nd h.lt
def cL (cs : List (List Nat)) : List D := cs.map fun c => .lst (nL c)
end
end K47

namespace K47
open PySem L2 TS
noncomputable section
-- needs: cycles
def sumsFrom (a : Int) : List Int → List Int
  | [] => [a]
  | x :: xs => a :: sumsFrom (a + x) xs
end
end K47

namespace K47
open PySem L2 TS
noncomputable section
-- needs: lcm
theorem cdiv2_ok (a b : Int) : m_common_divisor none [.int a, .int b] = .ok (.imm (.int (Nat.gcd a.natAbs b.natAbs : Nat))) none := by
  have e1 := divisor_ok 0 a
  have e2 := divisor_ok ((Nat.gcd (0 : Int).natAbs a.natAbs : Nat) : Int) b
  have e3 : Nat.gcd (((Nat.gcd (0 : Int).natAbs a.natAbs : Nat) : Int)).natAbs b.natAbs = Nat.gcd a.natAbs b.natAbs := by simp
  rw [e3] at e2
  generalize ((Nat.gcd (0 : Int).natAbs a.natAbs : Nat) : Int) = z at *
  simp [m_common_divisor, fmStar, mir, ini, ioS, ioN, outR, ioOut, g_common_divisor, forL, require1_ok, e1, e2]
def low (a b : Int) : Int × Int := (a / (Nat.gcd a.natAbs b.natAbs : Nat), b / (Nat.gcd a.natAbs b.natAbs : Nat))
end
end K47

namespace K47
open PySem L2 TS
noncomputable section
-- needs: plan
end
end K47

namespace K47
open PySem L2 TS
noncomputable section
-- needs: power ratio pprop
def drf (s : List Int) (c : List Nat) : Int := sumK s c c.length / s.length
def sumsC (s : List Int) (c : List Nat) : List Int := sumsFrom 0 (c.map fun j : Nat => act s (j : Int))
def cyD (s : List Int) (n : Nat) (c : List Nat) : List D := [.int (n : Int), .tup (nL c), .int (s.length : Int), .lst (iL (sumsC s c)), .int (drf s c)]
abbrev cyO (s : List Int) (x : Nat × List Nat) : D := .obj 2 (cyD s x.1 x.2)
theorem sumK_dv {s : List Int} (h : Good s) {c : List Nat} (hc : Cyc s c) : sumK s c c.length % s.length = 0 := by
  have hne := hc.ne
  have h0 : c[0]? = some c[0] := List.getElem?_eq_getElem hne
  have e := sumG_rem hc h.pos h0 (c.length : Int)
  rw [sumG_nat hne, Int.emod_self] at e
  have e2 : c.getD (0 : Int).toNat 0 = c[0] := by
    show c.getD 0 0 = c[0]
    rw [List.getD_eq_getElem?_getD, h0]; rfl
  rw [e2] at e
  have hlt := hc.path.lt c[0] (List.getElem_mem hne)
  have e3 : ((c[0] : Nat) : Int) % s.length = c[0] := Int.emod_eq_of_lt (by omega) (by omega)
  rw [← e3] at e
  have := Int.emod_eq_emod_iff_emod_sub_eq_zero.mp e
  rw [e3] at this
  rwa [show ((c[0] : Nat) : Int) + sumK s c c.length - c[0] = sumK s c c.length by omega] at this
theorem drf_mul {s : List Int} (h : Good s) {c : List Nat} (hc : Cyc s c) : s.length * drf s c = sumK s c c.length := by
  unfold drf
  rw [Int.mul_comm]
  exact Int.ediv_mul_cancel_of_emod_eq_zero (sumK_dv h hc)
def spd (s : List Int) (c : List Nat) : Int × Int := low (s.length * drf s c) c.length
def zs (cs : List (List Nat)) : List (Nat × List Nat) := (List.range cs.length).map fun n => (n, cs.getD n [])
def keyR (s : List Int) (x : Nat × List Nat) : Option Key := if drf s x.2 = 0 then some (.inl (x.2.length : Int)) else none
def keyL (s : List Int) (x : Nat × List Nat) : Option (List Key) := if drf s x.2 = 0 then none else some [.inl (spd s x.2).1, .inl (spd s x.2).2]
def grp {κ : Type} [DecidableEq κ] (f : Nat × List Nat → Option κ) (xs : List (Nat × List Nat)) (k : κ) : List (Nat × List Nat) := xs.filter fun x => decide (f x = some k)
def rowD (s : List Int) (ys : List (Nat × List Nat)) : Option (List D) := if ys = [] then none else some (ys.map (cyO s))
def ahd (s : List Int) (pre : List (Nat × List Nat)) (x : Nat × List Nat) : Int := if drf s x.2 = 0 then ((grp (keyR s) pre (.inl (x.2.length : Int))).length : Int) else ((grp (keyL s) pre [.inl (spd s x.2).1, .inl (spd s x.2).2]).map fun y => ((drf s y.2).natAbs : Int)).sum
structure TrI (s : List Int) (xs : List (Nat × List Nat)) (sk : List Key) (sv : List D) (L : List (List Key × List D)) (R : List (Key × List D)) (ak : List Key) (av : List D) : Prop where
  kl : sk.length = sv.length
  sn : sv.length ≤ (xs.map (·.2)).flatten.length
  al : ak.length = av.length
  an : av.length ≤ xs.length
  Ln : L.length ≤ xs.length
  Rn : R.length ≤ xs.length
  sp : ∀ x ∈ xs, ∀ (i r : Nat), x.2[i]? = some r → lookD sk sv (.inl (r : Int)) = some (.tup [cyO s x, .int (i : Int)])
  ln : ∀ k, lkR L k = rowD s (grp (keyL s) xs k)
  rn : ∀ k, lkR R k = rowD s (grp (keyR s) xs k)
  ah : ∀ pre x post, xs = pre ++ x :: post → lookD ak av (.inl (x.1 : Int)) = some (.int (ahd s pre x))
end
end K47

namespace K47
open PySem L2 TS
noncomputable section
-- needs: tracks
def pos (s : List Int) (c : List Nat) (b j : Int) : Int := (c.getD 0 0 : Nat) + sumG s c j + s.length * b
theorem cyc_zero {s : List Int} {c : List Nat} (hc : Cyc s c) : c[0]? = some (c.getD 0 0) := by
  rw [List.getD_eq_getElem?_getD, List.getElem?_eq_getElem hc.ne]; rfl
theorem pos_rem {s : List Int} (h : Good s) {c : List Nat} (hc : Cyc s c) (b j : Int) : pos s c b j % s.length = (c.getD (j % c.length).toNat 0 : Nat) := by
  unfold pos
  rw [Int.add_mul_emod_self_left]
  exact sumG_rem hc h.pos (cyc_zero hc) j
theorem pos_step {s : List Int} (h : Good s) {c : List Nat} (hc : Cyc s c) (b j : Int) : pos s c b (j + 1) = mv s (pos s c b j) := by
  unfold mv
  rw [← act_mod s (pos s c b j), pos_rem h hc]
  unfold pos
  rw [sumG_step hc.ne]; omega
theorem pos_pwr {s : List Int} (h : Good s) {c : List Nat} (hc : Cyc s c) (b j k : Int) : pwr s k (pos s c b j) = pos s c b (j + k) :=
  (pwr_uniq h (g := fun k => pos s c b (j + k)) (by simp) (fun n => by
    show pos s c b (j + (n + 1)) = _
    rw [← Int.add_assoc]; exact pos_step h hc b (j + n)) k).symm
theorem pos_form {s : List Int} (h : Good s) {c : List Nat} (hc : Cyc s c) (b j : Int) : pos s c b j = (c.getD 0 0 : Nat) + sumK s c (j % c.length).toNat + s.length * (b + drf s c * (j / c.length)) := by
  unfold pos sumG
  rw [← drf_mul h hc, Int.mul_add]
  have e : j / (c.length : Int) * (s.length * drf s c) = s.length * (drf s c * (j / c.length)) := by
    rw [Int.mul_comm, Int.mul_assoc]
  omega
structure IsAd (s : List Int) (cs : List (List Nat)) (x : Int) (n : Nat) (c : List Nat) (b j : Int) : Prop where
  cyc : cs[n]? = some c
  eq : pos s c b j = x
  rd : drf s c = 0 → 0 ≤ j ∧ j < c.length
  ln : drf s c ≠ 0 → 0 ≤ b ∧ b < ((drf s c).natAbs : Int)
theorem flat_uniq : ∀ {cs : List (List Nat)}, cs.flatten.Nodup → ∀ {n n' : Nat} {c c' : List Nat} {r : Nat}, cs[n]? = some c → cs[n']? = some c' → r ∈ c → r ∈ c' → n = n'
  | [], _, n, n', c, c', r, h1, _, _, _ => by simp at h1
  | a :: cs, h, n, n', c, c', r, h1, h2, m1, m2 => by
    rw [List.flatten_cons] at h
    obtain ⟨_, d2, d3⟩ := List.nodup_append.mp h
    cases n with
    | zero =>
      cases n' with
      | zero => rfl
      | succ n' =>
        simp at h1 h2
        subst h1
        exact absurd rfl (d3 r m1 r (List.mem_flatten.mpr ⟨c', List.mem_of_getElem? h2, m2⟩))
    | succ n =>
      cases n' with
      | zero =>
        simp at h1 h2
        subst h2
        exact absurd rfl (d3 r m2 r (List.mem_flatten.mpr ⟨c, List.mem_of_getElem? h1, m1⟩))
      | succ n' =>
        simp at h1 h2
        rw [flat_uniq d2 h1 h2 m1 m2]
theorem getD_mem {c : List Nat} {k : Nat} (h : k < c.length) : c.getD k 0 ∈ c := by
  rw [List.getD_eq_getElem?_getD, List.getElem?_eq_getElem h]; exact List.getElem_mem h
theorem mod_lt {c : List Nat} (h : 0 < c.length) (j : Int) : (j % c.length).toNat < c.length := by
  have b0 := Int.emod_nonneg j (show (c.length : Int) ≠ 0 by omega)
  have b1 := Int.emod_lt_of_pos j (show 0 < (c.length : Int) by omega)
  omega
theorem getD_inj {c : List Nat} (h : c.Nodup) {i k : Nat} (hi : i < c.length) (hk : k < c.length) (e : c.getD i 0 = c.getD k 0) : i = k := by
  rw [List.getD_eq_getElem?_getD, List.getD_eq_getElem?_getD, List.getElem?_eq_getElem hi, List.getElem?_eq_getElem hk] at e
  have e : c[i] = c[k] := e
  exact (List.getElem_inj h).mp e
theorem abs_eq {b b' d m : Int} (hb : 0 ≤ b ∧ b < (d.natAbs : Int)) (hb' : 0 ≤ b' ∧ b' < (d.natAbs : Int)) (e : b - b' = d * m) : b = b' := by
  have h : (b - b').natAbs = d.natAbs * m.natAbs := by rw [e, Int.natAbs_mul]
  have hl : (b - b').natAbs < d.natAbs := by omega
  by_cases z : m.natAbs = 0
  · rw [z, Nat.mul_zero] at h; omega
  · have : d.natAbs * 1 ≤ d.natAbs * m.natAbs := Nat.mul_le_mul_left _ (by omega)
    omega
theorem IsAd.uniq {s : List Int} (h : Good s) {cs : List (List Nat)} (hcs : Cys s s.length cs) {x : Int} {n n' : Nat} {c c' : List Nat} {b j b' j' : Int} (a : IsAd s cs x n c b j) (a' : IsAd s cs x n' c' b' j') : n = n' ∧ c = c' ∧ b = b' ∧ j = j' := by
  have hc := hcs.all c (List.mem_of_getElem? a.cyc)
  have hc' := hcs.all c' (List.mem_of_getElem? a'.cyc)
  have r := pos_rem h hc b j
  have r' := pos_rem h hc' b' j'
  rw [a.eq] at r
  rw [a'.eq] at r'
  have rr : c.getD (j % c.length).toNat 0 = c'.getD (j' % c'.length).toNat 0 := by omega
  have en := flat_uniq hcs.nd a.cyc a'.cyc (getD_mem (mod_lt hc.ne j)) (by rw [rr]; exact getD_mem (mod_lt hc'.ne j'))
  subst en
  have ec : c = c' := Option.some.inj (a.cyc.symm.trans a'.cyc)
  subst ec
  have ej := getD_inj hc.nd (mod_lt hc.ne j) (mod_lt hc.ne j') rr
  have f := pos_form h hc b j
  have f' := pos_form h hc b' j'
  rw [a.eq] at f
  rw [a'.eq, ← ej] at f'
  have hp := h.pos
  have eu : b + drf s c * (j / c.length) = b' + drf s c * (j' / c.length) := by
    have : (s.length : Int) * (b + drf s c * (j / c.length)) = s.length * (b' + drf s c * (j' / c.length)) := by omega
    exact Int.eq_of_mul_eq_mul_left (by omega) this
  have q := Int.emod_add_mul_ediv j c.length
  have q' := Int.emod_add_mul_ediv j' c.length
  have b0 := Int.emod_nonneg j (show (c.length : Int) ≠ 0 by have := hc.ne; omega)
  have b0' := Int.emod_nonneg j' (show (c.length : Int) ≠ 0 by have := hc.ne; omega)
  have em : j % c.length = j' % c.length := by omega
  refine ⟨rfl, rfl, ?_⟩
  by_cases hd : drf s c = 0
  · have z := a.rd hd
    have z' := a'.rd hd
    rw [hd, Int.zero_mul, Int.zero_mul] at eu
    rw [Int.emod_eq_of_lt z.1 z.2, Int.emod_eq_of_lt z'.1 z'.2] at em
    exact ⟨by omega, em⟩
  · have z := a.ln hd
    have z' := a'.ln hd
    have eb := abs_eq z z' (m := j' / c.length - j / c.length) (by rw [Int.mul_sub]; omega)
    subst eb
    have ed : j / c.length = j' / c.length := Int.eq_of_mul_eq_mul_left hd (by omega)
    rw [em, ed] at q
    exact ⟨rfl, by omega⟩
theorem pos_round {s : List Int} (h : Good s) {c : List Nat} (hc : Cyc s c) (hd : drf s c = 0) (b j : Int) : pos s c b (j % c.length) = pos s c b j := by
  rw [pos_form h hc, pos_form h hc b j, hd, Int.emod_emod_of_dvd _ (Int.dvd_refl _), Int.zero_mul, Int.zero_mul]
def idx (s : List Int) (c : List Nat) (j : Int) : Int := if drf s c = 0 then j % c.length else j
theorem IsAd.pwr {s : List Int} (h : Good s) {cs : List (List Nat)} (hcs : Cys s s.length cs) {x : Int} {n : Nat} {c : List Nat} {b j : Int} (a : IsAd s cs x n c b j) (k : Int) : IsAd s cs (pwr s k x) n c b (idx s c (j + k)) := by
  have hc := hcs.all c (List.mem_of_getElem? a.cyc)
  have hne := hc.ne
  refine ⟨a.cyc, ?_, fun hd => ?_, a.ln⟩
  · rw [← a.eq, pos_pwr h hc]
    unfold idx
    split
    · rename_i hd; exact pos_round h hc hd b _
    · rfl
  · unfold idx
    rw [if_pos hd]
    exact ⟨Int.emod_nonneg _ (by omega), Int.emod_lt_of_pos _ (by omega)⟩
end
end K47

namespace K47
open PySem L2 TS
noncomputable section
-- needs: addr
set_option exponentiation.threshold 2000
def kd (s : List Int) (c : List Nat) : Str := if drf s c = 0 then "round" else "line"
section
variable {s : List Int} (h : Good s) (hb : ∀ x, -(2 ^ 200 : Int) < act s x ∧ act s x < 2 ^ 200) {cs : List (List Nat)} (hcs : Cys s s.length cs) {sk : List Key} {sv : List D} {L : List (List Key × List D)} {R : List (Key × List D)} {ak : List Key} {av : List D} (I : TrI s (zs cs) sk sv L R ak av)
include h hb hcs I
end
end
end K47

namespace K47
open PySem L2 TS
noncomputable section
-- needs: addr2w
set_option exponentiation.threshold 2000
def stp (s : List Int) (n n' : Nat) (c : List Nat) (b b' j j' : Int) : D := if n = n' ∧ b = b' then .int (idx s c (j' - j)) else .non
section
variable {s : List Int} (h : Good s) (hb : ∀ x, -(2 ^ 200 : Int) < act s x ∧ act s x < 2 ^ 200) {cs : List (List Nat)} (hcs : Cys s s.length cs) {sk : List Key} {sv : List D} {L : List (List Key × List D)} {R : List (Key × List D)} {ak : List Key} {av : List D} (I : TrI s (zs cs) sk sv L R ak av)
include h hb hcs I
end
end
end K47

namespace K47
open PySem L2 TS
noncomputable section
-- needs: addr3w
set_option exponentiation.threshold 2000
section
variable {s : List Int} (h : Good s) (hb : ∀ x, -(2 ^ 200 : Int) < act s x ∧ act s x < 2 ^ 200) {cs : List (List Nat)} (hcs : Cys s s.length cs) {sk : List Key} {sv : List D} {L : List (List Key × List D)} {R : List (Key × List D)} {ak : List Key} {av : List D} (I : TrI s (zs cs) sk sv L R ak av)
include h hb hcs
omit h hb hcs in
end
end
end K47

namespace K47
open PySem L2 TS
noncomputable section
-- needs: addr4w
set_option exponentiation.threshold 2000
section
variable {s : List Int} (h : Good s) (hb : ∀ x, -(2 ^ 200 : Int) < act s x ∧ act s x < 2 ^ 200) {cs : List (List Nat)} (hcs : Cys s s.length cs) {sk : List Key} {sv : List D} {L : List (List Key × List D)} {R : List (Key × List D)} {ak : List Key} {av : List D} (I : TrI s (zs cs) sk sv L R ak av)
include h hb hcs I
end
end
end K47

namespace K47
open PySem L2 TS
noncomputable section
-- needs: rank
set_option exponentiation.threshold 2000
section
variable {s : List Int} (h : Good s) (hb : ∀ x, -(2 ^ 200 : Int) < act s x ∧ act s x < 2 ^ 200) {cs : List (List Nat)} (hcs : Cys s s.length cs) {sk : List Key} {sv : List D} {L : List (List Key × List D)} {R : List (Key × List D)} {ak : List Key} {av : List D} (I : TrI s (zs cs) sk sv L R ak av)
include h hb
include hcs I
end
end
end K47

namespace K47
open PySem L2 TS
noncomputable section
-- needs: rank2
set_option exponentiation.threshold 2000
theorem low_cop {a b : Int} (hb : 0 < b) : 1 ≤ (low a b).2 ∧ Nat.gcd (low a b).1.natAbs (low a b).2.natAbs = 1 := by
  have hg : 0 < Nat.gcd a.natAbs b.natAbs := Nat.gcd_pos_of_pos_right _ (by omega)
  have da : (Nat.gcd a.natAbs b.natAbs : Int) ∣ a := Int.ofNat_dvd_left.mpr (Nat.gcd_dvd_left _ _)
  have dbb : (Nat.gcd a.natAbs b.natAbs : Int) ∣ b := Int.ofNat_dvd_left.mpr (Nat.gcd_dvd_right _ _)
  obtain ⟨x, hx⟩ := da
  obtain ⟨y, hy⟩ := dbb
  unfold low
  generalize hG : Nat.gcd a.natAbs b.natAbs = g at *
  have e1 : a / (g : Int) = x := by rw [hx]; exact Int.mul_ediv_cancel_left _ (by omega)
  have e2 : b / (g : Int) = y := by rw [hy]; exact Int.mul_ediv_cancel_left _ (by omega)
  dsimp only
  rw [e1, e2]
  constructor
  · have q : 0 < (g : Int) * y := by omega
    by_cases z : 0 < y
    · omega
    · have := Int.mul_le_mul_of_nonneg_left (show y ≤ 0 by omega) (show (0 : Int) ≤ g by omega)
      omega
  · have q1 : a.natAbs = g * x.natAbs := by rw [hx, Int.natAbs_mul, Int.natAbs_natCast]
    have q2 : b.natAbs = g * y.natAbs := by rw [hy, Int.natAbs_mul, Int.natAbs_natCast]
    rw [q1, q2, Nat.gcd_mul_left] at hG
    exact Nat.eq_of_mul_eq_mul_left hg (by omega)
theorem is_ratio_low {u v : Int} (h1 : 1 ≤ v) (h2 : Nat.gcd u.natAbs v.natAbs = 1) : m_is_ratio none [.tup [.int u, .int v]] = .ok (.imm (.bl true)) none := by
  have it : is_tuple (Sum.inl "tuple") = some true := by decide +kernel
  have tg : tagD (.tup [.int u, .int v]) = some (.inl "tuple") := rfl
  have gl : gLen [.tup [.int u, .int v]] = some (.imm (.int 2)) := rfl
  have cd := cdiv2_ok u v
  rw [h2] at cd
  have i0 : gIx (.tup [.int u, .int v]) (.int 0) = some (.imm (.int u)) := rfl
  have i1 : gIx (.tup [.int u, .int v]) (.int 1) = some (.imm (.int v)) := rfl
  have q := lc_intsD (xs := [u, v]) (fun _ => .bl true) (i := 1) (fi := itTup (vI 0)) (fe := frz (fOwn m_is_integer (aCons (vI 1) aNil))) (δ := [some (.imm (.tup [.int u, .int v])), none]) (δ1 := [some (.imm (.tup [.int u, .int v])), none]) (by simp [iL]) rfl (by simp) (fun x _ => by simp [is_integer_ok])
  have ga := gAll_true [u, v]
  have ge : gGe (.int v) (.int 1) = some (.imm (.bl true)) := by simp [gGe, h1]
  generalize ([u, v].map fun _ => D.bl true) = B at *
  (unfold m_is_ratio g_is_ratio; unfold mir; rw [if_pos (by simp [ioN])]; simp only [ini, ioS, ioN, List.replicate, List.map_cons, List.map_nil, List.length_cons, List.length_nil, List.nil_append, List.cons_append, Nat.zero_add, Nat.reduceAdd, Nat.reduceSub])
  (rw [ap_sSeq]; (conv in (SR.bind _ _) => (arg 1; simp [tg, it, gl, q, ga])); (try rw [SR.bind_nx]))
  simp [outR, ioOut, i0, i1, ge, cd]
theorem req_ratio_low {u v : Int} (h1 : 1 ≤ v) (h2 : Nat.gcd u.natAbs v.natAbs = 1) : m_require_ratio none [.tup [.int u, .int v]] = .ok (.imm .non) none := by
  have e := is_ratio_low h1 h2
  simp [m_require_ratio, mir, ini, ioS, ioN, outR, ioOut, g_require_ratio, e]
section
variable {s : List Int} (h : Good s) (hb : ∀ x, -(2 ^ 200 : Int) < act s x ∧ act s x < 2 ^ 200) {cs : List (List Nat)} (hcs : Cys s s.length cs) {sk : List Key} {sv : List D} {L : List (List Key × List D)} {R : List (Key × List D)} {ak : List Key} {av : List D} (I : TrI s (zs cs) sk sv L R ak av)
include I
include h hb hcs
end
end
end K47

namespace K47
open PySem L2 TS
noncomputable section
-- needs: plan
end
end K47

namespace K47
open PySem L2 TS
noncomputable section
-- needs: lawat
end
end K47

namespace K47
open PySem L2 TS
noncomputable section
-- needs: rank3 lap
set_option exponentiation.threshold 2000
end
end K47

namespace K47
open PySem L2 TS
noncomputable section
-- needs: plan
end
end K47

namespace K47
open PySem L2 TS
noncomputable section
-- needs: shift
structure IsDly (f : Int → Int) (d : Int) : Prop where
  nn : 0 ≤ d
  le : ∀ z, -f z ≤ d
  at_ : d = 0 ∨ ∃ z, d = -f z
theorem IsDly.uniq {f : Int → Int} {d e : Int} (h : IsDly f d) (h' : IsDly f e) : d = e := by
  have a : d ≤ e := by rcases h.at_ with z | ⟨z, q⟩; · have := h'.nn; omega
                       · have := h'.le z; omega
  have b : e ≤ d := by rcases h'.at_ with z | ⟨z, q⟩; · have := h.nn; omega
                       · have := h.le z; omega
  omega
theorem act_mem {t : List Int} (h : 0 < t.length) (z : Int) : act t z ∈ t := by
  have b1 := Int.emod_nonneg z (show (t.length : Int) ≠ 0 by omega)
  have b2 := Int.emod_lt_of_pos z (show 0 < (t.length : Int) by omega)
  obtain ⟨i, ei⟩ := Int.eq_ofNat_of_zero_le b1
  rw [← act_mod, ei]
  exact List.mem_of_getElem? (act_get' (by omega))
theorem mem_act {t : List Int} {x : Int} (h : x ∈ t) : ∃ z, act t z = x := by
  obtain ⟨i, hi, e⟩ := List.getElem_of_mem h
  exact ⟨i, act_get (by rw [List.getElem?_eq_getElem hi, e])⟩
end
end K47

namespace K47
open PySem L2 TS
noncomputable section
-- needs: plan
end
end K47

namespace K47
open PySem L2 TS
noncomputable section
-- needs: plan delay pprop flowp
def rowOf (c : Int) (p : Nat × Int) : D := .tup [.int (p.1 : Int), .int (if c - p.2 < c then c - p.2 else c), .int (if c < c - p.2 then c - p.2 else c)]
def BdT (t : List Int) : Prop := ∀ x ∈ t, x.natAbs < 2 ^ 255
theorem BdT.least {t : List Int} (h : Good t) (hb : BdT t) : BdT (least t) := fun x hx => by
  obtain ⟨z, rfl⟩ := mem_act hx
  rw [least_act h.pos]
  exact hb _ (act_mem h.pos z)
def rowN (n : Nat) (c : Int) (p : Nat × Int) : Int := ((p.1 : Int) - (if c - p.2 < c then c - p.2 else c)) / n - ((p.1 : Int) - (if c < c - p.2 then c - p.2 else c)) / n
def psR (n : Nat) (c : Int) (p : Nat × Int) : List Int := (List.range (rowN n c p).toNat).map fun k : Nat => (if c - p.2 < c then c - p.2 else c) + ((p.1 : Int) - (if c - p.2 < c then c - p.2 else c)) % n + n * (k : Int)
end
end K47

namespace K47
open PySem L2 TS
noncomputable section
-- needs: cuts
end
end K47

namespace K47
open PySem L2 TS
noncomputable section
-- needs: k28a cplaces
set_option exponentiation.threshold 2000
theorem low_ex {a b : Int} (hb : 0 < b) : ∃ g : Int, 0 < g ∧ (low a b).1 * g = a ∧ (low a b).2 * g = b := by
  have hg : 0 < Nat.gcd a.natAbs b.natAbs := Nat.gcd_pos_of_pos_right _ (by omega)
  have da : (Nat.gcd a.natAbs b.natAbs : Int) ∣ a := Int.ofNat_dvd_left.mpr (Nat.gcd_dvd_left _ _)
  have dbb : (Nat.gcd a.natAbs b.natAbs : Int) ∣ b := Int.ofNat_dvd_left.mpr (Nat.gcd_dvd_right _ _)
  exact ⟨(Nat.gcd a.natAbs b.natAbs : Nat), by omega, Int.ediv_mul_cancel da, Int.ediv_mul_cancel dbb⟩
def paK (P : Int × Int) : List Key := [.inl P.1, .inl P.2]
theorem paK_inj {P Q : Int × Int} (h : paK P = paK Q) : P = Q := by
  unfold paK at h
  injection h with h1 h2
  injection h2 with h3 _
  injection h1 with h1
  injection h3 with h3
  exact Prod.ext h1 h3
def lnT (t : List Int) (cs : List (List Nat)) (k : List Key) : Int := ((cs.filter fun c => decide (drf t c ≠ 0 ∧ paK (spd t c) = k)).map fun c => ((drf t c).natAbs : Int)).sum
theorem lnT_app (t : List Int) (cs : List (List Nat)) (c : List Nat) (k : List Key) : lnT t (cs ++ [c]) k = lnT t cs k + (if drf t c ≠ 0 ∧ paK (spd t c) = k then ((drf t c).natAbs : Int) else 0) := by
  unfold lnT
  rw [List.filter_append, List.map_append, List.sum_append]
  by_cases h : drf t c ≠ 0 ∧ paK (spd t c) = k
  · rw [if_pos h, List.filter_cons_of_pos (by simpa using h)]; simp
  · rw [if_neg h, List.filter_cons_of_neg (by simpa using h)]; simp
end
end K47

namespace K47
open PySem L2 TS
noncomputable section
-- needs: tracks cplaces
end
end K47

namespace K47
open PySem L2 TS
noncomputable section
-- needs: dcl k24a rank3 ratio trup
set_option exponentiation.threshold 2000
def OkP (P : Int × Int) : Prop := 1 ≤ P.2 ∧ Nat.gcd P.1.natAbs P.2.natAbs = 1
def paD (P : Int × Int) : D := .tup [.int P.1, .int P.2]
theorem keysD_paK (P : Int × Int) : keysD (paK P) = paD P := rfl
theorem low_le {a N : Int} (hN : 0 < N) : 0 < (low a N).2 ∧ (low a N).2 ≤ N ∧ (low a N).1.natAbs ≤ a.natAbs := by
  obtain ⟨g, g0, g1, g2⟩ := low_ex (a := a) hN
  have h1 := (low_cop (a := a) hN).1
  refine ⟨by omega, ?_, ?_⟩
  · have : (low a N).2 * 1 ≤ (low a N).2 * g := Int.mul_le_mul_of_nonneg_left (by omega) (by omega)
    omega
  · have e := congrArg Int.natAbs g1
    rw [Int.natAbs_mul] at e
    have : (low a N).1.natAbs * 1 ≤ (low a N).1.natAbs * g.natAbs := Nat.mul_le_mul_left _ (by omega)
    omega
end
end K47

namespace K47
open PySem L2 TS
noncomputable section
-- needs: tracks ratio
set_option exponentiation.threshold 6000
theorem log2_L {n k : Nat} (h : n < 2 ^ k) (hk : 0 < k) : n.log2 < k := by
  by_cases z : n = 0
  · rw [z]; exact hk
  · exact (Nat.log2_lt z).mpr h
theorem cmulL {i j : Int} {a b : Nat} (h : i.natAbs < 2 ^ a) (h2 : j.natAbs < 2 ^ b) (ha : 0 < a) (hb : 0 < b) (hs : a + b < 100000) : CMulB i j = true := by
  have h1 := log2_L h ha
  have h3 := log2_L h2 hb
  exact gd_true (by omega)
theorem gMul_L {i j : Int} (h : i.natAbs < 2 ^ 3000) (h2 : j.natAbs < 2 ^ 3000) : gMul (.int i) (.int j) = some (.imm (.int (i * j))) := by
  have e := cmulL h h2 (by decide) (by decide) (by decide)
  simp [gMul, gOr, gI, e]
theorem gFdiv_L {i j : Int} (h : 0 < j) (h2 : j.natAbs < 2 ^ 3000) : gFdiv (.int i) (.int j) = some (.imm (.int (i / j))) := by
  have := log2_L h2 (by decide)
  have e : CDivB i j = true := gd_true ⟨h, by omega⟩
  simp [gFdiv, gOr, gI, e]
theorem low_okW {a b : Int} (hb : 0 < b) (h2 : b.natAbs < 2 ^ 2000) : m_in_lowest_terms none [.int a, .int b] = .ok (.imm (.tup [.int (low a b).1, .int (low a b).2])) none := by
  have e := cdiv2_ok a b
  have gp : 0 < Nat.gcd a.natAbs b.natAbs := Nat.gcd_pos_of_pos_right _ (by omega)
  have gl : Nat.gcd a.natAbs b.natAbs ≤ b.natAbs := Nat.le_of_dvd (by omega) (Nat.gcd_dvd_right _ _)
  have d1 : ∀ i : Int, gFdiv (.int i) (.int ((Nat.gcd a.natAbs b.natAbs : Nat) : Int)) = some (.imm (.int (i / ((Nat.gcd a.natAbs b.natAbs : Nat) : Int)))) := fun i => gFdiv_L (by omega) (by omega)
  have nb : ¬ b < 0 := by omega
  unfold low
  generalize ((Nat.gcd a.natAbs b.natAbs : Nat) : Int) = g at *
  simp [m_in_lowest_terms, mir, ini, ioS, ioN, outR, ioOut, g_in_lowest_terms, e, d1, nb]
theorem ratio_okW {a b : Int} (hb : 0 < b) (h2 : b.natAbs < 2 ^ 2000) : m_ratio none [.int a, .int b] = .ok (.imm (.tup [.int (low a b).1, .int (low a b).2])) none := by
  have e := low_okW (a := a) hb h2
  have nb : b ≠ 0 := by omega
  generalize (low a b).1 = x at *
  generalize (low a b).2 = y at *
  simp [m_ratio, mir, ini, ioS, ioN, outR, ioOut, g_ratio, require1_ok, e, nb]
end
end K47

namespace K47
open PySem L2 TS
noncomputable section
-- needs: prof1 ints wide
set_option exponentiation.threshold 6000
theorem cmL_turn {x : Option TS.R} {a n : Nat} (ha : 0 < a) (hn : 0 < n) (ha2 : a < 2 ^ 3000) (hn2 : n < 2 ^ 3000) : cmB [x, some (.imm (.int (n : Int))), some (.imm (.int (a : Int)))] = .nx [x, some (.imm (.int (n : Int))), some (.imm (.int (Nat.lcm a n : Nat)))] := by
  have e1 : gMul (.int (a : Int)) (.int (n : Int)) = some (.imm (.int ((a : Int) * n))) := gMul_L (by rw [Int.natAbs_natCast]; exact ha2) (by rw [Int.natAbs_natCast]; exact hn2)
  have hg : 0 < Nat.gcd a n := Nat.gcd_pos_of_pos_left _ ha
  have hg2 : Nat.gcd a n ≤ a := Nat.gcd_le_left _ ha
  have e2 : gFdiv (.int ((a : Int) * n)) (.int (Nat.gcd a n : Nat)) = some (.imm (.int ((a : Int) * n / (Nat.gcd a n : Nat)))) := gFdiv_L (by omega) (by rw [Int.natAbs_natCast]; exact Nat.lt_of_le_of_lt hg2 ha2)
  have e3 : ((a : Int) * n / (Nat.gcd a n : Nat)) = ((Nat.lcm a n : Nat) : Int) := by
    rw [Nat.lcm, Int.natCast_ediv, Int.natCast_mul]
  rw [e3] at e2
  have d := divisor_ok (a : Int) (n : Int)
  simp only [Int.natAbs_natCast] at d
  unfold cmB
  generalize gMul = gM at *
  generalize gFdiv = gF at *
  clear ha2 hn2
  simp [e1, e2, d]
theorem cmL_loop2 {x : Option TS.R} : ∀ (ns : List Nat) (a : Nat) (y : Option TS.R), (∀ n ∈ ns, 0 < n) → 0 < a → ns.foldl Nat.lcm a < 2 ^ 3000 → ∃ y', forL (tName 1) cmB (nL ns) [x, y, some (.imm (.int (a : Int)))] = .nx [x, y', some (.imm (.int (ns.foldl Nat.lcm a : Nat)))]
  | [], a, y, _, _, _ => ⟨y, rfl⟩
  | n :: ns, a, y, h, ha, hb => by
    have hn := h n (by simp)
    have hp := foldl_lcm_pos (n :: ns) a ha h
    obtain ⟨d1, d2⟩ := foldl_lcm_dvd (n :: ns) a
    have l1 := Nat.le_of_dvd hp d1
    have l2 := Nat.le_of_dvd hp (d2 n (by simp))
    obtain ⟨y', e⟩ := cmL_loop2 (x := x) ns (Nat.lcm a n) (some (.imm (.int (n : Int)))) (fun m hm => h m (by simp [hm])) (Nat.lcm_pos ha hn) hb
    have t := cmL_turn (x := x) ha hn (Nat.lt_of_le_of_lt l1 hb) (Nat.lt_of_le_of_lt l2 hb)
    refine ⟨y', ?_⟩
    clear hb
    simp only [nL, List.map_cons, forL, ap_tNameI, SR.bind_nx, List.set_cons_succ, List.set_cons_zero, t]
    exact e
theorem common_multipleL {ns : List Nat} (h : ∀ n ∈ ns, 0 < n) (hb : lcmL ns < 2 ^ 3000) (hl : ns.length ≤ 16777216) : m_common_multiple none (nL ns) = .ok (.imm (.int (lcmL ns : Nat))) none := by
  obtain ⟨y1, e1⟩ := cm_loop1 (x := some (.imm (.tup (nL ns)))) (z := none) ns none h
  obtain ⟨y2, e2⟩ := cmL_loop2 (x := some (.imm (.tup (nL ns)))) ns 1 y1 h (by omega) hb
  clear hb
  have hd : decide (0 ≤ (nL ns).length ∧ (nL ns).length ≤ 16777216) = true := decide_eq_true ⟨by omega, by simpa [nL] using hl⟩
  have s1 : m_common_multiple none (nL ns) = mir 3 1 g_common_multiple none [.tup (nL ns)] := by
    unfold m_common_multiple fmStar
    simp only [hd, if_true, List.take_zero, List.drop_zero, List.nil_append]
  have e2' : forL (tName 1) cmB (nL ns) [some (.imm (.tup (nL ns))), y1, some (.imm (.int 1))] = .nx [some (.imm (.tup (nL ns))), y2, some (.imm (.int (lcmL ns : Nat)))] := e2
  rw [s1]
  simp only [mir, ini, ioS, ioN, outR, ioOut, g_common_multiple]
  simp [e1, e2']
theorem lcm_le : ∀ (ns : List Nat) (a : Nat), 0 < a → (∀ n ∈ ns, 0 < n) → ns.foldl Nat.lcm a ≤ a * 2 ^ ns.sum
  | [], a, _, _ => by simp
  | n :: ns, a, ha, h => by
    have hn := h n (by simp)
    have ih := lcm_le ns (Nat.lcm a n) (Nat.lcm_pos ha hn) fun m hm => h m (by simp [hm])
    rw [List.foldl_cons, List.sum_cons, Nat.pow_add, ← Nat.mul_assoc]
    refine Nat.le_trans ih (Nat.mul_le_mul_right _ ?_)
    have h1 : Nat.lcm a n ≤ a * n := Nat.le_of_dvd (Nat.mul_pos ha hn) (Nat.lcm_dvd_mul a n)
    have h2 : n ≤ 2 ^ n := Nat.le_of_lt Nat.lt_two_pow_self
    exact Nat.le_trans h1 (Nat.mul_le_mul_left _ h2)
def leQ (P Q : Int × Int) : Prop := P.1 * Q.2 ≤ Q.1 * P.2
theorem sorted_ratios_ok {Ps : List (Int × Int)} (hP : ∀ P ∈ Ps, OkP P ∧ P.1.natAbs < 2 ^ 1500) (hs : (Ps.map fun P => P.2.toNat).sum ≤ 2520) (hl : Ps.length ≤ 10000) : ∃ Qs : List (Int × Int), Qs.Perm Ps ∧ Qs.Pairwise leQ ∧ m_sorted_ratios none [.lst (Ps.map paD)] = .ok (.own (.l (Qs.map paD))) none := by
  have hns : ∀ n ∈ Ps.map fun P => P.2.toNat, 0 < n := fun n hn => by
    obtain ⟨P, hp, rfl⟩ := List.mem_map.mp hn
    have := (hP P hp).1.1
    omega
  have hlc : lcmL (Ps.map fun P => P.2.toNat) < 2 ^ 3000 := by
    have h1 := lcm_le (Ps.map fun P => P.2.toNat) 1 (by decide) hns
    rw [Nat.one_mul] at h1
    have h2 : 2 ^ (Ps.map fun P => P.2.toNat).sum ≤ 2 ^ 2520 := Nat.pow_le_pow_right (by decide) hs
    have h3 : 2 ^ 2520 < 2 ^ 3000 := Nat.pow_lt_pow_right (by decide) (by decide)
    exact Nat.lt_of_le_of_lt h1 (Nat.lt_of_le_of_lt h2 h3)
  have cm := common_multipleL hns hlc (by rw [List.length_map]; omega)
  have hdv : ∀ P ∈ Ps, P.2.toNat ∣ lcmL (Ps.map fun P => P.2.toNat) := fun P hp => (foldl_lcm_dvd _ _).2 _ (List.mem_map.mpr ⟨P, hp, rfl⟩)
  have hwp : 0 < lcmL (Ps.map fun P => P.2.toNat) := foldl_lcm_pos _ _ (by decide) hns
  have enl : (Ps.map fun P => D.int P.2) = nL (Ps.map fun P => P.2.toNat) := by
    unfold nL
    rw [List.map_map]
    refine List.map_congr_left fun P hp => ?_
    have := (hP P hp).1.1
    show D.int P.2 = D.int ((P.2.toNat : Nat) : Int)
    congr 1; omega
  rw [← enl] at cm
  generalize lcmL (Ps.map fun P => P.2.toNat) = w at *
  have kr : ∀ xs : List (Int × Int), (∀ P ∈ xs, P ∈ Ps) → keysR (w : Int) (xs.map paD) = some (xs.map fun P => P.1 * ((w : Int) / P.2)) := by
    intro xs
    induction xs with
    | nil => intro _; rfl
    | cons P xs ih =>
      intro hx
      obtain ⟨⟨o1, o2⟩, o3⟩ := hP P (hx P (by simp))
      have hdP := hdv P (hx P (by simp))
      have hle := Nat.le_of_dvd hwp hdP
      have c1 : CDivB (w : Int) P.2 = true := by
        refine gd_true ⟨by omega, ?_⟩
        have hP2 : P.2.natAbs < 2 ^ 3000 := Nat.lt_of_le_of_lt (show P.2.natAbs ≤ w by omega) hlc
        have := log2_L hP2 (by decide)
        omega
      have c2 : CMulB P.1 ((w : Int) / P.2) = true := by
        have hq : ((w : Int) / P.2).natAbs ≤ w := by
          have := Int.natAbs_ediv_le_natAbs (w : Int) P.2
          rw [Int.natAbs_natCast] at this
          exact this
        exact cmulL (a := 1500) (b := 3000) o3 (Nat.lt_of_le_of_lt hq hlc) (by decide) (by decide) (by decide)
      rw [List.map_cons, List.map_cons]
      show (if CDivB (w : Int) P.2 && CMulB P.1 ((w : Int) / P.2) then (keysR (w : Int) (xs.map paD)).map (P.1 * ((w : Int) / P.2) :: ·) else none) = _
      rw [c1, c2, ih fun Q hQ => hx Q (by simp [hQ])]
      rfl
  have kr := kr Ps fun P hp => hp
  have em : (((Ps.map paD).zip (Ps.map fun P => P.1 * ((w : Int) / P.2))).mergeSort fun p q => decide (p.2 ≤ q.2)).map (·.1) = (Ps.mergeSort fun P Q => decide (P.1 * ((w : Int) / P.2) ≤ Q.1 * ((w : Int) / Q.2))).map paD := by
    rw [List.zip_map', ← List.map_mergeSort (r := fun P Q : Int × Int => decide (P.1 * ((w : Int) / P.2) ≤ Q.1 * ((w : Int) / Q.2))) (s := fun p q : D × Int => decide (p.2 ≤ q.2)) (f := fun P : Int × Int => (paD P, P.1 * ((w : Int) / P.2))) (fun a _ b _ => rfl), List.map_map]
    rfl
  refine ⟨Ps.mergeSort fun P Q => decide (P.1 * ((w : Int) / P.2) ≤ Q.1 * ((w : Int) / Q.2)), List.mergeSort_perm _ _, ?_, ?_⟩
  · have pw := List.pairwise_mergeSort (le := fun P Q : Int × Int => decide (P.1 * ((w : Int) / P.2) ≤ Q.1 * ((w : Int) / Q.2))) (fun a b c h1 h2 => by
      have h1 := of_decide_eq_true h1
      have h2 := of_decide_eq_true h2
      exact decide_eq_true (Int.le_trans h1 h2)) (fun a b => by
      rcases Int.le_total (a.1 * ((w : Int) / a.2)) (b.1 * ((w : Int) / b.2)) with z | z
      · rw [decide_eq_true z]; rfl
      · rw [decide_eq_true z, Bool.or_true]) Ps
    refine List.Pairwise.imp_of_mem (fun {P Q} hp hq h => ?_) pw
    have hp := (List.mergeSort_perm Ps _).mem_iff.mp hp
    have hq := (List.mergeSort_perm Ps _).mem_iff.mp hq
    have h := of_decide_eq_true h
    have p1 := (hP P hp).1.1
    have q1 := (hP Q hq).1.1
    have dP : (w : Int) / P.2 * P.2 = w := Int.ediv_mul_cancel (by
      have := hdv P hp
      have e : P.2 = ((P.2.toNat : Nat) : Int) := by omega
      rw [e]; exact Int.natCast_dvd_natCast.mpr this)
    have dQ : (w : Int) / Q.2 * Q.2 = w := Int.ediv_mul_cancel (by
      have := hdv Q hq
      have e : Q.2 = ((Q.2.toNat : Nat) : Int) := by omega
      rw [e]; exact Int.natCast_dvd_natCast.mpr this)
    generalize (w : Int) / P.2 = x at *
    generalize (w : Int) / Q.2 = y at *
    have m := Int.mul_le_mul_of_nonneg_right h (show 0 ≤ P.2 * Q.2 from Int.mul_nonneg (by omega) (by omega))
    have e1 : P.1 * x * (P.2 * Q.2) = P.1 * Q.2 * (x * P.2) := by ac_rfl
    have e2 : Q.1 * y * (P.2 * Q.2) = Q.1 * P.2 * (y * Q.2) := by ac_rfl
    rw [e1, e2, dP, dQ] at m
    exact Int.le_of_mul_le_mul_right m (by omega)
  · have hrq : ∀ P ∈ Ps, m_require_ratio none [paD P] = .ok (.imm .non) none := fun P hp => req_ratio_low (hP P hp).1.1 (hP P hp).1.2
    clear hlc hdv hwp hns hP
    have loop : ∀ (xs : List (Int × Int)), (∀ P ∈ xs, P ∈ Ps) → ∀ s1 : Option TS.R, ∃ r1, forL (tName 1) g_sorted_ratios_1B (xs.map paD) [some (.imm (.lst (Ps.map paD))), s1, none, none] = .nx [some (.imm (.lst (Ps.map paD))), r1, none, none] := by
      intro xs
      induction xs with
      | nil => intro _ s1; exact ⟨s1, by simp [forL]⟩
      | cons P xs ih =>
        intro hx s1
        obtain ⟨r1, e⟩ := ih (fun Q hQ => hx Q (by simp [hQ])) (some (.imm (paD P)))
        have rq := hrq P (hx P (by simp))
        refine ⟨r1, ?_⟩
        rw [← e, List.map_cons]
        generalize paD P = X at *
        generalize Ps.map paD = PD at *
        simp [forL, rq]
    obtain ⟨r1, lp⟩ := loop Ps (fun P hp => hp) none
    have lc : ∀ s1 : Option TS.R, freeS [some (.imm (.lst (Ps.map paD))), s1, none, none] 1 = true → fLc (stName 1) [1] (itSeq (vI 0)) tTrue (frz (fBin gIx (vI 1) (kD (.int 1)))) [some (.imm (.lst (Ps.map paD))), s1, none, none] = .ok (.own (.l (Ps.map fun P => D.int P.2))) [some (.imm (.lst (Ps.map paD))), s1, none, none] := fun s1 hf =>
      lc_all (xs := Ps) (inj := paD) (fun P => .int P.2) [some (.imm (.lst (Ps.map paD))), none, none, none] (by
        generalize Ps.map paD = PD at *
        simp) (by simp [hf]) rfl (by
        cases s1 with
        | none => rfl
        | some r => rfl) (by omega) (fun P _ => ⟨[some (.imm (.lst (Ps.map paD))), some (.imm (paD P)), none, none], rfl, by
          have e : gIx (paD P) (.int 1) = some (.imm (.int P.2)) := rfl
          generalize paD P = X at *
          generalize Ps.map paD = PD at *
          simp [e], rfl⟩)
    have hfr : freeS [some (.imm (.lst (Ps.map paD))), r1, none, none] 1 = true := by
      have : r1 = none ∨ ∃ d, r1 = some (.imm d) := by
        have key : ∀ (xs : List (Int × Int)) (s1 r1 : Option TS.R), (s1 = none ∨ ∃ d, s1 = some (.imm d)) → forL (tName 1) g_sorted_ratios_1B (xs.map paD) [some (.imm (.lst (Ps.map paD))), s1, none, none] = .nx [some (.imm (.lst (Ps.map paD))), r1, none, none] → (∀ P ∈ xs, P ∈ Ps) → (r1 = none ∨ ∃ d, r1 = some (.imm d)) := by
          intro xs
          induction xs with
          | nil =>
            intro s1 r1 h e _
            simp [forL] at e
            rw [← e]; exact h
          | cons P xs ih =>
            intro s1 r1 _ e hx
            refine ih (some (.imm (paD P))) r1 (.inr ⟨_, rfl⟩) ?_ fun Q hQ => hx Q (by simp [hQ])
            rw [← e, List.map_cons]
            have rq := hrq P (hx P (by simp))
            generalize paD P = X at *
            generalize Ps.map paD = PD at *
            simp [forL, rq]
        exact key Ps none r1 (.inl rfl) lp fun P hp => hp
      rcases this with rfl | ⟨d, rfl⟩ <;> rfl
    have lc := lc r1 hfr
    have it : itSeq (vI 0) [some (.imm (.lst (Ps.map paD))), none, none, none] = .ok (Ps.map paD) [some (.imm (.lst (Ps.map paD))), none, none, none] := by
      generalize Ps.map paD = PD at *
      simp
    have fin : fSortR 3 (vI 0) [some (.imm (.lst (Ps.map paD))), r1, some (.own (.l (Ps.map fun P => D.int P.2))), some (.imm (.int (w : Int)))] = .ok (.own (.l ((Ps.mergeSort fun P Q => decide (P.1 * ((w : Int) / P.2) ≤ Q.1 * ((w : Int) / Q.2))).map paD))) [some (.imm (.lst (Ps.map paD))), r1, some (.own (.l (Ps.map fun P => D.int P.2))), some (.imm (.int (w : Int)))] := by
      unfold fSortR
      have e : vI 0 [some (.imm (.lst (Ps.map paD))), r1, some (.own (.l (Ps.map fun P => D.int P.2))), some (.imm (.int (w : Int)))] = .ok (.lst (Ps.map paD)) [some (.imm (.lst (Ps.map paD))), r1, some (.own (.l (Ps.map fun P => D.int P.2))), some (.imm (.int (w : Int)))] := by simp
      rw [e, Res.bind_ok]
      dsimp only [List.getElem?_cons_succ, List.getElem?_cons_zero]
      rw [kr]
      dsimp only
      rw [em]
    generalize (Ps.mergeSort fun P Q => decide (P.1 * ((w : Int) / P.2) ≤ Q.1 * ((w : Int) / Q.2))).map paD = RES at *
    clear em kr loop
    generalize (Ps.map fun P => D.int P.2) = DN at *
    generalize Ps.map paD = PD at *
    generalize (w : Int) = W at *
    (unfold m_sorted_ratios g_sorted_ratios; unfold mir; rw [if_pos (by simp [ioN])]; simp only [ini, ioS, ioN, List.replicate, List.map_cons, List.map_nil, List.length_cons, List.length_nil, List.nil_append, List.cons_append, Nat.zero_add, Nat.reduceAdd, Nat.reduceSub])
    rw [ap_sSeq, show g_sorted_ratios_1 _ = _ from for_st it lp, SR.bind_nx]
    (rw [ap_sSeq]; (conv in (SR.bind _ _) => (arg 1; simp [lc])); (try rw [SR.bind_nx]))
    (rw [ap_sSeq]; (conv in (SR.bind _ _) => (arg 1; simp [cm])); (try rw [SR.bind_nx]))
    unfold g_sorted_ratios_4
    rw [ap_sRet, fin]
    rfl
end
end K47

namespace K47
open PySem L2 TS
noncomputable section
-- needs: prof2
set_option exponentiation.threshold 6000
theorem zipM {α : Type} (a b : α → D) : ∀ l : List α, zipD (l.map a) (l.map b) = l.map fun x => .tup [a x, b x]
  | [] => rfl
  | x :: l => by simp only [List.map_cons, zipD, zipM a b l]
theorem shaped_t (xs : List Int) : SeqAt.shaped (.tuple (xs.map PyData.int)) = true := by
  have := depth_ints xs
  unfold SeqAt.shaped
  rw [Bool.and_eq_true]
  refine ⟨by simp only [PyData.canLay0]; exact canLay_ints xs, decide_eq_true ?_⟩
  simp only [PyData.depth]
  omega
theorem toP_t (xs : List Int) : toP (.tup (iL xs)) = some (.tuple (xs.map PyData.int)) := by
  unfold toP; rw [toPs_ints]; rfl
theorem gEq_t (xs ys : List Int) : gEq (.tup (iL xs)) (.tup (iL ys)) = some (.imm (.bl (decide (xs = ys)))) := by
  simp only [gEq, toP_t, shaped_t, Bool.and_self, if_true, PyData.eqv, eqvAll_ints]
theorem gNe_t (xs ys : List Int) : gNe (.tup (iL xs)) (.tup (iL ys)) = some (.imm (.bl (!decide (xs = ys)))) := by
  simp only [gNe, toP_t, shaped_t, Bool.and_self, if_true, PyData.eqv, eqvAll_ints]
theorem gEq_pa (P : Int × Int) (a b : Int) : gEq (paD P) (.tup (([a, b] : List Int).map D.int)) = some (.imm (.bl (decide (P = (a, b))))) := by
  have := gEq_t [P.1, P.2] [a, b]
  have e : decide ([P.1, P.2] = [a, b]) = decide (P = (a, b)) := by
    rw [decide_eq_decide]
    constructor
    · intro h
      injection h with h1 h2
      injection h2 with h2 _
      exact Prod.ext h1 h2
    · intro h; rw [h]
  rw [e] at this
  exact this
theorem gNe_pa (P : Int × Int) (a b : Int) : gNe (paD P) (.tup (([a, b] : List Int).map D.int)) = some (.imm (.bl (!decide (P = (a, b))))) := by
  have := gNe_t [P.1, P.2] [a, b]
  have e : decide ([P.1, P.2] = [a, b]) = decide (P = (a, b)) := by
    rw [decide_eq_decide]
    constructor
    · intro h
      injection h with h1 h2
      injection h2 with h2 _
      exact Prod.ext h1 h2
    · intro h; rw [h]
  rw [e] at this
  exact this
theorem keysD_map (Ps : List (Int × Int)) : (Ps.map paK).map keysD = Ps.map paD := by rw [List.map_map]; rfl
theorem keyD_map (Ys : List Int) : (Ys.map (Sum.inl : Int → Key)).map keyD = Ys.map D.int := by rw [List.map_map]; rfl
section
variable {Ps : List (Int × Int)} {many : Int × Int → Int} {Ys : List Int} {den : Int → Int × Int}
theorem are_lines_ok (h : ∀ P ∈ Ps, OkP P ∧ P.1 ≠ 0 ∧ 1 ≤ many P) : m_are_lines none [.dT (Ps.map paK) (Ps.map fun P => .int (many P))] = .ok (.imm (.bl true)) none := by
  have loop : ∀ (xs : List (Int × Int)), (∀ P ∈ xs, P ∈ Ps) → ∀ (A s1 s2 : Option TS.R), ∃ r1 r2, forL (tTup 2 (tsCons (tName 1) (tsCons (tName 2) tsNil))) g_are_lines_2B (xs.map fun P => .tup [paD P, .int (many P)]) [A, s1, s2] = .nx [A, r1, r2] := by
    intro xs
    induction xs with
    | nil => intro _ A s1 s2; exact ⟨s1, s2, by simp [forL]⟩
    | cons P xs ih =>
      intro hx A s1 s2
      obtain ⟨o1, o2, o3⟩ := h P (hx P (by simp))
      obtain ⟨r1, r2, e⟩ := ih (fun Q hQ => hx Q (by simp [hQ])) A (some (.imm (paD P))) (some (.imm (.int (many P))))
      refine ⟨r1, r2, ?_⟩
      have rq : m_is_ratio none [paD P] = .ok (.imm (.bl true)) none := is_ratio_low o1.1 o1.2
      have iq := is_integer_ok (many P)
      have ne := gEq_pa P 0 1
      rw [show decide (P = (0, 1)) = false from decide_eq_false fun z => o2 (by rw [z])] at ne
      rw [← e, List.map_cons]
      have lt : ¬ many P < 1 := by omega
      generalize (xs.map fun P => D.tup [paD P, .int (many P)]) = XS at *
      generalize paD P = X at *
      generalize many P = k at *
      have ne : gEq X (.tup [.int 0, .int 1]) = some (.imm (.bl false)) := ne
      have tt : tTup 2 (tsCons (tName 1) (tsCons (tName 2) tsNil)) (.imm (.tup [X, .int k])) [A, s1, s2] = .nx [A, some (.imm X), some (.imm (.int k))] := by simp
      have bd : g_are_lines_2B [A, some (.imm X), some (.imm (.int k))] = .nx [A, some (.imm X), some (.imm (.int k))] := by simp [rq, iq, ne, lt]
      rw [forL, tt, SR.bind_nx, bd]
  obtain ⟨r1, r2, lp⟩ := loop Ps (fun P hp => hp) (some (.imm (.dT (Ps.map paK) (Ps.map fun P => .int (many P))))) none none
  have it : itItems (vI 0) [some (.imm (.dT (Ps.map paK) (Ps.map fun P => .int (many P)))), none, none] = .ok (Ps.map fun P => .tup [paD P, .int (many P)]) [some (.imm (.dT (Ps.map paK) (Ps.map fun P => .int (many P)))), none, none] := by
    have := zipM paD (fun P => D.int (many P)) Ps
    rw [← this, ← keysD_map]
    generalize Ps.map paK = K at *
    generalize (Ps.map fun P => D.int (many P)) = V at *
    simp [itItems]
  generalize Ps.map paK = K at *
  generalize (Ps.map fun P => D.int (many P)) = V at *
  (unfold m_are_lines g_are_lines; unfold mir; rw [if_pos (by simp [ioN])]; simp only [ini, ioS, ioN, List.replicate, List.map_cons, List.map_nil, List.length_cons, List.length_nil, List.nil_append, List.cons_append, Nat.zero_add, Nat.reduceAdd, Nat.reduceSub])
  (rw [ap_sSeq]; (conv in (SR.bind _ _) => (arg 1; simp [fIsiD])); (try rw [SR.bind_nx]))
  rw [ap_sSeq, show g_are_lines_2 _ = _ from for_st it lp, SR.bind_nx]
  simp [outR, ioOut]
theorem are_rounds_ok (h : ∀ z ∈ Ys, 1 ≤ z ∧ OkP (den z) ∧ 1 ≤ (den z).1) : m_are_rounds none [.dK (Ys.map .inl) (Ys.map fun z => paD (den z))] = .ok (.imm (.bl true)) none := by
  have loop : ∀ (xs : List Int), (∀ P ∈ xs, P ∈ Ys) → ∀ (A s1 s2 : Option TS.R), ∃ r1 r2, forL (tTup 2 (tsCons (tName 1) (tsCons (tName 2) tsNil))) g_are_rounds_2B (xs.map fun z => .tup [.int z, paD (den z)]) [A, s1, s2] = .nx [A, r1, r2] := by
    intro xs
    induction xs with
    | nil => intro _ A s1 s2; exact ⟨s1, s2, by simp [forL]⟩
    | cons z xs ih =>
      intro hx A s1 s2
      obtain ⟨o1, o2, o3⟩ := h z (hx z (by simp))
      obtain ⟨r1, r2, e⟩ := ih (fun Q hQ => hx Q (by simp [hQ])) A (some (.imm (.int z))) (some (.imm (paD (den z))))
      refine ⟨r1, r2, ?_⟩
      have rq : m_is_ratio none [paD (den z)] = .ok (.imm (.bl true)) none := is_ratio_low o2.1 o2.2
      have iq := is_integer_ok z
      have ix : gIx (paD (den z)) (.int 0) = some (.imm (.int (den z).1)) := rfl
      rw [← e, List.map_cons]
      have lt : ¬ z < 1 := by omega
      have lt2 : ¬ (den z).1 < 1 := by omega
      generalize (xs.map fun z => D.tup [.int z, paD (den z)]) = XS at *
      generalize paD (den z) = X at *
      generalize (den z).1 = k at *
      have tt : tTup 2 (tsCons (tName 1) (tsCons (tName 2) tsNil)) (.imm (.tup [.int z, X])) [A, s1, s2] = .nx [A, some (.imm (.int z)), some (.imm X)] := by simp
      have bd : g_are_rounds_2B [A, some (.imm (.int z)), some (.imm X)] = .nx [A, some (.imm (.int z)), some (.imm X)] := by simp [rq, iq, ix, lt, lt2]
      rw [forL, tt, SR.bind_nx, bd]
  obtain ⟨r1, r2, lp⟩ := loop Ys (fun P hp => hp) (some (.imm (.dK (Ys.map .inl) (Ys.map fun z => paD (den z))))) none none
  have it : itItems (vI 0) [some (.imm (.dK (Ys.map .inl) (Ys.map fun z => paD (den z)))), none, none] = .ok (Ys.map fun z => .tup [.int z, paD (den z)]) [some (.imm (.dK (Ys.map .inl) (Ys.map fun z => paD (den z)))), none, none] := by
    have := zipM D.int (fun z => paD (den z)) Ys
    rw [← this, ← keyD_map]
    generalize (Ys.map fun z => paD (den z)) = V at *
    generalize Ys.map (Sum.inl : Int → Key) = K at *
    simp [itItems]
  generalize Ys.map (Sum.inl : Int → Key) = K at *
  generalize (Ys.map fun z => paD (den z)) = V at *
  have hd : is_dict (.inl "dict") = some true := by decide +kernel
  (unfold m_are_rounds g_are_rounds; unfold mir; rw [if_pos (by simp [ioN])]; simp only [ini, ioS, ioN, List.replicate, List.map_cons, List.map_nil, List.length_cons, List.length_nil, List.nil_append, List.cons_append, Nat.zero_add, Nat.reduceAdd, Nat.reduceSub])
  (rw [ap_sSeq]; (conv in (SR.bind _ _) => (arg 1; simp [fIsiD, tagD, hd])); (try rw [SR.bind_nx]))
  rw [ap_sSeq, show g_are_rounds_2 _ = _ from for_st it lp, SR.bind_nx]
  simp [outR, ioOut]
end
structure PrF (N : Int) (Ps : List (Int × Int)) (many nP : Int × Int → Int) (Ys : List Int) (cnt : Int → Int) : Prop where
  N0 : 0 < N
  N2 : N ≤ 2520
  ok : ∀ P ∈ Ps, OkP P ∧ P.1 ≠ 0 ∧ P.1.natAbs < 2 ^ 1500
  ml : ∀ P ∈ Ps, 1 ≤ many P ∧ (many P).natAbs < 2 ^ 1500
  nl : ∀ P ∈ Ps, P.2 ≤ nP P
  mn : ∀ P ∈ Ps, many P * P.2 * N = nP P * (P.1.natAbs : Int)
  yl : ∀ z ∈ Ys, 1 ≤ z ∧ 1 ≤ cnt z
  sm : (Ps.map nP).sum + (Ys.map fun z => z * cnt z).sum = N
  nd : Ps.Nodup
  nd2 : Ys.Nodup
  l1 : Ps.length ≤ 2520
  l2 : Ys.length ≤ 2520
theorem sum_nn : ∀ {xs : List Int}, (∀ x ∈ xs, 0 ≤ x) → 0 ≤ xs.sum
  | [], _ => by simp
  | x :: xs, h => by
    have h1 := h x (by simp)
    have h2 := sum_nn (xs := xs) fun y hy => h y (by simp [hy])
    rw [List.sum_cons]; omega
theorem sum_ge : ∀ {xs : List Int} {x : Int}, (∀ x ∈ xs, 0 ≤ x) → x ∈ xs → x ≤ xs.sum
  | [], _, _, h => by simp at h
  | y :: xs, x, h, hm => by
    have h2 := sum_nn (xs := xs) fun y hy => h y (by simp [hy])
    have h3 := h y (by simp)
    rw [List.sum_cons]
    rcases List.mem_cons.mp hm with rfl | z
    · omega
    · have := sum_ge (fun y hy => h y (by simp [hy])) z
      omega
section
variable {N : Int} {Ps : List (Int × Int)} {many nP : Int × Int → Int} {Ys : List Int} {cnt : Int → Int}
theorem PrF.bd (F : PrF N Ps many nP Ys cnt) : (∀ P ∈ Ps, 1 ≤ P.2 ∧ P.2 ≤ 2520) ∧ (∀ z ∈ Ys, 1 ≤ z ∧ z ≤ 2520 ∧ 1 ≤ cnt z ∧ cnt z ≤ 2520) ∧ (Ps.map fun P => P.2.toNat).sum ≤ 2520 := by
  have a1 : ∀ x ∈ Ps.map nP, 0 ≤ x := fun x hx => by
    obtain ⟨P, hp, rfl⟩ := List.mem_map.mp hx
    have := F.nl P hp
    have := (F.ok P hp).1.1
    omega
  have a2 : ∀ x ∈ Ys.map fun z => z * cnt z, 0 ≤ x := fun x hx => by
    obtain ⟨z, hz, rfl⟩ := List.mem_map.mp hx
    obtain ⟨y1, y2⟩ := F.yl z hz
    exact Int.mul_nonneg (by omega) (by omega)
  have s1 := sum_nn a1
  have s2 := sum_nn a2
  have s3 := F.sm
  have n2 := F.N2
  refine ⟨fun P hp => ?_, fun z hz => ?_, ?_⟩
  · have := sum_ge a1 (List.mem_map.mpr ⟨P, hp, rfl⟩)
    have := F.nl P hp
    have := (F.ok P hp).1.1
    omega
  · have := sum_ge a2 (List.mem_map.mpr ⟨z, hz, rfl⟩)
    obtain ⟨y1, y2⟩ := F.yl z hz
    have m1 : z * 1 ≤ z * cnt z := Int.mul_le_mul_of_nonneg_left (by omega) (by omega)
    have m2 : 1 * cnt z ≤ z * cnt z := Int.mul_le_mul_of_nonneg_right (by omega) (by omega)
    omega
  · have key : ∀ l : List (Int × Int), (∀ P ∈ l, P ∈ Ps) → (((l.map fun P => P.2.toNat).sum : Nat) : Int) ≤ (l.map nP).sum := by
      intro l
      induction l with
      | nil => intro _; simp
      | cons P l ih =>
        intro hl
        have := ih fun Q hQ => hl Q (by simp [hQ])
        have := F.nl P (hl P (by simp))
        have := (F.ok P (hl P (by simp))).1.1
        rw [List.map_cons, List.map_cons, List.sum_cons, List.sum_cons]
        omega
    have := key Ps fun P hp => hp
    omega
theorem PrF.perm (F : PrF N Ps many nP Ys cnt) {Qs : List (Int × Int)} (h : Qs.Perm Ps) : Qs.Nodup := h.nodup_iff.mpr F.nd
end
end
end K47

namespace K47
open PySem L2 TS
noncomputable section
-- needs: prof3 trup
set_option exponentiation.threshold 6000
abbrev prD (Qs : List (Int × Int)) (many : Int × Int → Int) (Ys : List Int) (den : Int → Int × Int) : List D := [.dT (Qs.map paK) (Qs.map fun P => .int (many P)), .dK (Ys.map .inl) (Ys.map fun z => paD (den z))]
theorem paK_nd {Ps : List (Int × Int)} (h : Ps.Nodup) : (Ps.map paK).Nodup := by
  induction Ps with
  | nil => simp
  | cons P Ps ih =>
    rw [List.nodup_cons] at h
    rw [List.map_cons, List.nodup_cons]
    refine ⟨fun hm => ?_, ih h.2⟩
    obtain ⟨Q, hq, e⟩ := List.mem_map.mp hm
    exact h.1 (paK_inj e ▸ hq)
theorem inl_nd {Ys : List Int} (h : Ys.Nodup) : (Ys.map (Sum.inl : Int → Key)).Nodup := by
  induction Ys with
  | nil => simp
  | cons P Ps ih =>
    rw [List.nodup_cons] at h
    rw [List.map_cons, List.nodup_cons]
    refine ⟨fun hm => ?_, ih h.2⟩
    obtain ⟨Q, hq, e⟩ := List.mem_map.mp hm
    exact h.1 (Sum.inl.inj e ▸ hq)
theorem look_pa (g : Int × Int → D) : ∀ {Ps : List (Int × Int)} {P : Int × Int}, P ∈ Ps → lookD (Ps.map paK) (Ps.map g) (paK P) = some (g P)
  | Q :: Ps, P, h => by
    simp only [List.map_cons, lookD]
    by_cases e : Q = P
    · rw [if_pos (by rw [e]), e]
    · rw [if_neg fun z => e (paK_inj z)]
      rcases List.mem_cons.mp h with z | z
      · exact absurd z.symm e
      · exact look_pa g z
theorem look_in (g : Int → D) : ∀ {Ys : List Int} {z : Int}, z ∈ Ys → lookD (Ys.map (Sum.inl : Int → Key)) (Ys.map g) (.inl z) = some (g z)
  | y :: Ys, z, h => by
    simp only [List.map_cons, lookD]
    by_cases e : y = z
    · rw [if_pos (by rw [e]), e]
    · rw [if_neg fun w => e (Sum.inl.inj w)]
      rcases List.mem_cons.mp h with w | w
      · exact absurd w.symm e
      · exact look_in g w
section
variable {N : Int} {Ps : List (Int × Int)} {many nP : Int × Int → Int} {Ys : List Int} {cnt : Int → Int}
end
end
end K47

namespace K47
open PySem L2 TS
noncomputable section
-- needs: prof4
set_option exponentiation.threshold 6000
def qP (r : Rat) : Int × Int := (r.num, (r.den : Int))
theorem qP_ok (r : Rat) : OkP (qP r) := ⟨by have := r.den_pos; show (1 : Int) ≤ (r.den : Int); omega, by
  show Nat.gcd r.num.natAbs ((r.den : Int)).natAbs = 1
  rw [Int.natAbs_natCast]; exact r.reduced⟩
theorem low_div {a b : Int} (hb : 0 < b) : low a b = qP (Rat.divInt a b) := by
  have e1 := Rat.num_divInt a b
  have e2 := Rat.den_divInt a b
  rw [if_neg (by omega)] at e2
  rw [Int.sign_eq_one_of_pos hb, Int.one_mul] at e1
  have g : b.gcd a = Nat.gcd a.natAbs b.natAbs := by rw [Int.gcd_comm]; rfl
  rw [g] at e1 e2
  unfold low qP
  rw [e1, e2, Int.natCast_ediv, Int.natAbs_of_nonneg (by omega)]
theorem div_qP (r : Rat) : Rat.divInt (qP r).1 (qP r).2 = r := Rat.num_divInt_den r
theorem qP_inj {r s : Rat} (h : qP r = qP s) : r = s := by rw [← div_qP r, h, div_qP]
def bq (B : Nat) (r : Rat) : Prop := r.num.natAbs < 2 ^ B ∧ r.den < 2 ^ B
theorem bq.mono {A B : Nat} {r : Rat} (h : bq A r) (l : A ≤ B) : bq B r := ⟨Nat.lt_of_lt_of_le h.1 (Nat.pow_le_pow_right (by decide) l), Nat.lt_of_lt_of_le h.2 (Nat.pow_le_pow_right (by decide) l)⟩
theorem bq_div {a b : Int} {B : Nat} (hb : 0 < b) (h1 : a.natAbs < 2 ^ B) (h2 : b.natAbs < 2 ^ B) : bq B (Rat.divInt a b) := by
  obtain ⟨l1, l2, l3⟩ := low_le (a := a) hb
  rw [low_div hb] at l1 l2 l3
  have l2 : ((Rat.divInt a b).den : Int) ≤ b := l2
  have l3 : (Rat.divInt a b).num.natAbs ≤ a.natAbs := l3
  exact ⟨by omega, by omega⟩
theorem add_div (r s : Rat) : r + s = Rat.divInt (r.num * s.den + s.num * r.den) (r.den * s.den) := by
  have h := Rat.divInt_add_divInt r.num s.num (d₁ := (r.den : Int)) (d₂ := (s.den : Int)) (by have := r.den_pos; omega) (by have := s.den_pos; omega)
  rw [Rat.num_divInt_den, Rat.num_divInt_den] at h
  exact h
theorem bq_add {A B : Nat} {r s : Rat} (h : bq A r) (k : bq B s) : bq (A + B + 1) (r + s) := by
  rw [add_div]
  have p : ∀ {a b : Nat}, a < 2 ^ A → b < 2 ^ B → a * b < 2 ^ (A + B) := fun ha hb => by
    rw [Nat.pow_add]; exact Nat.mul_lt_mul'' ha hb
  have d : r.den * s.den < 2 ^ (A + B) := p h.2 k.2
  have n1 : (r.num * s.den).natAbs < 2 ^ (A + B) := by rw [Int.natAbs_mul, Int.natAbs_natCast]; exact p h.1 k.2
  have n2 : (s.num * r.den).natAbs < 2 ^ (A + B) := by rw [Int.natAbs_mul, Int.natAbs_natCast, Nat.mul_comm]; exact p h.2 k.1
  have e : (2 : Nat) ^ (A + B + 1) = 2 ^ (A + B) + 2 ^ (A + B) := by rw [Nat.pow_succ]; omega
  have dp : 0 < r.den * s.den := Nat.mul_pos r.den_pos s.den_pos
  refine bq_div ?_ (by rw [e]; omega) ?_
  · have : ((r.den * s.den : Nat) : Int) = (r.den : Int) * s.den := Int.natCast_mul _ _
    omega
  · rw [Int.natAbs_mul, Int.natAbs_natCast, Int.natAbs_natCast, e]; omega
theorem req_q (r : Rat) : m_require_ratio none [paD (qP r)] = .ok (.imm .non) none := req_ratio_low (qP_ok r).1 (qP_ok r).2
theorem pw2 {a b : Nat} (h : a ≤ b) : (2 : Nat) ^ a ≤ 2 ^ b := Nat.pow_le_pow_right (by decide) h
theorem ratio_sum_q {B : Nat} (hB : B ≤ 900) : ∀ {rs : List Rat}, (∀ r ∈ rs, bq B r) → rs.length * (B + 1) + B ≤ 1900 → m_ratio_sum none (rs.map fun r => paD (qP r)) = .ok (.imm (paD (qP rs.sum))) none := by
  intro ns hb0 hl
  have loop1 : ∀ (xs : List Rat) (A s1 s2 s3 s4 s5 : Option TS.R), ∃ r1, forL (tName 1) g_ratio_sum_1B (xs.map fun n => paD (qP n)) [A, s1, s2, s3, s4, s5] = .nx [A, r1, s2, s3, s4, s5] := by
    intro xs
    induction xs with
    | nil => intro A s1 s2 s3 s4 s5; exact ⟨s1, by simp [forL]⟩
    | cons x xs ih =>
      intro A s1 s2 s3 s4 s5
      obtain ⟨r1, e⟩ := ih A (some (.imm (paD (qP x)))) s2 s3 s4 s5
      refine ⟨r1, ?_⟩
      have rq := req_q x
      rw [← e, List.map_cons]
      generalize paD (qP x) = X at *
      simp [forL, rq]
  have loop2 : ∀ (xs : List Rat) (a : Rat) (C : Nat), (∀ n ∈ xs, bq B n) → bq C a → C + xs.length * (B + 1) ≤ 1901 → ∀ (A s1 s4 s5 : Option TS.R), ∃ r4 r5, forL (tTup 2 (tsCons (tName 4) (tsCons (tName 5) tsNil))) g_ratio_sum_3B (xs.map fun n => paD (qP n)) [A, s1, some (.imm (.int (qP a).1)), some (.imm (.int (qP a).2)), s4, s5] =
      .nx [A, s1, some (.imm (.int (qP (a + xs.sum)).1)), some (.imm (.int (qP (a + xs.sum)).2)), r4, r5] := by
    intro xs
    induction xs with
    | nil => intro a C _ _ _ A s1 s4 s5; exact ⟨s4, s5, by simp [forL, Rat.add_zero]⟩
    | cons x xs ih =>
      intro a C hx ha hsum A s1 s4 s5
      have x0 := hx x (by simp)
      rw [List.sum_cons, ← Rat.add_assoc]
      rw [List.length_cons, Nat.add_mul, Nat.one_mul] at hsum
      obtain ⟨r4, r5, e⟩ := ih (a + x) (C + B + 1) (fun n hn => hx n (by simp [hn])) (bq_add ha x0) (by omega) A s1 (some (.imm (.int (qP x).1))) (some (.imm (.int (qP x).2)))
      refine ⟨r4, r5, ?_⟩
      rw [← e]
      have d1 : 0 < (a.den : Int) * x.den := Int.mul_pos (by have := a.den_pos; omega) (by have := x.den_pos; omega)
      have cb := pw2 (show C ≤ 1901 by omega)
      have bb := pw2 (show B ≤ 900 by omega)
      have e0 : (2 : Nat) ^ 1901 < 2 ^ 3000 := Nat.pow_lt_pow_right (by decide) (by decide)
      have e9 : (2 : Nat) ^ 900 < 2 ^ 3000 := Nat.pow_lt_pow_right (by decide) (by decide)
      have a1 : a.num.natAbs < 2 ^ 3000 := by have := ha.1; omega
      have a2 : ((a.den : Int)).natAbs < 2 ^ 3000 := by rw [Int.natAbs_natCast]; have := ha.2; omega
      have x1 : x.num.natAbs < 2 ^ 3000 := by have := x0.1; omega
      have x2 : ((x.den : Int)).natAbs < 2 ^ 3000 := by rw [Int.natAbs_natCast]; have := x0.2; omega
      have lo := low_okW (a := a.num * x.den + x.num * a.den) (b := (a.den : Int) * x.den) d1 (by
        rw [Int.natAbs_mul, Int.natAbs_natCast, Int.natAbs_natCast]
        have := Nat.mul_lt_mul'' ha.2 x0.2
        rw [← Nat.pow_add] at this
        exact Nat.lt_of_lt_of_le this (pw2 (by omega)))
      rw [low_div d1, ← add_div] at lo
      have m1 := gMul_L (i := a.num) (j := (x.den : Int)) a1 x2
      have m2 := gMul_L (i := x.num) (j := (a.den : Int)) x1 a2
      have m3 := gMul_L (i := (a.den : Int)) (j := (x.den : Int)) a2 x2
      have q1 : (qP a).1 = a.num := rfl
      have q2 : (qP a).2 = (a.den : Int) := rfl
      have q3 : paD (qP x) = .tup [.int x.num, .int (x.den : Int)] := rfl
      have q4 : (qP x).1 = x.num := rfl
      have q5 : (qP x).2 = (x.den : Int) := rfl
      rw [List.map_cons, q1, q2, q3]
      rw [q4, q5]
      clear e q1 q2 q3 q4 q5 ih
      generalize (xs.map fun n => paD (qP n)) = XS at *
      generalize (qP (a + x)).1 = t2 at *
      generalize (qP (a + x)).2 = b2 at *
      generalize a.num = t at *
      generalize (a.den : Int) = b at *
      generalize x.num = p at *
      generalize (x.den : Int) = q at *
      generalize t * q = w1 at *
      generalize p * b = w2 at *
      generalize b * q = w3 at *
      generalize hw4 : w1 + w2 = w4 at *
      simp [forL, m1, m2, m3, hw4, lo]
  obtain ⟨r1, l1⟩ := loop1 ns (some (.imm (.tup (ns.map fun n => paD (qP n))))) none none none none none
  obtain ⟨r4, r5, l2⟩ := loop2 ns 0 1 hb0 ⟨by decide, by decide⟩ (by omega) (some (.imm (.tup (ns.map fun n => paD (qP n))))) r1 none none
  rw [Rat.zero_add] at l2
  have l2 : forL _ g_ratio_sum_3B _ [_, _, some (.imm (.int 0)), some (.imm (.int 1)), none, none] = _ := l2
  have nl : ns.length ≤ 1901 := by
    have : ns.length * 1 ≤ ns.length * (B + 1) := Nat.mul_le_mul_left _ (by omega)
    omega
  have hd : decide (0 ≤ (ns.map fun n => paD (qP n)).length ∧ (ns.map fun n => paD (qP n)).length ≤ 16777216) = true := decide_eq_true ⟨by omega, by rw [List.length_map]; omega⟩
  have s1 : m_ratio_sum none (ns.map fun n => paD (qP n)) = mir 6 1 g_ratio_sum none [.tup (ns.map fun n => paD (qP n))] := by
    unfold m_ratio_sum fmStar
    simp only [hd, if_true, List.take_zero, List.drop_zero, List.nil_append]
  rw [s1]
  have fin : paD (qP ns.sum) = .tup [.int (qP ns.sum).1, .int (qP ns.sum).2] := rfl
  rw [fin]
  generalize (qP ns.sum).1 = u at *
  generalize (qP ns.sum).2 = v at *
  generalize (ns.map fun n => paD (qP n)) = NS at *
  rw [show mir 6 1 g_ratio_sum none [.tup NS] = outR none (g_ratio_sum [some (.imm (.tup NS)), none, none, none, none, none]) from by simp [mir, ini, ioS, ioN]]
  unfold g_ratio_sum
  have i1 : itTup (vI 0) [some (.imm (.tup NS)), none, none, none, none, none] = .ok NS [some (.imm (.tup NS)), none, none, none, none, none] := by simp
  have i2 : itTup (vI 0) [some (.imm (.tup NS)), r1, some (.imm (.int 0)), some (.imm (.int 1)), none, none] = .ok NS [some (.imm (.tup NS)), r1, some (.imm (.int 0)), some (.imm (.int 1)), none, none] := by simp
  rw [ap_sSeq, show g_ratio_sum_1 _ = _ from for_st i1 l1, SR.bind_nx]
  (rw [ap_sSeq]; (conv in (SR.bind _ _) => (arg 1; simp [])); (try rw [SR.bind_nx]))
  rw [ap_sSeq, show g_ratio_sum_3 _ = _ from for_st i2 l2, SR.bind_nx]
  simp [outR, ioOut]
theorem ratio_product_q {z : Int} {r : Rat} (hz : 0 < z) (hz2 : z.natAbs < 2 ^ 900) (hr : bq 900 r) : m_ratio_product none [.tup [.int z, .int 1], paD (qP r)] = .ok (.imm (paD (qP (Rat.divInt (z * r.num) r.den)))) none := by
  have rq1 : m_require_ratio none [.tup [.int z, .int 1]] = .ok (.imm .non) none := req_ratio_low (by decide) (Nat.gcd_one_right _)
  have rq2 := req_q r
  have e9 : (2 : Nat) ^ 900 < 2 ^ 3000 := Nat.pow_lt_pow_right (by decide) (by decide)
  have e8 : (2 : Nat) ^ 900 < 2 ^ 2000 := Nat.pow_lt_pow_right (by decide) (by decide)
  have dp := r.den_pos
  have m1 := gMul_L (i := 1) (j := z) (Nat.lt_trans (by decide) e9) (by omega)
  have m2 := gMul_i (i := 1) (j := 1) (by decide) (by decide)
  have lo1 := low_okW (a := 1 * z) (b := 1 * 1) (by decide) (Nat.lt_trans (by decide) e8)
  have l1 : low (1 * z) (1 * 1) = (z, 1) := by unfold low; simp
  rw [l1] at lo1
  have m3 := gMul_L (i := z) (j := r.num) (by omega) (by have := hr.1; omega)
  have m4 := gMul_L (i := 1) (j := (r.den : Int)) (Nat.lt_trans (by decide) e9) (by rw [Int.natAbs_natCast]; have := hr.2; omega)
  have lo2 := low_okW (a := z * r.num) (b := 1 * (r.den : Int)) (by omega) (by rw [Int.one_mul, Int.natAbs_natCast]; have := hr.2; omega)
  rw [low_div (by omega), Int.one_mul] at lo2
  rw [Int.one_mul] at m4
  have q3 : paD (qP r) = .tup [.int r.num, .int (r.den : Int)] := rfl
  rw [q3] at rq2 ⊢
  unfold paD at *
  generalize (qP (Rat.divInt (z * r.num) r.den)).1 = u at *
  generalize (qP (Rat.divInt (z * r.num) r.den)).2 = v at *
  generalize r.num = p at *
  generalize (r.den : Int) = q at *
  have hd : decide (0 ≤ [D.tup [.int z, .int 1], .tup [.int p, .int q]].length ∧ [D.tup [.int z, .int 1], .tup [.int p, .int q]].length ≤ 16777216) = true := by simp
  have s1 : m_ratio_product none [.tup [.int z, .int 1], .tup [.int p, .int q]] = mir 6 1 g_ratio_product none [.tup [.tup [.int z, .int 1], .tup [.int p, .int q]]] := by
    unfold m_ratio_product fmStar
    simp only [hd, if_true, List.take_zero, List.drop_zero, List.nil_append]
  rw [s1]
  generalize z * p = w1 at *
  generalize 1 * z = w3 at *
  generalize (1 : Int) * 1 = w4 at *
  simp [mir, ini, ioS, ioN, outR, ioOut, g_ratio_product, forL, rq1, rq2, m1, m2, m3, m4, lo1, lo2]
end
end K47

namespace K47
open PySem L2 TS
noncomputable section
-- needs: ratq
set_option exponentiation.threshold 6000
def shQ (many : Int × Int → Int) (P : Int × Int) : Rat := Rat.divInt (many P * P.2) (P.1.natAbs : Int)
def rsQ (den : Int → Rat) (z : Int) : Rat := Rat.divInt (z * (den z).num) (den z).den
structure PrG (B : Nat) (Ps : List (Int × Int)) (many : Int × Int → Int) (Ys : List Int) (den : Int → Rat) : Prop where
  ok : ∀ P ∈ Ps, OkP P ∧ P.1 ≠ 0 ∧ P.1.natAbs < 2 ^ B ∧ P.2.natAbs < 2 ^ B
  ml : ∀ P ∈ Ps, 1 ≤ many P ∧ (many P).natAbs < 2 ^ B
  yl : ∀ z ∈ Ys, 1 ≤ z ∧ z.natAbs < 2 ^ B ∧ 0 < (den z).num ∧ bq B (den z)
  nd : Ps.Nodup
  nd2 : Ys.Nodup
  bB : B ≤ 400
  sz : (Ps.length + Ys.length) * (2 * B + 1) + 2 * B ≤ 1900
  dn : (Ps.map fun P => P.2.toNat).sum ≤ 2520
def totQ (Ps : List (Int × Int)) (many : Int × Int → Int) (Ys : List Int) (den : Int → Rat) : Rat := (Ps.map (shQ many) ++ Ys.map (rsQ den)).sum
section
variable {B : Nat} {Ps : List (Int × Int)} {many : Int × Int → Int} {Ys : List Int} {den : Int → Rat}
theorem PrG.l1 (F : PrG B Ps many Ys den) : Ps.length + Ys.length ≤ 1900 := by
  have h := F.sz
  have : (Ps.length + Ys.length) * 1 ≤ (Ps.length + Ys.length) * (2 * B + 1) := Nat.mul_le_mul_left _ (by omega)
  omega
theorem pm2 {a b B : Nat} (h1 : a < 2 ^ B) (h2 : b < 2 ^ B) : a * b < 2 ^ (2 * B) := by
  rw [show 2 * B = B + B by omega, Nat.pow_add]; exact Nat.mul_lt_mul'' h1 h2
theorem PrG.sh (F : PrG B Ps many Ys den) {P : Int × Int} (hP : P ∈ Ps) : bq (2 * B) (shQ many P) := by
  obtain ⟨o1, o2, o3, o4⟩ := F.ok P hP
  obtain ⟨m1, m2⟩ := F.ml P hP
  refine bq_div (by omega) (by rw [Int.natAbs_mul]; exact pm2 m2 o4) (by rw [Int.natAbs_natCast]; exact Nat.lt_of_lt_of_le o3 (pw2 (by omega)))
theorem PrG.rs (F : PrG B Ps many Ys den) {z : Int} (hz : z ∈ Ys) : bq (2 * B) (rsQ den z) := by
  obtain ⟨o1, o2, o3, o4⟩ := F.yl z hz
  refine bq_div (by have := (den z).den_pos; omega) (by rw [Int.natAbs_mul]; exact pm2 o2 o4.1) (by rw [Int.natAbs_natCast]; exact Nat.lt_of_lt_of_le o4.2 (pw2 (by omega)))
theorem profile_sum_g (F : PrG B Ps many Ys den) {DT : D} (al : m_are_lines none [DT] = .ok (.imm (.bl true)) none) (it0 : ∀ s1 s2 s3 s4 s5 s6, itItems (vI 0) [some (.imm DT), s1, s2, s3, s4, s5, s6] = .ok (Ps.map fun P => .tup [paD P, .int (many P)]) [some (.imm DT), s1, s2, s3, s4, s5, s6]) : m_profile_sum none [DT, .dK (Ys.map .inl) (Ys.map fun z => paD (qP (den z)))] = .ok (.imm (paD (qP (totQ Ps many Ys den)))) none := by
  have l1 := F.l1
  have ar := are_rounds_ok (Ys := Ys) (den := fun z => qP (den z)) fun z hz => ⟨(F.yl z hz).1, qP_ok _, by have := (F.yl z hz).2.2.1; show 1 ≤ (den z).num; omega⟩
  have rs := ratio_sum_q (B := 2 * B) (rs := Ps.map (shQ many) ++ Ys.map (rsQ den)) (by have := F.bB; omega) (fun r hr => by
    rcases List.mem_append.mp hr with h | h
    · obtain ⟨P, hP, rfl⟩ := List.mem_map.mp h; exact F.sh hP
    · obtain ⟨z, hz, rfl⟩ := List.mem_map.mp h; exact F.rs hz) (by rw [List.length_append, List.length_map, List.length_map]; exact F.sz)
  rw [List.map_append, List.map_map, List.map_map] at rs
  have rs : m_ratio_sum none _ = .ok (.imm (paD (qP (totQ Ps many Ys den)))) none := rs
  have it1 : ∀ s1, itItems (vI 0) [some (.imm DT), s1, none, none, none, none, none] = .ok (Ps.map fun P => .tup [paD P, .int (many P)]) [some (.imm DT), s1, none, none, none, none, none] := fun s1 => it0 s1 none none none none none
  have it2 : ∀ s0 s2, itItems (vI 1) [s0, some (.imm (.dK (Ys.map .inl) (Ys.map fun z => paD (qP (den z))))), s2, none, none, none, none] = .ok (Ys.map fun z => .tup [.int z, paD (qP (den z))]) [s0, some (.imm (.dK (Ys.map .inl) (Ys.map fun z => paD (qP (den z))))), s2, none, none, none, none] := by
    intro s0 s2
    have := zipM D.int (fun z => paD (qP (den z))) Ys
    rw [← this, ← keyD_map]
    generalize (Ys.map fun z => paD (qP (den z))) = V at *
    generalize Ys.map (Sum.inl : Int → Key) = K at *
    simp [itItems]
  have c1 : ∀ s0 s1, fLc (stPair 3 4) [3, 4] (itItems (vI 0)) tTrue (frz (fOwn m_ratio (aCons (frz (fBin gMul (vI 4) (frz (fBin gIx (vI 3) (kD (.int 1)))))) (aCons (frz (fCal gAbs (aOne (frz (fBin gIx (vI 3) (kD (.int 0))))))) aNil)))) [s0, s1, none, none, none, none, none] = .ok (.own (.l (Ps.map fun P => paD (qP (shQ many P))))) [s0, s1, none, none, none, none, none] ∨ s0 ≠ some (.imm (DT)) := by
    intro s0 s1
    by_cases h0 : s0 = some (.imm (DT))
    · left
      rw [h0]
      refine lc_all (xs := Ps) (inj := fun P => .tup [paD P, .int (many P)]) (fun P => paD (qP (shQ many P))) [some (.imm (DT)), s1, none, none, none, none, none] (it1 s1) rfl rfl rfl (by omega) fun P hP => ?_
      obtain ⟨o1, o2, o3, o4⟩ := F.ok P hP
      have mP := F.ml P hP
      have pB := pw2 F.bB
      have e9 : (2 : Nat) ^ 400 < 2 ^ 3000 := Nat.pow_lt_pow_right (by decide) (by decide)
      have e8 : (2 : Nat) ^ 400 < 2 ^ 2000 := Nat.pow_lt_pow_right (by decide) (by decide)
      have m1 := gMul_L (i := many P) (j := P.2) (by omega) (by omega)
      have i1 : gIx (paD P) (.int 1) = some (.imm (.int P.2)) := rfl
      have i0 : gIx (paD P) (.int 0) = some (.imm (.int P.1)) := rfl
      have ab : gAbs [.int P.1] = some (.imm (.int (P.1.natAbs : Int))) := by simp [gAbs, ifabs]
      have ro := ratio_okW (a := many P * P.2) (b := (P.1.natAbs : Int)) (by omega) (by rw [Int.natAbs_natCast]; omega)
      rw [low_div (by omega)] at ro
      have ro : m_ratio none [.int (many P * P.2), .int (P.1.natAbs : Int)] = .ok (.imm (.tup [.int (qP (shQ many P)).1, .int (qP (shQ many P)).2])) none := ro
      refine ⟨[some (.imm (DT)), s1, none, some (.imm (paD P)), some (.imm (.int (many P))), none, none], rfl, ?_, rfl⟩
      have fin : paD (qP (shQ many P)) = .tup [.int (qP (shQ many P)).1, .int (qP (shQ many P)).2] := rfl
      rw [← fin] at ro
      generalize paD (qP (shQ many P)) = RR at *
      generalize paD P = X at *
      generalize many P * P.2 = w at *
      generalize (P.1.natAbs : Int) = w2 at *
      clear o3 o4 mP pB e9 e8
      simp [i1, i0, m1, ab, ro]
    · exact .inr h0
  have c1 := fun s1 => (c1 (some (.imm (DT))) s1).resolve_right (by simp)
  have c2 : ∀ s0 L, fLc (stPair 5 6) [5, 6] (itItems (vI 1)) tTrue (frz (fOwn m_ratio_product (aCons (fTup (aCons (vI 5) (aCons (kD (.int 1)) aNil))) (aCons (vI 6) aNil)))) [s0, some (.imm (.dK (Ys.map .inl) (Ys.map fun z => paD (qP (den z))))), some (.own (.l L)), none, none, none, none] = .ok (.own (.l (Ys.map fun z => paD (qP (rsQ den z))))) [s0, some (.imm (.dK (Ys.map .inl) (Ys.map fun z => paD (qP (den z))))), some (.own (.l L)), none, none, none, none] := by
    intro s0 L
    refine lc_all (xs := Ys) (inj := fun z => .tup [.int z, paD (qP (den z))]) (fun z => paD (qP (rsQ den z))) [s0, some (.imm (.dK (Ys.map .inl) (Ys.map fun z => paD (qP (den z))))), some (.own (.l L)), none, none, none, none] (it2 _ _) rfl rfl rfl (by omega) fun z hz => ?_
    obtain ⟨z1, z2, z3, z4⟩ := F.yl z hz
    have pB := pw2 (show B ≤ 900 by have := F.bB; omega)
    have rp := ratio_product_q (z := z) (r := den z) (by omega) (by omega) (z4.mono (by have := F.bB; omega))
    have rp : m_ratio_product none [.tup [.int z, .int 1], paD (qP (den z))] = .ok (.imm (paD (qP (rsQ den z)))) none := rp
    refine ⟨[s0, some (.imm (.dK (Ys.map .inl) (Ys.map fun z => paD (qP (den z))))), some (.own (.l L)), none, none, some (.imm (.int z)), some (.imm (paD (qP (den z))))], rfl, ?_, rfl⟩
    generalize paD (qP (rsQ den z)) = RR at *
    generalize D.dK (Ys.map .inl) (Ys.map fun z => paD (qP (den z))) = DK at *
    generalize paD (qP (den z)) = X at *
    simp [rp]
  have ef : (Ps.map fun P => paD (qP (shQ many P))) ++ (Ys.map fun z => paD (qP (rsQ den z))) = Ps.map ((fun r => paD (qP r)) ∘ shQ many) ++ Ys.map ((fun r => paD (qP r)) ∘ rsQ den) := rfl
  rw [← ef] at rs
  clear it1 it2 it0 ef
  have c2 := fun s0 => c2 s0 (Ps.map fun P => paD (qP (shQ many P)))
  have c1 := c1 (some (.imm (.dK (Ys.map .inl) (Ys.map fun z => paD (qP (den z))))))
  have c2 := c2 (some (.imm (DT)))
  have hlen : ((Ps.map fun P => paD (qP (shQ many P))).length + (Ys.map fun z => paD (qP (rsQ den z))).length) ≤ 16777216 := by
    simp only [List.length_map]; omega
  generalize D.dK (Ys.map .inl) (Ys.map fun z => paD (qP (den z))) = DK at *
  generalize (Ps.map fun P => paD (qP (shQ many P))) = L1 at *
  generalize (Ys.map fun z => paD (qP (rsQ den z))) = L2 at *
  generalize paD (qP (totQ Ps many Ys den)) = RR at *
  (unfold m_profile_sum g_profile_sum; unfold mir; rw [if_pos (by simp [ioN])]; simp only [ini, ioS, ioN, List.replicate, List.map_cons, List.map_nil, List.length_cons, List.length_nil, List.nil_append, List.cons_append, Nat.zero_add, Nat.reduceAdd, Nat.reduceSub])
  (rw [ap_sSeq]; (conv in (SR.bind _ _) => (arg 1; simp [al])); (try rw [SR.bind_nx]))
  (rw [ap_sSeq]; (conv in (SR.bind _ _) => (arg 1; simp [ar])); (try rw [SR.bind_nx]))
  (rw [ap_sSeq]; (conv in (SR.bind _ _) => (arg 1; simp [c1])); (try rw [SR.bind_nx]))
  (rw [ap_sSeq]; (conv in (SR.bind _ _) => (arg 1; simp [c2, mExtend, hlen])); (try rw [SR.bind_nx]))
  simp [outR, ioOut, rs]
theorem it_dT (Ps : List (Int × Int)) (many : Int × Int → Int) : ∀ s1 s2 s3 s4 s5 s6, itItems (vI 0) [some (.imm (.dT (Ps.map paK) (Ps.map fun P => .int (many P)))), s1, s2, s3, s4, s5, s6] = .ok (Ps.map fun P => .tup [paD P, .int (many P)]) [some (.imm (.dT (Ps.map paK) (Ps.map fun P => .int (many P)))), s1, s2, s3, s4, s5, s6] := by
  intro s1 s2 s3 s4 s5 s6
  have := zipM paD (fun P => D.int (many P)) Ps
  rw [← this, ← keysD_map]
  generalize Ps.map paK = K at *
  generalize (Ps.map fun P => D.int (many P)) = V at *
  simp [itItems]
theorem it_dK0 : ∀ s1 s2 s3 s4 s5 s6 : Option TS.R, itItems (vI 0) [some (.imm (.dK [] [])), s1, s2, s3, s4, s5, s6] = .ok [] [some (.imm (.dK [] [])), s1, s2, s3, s4, s5, s6] := by
  intro s1 s2 s3 s4 s5 s6
  simp [itItems, zipD]
theorem are_lines_KV (K : List Key) (V : List D) (it : itItems (vI 0) [some (.imm (.dK K V)), none, none] = .ok [] [some (.imm (.dK K V)), none, none]) : m_are_lines none [.dK K V] = .ok (.imm (.bl true)) none := by
  have lp : forL (tTup 2 (tsCons (tName 1) (tsCons (tName 2) tsNil))) g_are_lines_2B [] [some (.imm (.dK K V)), none, none] = .nx [some (.imm (.dK K V)), none, none] := rfl
  have td : tagD (D.dK K V) = some (.inl "dict") := rfl
  have isd : is_dict (.inl "dict") = some true := by decide +kernel
  (unfold m_are_lines g_are_lines; unfold mir; rw [if_pos (by simp [ioN])]; simp only [ini, ioS, ioN, List.replicate, List.map_cons, List.map_nil, List.length_cons, List.length_nil, List.nil_append, List.cons_append, Nat.zero_add, Nat.reduceAdd, Nat.reduceSub])
  (rw [ap_sSeq]; (conv in (SR.bind _ _) => (arg 1; simp [fIsiD, td, isd])); (try rw [SR.bind_nx]))
  rw [ap_sSeq, show g_are_lines_2 _ = _ from for_st it lp, SR.bind_nx]
  simp [outR, ioOut]
theorem are_lines_K0 : m_are_lines none [.dK [] []] = .ok (.imm (.bl true)) none := are_lines_KV [] [] (by simp [itItems, zipD])
theorem profile_sum_n (F : PrG B Ps many Ys den) : m_profile_sum none [.dT (Ps.map paK) (Ps.map fun P => .int (many P)), .dK (Ys.map .inl) (Ys.map fun z => paD (qP (den z)))] = .ok (.imm (paD (qP (totQ Ps many Ys den)))) none :=
  profile_sum_g F (are_lines_ok (Ps := Ps) (many := many) fun P hp => ⟨(F.ok P hp).1, (F.ok P hp).2.1, (F.ml P hp).1⟩) (it_dT Ps many)
theorem profile_init_g (F : PrG B Ps many Ys den) (one : totQ Ps many Ys den = 1) : ∃ Qs : List (Int × Int), Qs.Perm Ps ∧ Qs.Pairwise leQ ∧ m_Profile___init__ (some (.o 5 [])) [.dT (Ps.map paK) (Ps.map fun P => .int (many P)), .dK (Ys.map .inl) (Ys.map fun z => paD (qP (den z)))] = .ok (.imm .non) (some (.o 5 (prD Qs many (srt Ys) fun z => qP (den z)))) := by
  have l1 := F.l1
  have al := are_lines_ok (Ps := Ps) (many := many) fun P hp => ⟨(F.ok P hp).1, (F.ok P hp).2.1, (F.ml P hp).1⟩
  have ps := profile_sum_g F al (it_dT Ps many)
  rw [one, show qP 1 = (1, 1) from rfl] at ps
  obtain ⟨Qs, hq, hs, es⟩ := sorted_ratios_ok (Ps := Ps) (fun P hP => ⟨(F.ok P hP).1, Nat.lt_of_lt_of_le (F.ok P hP).2.2.1 (pw2 (by have := F.bB; omega))⟩) F.dn (by omega)
  refine ⟨Qs, hq, hs, ?_⟩
  have ne := gNe_pa (1, 1) 1 1
  rw [show (!decide (((1 : Int), (1 : Int)) = (1, 1))) = false from rfl] at ne
  have gk1 : gListK [.dT (Ps.map paK) (Ps.map fun P => .int (many P))] = some (.own (.l (Ps.map paD))) := by
    show some (R.own (.l ((Ps.map paK).map keysD))) = _
    rw [keysD_map]
  have gk2 : gListK [.dK (Ys.map .inl) (Ys.map fun z => paD (qP (den z)))] = some (.own (.l (iL Ys))) := by
    show some (R.own (.l ((Ys.map .inl).map keyD))) = _
    rw [keyD_map]; rfl
  have hql : Qs.length ≤ 2520 := by rw [hq.length_eq]; omega
  have sp := srt_perm Ys
  have hyl : (srt Ys).length ≤ 2520 := by rw [sp.length_eq]; omega
  have ix1 : ∀ P ∈ Qs, gIx (.dT (Ps.map paK) (Ps.map fun P => .int (many P))) (paD P) = some (.imm (.int (many P))) := fun P hP => by
    show (lookD (Ps.map paK) (Ps.map fun P => D.int (many P)) (paK P)).map TS.R.imm = _
    rw [look_pa (fun P => D.int (many P)) (hq.mem_iff.mp hP)]; rfl
  have ix2 : ∀ z ∈ srt Ys, gIx (.dK (Ys.map .inl) (Ys.map fun z => paD (qP (den z)))) (.int z) = some (.imm (paD (qP (den z)))) := fun z hz => by
    show (lookD (Ys.map (Sum.inl : Int → Key)) (Ys.map fun z => paD (qP (den z))) (.inl z)).map TS.R.imm = _
    rw [look_in (fun z => paD (qP (den z))) (sp.mem_iff.mp hz)]; rfl
  have d1 : fDc (.dT [] []) (stName 3) [3] (itSeq (frz (fOwn m_sorted_ratios (aCons (frz (fCal gListK (aOne (vP 1)))) aNil)))) tTrue (vI 3) (frz (fBin gIx (vI 1) (vP 3))) [some (.brw (.o 5 [])), some (.imm (.dT (Ps.map paK) (Ps.map fun P => .int (many P)))), some (.imm (.dK (Ys.map .inl) (Ys.map fun z => paD (qP (den z))))), none, none] = .ok (.own (.dT (Qs.map paK) (Qs.map fun P => .int (many P)))) [some (.brw (.o 5 [])), some (.imm (.dT (Ps.map paK) (Ps.map fun P => .int (many P)))), some (.imm (.dK (Ys.map .inl) (Ys.map fun z => paD (qP (den z))))), none, none] := by
    refine dc_all .dT keysD setT_new (xs := Qs) (inj := paD) paK (fun P => .int (many P)) [some (.brw (.o 5 [])), some (.imm (.dT (Ps.map paK) (Ps.map fun P => .int (many P)))), some (.imm (.dK (Ys.map .inl) (Ys.map fun z => paD (qP (den z))))), none, none] ?_ rfl rfl rfl (by omega) (paK_nd ((hq.nodup_iff.mpr F.nd))) fun P hP => ?_
    · generalize D.dT (Ps.map paK) (Ps.map fun P => .int (many P)) = DT at *
      generalize D.dK (Ys.map .inl) (Ys.map fun z => paD (qP (den z))) = DK at *
      generalize Ps.map paD = PD at *
      generalize Qs.map paD = QD at *
      simp [gk1, es, OB.toD]
    · have ix := ix1 P hP
      rw [keysD_paK]
      refine ⟨[some (.brw (.o 5 [])), some (.imm (.dT (Ps.map paK) (Ps.map fun P => .int (many P)))), some (.imm (.dK (Ys.map .inl) (Ys.map fun z => paD (qP (den z))))), some (.imm (paD P)), none], rfl, ?_, ?_, rfl⟩
      · generalize D.dT (Ps.map paK) (Ps.map fun P => .int (many P)) = DT at *
        generalize D.dK (Ys.map .inl) (Ys.map fun z => paD (qP (den z))) = DK at *
        generalize paD P = X at *
        simp
      · generalize D.dT (Ps.map paK) (Ps.map fun P => .int (many P)) = DT at *
        generalize D.dK (Ys.map .inl) (Ys.map fun z => paD (qP (den z))) = DK at *
        generalize paD P = X at *
        simp [ix]
  have gs := gSorted_l Ys
  have d2 : ∀ d, fDc (.dK [] []) (stName 4) [4] (itSeq (frz (fCal gSorted (aOne (frz (fCal gListK (aOne (vP 2)))))))) tTrue (vI 4) (frz (fBin gIx (vI 2) (vP 4))) [some (.brw (.o 5 [d])), some (.imm (.dT (Ps.map paK) (Ps.map fun P => .int (many P)))), some (.imm (.dK (Ys.map .inl) (Ys.map fun z => paD (qP (den z))))), none, none] = .ok (.own (.dK ((srt Ys).map .inl) ((srt Ys).map fun z => paD (qP (den z))))) [some (.brw (.o 5 [d])), some (.imm (.dT (Ps.map paK) (Ps.map fun P => .int (many P)))), some (.imm (.dK (Ys.map .inl) (Ys.map fun z => paD (qP (den z))))), none, none] := by
    intro d
    refine dc_all .dK keyD setK_new (xs := srt Ys) (inj := D.int) Sum.inl (fun z => paD (qP (den z))) [some (.brw (.o 5 [d])), some (.imm (.dT (Ps.map paK) (Ps.map fun P => .int (many P)))), some (.imm (.dK (Ys.map .inl) (Ys.map fun z => paD (qP (den z))))), none, none] ?_ rfl rfl rfl (by omega) (inl_nd (sp.nodup_iff.mpr F.nd2)) fun z hz => ?_
    · generalize D.dT (Ps.map paK) (Ps.map fun P => .int (many P)) = DT at *
      generalize D.dK (Ys.map .inl) (Ys.map fun z => paD (qP (den z))) = DK at *
      have e : (srt Ys).map D.int = iL (srt Ys) := rfl
      rw [e]
      generalize iL (srt Ys) = SY at *
      generalize iL Ys = YY at *
      simp [gk2, gs, OB.toD]
    · have ix := ix2 z hz
      refine ⟨[some (.brw (.o 5 [d])), some (.imm (.dT (Ps.map paK) (Ps.map fun P => .int (many P)))), some (.imm (.dK (Ys.map .inl) (Ys.map fun z => paD (qP (den z))))), none, some (.imm (.int z))], rfl, ?_, ?_, rfl⟩
      · generalize D.dT (Ps.map paK) (Ps.map fun P => .int (many P)) = DT at *
        generalize D.dK (Ys.map .inl) (Ys.map fun z => paD (qP (den z))) = DK at *
        show _ = Res.ok (D.int z) _
        simp
      · generalize D.dT (Ps.map paK) (Ps.map fun P => .int (many P)) = DT at *
        generalize D.dK (Ys.map .inl) (Ys.map fun z => paD (qP (den z))) = DK at *
        generalize paD (qP (den z)) = X at *
        simp [ix]
  have d2 := d2 (.dT (Qs.map paK) (Qs.map fun P => .int (many P)))
  clear ix1 ix2 gk1 gk2 gs es
  unfold prD
  generalize D.dT (Ps.map paK) (Ps.map fun P => .int (many P)) = DT at *
  generalize D.dK (Ys.map .inl) (Ys.map fun z => paD (qP (den z))) = DK at *
  generalize ((srt Ys).map fun z => paD (qP (den z))) = E2 at *
  generalize (srt Ys).map (Sum.inl : Int → Key) = K2 at *
  generalize (Qs.map fun P => D.int (many P)) = E1 at *
  generalize Qs.map paK = K1 at *
  have ne : gNe (paD (1, 1)) (.tup [.int 1, .int 1]) = some (.imm (.bl false)) := ne
  generalize paD (1, 1) = RR at *
  (unfold m_Profile___init__ g_Profile___init__; unfold mir; rw [if_pos (by simp [ioN])]; simp only [ini, ioS, ioN, List.replicate, List.map_cons, List.map_nil, List.length_cons, List.length_nil, List.nil_append, List.cons_append, Nat.zero_add, Nat.reduceAdd, Nat.reduceSub])
  (rw [ap_sSeq]; (conv in (SR.bind _ _) => (arg 1; simp [ps, ne])); (try rw [SR.bind_nx]))
  (rw [ap_sSeq]; (conv in (SR.bind _ _) => (arg 1; simp [d1, ix_own_lines, setF, OB.toD])); (try rw [SR.bind_nx]))
  simp [outR, ioOut, d2, ix_own_rounds, setF, OB.toD]
theorem profile_init_x (F : PrG B Ps many Ys den) (one : totQ Ps many Ys den ≠ 1) : m_Profile___init__ (some (.o 5 [])) [.dT (Ps.map paK) (Ps.map fun P => .int (many P)), .dK (Ys.map .inl) (Ys.map fun z => paD (qP (den z)))] = .exc ⟨105, [.str "sum"]⟩ (some (.o 5 [])) := by
  have ps := profile_sum_n F
  have ne := gNe_pa (qP (totQ Ps many Ys den)) 1 1
  rw [decide_eq_false (fun z => one (qP_inj (z.trans (show ((1 : Int), (1 : Int)) = qP 1 from rfl))))] at ne
  have ne : gNe (paD (qP (totQ Ps many Ys den))) (.tup [.int 1, .int 1]) = some (.imm (.bl true)) := ne
  generalize paD (qP (totQ Ps many Ys den)) = RR at *
  generalize D.dT (Ps.map paK) (Ps.map fun P => .int (many P)) = DT at *
  generalize D.dK (Ys.map .inl) (Ys.map fun z => paD (qP (den z))) = DK at *
  (unfold m_Profile___init__ g_Profile___init__; unfold mir; rw [if_pos (by simp [ioN])]; simp only [ini, ioS, ioN, List.replicate, List.map_cons, List.map_nil, List.length_cons, List.length_nil, List.nil_append, List.cons_append, Nat.zero_add, Nat.reduceAdd, Nat.reduceSub])
  rw [ap_sSeq]
  have S1 : g_Profile___init___1 [some (.brw (.o 5 [])), some (.imm DT), some (.imm DK), none, none] = .exc ⟨105, [.str "sum"]⟩ [some (.brw (.o 5 [])), some (.imm DT), some (.imm DK), none, none] := by
    simp [ps, ne]
  rw [S1]; rfl
end
end
end K47

namespace K47
open PySem L2 TS
noncomputable section
-- needs: k24a prof1
set_option exponentiation.threshold 2000
abbrev ldT : FT := fTst (fBin gNe (vI 3) (kD (.int 0)))
abbrev ldB : FS := sPar 2 3 (toE (vI 3)) (fBin gMod (frz (fCal gInt (aOne (vP 2)))) (vP 3))
theorem ld_loop {x y : Option TS.R} : ∀ (k : Nat) (a b fuel : Nat), b ≤ k → k < fuel → whileL ldT ldB fuel [x, y, some (.imm (.int (a : Int))), some (.imm (.int (b : Int)))] = .nx [x, y, some (.imm (.int (Nat.gcd a b : Nat))), some (.imm (.int 0))] := by
  intro k
  induction k with
  | zero =>
    intro a b fuel hb hf
    obtain rfl : b = 0 := by omega
    obtain ⟨f, rfl⟩ : ∃ f, fuel = f + 1 := ⟨fuel - 1, by omega⟩
    simp [whileL]
  | succ k ih =>
    intro a b fuel hb hf
    obtain ⟨f, rfl⟩ : ∃ f, fuel = f + 1 := ⟨fuel - 1, by omega⟩
    by_cases h0 : b = 0
    · subst h0; simp [whileL]
    · have e1 : gMod (.int (a : Int)) (.int (b : Int)) = some (.imm (.int ((a % b : Nat) : Int))) := gMod_i (by omega)
      have hlt : a % b < b := Nat.mod_lt _ (by omega)
      have e2 := ih b (a % b) f (by omega) (by omega)
      have hz : ¬ ((b : Int) = 0) := by omega
      have hg : Nat.gcd b (a % b) = Nat.gcd a b := by rw [Nat.gcd_comm a b, Nat.gcd_rec b a, Nat.gcd_comm]
      rw [hg] at e2
      simp only [whileL]
      simp [h0, e1]
      exact e2
theorem law_divisor_ok (a b : Int) : m__law_divisor none [.int a, .int b] = .ok (.imm (.int (Nat.gcd a.natAbs b.natAbs : Nat))) none := by
  have lp := ld_loop (x := some (.imm (.int a))) (y := some (.imm (.int b))) b.natAbs a.natAbs b.natAbs (b.natAbs + 2) (Nat.le_refl _) (by omega)
  (unfold m__law_divisor g__law_divisor; unfold mir; rw [if_pos (by simp [ioN])]; simp only [ini, ioS, ioN, List.replicate, List.map_cons, List.map_nil, List.length_cons, List.length_nil, List.nil_append, List.cons_append, Nat.zero_add, Nat.reduceAdd, Nat.reduceSub])
  (rw [ap_sSeq]; (conv in (SR.bind _ _) => (arg 1; simp [ifabs])); (try rw [SR.bind_nx]))
  have e : g__law_divisor_2 [some (.imm (.int a)), some (.imm (.int b)), some (.imm (.int (a.natAbs : Int))), some (.imm (.int (b.natAbs : Int)))] = .nx [some (.imm (.int a)), some (.imm (.int b)), some (.imm (.int (Nat.gcd a.natAbs b.natAbs : Nat))), some (.imm (.int 0))] := lp
  rw [ap_sSeq, e, SR.bind_nx]
  simp [outR, ioOut]
structure FI (t : List Int) (cs : List (List Nat)) (ks : List (List Key)) (ds : List D) : Prop where
  len : ks.length = ds.length
  nd : ks.Nodup
  sz : ds.length ≤ cs.length
  key : ∀ k ∈ ks, ∃ c ∈ cs, drf t c ≠ 0 ∧ k = paK (spd t c)
  has : ∀ c ∈ cs, drf t c ≠ 0 → paK (spd t c) ∈ ks
  val : ∀ k, (lookD ks ds k).getD (.int 0) = .int (lnT t cs k)
theorem FI.round {t : List Int} {cs : List (List Nat)} {ks : List (List Key)} {ds : List D} (I : FI t cs ks ds) {c : List Nat} (hz : drf t c = 0) : FI t (cs ++ [c]) ks ds where
  len := I.len
  nd := I.nd
  sz := by have := I.sz; simp; omega
  key := fun k hk => by obtain ⟨d, hd, r⟩ := I.key k hk; exact ⟨d, List.mem_append_left _ hd, r⟩
  has := fun d hd hne => by
    rcases List.mem_append.mp hd with hd | hd
    · exact I.has d hd hne
    · simp at hd; subst hd; exact absurd hz hne
  val := fun k => by rw [I.val, lnT_app, if_neg (fun w => w.1 hz), Int.add_zero]
open Classical in
theorem put_keys {ks : List (List Key)} {ds : List D} (k : List Key) (d : D) : (putD ks ds k d).1 = if k ∈ ks then ks else ks ++ [k] := by
  unfold putD
  by_cases h : k ∈ ks
  · rw [if_pos h, if_pos (List.any_eq_true.mpr ⟨k, h, by simp⟩)]
  · rw [if_neg h, if_neg]
    intro z
    obtain ⟨x, hx, e⟩ := List.any_eq_true.mp z
    have := of_decide_eq_true e
    subst this
    exact h hx
theorem FI.line {t : List Int} {cs : List (List Nat)} {ks : List (List Key)} {ds : List D} (I : FI t cs ks ds) {c : List Nat} (hz : drf t c ≠ 0) :
    FI t (cs ++ [c]) (putD ks ds (paK (spd t c)) (.int (lnT t cs (paK (spd t c)) + ((drf t c).natAbs : Int)))).1 (putD ks ds (paK (spd t c)) (.int (lnT t cs (paK (spd t c)) + ((drf t c).natAbs : Int)))).2 := by
  obtain ⟨p1, p2, p3⟩ := look_put (ks := ks) (ds := ds) (paK (spd t c)) (.int (lnT t cs (paK (spd t c)) + ((drf t c).natAbs : Int))) I.len
  have pk := put_keys (ks := ks) (ds := ds) (paK (spd t c)) (.int (lnT t cs (paK (spd t c)) + ((drf t c).natAbs : Int)))
  refine ⟨p2, ?_, ?_, fun k hk => ?_, fun d hd hne => ?_, fun k => ?_⟩
  · rw [pk]
    split
    · exact I.nd
    · rename_i hn
      rw [List.nodup_append]
      exact ⟨I.nd, by simp, fun x hx y hy e => by simp at hy; subst hy e; exact hn hx⟩
  · have := I.sz
    rw [List.length_append, List.length_singleton]; omega
  · have hk' : k ∈ ks ∨ k = paK (spd t c) := by
      rw [pk] at hk
      split at hk
      · exact .inl hk
      · simpa using hk
    rcases hk' with h | h
    · obtain ⟨d, hd, r⟩ := I.key k h; exact ⟨d, List.mem_append_left _ hd, r⟩
    · exact ⟨c, by simp, hz, h⟩
  · rw [pk]
    have : paK (spd t d) ∈ ks ∨ paK (spd t d) = paK (spd t c) := by
      rcases List.mem_append.mp hd with hd | hd
      · exact .inl (I.has d hd hne)
      · simp at hd; subst hd; exact .inr rfl
    split
    · rename_i hm
      rcases this with z | z
      · exact z
      · rw [z]; exact hm
    · simpa using this
  · rw [p1, lnT_app]
    by_cases e : k = paK (spd t c)
    · subst e
      rw [if_pos rfl, if_pos ⟨hz, rfl⟩]; rfl
    · rw [if_neg e, if_neg (fun w => e w.2.symm), I.val, Int.add_zero]
end
end K47

namespace K47
open PySem L2 TS
noncomputable section
-- needs: gprof lawlinesL
set_option exponentiation.threshold 6000
theorem lawlow_q {a b : Int} (hb : 0 < b) (h2 : b.natAbs < 2 ^ 3000) : m__law_lowest none [.int a, .int b] = .ok (.imm (paD (qP (Rat.divInt a b)))) none := by
  have e := law_divisor_ok a b
  have gp : 0 < Nat.gcd a.natAbs b.natAbs := Nat.gcd_pos_of_pos_right _ (by omega)
  have gl : Nat.gcd a.natAbs b.natAbs ≤ b.natAbs := Nat.le_of_dvd (by omega) (Nat.gcd_dvd_right _ _)
  have d1 : ∀ i : Int, gFdiv (.int i) (.int ((Nat.gcd a.natAbs b.natAbs : Nat) : Int)) = some (.imm (.int (i / ((Nat.gcd a.natAbs b.natAbs : Nat) : Int)))) := fun i => gFdiv_L (by omega) (by rw [Int.natAbs_natCast]; omega)
  rw [← low_div hb]
  unfold low paD
  clear h2
  generalize ((Nat.gcd a.natAbs b.natAbs : Nat) : Int) = g at *
  simp [m__law_lowest, mir, ini, ioS, ioN, outR, ioOut, g__law_lowest, e, d1]
theorem lawplus_qq {A C : Nat} {p q a b : Int} (hA : A ≤ 3000) (hC : C ≤ 3000) (hs : A + C ≤ 3000) (hq : 0 < q) (hb : 0 < b) (h1 : p.natAbs < 2 ^ A) (h2 : q.natAbs < 2 ^ A) (h3 : a.natAbs < 2 ^ C) (h4 : b.natAbs < 2 ^ C) : m__law_plus none [.tup [.int p, .int q], .tup [.int a, .int b]] = .ok (.imm (paD (qP (Rat.divInt p q + Rat.divInt a b)))) none := by
  have e1 : (2 : Nat) ^ A ≤ 2 ^ 3000 := pw2 hA
  have e2 : (2 : Nat) ^ C ≤ 2 ^ 3000 := pw2 hC
  have m1 := gMul_L (i := p) (j := b) (by omega) (by omega)
  have m2 := gMul_L (i := a) (j := q) (by omega) (by omega)
  have m3 := gMul_L (i := q) (j := b) (by omega) (by omega)
  have lo := lawlow_q (a := p * b + a * q) (b := q * b) (Int.mul_pos hq hb) (by
    rw [Int.natAbs_mul]
    have := Nat.mul_lt_mul'' h2 h4
    rw [← Nat.pow_add] at this
    exact Nat.lt_of_lt_of_le this (pw2 hs))
  rw [← Rat.divInt_add_divInt _ _ (by omega) (by omega)] at lo
  generalize paD (qP (Rat.divInt p q + Rat.divInt a b)) = RR at *
  generalize p * b = w1 at *
  generalize a * q = w2 at *
  generalize q * b = w3 at *
  generalize hw : w1 + w2 = w4 at *
  clear h1 h2 h3 h4 e1 e2
  have i0 : gIx (.tup [.int p, .int q]) (.int 0) = some (.imm (.int p)) := rfl
  have i1 : gIx (.tup [.int p, .int q]) (.int 1) = some (.imm (.int q)) := rfl
  have i2 : gIx (.tup [.int a, .int b]) (.int 0) = some (.imm (.int a)) := rfl
  have i3 : gIx (.tup [.int a, .int b]) (.int 1) = some (.imm (.int b)) := rfl
  simp [m__law_plus, mir, ini, ioS, ioN, outR, ioOut, g__law_plus, i0, i1, i2, i3, m1, m2, m3, hw, lo]
theorem lawplus_q {p q a b : Int} (hq : 0 < q) (hb : 0 < b) (h1 : p.natAbs < 2 ^ 1900) (h2 : q.natAbs < 2 ^ 1900) (h3 : a.natAbs < 2 ^ 1000) (h4 : b.natAbs < 2 ^ 1000) : m__law_plus none [.tup [.int p, .int q], .tup [.int a, .int b]] = .ok (.imm (paD (qP (Rat.divInt p q + Rat.divInt a b)))) none :=
  lawplus_qq (by decide) (by decide) (by decide) hq hb h1 h2 h3 h4
theorem lawplus_rr {A C : Nat} {r s : Rat} (hA : A ≤ 3000) (hC : C ≤ 3000) (hs : A + C ≤ 3000) (hr : bq A r) (hq : bq C s) : m__law_plus none [paD (qP r), paD (qP s)] = .ok (.imm (paD (qP (r + s)))) none := by
  have := lawplus_qq (p := r.num) (q := (r.den : Int)) (a := s.num) (b := (s.den : Int)) hA hC hs (by have := r.den_pos; omega) (by have := s.den_pos; omega) hr.1 (by rw [Int.natAbs_natCast]; exact hr.2) hq.1 (by rw [Int.natAbs_natCast]; exact hq.2)
  rw [Rat.num_divInt_den, Rat.num_divInt_den] at this
  exact this
theorem lawplus_qP {r : Rat} {a b : Int} (hr : bq 1900 r) (hb : 0 < b) (h3 : a.natAbs < 2 ^ 1000) (h4 : b.natAbs < 2 ^ 1000) : m__law_plus none [paD (qP r), .tup [.int a, .int b]] = .ok (.imm (paD (qP (r + Rat.divInt a b)))) none := by
  have := lawplus_q (p := r.num) (q := (r.den : Int)) (a := a) (b := b) (by have := r.den_pos; omega) hb hr.1 (by rw [Int.natAbs_natCast]; exact hr.2) h3 h4
  rw [Rat.num_divInt_den] at this
  exact this
theorem bq_sum {D : Nat} : ∀ {xs : List Rat} {a : Rat} {C : Nat}, (∀ r ∈ xs, bq D r) → bq C a → bq (C + xs.length * (D + 1)) (a + xs.sum)
  | [], a, C, _, h => by rw [List.sum_nil, Rat.add_zero]; exact h.mono (by simp)
  | x :: xs, a, C, hx, h => by
    have := bq_sum (xs := xs) (a := a + x) (C := C + D + 1) (fun r hr => hx r (by simp [hr])) (bq_add h (hx x (by simp)))
    rw [List.sum_cons, ← Rat.add_assoc, List.length_cons, Nat.add_mul, Nat.one_mul]
    exact this.mono (by omega)
theorem lawsum_g {B : Nat} {Ps : List (Int × Int)} {many : Int × Int → Int} {Ys : List Int} {den : Int → Rat} (F : PrG B Ps many Ys den) : m__law_sum none [.dT (Ps.map paK) (Ps.map fun P => .int (many P)), .dK (Ys.map .inl) (Ys.map fun z => paD (qP (den z)))] = .ok (.imm (paD (qP (totQ Ps many Ys den)))) none := by
  have bB := F.bB
  have sz := F.sz
  have e9 : (2 : Nat) ^ 800 < 2 ^ 1000 := Nat.pow_lt_pow_right (by decide) (by decide)
  have e8 : (2 : Nat) ^ 400 < 2 ^ 1000 := Nat.pow_lt_pow_right (by decide) (by decide)
  have e7 : (2 : Nat) ^ 400 < 2 ^ 3000 := Nat.pow_lt_pow_right (by decide) (by decide)
  have loop1 : ∀ (xs : List (Int × Int)) (a : Rat) (C : Nat), (∀ P ∈ xs, P ∈ Ps) → bq C a → C + xs.length * (2 * B + 1) ≤ 1901 → ∀ (A0 A1 s3 s4 s5 s6 : Option TS.R), ∃ r3 r5 r6, forL (tTup 2 (tsCons (tTup 2 (tsCons (tName 5) (tsCons (tName 6) tsNil))) (tsCons (tName 3) tsNil))) g__law_sum_2B (xs.map fun P => .tup [paD P, .int (many P)]) [A0, A1, some (.imm (paD (qP a))), s3, s4, s5, s6] =
      .nx [A0, A1, some (.imm (paD (qP (a + (xs.map (shQ many)).sum)))), r3, s4, r5, r6] := by
    intro xs
    induction xs with
    | nil => intro a C _ _ _ A0 A1 s3 s4 s5 s6; exact ⟨s3, s5, s6, by simp [forL, Rat.add_zero]⟩
    | cons P xs ih =>
      intro a C hx ha hsum A0 A1 s3 s4 s5 s6
      have hP := hx P (by simp)
      obtain ⟨o1, o2, o3, o4⟩ := F.ok P hP
      obtain ⟨m1, m2⟩ := F.ml P hP
      have pB := pw2 bB
      rw [List.length_cons, Nat.add_mul, Nat.one_mul] at hsum
      obtain ⟨r3, r5, r6, e⟩ := ih (a + shQ many P) (C + 2 * B + 1) (fun Q hQ => hx Q (by simp [hQ])) (bq_add ha (F.sh hP)) (by omega) A0 A1 (some (.imm (.int (many P)))) s4 (some (.imm (.int P.1))) (some (.imm (.int P.2)))
      refine ⟨r3, r5, r6, ?_⟩
      have sm : ((P :: xs).map (shQ many)).sum = shQ many P + (xs.map (shQ many)).sum := by rw [List.map_cons, List.sum_cons]
      rw [sm, ← Rat.add_assoc, ← e, List.map_cons]
      have g1 := gMul_L (i := many P) (j := P.2) (by omega) (by omega)
      have ab : gAbs [.int P.1] = some (.imm (.int (P.1.natAbs : Int))) := by simp [gAbs, ifabs]
      have lp := lawplus_qP (r := a) (a := many P * P.2) (b := (P.1.natAbs : Int)) (ha.mono (by omega)) (by omega) (by
        rw [Int.natAbs_mul]; exact Nat.lt_of_lt_of_le (pm2 m2 o4) (pw2 (by omega))) (by rw [Int.natAbs_natCast]; omega)
      have lp : m__law_plus none [paD (qP a), .tup [.int (many P * P.2), .int (P.1.natAbs : Int)]] = .ok (.imm (paD (qP (a + shQ many P)))) none := lp
      have fin : paD P = .tup [.int P.1, .int P.2] := rfl
      rw [fin]
      clear e ih o3 o4 m2 pB e9 e8 e7 sm
      generalize paD (qP (a + shQ many P)) = R1 at *
      generalize paD (qP a) = R0 at *
      generalize (xs.map fun P => D.tup [paD P, .int (many P)]) = XS at *
      generalize many P * P.2 = w at *
      generalize (P.1.natAbs : Int) = w2 at *
      simp [forL, g1, ab, lp, -gAbs_i]
  have loop2 : ∀ (xs : List Int) (a : Rat) (C : Nat), (∀ P ∈ xs, P ∈ Ys) → bq C a → C + xs.length * (2 * B + 1) ≤ 1901 → ∀ (A0 A1 s3 s4 s5 s6 : Option TS.R), ∃ r4 r5 r6, forL (tTup 2 (tsCons (tName 4) (tsCons (tTup 2 (tsCons (tName 5) (tsCons (tName 6) tsNil))) tsNil))) g__law_sum_3B (xs.map fun z => .tup [.int z, paD (qP (den z))]) [A0, A1, some (.imm (paD (qP a))), s3, s4, s5, s6] =
      .nx [A0, A1, some (.imm (paD (qP (a + (xs.map (rsQ den)).sum)))), s3, r4, r5, r6] := by
    intro xs
    induction xs with
    | nil => intro a C _ _ _ A0 A1 s3 s4 s5 s6; exact ⟨s4, s5, s6, by simp [forL, Rat.add_zero]⟩
    | cons z xs ih =>
      intro a C hx ha hsum A0 A1 s3 s4 s5 s6
      have hP := hx z (by simp)
      obtain ⟨o1, o2, o3, o4⟩ := F.yl z hP
      have pB := pw2 bB
      rw [List.length_cons, Nat.add_mul, Nat.one_mul] at hsum
      obtain ⟨r4, r5, r6, e⟩ := ih (a + rsQ den z) (C + 2 * B + 1) (fun Q hQ => hx Q (by simp [hQ])) (bq_add ha (F.rs hP)) (by omega) A0 A1 s3 (some (.imm (.int z))) (some (.imm (.int (den z).num))) (some (.imm (.int ((den z).den : Int))))
      refine ⟨r4, r5, r6, ?_⟩
      have sm : ((z :: xs).map (rsQ den)).sum = rsQ den z + (xs.map (rsQ den)).sum := by rw [List.map_cons, List.sum_cons]
      rw [sm, ← Rat.add_assoc, ← e, List.map_cons]
      have g1 := gMul_L (i := z) (j := (den z).num) (by omega) (by have := o4.1; omega)
      have lp := lawplus_qP (r := a) (a := z * (den z).num) (b := ((den z).den : Int)) (ha.mono (by omega)) (by have := (den z).den_pos; omega) (by
        rw [Int.natAbs_mul]; exact Nat.lt_of_lt_of_le (pm2 o2 o4.1) (pw2 (by omega))) (by rw [Int.natAbs_natCast]; have := o4.2; omega)
      have lp : m__law_plus none [paD (qP a), .tup [.int (z * (den z).num), .int ((den z).den : Int)]] = .ok (.imm (paD (qP (a + rsQ den z)))) none := lp
      have fin : paD (qP (den z)) = .tup [.int (den z).num, .int ((den z).den : Int)] := rfl
      rw [fin]
      clear e ih o3 o4 pB e9 e8 e7 sm
      generalize paD (qP (a + rsQ den z)) = R1 at *
      generalize paD (qP a) = R0 at *
      generalize (xs.map fun z => D.tup [.int z, paD (qP (den z))]) = XS at *
      generalize z * (den z).num = w at *
      generalize (den z).num = u at *
      generalize ((den z).den : Int) = v at *
      simp [forL, g1, lp]
  obtain ⟨r3, r5, r6, l1⟩ := loop1 Ps 0 1 (fun _ h => h) ⟨by decide, by decide⟩ (by
    have : (Ps.length + Ys.length) * (2 * B + 1) = Ps.length * (2 * B + 1) + Ys.length * (2 * B + 1) := Nat.add_mul _ _ _
    omega) (some (.imm (.dT (Ps.map paK) (Ps.map fun P => .int (many P))))) (some (.imm (.dK (Ys.map .inl) (Ys.map fun z => paD (qP (den z)))))) none none none none
  have b1 := bq_sum (D := 2 * B) (xs := Ps.map (shQ many)) (a := 0) (C := 1) (fun r hr => by
    obtain ⟨P, hP, rfl⟩ := List.mem_map.mp hr; exact F.sh hP) ⟨by decide, by decide⟩
  rw [List.length_map] at b1
  obtain ⟨r4, r5', r6', l2⟩ := loop2 Ys (0 + (Ps.map (shQ many)).sum) _ (fun _ h => h) b1 (by
    have : (Ps.length + Ys.length) * (2 * B + 1) = Ps.length * (2 * B + 1) + Ys.length * (2 * B + 1) := Nat.add_mul _ _ _
    omega) (some (.imm (.dT (Ps.map paK) (Ps.map fun P => .int (many P))))) (some (.imm (.dK (Ys.map .inl) (Ys.map fun z => paD (qP (den z)))))) r3 none r5 r6
  have tot : 0 + (Ps.map (shQ many)).sum + (Ys.map (rsQ den)).sum = totQ Ps many Ys den := by
    unfold totQ
    rw [List.sum_append, Rat.zero_add]
  rw [tot] at l2
  have i1 := it_dT Ps many (some (.imm (.dK (Ys.map .inl) (Ys.map fun z => paD (qP (den z)))))) (some (.imm (paD (qP 0)))) none none none none
  have i2 : ∀ s2, itItems (vI 1) [some (.imm (.dT (Ps.map paK) (Ps.map fun P => .int (many P)))), some (.imm (.dK (Ys.map .inl) (Ys.map fun z => paD (qP (den z))))), s2, r3, none, r5, r6] = .ok (Ys.map fun z => .tup [.int z, paD (qP (den z))]) [some (.imm (.dT (Ps.map paK) (Ps.map fun P => .int (many P)))), some (.imm (.dK (Ys.map .inl) (Ys.map fun z => paD (qP (den z))))), s2, r3, none, r5, r6] := by
    intro s2
    have := zipM D.int (fun z => paD (qP (den z))) Ys
    rw [← this, ← keyD_map]
    generalize (D.dT (Ps.map paK) (Ps.map fun P => .int (many P))) = DT at *
    generalize (Ys.map fun z => paD (qP (den z))) = V at *
    generalize Ys.map (Sum.inl : Int → Key) = K at *
    simp [itItems]
  have i2 := i2 (some (.imm (paD (qP (0 + (Ps.map (shQ many)).sum)))))
  clear loop1 loop2
  generalize (D.dT (Ps.map paK) (Ps.map fun P => .int (many P))) = DT at *
  generalize (D.dK (Ys.map .inl) (Ys.map fun z => paD (qP (den z)))) = DK at *
  generalize (Ps.map fun P => D.tup [paD P, .int (many P)]) = L1 at *
  generalize (Ys.map fun z => D.tup [.int z, paD (qP (den z))]) = L2 at *
  generalize paD (qP (0 + (Ps.map (shQ many)).sum)) = R1 at *
  generalize paD (qP (totQ Ps many Ys den)) = R2 at *
  have z0 : paD (qP 0) = .tup [.int 0, .int 1] := rfl
  rw [z0] at l1 i1
  (unfold m__law_sum g__law_sum; unfold mir; rw [if_pos (by simp [ioN])]; simp only [ini, ioS, ioN, List.replicate, List.map_cons, List.map_nil, List.length_cons, List.length_nil, List.nil_append, List.cons_append, Nat.zero_add, Nat.reduceAdd, Nat.reduceSub])
  (rw [ap_sSeq]; (conv in (SR.bind _ _) => (arg 1; simp [])); (try rw [SR.bind_nx]))
  rw [ap_sSeq, show g__law_sum_2 _ = _ from for_st i1 l1, SR.bind_nx]
  rw [ap_sSeq, show g__law_sum_3 _ = _ from for_st i2 l2, SR.bind_nx]
  simp [outR, ioOut]
end
end K47

namespace K47
open PySem L2 TS
noncomputable section
-- needs:
def Pot (o : OB) : Prop := ∃ a b : Int, o = .l [.int a, .int b] ∧ 0 ≤ a ∧ 0 ≤ b ∧ b < 4294967296
theorem draw_ok {o : OB} (h : Pot o) {m : Int} (h0 : 0 < m) (h1 : m < 1000000000) : ∃ r o', m__law_draw (some o) [.int m] = .ok (.imm (.int r)) (some o') ∧ Pot o' ∧ 0 ≤ r ∧ r < m := by
  obtain ⟨a, b, rfl, ha, hb, hb2⟩ := h
  have hm : m.natAbs < 2 ^ 255 := by omega
  by_cases hp : 0 < a
  · refine ⟨a % m, .l [.int (a / m), .int b], ?_, ⟨_, _, rfl, Int.ediv_nonneg ha (by omega), hb, hb2⟩, Int.emod_nonneg _ (by omega), Int.emod_lt_of_pos _ h0⟩
    simp [m__law_draw, mir, ini, ioS, ioN, outR, ioOut, g__law_draw, atI, ixN, hp, gDivmod_i h0 hm, setOB]
  · have hb' : (b * 48271 + 20011) % 2147483629 < 2147483629 := Int.emod_lt_of_pos _ (by decide)
    have hb0 : 0 ≤ (b * 48271 + 20011) % 2147483629 := Int.emod_nonneg _ (by decide)
    have e1 : gMul (.int b) (.int 48271) = some (.imm (.int (b * 48271))) := gMul_i (by omega) (by decide)
    have e2 : gMul (.int ((b * 48271 + 20011) % 2147483629)) (.int ((b * 48271 + 20011) % 2147483629)) = some (.imm (.int ((b * 48271 + 20011) % 2147483629 * ((b * 48271 + 20011) % 2147483629)))) := gMul_i (by omega) (by omega)
    have e3 : ∀ i : Int, gMod (.int i) (.int 2147483629) = some (.imm (.int (i % 2147483629))) := fun i => gMod_i (by decide)
    have e4 : ∀ i : Int, gMod (.int i) (.int 2147483563) = some (.imm (.int (i % 2147483563))) := fun i => gMod_i (by decide)
    have e5 : ∀ i : Int, gFdiv (.int i) (.int 13) = some (.imm (.int (i / 13))) := fun i => gFdiv_i (by decide) (by decide)
    have e6 : ∀ i : Int, gMod (.int i) (.int m) = some (.imm (.int (i % m))) := fun i => gMod_i h0
    refine ⟨(((b * 48271 + 20011) % 2147483629 * ((b * 48271 + 20011) % 2147483629)) % 2147483563 / 13) % m, .l [.int a, .int ((b * 48271 + 20011) % 2147483629)], ?_, ⟨_, _, rfl, ha, hb0, by omega⟩, Int.emod_nonneg _ (by omega), Int.emod_lt_of_pos _ h0⟩
    simp [m__law_draw, mir, ini, ioS, ioN, outR, ioOut, g__law_draw, atI, ixN, hp, setOB, e1, e2, e3, e4, e5, e6]
end
end K47

namespace K47
open PySem L2 TS
noncomputable section
-- needs: draw
abbrev shTD : FT := fTst (fBinV gNe 2 (frz (fLst aNil)))
abbrev shBD : FS := sExpr (toE (fMut 3 mAppend (aCons (fMut 2 mPop (aCons (frz (fOwnIo m__law_draw 0 (aCons (frz (fCal gLen (aOne (vP 2)))) aNil))) aNil)) aNil)))
def NilOk (d : D) : Prop := ∃ p, toP d = some p ∧ p.canLay0 = true ∧ p.depth ≤ 3
theorem nil_all : ∀ {xs : List D}, (∀ d ∈ xs, NilOk d) → ∃ ps, toPs xs = some ps ∧ PyData.canLayAll0 ps = true ∧ PyData.depthAll ps ≤ 3 ∧ (ps = [] ↔ xs = [])
  | [], _ => ⟨[], by simp [toPs], rfl, by simp [PyData.depthAll], by simp⟩
  | d :: xs, h => by
    obtain ⟨p, e, c, dp⟩ := h d (by simp)
    obtain ⟨ps, e2, c2, d2, _⟩ := nil_all (xs := xs) fun q hq => h q (by simp [hq])
    exact ⟨p :: ps, by simp [toPs, e, e2], by simp [PyData.canLayAll0, c, c2], by simp only [PyData.depthAll]; omega, by simp⟩
theorem gNe_nilD {xs : List D} (h : ∀ d ∈ xs, NilOk d) : gNe (.lst xs) (.lst []) = some (.imm (.bl (!decide (xs = [])))) := by
  obtain ⟨ps, e, c, dp, hn⟩ := nil_all h
  have e1 : toP (.lst xs) = some (.list ps) := by unfold toP; rw [e]; rfl
  have e0 : toP (.lst []) = some (.list []) := by simp [toP, toPs]
  have s0 : SeqAt.shaped (.list []) = true := by decide +kernel
  have s1 : SeqAt.shaped (.list ps) = true := by
    have : (PyData.list ps).depth ≤ 64 := by simp only [PyData.depth]; omega
    unfold SeqAt.shaped
    rw [decide_eq_true (by omega)]
    simp only [PyData.canLay0, c, Bool.and_self]
  simp only [gNe, e1, e0, s0, s1, Bool.and_self, if_true]
  cases ps with
  | nil => rw [hn.mp rfl]; simp [PyData.eqv, PyData.eqvAll]
  | cons p ps =>
    have : xs ≠ [] := fun z => by have := hn.mpr z; cases this
    rw [decide_eq_false this]
    simp [PyData.eqv, PyData.eqvAll]
theorem erase_permD {α : Type} : ∀ (l : List α) (n : Nat) (h : n < l.length), (l[n] :: l.eraseIdx n).Perm l
  | [], n, h => by simp at h
  | x :: l, 0, h => by simp
  | x :: l, n + 1, h => by
    have := erase_permD l n (by simpa using h)
    simp only [List.getElem_cons_succ, List.eraseIdx_cons_succ]
    exact (List.Perm.swap _ _ _).trans (this.cons _)
theorem shufD_loop (x : Option TS.R) : ∀ (k : Nat) (o : OB) (left mixed : List D) (fuel : Nat), left.length = k → k < fuel → mixed.length + k ≤ 10000 → (∀ d ∈ left, NilOk d) → Pot o →
    ∃ o' mixed', whileL shTD shBD fuel [some (.brw o), x, some (.own (.l left)), some (.own (.l mixed))] = .nx [some (.brw o'), x, some (.own (.l [])), some (.own (.l mixed'))] ∧ Pot o' ∧ mixed'.Perm (mixed ++ left) := by
  intro k
  induction k with
  | zero =>
    intro o left mixed fuel hl hf hm hn hp
    obtain rfl : left = [] := List.eq_nil_of_length_eq_zero hl
    obtain ⟨f, rfl⟩ : ∃ f, fuel = f + 1 := ⟨fuel - 1, by omega⟩
    refine ⟨o, mixed, ?_, hp, by simp⟩
    have e := gNe_nilD (xs := []) (by simp)
    simp [whileL, e]
  | succ k ih =>
    intro o left mixed fuel hl hf hm hnl hp
    obtain ⟨f, rfl⟩ : ∃ f, fuel = f + 1 := ⟨fuel - 1, by omega⟩
    have hne : left ≠ [] := by intro z; rw [z] at hl; cases hl
    obtain ⟨r, o1, e1, p1, a1, b1⟩ := draw_ok hp (m := (left.length : Int)) (by omega) (by omega)
    obtain ⟨n, rfl⟩ : ∃ n : Nat, r = n := ⟨r.toNat, by omega⟩
    have hn : n < left.length := by omega
    have e2 := gNe_nilD hnl
    rw [decide_eq_false hne] at e2
    have e3 : mPop left [.int (n : Int)] = some (left[n], left.eraseIdx n) := by
      have c : gd (0 ≤ (n : Int) ∧ (n : Int) < (left.length : Int) ∧ (n : Int) < 9223372036854775808) = true := gd_true ⟨by omega, by omega, by omega⟩
      simp only [mPop, c, if_true, Int.toNat_natCast, List.getElem?_eq_getElem hn, Option.map_some]
    have e4 : ∀ d : D, mAppend mixed [d] = some (.non, mixed ++ [d]) := fun d => by
      have : mixed.length < 16777216 := by omega
      simp [mAppend, this]
    have hlen : (left.eraseIdx n).length = k := by rw [List.length_eraseIdx_of_lt hn]; omega
    obtain ⟨o', mixed', e5, p5, q5⟩ := ih o1 (left.eraseIdx n) (mixed ++ [left[n]]) f hlen (by omega) (by simp; omega) (fun d hd => hnl d (List.mem_of_mem_eraseIdx hd)) p1
    refine ⟨o', mixed', ?_, p5, ?_⟩
    · rw [← e5]
      simp only [whileL]
      generalize left.eraseIdx n = L2 at *
      generalize left[n] = dd at *
      simp [e1, e2, e3, e4, -gLen_l, show gLen [D.lst left] = some (.imm (.int (left.length : Int))) from rfl]
    · refine q5.trans ?_
      rw [List.append_assoc]
      exact List.Perm.append_left _ (by simpa using (erase_permD left n hn))
theorem mixedD_ok {o : OB} (h : Pot o) {xs : List D} (hx : xs.length ≤ 10000) (hn : ∀ d ∈ xs, NilOk d) : ∃ ys o', m__law_mixed (some o) [.lst xs] = .ok (.own (.l ys)) (some o') ∧ Pot o' ∧ ys.Perm xs := by
  obtain ⟨o', ys, e, p, q⟩ := shufD_loop (some (.imm (.lst xs))) xs.length o xs [] (xs.length + 2) rfl (by omega) (by simpa using hx) hn h
  refine ⟨ys, o', ?_, p, by simpa using q⟩
  have e2 : gList [.lst xs] = some (.own (.l xs)) := rfl
  simp [m__law_mixed, mir, ini, ioS, ioN, outR, ioOut, g__law_mixed, e2, sWhile, muL, e]
end
end K47

namespace K47
open PySem L2 TS
noncomputable section
-- needs: gprof mixedD
set_option exponentiation.threshold 6000
def extL {α : Type} [DecidableEq α] (l : List α) (s : α) : List α := if s ∈ l then l else l ++ [s]
theorem mem_ext {α : Type} [DecidableEq α] {l : List α} {s x : α} : x ∈ extL l s ↔ x ∈ l ∨ x = s := by
  unfold extL
  split
  · rename_i h
    constructor
    · exact .inl
    · rintro (h' | rfl); exact h'; exact h
  · simp
theorem nd_ext {α : Type} [DecidableEq α] {l : List α} {s : α} (h : l.Nodup) : (extL l s).Nodup := by
  unfold extL
  split
  · exact h
  · rename_i hs
    rw [List.nodup_append]
    exact ⟨h, by simp, fun a ha b hb => by rw [List.mem_singleton] at hb; subst hb; exact fun z => hs (z ▸ ha)⟩
theorem len_ext {α : Type} [DecidableEq α] {l : List α} {s : α} : (extL l s).length ≤ l.length + 1 := by
  unfold extL
  split <;> simp
theorem rep_map {α κ : Type} [DecidableEq α] [DecidableEq κ] {f : α → κ} (inj : ∀ x y, f x = f y → x = y) (g : α → D) (s : α) (d : D) : ∀ {l : List α}, l.Nodup → repD (f s) d (l.map f) (l.map g) = l.map fun x => if x = s then d else g x
  | [], _ => rfl
  | x :: l, h => by
    rw [List.nodup_cons] at h
    rw [List.map_cons, List.map_cons, List.map_cons, repD, rep_map inj g s d h.2]
    by_cases z : x = s
    · subst z; simp
    · rw [if_neg (fun w => z (inj _ _ w)), if_neg z]
theorem put_map {α κ : Type} [DecidableEq α] [DecidableEq κ] {f : α → κ} (inj : ∀ x y, f x = f y → x = y) (g : α → D) (s : α) (d : D) {l : List α} (h : l.Nodup) : putD (l.map f) (l.map g) (f s) d = ((extL l s).map f, (extL l s).map fun x => if x = s then d else g x) := by
  unfold putD extL
  by_cases z : s ∈ l
  · rw [if_pos z, if_pos (by rw [List.any_eq_true]; exact ⟨f s, List.mem_map.mpr ⟨s, z, rfl⟩, by simp⟩), rep_map inj g s d h]
  · rw [if_neg z, if_neg (by
      rw [List.any_eq_true]
      rintro ⟨k, hk, e⟩
      obtain ⟨x, hx, rfl⟩ := List.mem_map.mp hk
      exact z (inj _ _ (of_decide_eq_true e) ▸ hx))]
    refine Prod.ext (by simp) ?_
    show l.map g ++ [d] = List.map (fun x => if x = s then d else g x) (l ++ [s])
    rw [List.map_append]
    congr 1
    · refine List.map_congr_left fun x hx => ?_
      rw [if_neg (fun (w : x = s) => z (w ▸ hx))]
    · simp
theorem paK_inj' (P Q : Int × Int) (h : paK P = paK Q) : P = Q := paK_inj h
theorem inl_inj' (P Q : Int) (h : (Sum.inl P : Key) = .inl Q) : P = Q := Sum.inl.inj h
theorem nil_pa (P : Int × Int) : NilOk (paD P) := ⟨.tuple [.int P.1, .int P.2], by simp [paD, toP, toPs], by simp [PyData.canLay0, PyData.canLayAll0], by simp [PyData.depth, PyData.depthAll]⟩
theorem nil_int (i : Int) : NilOk (.int i) := ⟨.int i, rfl, by simp [PyData.canLay0], by simp [PyData.depth]⟩
theorem perm_map {α : Type} {f : α → D} : ∀ {ys : List D} {xs : List α}, ys.Perm (xs.map f) → ∃ zs : List α, zs.Perm xs ∧ ys = zs.map f := by
  intro ys xs h
  generalize hm : xs.map f = ms at h
  have key : ∀ {ys ms : List D}, ys.Perm ms → ∀ xs : List α, xs.map f = ms → ∃ zs : List α, zs.Perm xs ∧ ys = zs.map f := by
    intro ys ms h
    induction h with
    | nil => intro xs e; exact ⟨[], by rw [List.map_eq_nil_iff.mp e], rfl⟩
    | cons x _ ih =>
      intro xs e
      cases xs with
      | nil => cases e
      | cons a xs =>
        rw [List.map_cons] at e
        obtain ⟨zs, z1, z2⟩ := ih xs (List.cons.inj e).2
        exact ⟨a :: zs, z1.cons a, by rw [List.map_cons, z2, (List.cons.inj e).1]⟩
    | swap x y l =>
      intro xs e
      cases xs with
      | nil => cases e
      | cons a xs =>
        cases xs with
        | nil => simp at e
        | cons b xs =>
          simp only [List.map_cons, List.cons.injEq] at e
          exact ⟨b :: a :: xs, List.Perm.swap _ _ _, by simp [e.1, e.2.1, e.2.2]⟩
    | trans _ _ ih1 ih2 =>
      intro xs e
      obtain ⟨zs, z1, z2⟩ := ih2 xs e
      obtain ⟨ws, w1, w2⟩ := ih1 zs z2.symm
      exact ⟨ws, w1.trans z1, w2⟩
  exact key h xs hm
theorem mergeL_ext : ∀ (ks : List Key) (ds : List D) (ms : List Key) (mds : List D), ms.length = mds.length → (ks ++ ms).Nodup → mergeL ks ds ms mds = (ks ++ ms, ds ++ mds)
  | ks, ds, [], [], _, _ => by simp [mergeL]
  | ks, ds, k :: ms, m :: mds, hl, h => by
    have hk : k ∉ ks := fun z => by
      rw [List.nodup_append] at h
      exact h.2.2 k z k (by simp) rfl
    have e : putD ks ds k m = (ks ++ [k], ds ++ [m]) := by
      unfold putD
      rw [if_neg (by rw [List.any_eq_true]; rintro ⟨q, hq, w⟩; exact hk (of_decide_eq_true w ▸ hq))]
    rw [mergeL, e, mergeL_ext (ks ++ [k]) (ds ++ [m]) ms mds (by simpa using hl) (by simpa using h)]
    simp
  | _, _, [], _ :: _, h, _ => by simp at h
  | _, _, _ :: _, [], h, _ => by simp at h
theorem pairs_in (g : Int → D) : ∀ Ys : List Int, pairsK (Ys.map fun z => .tup [.int z, g z]) = some (Ys.map Sum.inl, Ys.map g)
  | [] => by simp [pairsK]
  | z :: Ys => by simp [pairsK, pairs_in g Ys, TS.keyOf]
theorem mergeLT_ext : ∀ (ks : List (List Key)) (ds : List D) (ms : List (List Key)) (mds : List D), ms.length = mds.length → (ks ++ ms).Nodup → mergeLT ks ds ms mds = (ks ++ ms, ds ++ mds)
  | ks, ds, [], [], _, _ => by simp [mergeLT]
  | ks, ds, k :: ms, m :: mds, hl, h => by
    have hk : k ∉ ks := fun z => by
      rw [List.nodup_append] at h
      exact h.2.2 k z k (by simp) rfl
    have e : putD ks ds k m = (ks ++ [k], ds ++ [m]) := by
      unfold putD
      rw [if_neg (by rw [List.any_eq_true]; rintro ⟨q, hq, w⟩; exact hk (of_decide_eq_true w ▸ hq))]
    rw [mergeLT, e, mergeLT_ext (ks ++ [k]) (ds ++ [m]) ms mds (by simpa using hl) (by simpa using h)]
    simp
  | _, _, [], _ :: _, h, _ => by simp at h
  | _, _, _ :: _, [], h, _ => by simp at h
theorem pairs_pa (g : Int × Int → D) : ∀ Ps : List (Int × Int), pairsT (Ps.map fun P => .tup [paD P, g P]) = some (Ps.map paK, Ps.map g)
  | [] => by simp [pairsT]
  | P :: Ps => by
    have k : keysOf [D.int P.1, D.int P.2] = some (paK P) := rfl
    have ih := pairs_pa g Ps
    show (match keysOf [D.int P.1, D.int P.2], pairsT (Ps.map fun P => .tup [paD P, g P]) with
      | some k', some (ks, vs) => some (k' :: ks, g P :: vs)
      | _, _ => none) = _
    rw [k, ih]; rfl
theorem dict_in (g : Int → D) {Ys : List Int} (nd : Ys.Nodup) : gDictA [.lst (Ys.map fun z => .tup [.int z, g z])] = some (.own (.dK (Ys.map Sum.inl) (Ys.map g))) := by
  have e := mergeL_ext [] [] (Ys.map Sum.inl) (Ys.map g) (by simp) (by simpa using inl_nd nd)
  have e2 : gDict [.lst (Ys.map fun z => .tup [.int z, g z])] = some (.own (.dK (Ys.map Sum.inl) (Ys.map g))) := by
    show (match pairsK (Ys.map fun z => .tup [.int z, g z]) with
      | some (ks, vs) => some (R.own (.dK (mergeL [] [] ks vs).1 (mergeL [] [] ks vs).2))
      | none => none) = _
    rw [pairs_in g Ys]
    simp only [e, List.nil_append]
  unfold gDictA gcOr
  rw [e2]
def linD (Ps : List (Int × Int)) (g : Int × Int → D) : OB := if Ps = [] then .dK [] [] else .dT (Ps.map paK) (Ps.map g)
theorem dict_pa (g : Int × Int → D) {Ps : List (Int × Int)} (nd : Ps.Nodup) : gDictA [.lst (Ps.map fun P => .tup [paD P, g P])] = some (.own (linD Ps g)) := by
  cases Ps with
  | nil => rfl
  | cons P Ps =>
    have e := mergeLT_ext [] [] ((P :: Ps).map paK) ((P :: Ps).map g) (by simp) (by simpa using paK_nd nd)
    have e1 : gDict [.lst ((P :: Ps).map fun P => .tup [paD P, g P])] = none := by
      have : pairsK ((P :: Ps).map fun P => .tup [paD P, g P]) = none := by
        rw [List.map_cons, pairsK]
        have : TS.keyOf (paD P) = none := rfl
        simp [this]
      show (match pairsK ((P :: Ps).map fun P => .tup [paD P, g P]) with
        | some (ks, vs) => some (R.own (.dK (mergeL [] [] ks vs).1 (mergeL [] [] ks vs).2))
        | none => none) = _
      rw [this]
    have e2 := pairs_pa g (P :: Ps)
    unfold gDictA gcOr
    rw [e1]
    unfold linD
    rw [if_neg (by simp)]
    show (match pairsT ((P :: Ps).map fun P => .tup [paD P, g P]) with
        | some (ks, vs) => some (R.own (.dT (mergeLT [] [] ks vs).1 (mergeLT [] [] ks vs).2))
        | none => none) = _
    rw [e2]
    simp only [e, List.nil_append]
theorem turnedL_ok {o : OB} (h : Pot o) {Ps : List (Int × Int)} {many : Int × Int → Int} (nd : Ps.Nodup) (hl : Ps.length ≤ 10000) : ∃ (Qs : List (Int × Int)) (o' : OB), Qs.Perm Ps ∧ Pot o' ∧ m__law_turned (some o) [.dT (Ps.map paK) (Ps.map fun P => .int (many P))] = .ok (.own (linD Qs fun P => .int (many P))) (some o') := by
  obtain ⟨ys, o', e, p, q⟩ := mixedD_ok h (xs := Ps.map paD) (by rw [List.length_map]; exact hl) (fun d hd => by obtain ⟨P, _, rfl⟩ := List.mem_map.mp hd; exact nil_pa P)
  obtain ⟨Qs, hq, rfl⟩ := perm_map q
  refine ⟨Qs, o', hq, p, ?_⟩
  have gk : gListK [.dT (Ps.map paK) (Ps.map fun P => .int (many P))] = some (.own (.l (Ps.map paD))) := by
    show some (R.own (.l ((Ps.map paK).map keysD))) = _
    rw [keysD_map]
  have ix : ∀ P ∈ Qs, gIx (.dT (Ps.map paK) (Ps.map fun P => .int (many P))) (paD P) = some (.imm (.int (many P))) := fun P hP => by
    show (lookD (Ps.map paK) (Ps.map fun P => D.int (many P)) (paK P)).map TS.R.imm = _
    rw [look_pa (fun P => D.int (many P)) (hq.mem_iff.mp hP)]; rfl
  have lc := lc_all (setT := stName 2) (vs := [2]) (fi := itSeq (frz (fOwnIo m__law_mixed 0 (aCons (frz (fCal gListK (aOne (vP 1)))) aNil)))) (fe := fTup (aCons (vI 2) (aCons (frz (fBin gIx (vI 1) (vP 2))) aNil))) (inj := paD) (xs := Qs) (fun P => .tup [paD P, .int (many P)])
    (δ := [some (.brw o), some (.imm (.dT (Ps.map paK) (Ps.map fun P => .int (many P)))), none]) (δ1 := [some (.brw o'), some (.imm (.dT (Ps.map paK) (Ps.map fun P => .int (many P)))), none]) [some (.brw o'), some (.imm (.dT (Ps.map paK) (Ps.map fun P => .int (many P)))), none]
    (by
      generalize (D.dT (Ps.map paK) (Ps.map fun P => .int (many P))) = DT at *
      generalize Ps.map paD = L at *
      generalize Qs.map paD = L2 at *
      simp [gk, e, OB.toD]) rfl rfl rfl (by rw [hq.length_eq]; omega) (fun P hP => ⟨[some (.brw o'), some (.imm (.dT (Ps.map paK) (Ps.map fun P => .int (many P)))), some (.imm (paD P))], rfl, by
      have := ix P hP
      generalize (D.dT (Ps.map paK) (Ps.map fun P => .int (many P))) = DT at *
      generalize paD P = X at *
      simp [this], rfl⟩)
  have dd := dict_pa (fun P => D.int (many P)) (hq.nodup_iff.mpr nd)
  clear ix gk
  generalize (D.dT (Ps.map paK) (Ps.map fun P => .int (many P))) = DT at *
  generalize (Qs.map fun P => D.tup [paD P, .int (many P)]) = L3 at *
  simp [m__law_turned, mir, ini, ioS, ioN, outR, ioOut, g__law_turned, lc, dd, OB.toD]
theorem turnedR_ok {o : OB} (h : Pot o) {Ys : List Int} {g : Int → D} (nd : Ys.Nodup) (hl : Ys.length ≤ 10000) : ∃ (Zs : List Int) (o' : OB), Zs.Perm Ys ∧ Pot o' ∧ m__law_turned (some o) [.dK (Ys.map Sum.inl) (Ys.map g)] = .ok (.own (.dK (Zs.map Sum.inl) (Zs.map g))) (some o') := by
  obtain ⟨ys, o', e, p, q⟩ := mixedD_ok h (xs := Ys.map D.int) (by rw [List.length_map]; exact hl) (fun d hd => by obtain ⟨P, _, rfl⟩ := List.mem_map.mp hd; exact nil_int P)
  obtain ⟨Qs, hq, rfl⟩ := perm_map q
  refine ⟨Qs, o', hq, p, ?_⟩
  have gk : gListK [.dK (Ys.map Sum.inl) (Ys.map g)] = some (.own (.l (Ys.map D.int))) := by
    show some (R.own (.l ((Ys.map .inl).map keyD))) = _
    rw [keyD_map]
  have ix : ∀ z ∈ Qs, gIx (.dK (Ys.map Sum.inl) (Ys.map g)) (.int z) = some (.imm (g z)) := fun z hz => by
    show (lookD (Ys.map (Sum.inl : Int → Key)) (Ys.map g) (.inl z)).map TS.R.imm = _
    rw [look_in g (hq.mem_iff.mp hz)]; rfl
  have lc := lc_all (setT := stName 2) (vs := [2]) (fi := itSeq (frz (fOwnIo m__law_mixed 0 (aCons (frz (fCal gListK (aOne (vP 1)))) aNil)))) (fe := fTup (aCons (vI 2) (aCons (frz (fBin gIx (vI 1) (vP 2))) aNil))) (inj := D.int) (xs := Qs) (fun z => .tup [.int z, g z])
    (δ := [some (.brw o), some (.imm (.dK (Ys.map Sum.inl) (Ys.map g))), none]) (δ1 := [some (.brw o'), some (.imm (.dK (Ys.map Sum.inl) (Ys.map g))), none]) [some (.brw o'), some (.imm (.dK (Ys.map Sum.inl) (Ys.map g))), none]
    (by
      generalize (D.dK (Ys.map Sum.inl) (Ys.map g)) = DT at *
      generalize Ys.map D.int = L at *
      generalize Qs.map D.int = L2 at *
      simp [gk, e, OB.toD]) rfl rfl rfl (by rw [hq.length_eq]; omega) (fun z hz => ⟨[some (.brw o'), some (.imm (.dK (Ys.map Sum.inl) (Ys.map g))), some (.imm (.int z))], rfl, by
      have := ix z hz
      generalize (D.dK (Ys.map Sum.inl) (Ys.map g)) = DT at *
      generalize g z = X at *
      simp [this], rfl⟩)
  have dd := dict_in g (hq.nodup_iff.mpr nd)
  clear ix gk
  generalize (D.dK (Ys.map Sum.inl) (Ys.map g)) = DT at *
  generalize (Qs.map fun z => D.tup [.int z, g z]) = L3 at *
  simp [m__law_turned, mir, ini, ioS, ioN, outR, ioOut, g__law_turned, lc, dd, OB.toD]
end
end K47

namespace K47
open PySem L2 TS
noncomputable section
-- needs: draw
theorem pick_ok {o : OB} (h : Pot o) {xs : List Int} (h0 : 0 < xs.length) (h1 : xs.length < 1000) : ∃ x o', m__law_pick (some o) [.lst (iL xs)] = .ok (.imm (.int x)) (some o') ∧ Pot o' ∧ x ∈ xs := by
  obtain ⟨r, o1, e1, p1, a1, b1⟩ := draw_ok h (m := (xs.length : Int)) (by omega) (by omega)
  obtain ⟨n, rfl⟩ : ∃ n : Nat, r = n := ⟨r.toNat, by omega⟩
  have hn : n < xs.length := by omega
  refine ⟨xs[n], o1, ?_, p1, List.getElem_mem hn⟩
  have ix := gIx_ints hn
  simp [m__law_pick, mir, ini, ioS, ioN, outR, ioOut, g__law_pick, e1, ix, -gIx_l]
end
end K47

namespace K47
open PySem L2 TS
noncomputable section
-- needs: pick
theorem p7_le {i j : Nat} (h : i ≤ j) : (10000000 : Int) ^ i ≤ 10000000 ^ j := by
  obtain ⟨k, rfl⟩ := Nat.exists_eq_add_of_le h
  induction k with
  | zero => exact Int.le_refl _
  | succ k ih =>
    have := ih (by omega)
    have p : (0 : Int) ≤ 10000000 ^ (i + k) := Int.pow_nonneg (by decide)
    rw [show i + (k + 1) = (i + k) + 1 by omega, Int.pow_succ]
    omega
theorem great_loop {g : Option TS.R} : ∀ (k i : Nat) (o : OB) (n : Int) (s3 : Option TS.R), Pot o → i + k ≤ 9 → 0 ≤ n → n < 10000000 ^ i →
    ∃ o' n' s3', Pot o' ∧ 0 ≤ n' ∧ n' < (10000000 : Int) ^ (i + k) ∧ forL (tName 3) g__law_great_2B (iL (nats i k)) [some (.brw o), g, some (.imm (.int n)), s3] = .nx [some (.brw o'), g, some (.imm (.int n')), s3'] := by
  intro k
  induction k with
  | zero => intro i o n s3 hp _ h0 h1; exact ⟨o, n, s3, hp, h0, h1, by simp [nats, forL, iL]⟩
  | succ k ih =>
    intro i o n s3 hp hi h0 h1
    obtain ⟨r, o1, e1, p1, a1, b1⟩ := draw_ok hp (m := 10000000) (by decide) (by decide)
    have bd : (10000000 : Int) ^ i ≤ 10000000 ^ 9 := p7_le (by omega)
    have b9 : (10000000 : Int) ^ 9 = 1000000000000000000000000000000000000000000000000000000000000000 := by decide
    have m := gMul_i (i := n) (j := 10000000) (by omega) (by decide)
    have up : n * 10000000 + r < 10000000 ^ (i + 1) := by rw [Int.pow_succ]; omega
    obtain ⟨o', n', s3', p', q0, q1, e2⟩ := ih (i + 1) o1 (n * 10000000 + r) (some (.imm (.int (i : Int)))) p1 (by omega) (by omega) up
    refine ⟨o', n', s3', p', q0, by rw [show i + (k + 1) = i + 1 + k by omega]; exact q1, ?_⟩
    rw [← e2, nats_succ]
    simp [forL, pow_7, e1, m]
theorem great_ok {o : OB} (h : Pot o) {g : Nat} (hg : g ≤ 9) : ∃ r o', m__law_great (some o) [.int (g : Int)] = .ok (.imm (.int r)) (some o') ∧ Pot o' ∧ (r.natAbs : Int) < 10000000 ^ g := by
  obtain ⟨o1, n, s3, p1, n0, n1, e1⟩ := great_loop (g := some (.imm (.int (g : Int)))) g 0 o 0 none h (by omega) (by decide) (by decide)
  rw [Nat.zero_add] at n1
  obtain ⟨s, o2, e2, p2, hs⟩ := pick_ok p1 (xs := [1, -1]) (by simp) (by simp)
  have e2' : m__law_pick (some o1) [.lst [.int 1, .int (-1)]] = .ok (.imm (.int s)) (some o2) := e2
  have bd : (10000000 : Int) ^ g ≤ 10000000 ^ 9 := p7_le hg
  have b9 : (10000000 : Int) ^ 9 = 1000000000000000000000000000000000000000000000000000000000000000 := by decide
  have hs' : s = 1 ∨ s = -1 := by simpa using hs
  have m := gMul_i (i := n) (j := s) (by omega) (by omega)
  refine ⟨n * s, o2, ?_, p2, by rcases hs' with rfl | rfl <;> omega⟩
  have q : itRg1 (vI 1) [some (.brw o), some (.imm (.int (g : Int))), some (.imm (.int 0)), none] = .ok (iL (nats 0 g)) [some (.brw o), some (.imm (.int (g : Int))), some (.imm (.int 0)), none] := itRg1_ok (by omega) (by simp)
  (unfold m__law_great g__law_great; unfold mir; rw [if_pos (by simp [ioN])]; simp only [ini, ioS, ioN, List.replicate, List.map_cons, List.map_nil, List.length_cons, List.length_nil, List.nil_append, List.cons_append, Nat.zero_add, Nat.reduceAdd, Nat.reduceSub])
  (rw [ap_sSeq]; (conv in (SR.bind _ _) => (arg 1; simp [])); (try rw [SR.bind_nx]))
  rw [ap_sSeq, show g__law_great_2 _ = _ from for_st q e1, SR.bind_nx]
  simp [outR, ioOut, e2', m]
end
end K47

namespace K47
open PySem L2 TS
noncomputable section
-- needs: lawq gdict greatB
set_option exponentiation.threshold 6000
abbrev MX : Int := 1000000000000000000000
structure LG (c : Nat) (Ps : List (Int × Int)) (many : Int × Int → Int) : Prop where
  nd : Ps.Nodup
  len : Ps.length ≤ c
  ok : ∀ P ∈ Ps, OkP P ∧ P.1 ≠ 0 ∧ P.1.natAbs ≤ 9000000000000000000000 ∧ P.2 ≤ 9
  ml : ∀ P ∈ Ps, 1 ≤ many P ∧ many P ≤ c * MX
  hz : ∀ P, P ∉ Ps → many P = 0
theorem LG.nil : LG 0 [] fun _ => 0 := ⟨List.nodup_nil, by simp, by simp, by simp, fun _ _ => rfl⟩
theorem LG.mono {c d : Nat} {Ps : List (Int × Int)} {many : Int × Int → Int} (h : LG c Ps many) (l : c ≤ d) : LG d Ps many :=
  ⟨h.nd, Nat.le_trans h.len l, h.ok, fun P hP => ⟨(h.ml P hP).1, by
    have := (h.ml P hP).2
    have e : (c : Int) * MX ≤ d * MX := Int.mul_le_mul_of_nonneg_right (by omega) (by decide)
    omega⟩, h.hz⟩
theorem LG.put {c : Nat} {Ps : List (Int × Int)} {many : Int × Int → Int} (h : LG c Ps many) {S : Int × Int} (hS : OkP S ∧ S.1 ≠ 0 ∧ S.1.natAbs ≤ 9000000000000000000000 ∧ S.2 ≤ 9) {v : Int} (h1 : 1 ≤ v) (h2 : v ≤ (c + 1 : Nat) * MX) :
    LG (c + 1) (extL Ps S) (fun P => if P = S then v else many P) ∧ putD (Ps.map paK) (Ps.map fun P => .int (many P)) (paK S) (.int v) = ((extL Ps S).map paK, (extL Ps S).map fun P => D.int (if P = S then v else many P)) := by
  refine ⟨⟨nd_ext h.nd, Nat.le_trans len_ext (by have := h.len; omega), fun P hP => ?_, fun P hP => ?_, fun P hP => ?_⟩, ?_⟩
  · rcases mem_ext.mp hP with hP | rfl
    · exact h.ok P hP
    · exact hS
  · by_cases z : P = S
    · rw [if_pos z]; exact ⟨h1, h2⟩
    · rw [if_neg z]
      rcases mem_ext.mp hP with hP | e
      · exact ((h.mono (Nat.le_succ c)).ml P hP)
      · exact absurd e z
  · have n1 : P ∉ Ps := fun w => hP (mem_ext.mpr (.inl w))
    have n2 : P ≠ S := fun w => hP (mem_ext.mpr (.inr w))
    rw [if_neg n2]; exact h.hz P n1
  · rw [put_map paK_inj' _ _ _ h.nd]
    refine Prod.ext rfl ?_
    refine List.map_congr_left fun P _ => ?_
    by_cases z : P = S
    · rw [if_pos z, if_pos z]
    · rw [if_neg z, if_neg z]
structure RG (c : Nat) (Ys : List Int) (den : Int → Rat) : Prop where
  nd : Ys.Nodup
  len : Ys.length ≤ c
  ok : ∀ z ∈ Ys, 1 ≤ z ∧ z ≤ MX ∧ 0 < (den z).num ∧ bq 80 (den z)
  hz : ∀ z, z ∉ Ys → den z = 0
theorem RG.nil : RG 0 [] fun _ => 0 := ⟨List.nodup_nil, by simp, by simp, fun _ _ => rfl⟩
theorem RG.mono {c d : Nat} {Ys : List Int} {den : Int → Rat} (h : RG c Ys den) (l : c ≤ d) : RG d Ys den := ⟨h.nd, Nat.le_trans h.len l, h.ok, h.hz⟩
theorem RG.put {c : Nat} {Ys : List Int} {den : Int → Rat} (h : RG c Ys den) {z : Int} {v : Rat} (hv : 1 ≤ z ∧ z ≤ MX ∧ 0 < v.num ∧ bq 80 v) :
    RG (c + 1) (extL Ys z) (fun y => if y = z then v else den y) ∧ putD (Ys.map Sum.inl) (Ys.map fun z => paD (qP (den z))) (Sum.inl z : Key) (paD (qP v)) = ((extL Ys z).map Sum.inl, (extL Ys z).map fun y => paD (qP (if y = z then v else den y))) := by
  refine ⟨⟨nd_ext h.nd, Nat.le_trans len_ext (by have := h.len; omega), fun y hy => ?_, fun y hy => ?_⟩, ?_⟩
  · by_cases e : y = z
    · subst e; rw [if_pos rfl]; exact hv
    · rw [if_neg e]
      rcases mem_ext.mp hy with hy | e'
      · exact h.ok y hy
      · exact absurd e' e
  · have n1 : y ∉ Ys := fun w => hy (mem_ext.mpr (.inl w))
    have n2 : y ≠ z := fun w => hy (mem_ext.mpr (.inr w))
    rw [if_neg n2]; exact h.hz y n1
  · rw [put_map inl_inj' _ _ _ h.nd]
    refine Prod.ext rfl ?_
    refine List.map_congr_left fun y _ => ?_
    by_cases e : y = z
    · rw [if_pos e, if_pos e]
    · rw [if_neg e, if_neg e]
theorem sum_le9 : ∀ {Ps : List (Int × Int)}, (∀ P ∈ Ps, P.2 ≤ 9) → (Ps.map fun P => P.2.toNat).sum ≤ 9 * Ps.length
  | [], _ => by simp
  | P :: Ps, h => by
    have := sum_le9 (Ps := Ps) fun Q hQ => h Q (by simp [hQ])
    have := h P (by simp)
    rw [List.map_cons, List.sum_cons, List.length_cons]
    omega
theorem prg_of {c d : Nat} {Ps : List (Int × Int)} {many : Int × Int → Int} {Ys : List Int} {den : Int → Rat} (L : LG c Ps many) (R : RG d Ys den) (hc : c ≤ 9) (hn : Ps.length + Ys.length ≤ 10) : PrG 80 Ps many Ys den where
  ok := fun P hP => by
    obtain ⟨a, b, c, d⟩ := L.ok P hP
    have e : (9000000000000000000000 : Nat) < 2 ^ 80 := by decide
    have := a.1
    exact ⟨a, b, by omega, by omega⟩
  ml := fun P hP => by
    obtain ⟨a, b⟩ := L.ml P hP
    have e : (9 : Int) * MX < 2 ^ 80 := by decide
    have e2 : (c : Int) * MX ≤ 9 * MX := Int.mul_le_mul_of_nonneg_right (by omega) (by decide)
    exact ⟨a, by omega⟩
  yl := fun z hz => by
    obtain ⟨a, b, c, d⟩ := R.ok z hz
    have e : MX < 2 ^ 80 := by decide
    exact ⟨a, by omega, c, d⟩
  nd := L.nd
  nd2 := R.nd
  bB := by decide
  sz := by
    have : (Ps.length + Ys.length) * (2 * 80 + 1) ≤ 10 * (2 * 80 + 1) := Nat.mul_le_mul_right _ hn
    omega
  dn := by
    have := sum_le9 (Ps := Ps) fun P hP => (L.ok P hP).2.2.2
    have := L.len
    omega
theorem get_in (den : Int → Rat) {Ys : List Int} (hz : ∀ z, z ∉ Ys → den z = 0) (z : Int) : gGet (.dK (Ys.map Sum.inl) (Ys.map fun z => paD (qP (den z)))) (.int z) (.tup [.int 0, .int 1]) = some (paD (qP (den z))) := by
  show (TS.keyOf (.int z)).map (fun k => (lookD (Ys.map Sum.inl) (Ys.map fun z => paD (qP (den z))) k).getD (.tup [.int 0, .int 1])) = _
  rw [show TS.keyOf (.int z) = some (Sum.inl z) from rfl]
  by_cases h : z ∈ Ys
  · have := look_in (fun z => paD (qP (den z))) h
    rw [Option.map_some, this]; rfl
  · have key : ∀ l : List Int, z ∉ l → lookD (l.map (Sum.inl : Int → Key)) (l.map fun z => paD (qP (den z))) (.inl z) = none := by
      intro l
      induction l with
      | nil => intro _; rfl
      | cons y l ih =>
        intro hn
        simp only [List.mem_cons, not_or] at hn
        simp only [List.map_cons, lookD]
        rw [if_neg fun w => hn.1 (Sum.inl.inj w).symm, ih hn.2]
    rw [Option.map_some, key Ys h, hz z h]; rfl
theorem speed_q {a b : Int} (ha : a ≠ 0) (ha2 : a.natAbs ≤ 9000000000000000000000) (hb : 0 < b) (hb9 : b ≤ 9) : OkP (qP (Rat.divInt a b)) ∧ (qP (Rat.divInt a b)).1 ≠ 0 ∧ (qP (Rat.divInt a b)).1.natAbs ≤ 9000000000000000000000 ∧ (qP (Rat.divInt a b)).2 ≤ 9 := by
  obtain ⟨l1, l2, l3⟩ := low_le (a := a) hb
  obtain ⟨g, g0, g1, g2⟩ := low_ex (a := a) hb
  rw [low_div hb] at l1 l2 l3 g1 g2
  refine ⟨qP_ok _, fun z => ?_, by omega, by omega⟩
  rw [z, Int.zero_mul] at g1; exact ha g1.symm
theorem num_pos {a b : Int} (ha : 0 < a) (hb : 0 < b) : 0 < (Rat.divInt a b).num := by
  obtain ⟨g, g0, g1, g2⟩ := low_ex (a := a) hb
  rw [low_div hb] at g1
  have g1 : (Rat.divInt a b).num * g = a := g1
  rcases Int.lt_or_le 0 (Rat.divInt a b).num with w | w
  · exact w
  · have := Int.mul_le_mul_of_nonneg_right w (Int.le_of_lt g0)
    rw [Int.zero_mul] at this; omega
theorem number_ok {o : OB} (h : Pot o) : ∃ n o', m__law_number (some o) [] = .ok (.imm (.int n)) (some o') ∧ Pot o' ∧ 1 ≤ n ∧ n ≤ MX := by
  obtain ⟨a, o1, e1, p1, a0, a1⟩ := draw_ok h (m := 5) (by decide) (by decide)
  by_cases z : 0 < a
  · obtain ⟨b, o2, e2, p2, b0, b1⟩ := draw_ok p1 (m := 9) (by decide) (by decide)
    refine ⟨1 + b, o2, ?_, p2, by omega, by unfold MX; omega⟩
    simp [m__law_number, mir, ini, ioS, ioN, outR, ioOut, g__law_number, e1, e2, z]
  · obtain ⟨b, o2, e2, p2, b1⟩ := great_ok p1 (g := 3) (by decide)
    have e3 : (10000000 : Int) ^ 3 = MX := by decide
    rw [e3] at b1
    have e2 : m__law_great (some o1) [.int 3] = .ok (.imm (.int b)) (some o2) := e2
    have ab : gAbs [.int b] = some (.imm (.int (b.natAbs : Int))) := by simp [gAbs, ifabs]
    refine ⟨1 + (b.natAbs : Int), o2, ?_, p2, by omega, by omega⟩
    generalize (b.natAbs : Int) = q at *
    simp [m__law_number, mir, ini, ioS, ioN, outR, ioOut, g__law_number, e1, e2, z, ab, -gAbs_i]
theorem sign_ok {o : OB} (h : Pot o) : ∃ s o', m__law_pick (some o) [.lst [.int 1, .int (-1)]] = .ok (.imm (.int s)) (some o') ∧ Pot o' ∧ (s = 1 ∨ s = -1) := by
  obtain ⟨s, o2, e2, p2, hs⟩ := pick_ok h (xs := [1, -1]) (by simp) (by simp)
  exact ⟨s, o2, e2, p2, by simpa using hs⟩
theorem d2_turn {o : OB} (h : Pot o) {c : Nat} (hc : c ≤ 8) {Ps : List (Int × Int)} {many : Int × Int → Int} (L : LG c Ps many) (s1 s3 s4 : Option TS.R) :
    ∃ o' Ps' many' r4, Pot o' ∧ LG (c + 1) Ps' many' ∧ g__law_dicts_2B [some (.brw o), s1, some (.own (.dT (Ps.map paK) (Ps.map fun P => .int (many P)))), s3, s4] = .nx [some (.brw o'), s1, some (.own (.dT (Ps'.map paK) (Ps'.map fun P => .int (many' P)))), s3, r4] := by
  obtain ⟨n, o1, e1, p1, n0, n1⟩ := number_ok h
  obtain ⟨s, o2, e2, p2, hs⟩ := sign_ok p1
  obtain ⟨b, o3, e3, p3, b0, b1⟩ := draw_ok p2 (m := 9) (by decide) (by decide)
  obtain ⟨v, o4, e4, p4, v0, v1⟩ := number_ok p3
  have m1 := gMul_i (i := n) (j := s) (by unfold MX at n1; omega) (by omega)
  have hns : n * s ≠ 0 ∧ (n * s).natAbs ≤ 9000000000000000000000 := by unfold MX at n1; rcases hs with rfl | rfl <;> omega
  have lo := lawlow_q (a := n * s) (b := 1 + b) (by omega) (Nat.lt_of_lt_of_le (show (1 + b).natAbs < 2 ^ 10 by omega) (pw2 (by decide)))
  have sp := speed_q hns.1 hns.2 (show 0 < 1 + b by omega) (by omega)
  obtain ⟨L', pe⟩ := L.put sp v0 (by
    have : (1 : Int) * MX ≤ (c + 1 : Nat) * MX := Int.mul_le_mul_of_nonneg_right (by omega) (by decide)
    omega)
  have so : setOB (.dT (Ps.map paK) (Ps.map fun P => .int (many P))) (paD (qP (Rat.divInt (n * s) (1 + b)))) (.int v) = some (.dT ((extL Ps (qP (Rat.divInt (n * s) (1 + b)))).map paK) ((extL Ps (qP (Rat.divInt (n * s) (1 + b)))).map fun P => D.int (if P = qP (Rat.divInt (n * s) (1 + b)) then v else many P))) := by
    have hl : ((Ps.map fun P => D.int (many P)).length < 16777216) := by rw [List.length_map]; have := L.len; omega
    show (if (Ps.map fun P => D.int (many P)).length < 16777216 then _ else _) = _
    rw [if_pos hl]
    show some (OB.dT (putD (Ps.map paK) (Ps.map fun P => D.int (many P)) (paK (qP (Rat.divInt (n * s) (1 + b)))) (.int v)).1 (putD (Ps.map paK) (Ps.map fun P => D.int (many P)) (paK (qP (Rat.divInt (n * s) (1 + b)))) (.int v)).2) = _
    rw [pe]
  refine ⟨o4, _, _, some (.imm (paD (qP (Rat.divInt (n * s) (1 + b))))), p4, L', ?_⟩
  clear pe L' sp L
  generalize (extL Ps (qP (Rat.divInt (n * s) (1 + b)))).map paK = K2 at *
  generalize ((extL Ps (qP (Rat.divInt (n * s) (1 + b)))).map fun P => D.int (if P = qP (Rat.divInt (n * s) (1 + b)) then v else many P)) = V2 at *
  generalize paD (qP (Rat.divInt (n * s) (1 + b))) = X at *
  generalize (Ps.map fun P => D.int (many P)) = V at *
  generalize Ps.map paK = K at *
  generalize n * s = w at *
  generalize hq : 1 + b = q at *
  simp [e1, e2, m1, e3, hq, lo, e4, so]
end
end K47

namespace K47
open PySem L2 TS
noncomputable section
-- needs: gparts
set_option exponentiation.threshold 6000
theorem d3_turn {o : OB} (h : Pot o) {c : Nat} (hc : c ≤ 8) {Ys : List Int} {den : Int → Rat} (R : RG c Ys den) (s1 s2 s4 : Option TS.R) :
    ∃ o' Ys' den', Pot o' ∧ RG (c + 1) Ys' den' ∧ g__law_dicts_3B [some (.brw o), s1, s2, some (.own (.dK (Ys.map Sum.inl) (Ys.map fun z => paD (qP (den z))))), s4] = .nx [some (.brw o'), s1, s2, some (.own (.dK (Ys'.map Sum.inl) (Ys'.map fun z => paD (qP (den' z))))), s4] := by
  obtain ⟨n, o1, e1, p1, n0, n1⟩ := number_ok h
  obtain ⟨m, o2, e2, p2, m0, m1⟩ := number_ok p1
  obtain ⟨z, o3, e3, p3, z0, z1⟩ := number_ok p2
  have eM : MX < 2 ^ 80 := by decide
  have lo := lawlow_q (a := n) (b := m) (by omega) (Nat.lt_of_lt_of_le (show m.natAbs < 2 ^ 80 by omega) (pw2 (by decide)))
  obtain ⟨R', pe⟩ := R.put (z := z) (v := Rat.divInt n m) ⟨z0, z1, num_pos (by omega) (by omega), bq_div (by omega) (by omega) (by omega)⟩
  have so : setOB (.dK (Ys.map Sum.inl) (Ys.map fun z => paD (qP (den z)))) (.int z) (paD (qP (Rat.divInt n m))) = some (.dK ((extL Ys z).map Sum.inl) ((extL Ys z).map fun y => paD (qP (if y = z then Rat.divInt n m else den y)))) := by
    have hl : ((Ys.map fun z => paD (qP (den z))).length < 16777216) := by rw [List.length_map]; have := R.len; omega
    show (TS.keyOf (.int z)).bind (fun k => if (Ys.map fun z => paD (qP (den z))).length < 16777216 then _ else _) = _
    rw [show TS.keyOf (.int z) = some (Sum.inl z) from rfl, Option.bind_some, if_pos hl]
    show some (OB.dK (putD (Ys.map Sum.inl) (Ys.map fun z => paD (qP (den z))) (Sum.inl z : Key) (paD (qP (Rat.divInt n m)))).1 (putD (Ys.map Sum.inl) (Ys.map fun z => paD (qP (den z))) (Sum.inl z : Key) (paD (qP (Rat.divInt n m)))).2) = _
    rw [pe]
  refine ⟨o3, _, _, p3, R', ?_⟩
  clear pe R' R
  generalize (extL Ys z).map (Sum.inl : Int → Key) = K2 at *
  generalize ((extL Ys z).map fun y => paD (qP (if y = z then Rat.divInt n m else den y))) = V2 at *
  generalize paD (qP (Rat.divInt n m)) = X at *
  generalize (Ys.map fun z => paD (qP (den z))) = V at *
  generalize Ys.map (Sum.inl : Int → Key) = K at *
  simp [e1, e2, lo, e3, so]
theorem d2_loop (s3 : Option TS.R) : ∀ (k i c : Nat) (o : OB) (Ps : List (Int × Int)) (many : Int × Int → Int) (s1 s4 : Option TS.R), Pot o → LG c Ps many → c + k ≤ 9 → ∃ o' Ps' many' r1 r4, Pot o' ∧ LG (c + k) Ps' many' ∧ forL (tName 1) g__law_dicts_2B (iL (nats i k)) [some (.brw o), s1, some (.own (.dT (Ps.map paK) (Ps.map fun P => .int (many P)))), s3, s4] = .nx [some (.brw o'), r1, some (.own (.dT (Ps'.map paK) (Ps'.map fun P => .int (many' P)))), s3, r4]
  | 0, i, c, o, Ps, many, s1, s4, h, L, _ => ⟨o, Ps, many, s1, s4, h, L, by simp [nats, iL, forL]⟩
  | k + 1, i, c, o, Ps, many, s1, s4, h, L, hc => by
    obtain ⟨o1, Ps1, many1, r4, p1, L1, e1⟩ := d2_turn h (by omega) L (some (.imm (.int (i : Int)))) s3 s4
    obtain ⟨o', Ps', many', r1, r4', p', L', e'⟩ := d2_loop s3 k (i + 1) (c + 1) o1 Ps1 many1 (some (.imm (.int (i : Int)))) r4 p1 L1 (by omega)
    refine ⟨o', Ps', many', r1, r4', p', L'.mono (by omega), ?_⟩
    rw [nats_succ, ← e']
    generalize Ps.map paK = K at *
    generalize (Ps.map fun P => D.int (many P)) = V at *
    generalize Ps1.map paK = K1 at *
    generalize (Ps1.map fun P => D.int (many1 P)) = V1 at *
    generalize g__law_dicts_2B = B at *
    simp only [iL, List.map_cons, forL, ap_tNameI, SR.bind_nx, List.set_cons_succ, List.set_cons_zero, e1]
theorem d3_loop (s2 s4 : Option TS.R) : ∀ (k i c : Nat) (o : OB) (Ys : List Int) (den : Int → Rat) (s1 : Option TS.R), Pot o → RG c Ys den → c + k ≤ 9 → ∃ o' Ys' den' r1, Pot o' ∧ RG (c + k) Ys' den' ∧ forL (tName 1) g__law_dicts_3B (iL (nats i k)) [some (.brw o), s1, s2, some (.own (.dK (Ys.map Sum.inl) (Ys.map fun z => paD (qP (den z))))), s4] = .nx [some (.brw o'), r1, s2, some (.own (.dK (Ys'.map Sum.inl) (Ys'.map fun z => paD (qP (den' z))))), s4]
  | 0, i, c, o, Ys, den, s1, h, L, _ => ⟨o, Ys, den, s1, h, L, by simp [nats, iL, forL]⟩
  | k + 1, i, c, o, Ys, den, s1, h, L, hc => by
    obtain ⟨o1, Ys1, den1, p1, L1, e1⟩ := d3_turn h (by omega) L (some (.imm (.int (i : Int)))) s2 s4
    obtain ⟨o', Ys', den', r1, p', L', e'⟩ := d3_loop s2 s4 k (i + 1) (c + 1) o1 Ys1 den1 (some (.imm (.int (i : Int)))) p1 L1 (by omega)
    refine ⟨o', Ys', den', r1, p', L'.mono (by omega), ?_⟩
    rw [nats_succ, ← e']
    generalize Ys.map (Sum.inl : Int → Key) = K at *
    generalize (Ys.map fun z => paD (qP (den z))) = V at *
    generalize Ys1.map (Sum.inl : Int → Key) = K1 at *
    generalize (Ys1.map fun z => paD (qP (den1 z))) = V1 at *
    generalize g__law_dicts_3B = B at *
    simp only [iL, List.map_cons, forL, ap_tNameI, SR.bind_nx, List.set_cons_succ, List.set_cons_zero, e1]
theorem itRg1_ok' {f : FD} {δ δ' : Sl} {k : Nat} (h : k ≤ 16777216) (e : f δ = .ok (.int (k : Int)) δ') : itRg1 f δ = .ok (iL (nats 0 k)) δ' := by
  unfold itRg1
  rw [e, Res.bind_ok]
  show (if gd (-4611686018427387904 ≤ (k : Int) ∧ (k : Int) < 4611686018427387904) = true then Res.ok (rgD 0 (k : Int)) δ' else .bad) = _
  rw [if_pos (rg1_nat h), rgD_nats]
theorem dicts_ok {o : OB} (h : Pot o) : ∃ o' Ps many Ys den, Pot o' ∧ PrG 80 Ps many Ys den ∧ (∀ P, P ∉ Ps → many P = 0) ∧ (∀ z, z ∉ Ys → den z = 0) ∧ m__law_dicts (some o) [] = .ok (.imm (.tup [.dT (Ps.map paK) (Ps.map fun P => .int (many P)), .dK (Ys.map Sum.inl) (Ys.map fun z => paD (qP (den z)))])) (some o') := by
  obtain ⟨a, o1, e1, p1, a0, a1⟩ := draw_ok h (m := 6) (by decide) (by decide)
  obtain ⟨k, rfl⟩ := Int.eq_ofNat_of_zero_le a0
  obtain ⟨o2, Ps, many, r1, r4, p2, L, l2⟩ := d2_loop (some (.own (.dK [] []))) k 0 0 o1 [] (fun _ => 0) none none p1 LG.nil (by omega)
  obtain ⟨b, o3, e3, p3, b0, b1⟩ := draw_ok p2 (m := 6) (by decide) (by decide)
  obtain ⟨j, rfl⟩ := Int.eq_ofNat_of_zero_le b0
  obtain ⟨o4, Ys, den, r1', p4, R, l3⟩ := d3_loop (some (.own (.dT (Ps.map paK) (Ps.map fun P => .int (many P))))) r4 j 0 0 o3 [] (fun _ => 0) r1 p3 RG.nil (by omega)
  have ll := L.len
  have lr := R.len
  refine ⟨o4, Ps, many, Ys, den, p4, prg_of L R (by omega) (by omega), L.hz, R.hz, ?_⟩
  have l2 : forL (tName 1) g__law_dicts_2B (iL (nats 0 k)) [some (.brw o1), none, some (.own (.dT [] [])), some (.own (.dK [] [])), none] = _ := l2
  have l3 : forL (tName 1) g__law_dicts_3B (iL (nats 0 j)) [some (.brw o3), r1, some (.own (.dT (Ps.map paK) (Ps.map fun P => .int (many P)))), some (.own (.dK [] [])), r4] = _ := l3
  have i1 : itRg1 (frz (fOwnIo m__law_draw 0 (aCons (kD (.int 6)) aNil))) [some (.brw o), none, some (.own (.dT [] [])), some (.own (.dK [] [])), none] = .ok (iL (nats 0 k)) [some (.brw o1), none, some (.own (.dT [] [])), some (.own (.dK [] [])), none] := itRg1_ok' (show k ≤ 16777216 by omega) (by simp [e1])
  have i2 : itRg1 (frz (fOwnIo m__law_draw 0 (aCons (kD (.int 6)) aNil))) [some (.brw o2), r1, some (.own (.dT (Ps.map paK) (Ps.map fun P => .int (many P)))), some (.own (.dK [] [])), r4] = .ok (iL (nats 0 j)) [some (.brw o3), r1, some (.own (.dT (Ps.map paK) (Ps.map fun P => .int (many P)))), some (.own (.dK [] [])), r4] := by
    generalize Ps.map paK = K at *
    generalize (Ps.map fun P => D.int (many P)) = V at *
    exact itRg1_ok' (show j ≤ 16777216 by omega) (by simp [e3])
  generalize Ys.map (Sum.inl : Int → Key) = K2 at *
  generalize (Ys.map fun z => paD (qP (den z))) = V2 at *
  generalize Ps.map paK = K at *
  generalize (Ps.map fun P => D.int (many P)) = V at *
  (unfold m__law_dicts g__law_dicts; unfold mir; rw [if_pos (by simp [ioN])]; simp only [ini, ioS, ioN, List.replicate, List.map_cons, List.map_nil, List.length_cons, List.length_nil, List.nil_append, List.cons_append, Nat.zero_add, Nat.reduceAdd, Nat.reduceSub])
  (rw [ap_sSeq]; (conv in (SR.bind _ _) => (arg 1; simp [])); (try rw [SR.bind_nx]))
  rw [ap_sSeq, show g__law_dicts_2 _ = _ from for_st i1 l2, SR.bind_nx]
  rw [ap_sSeq, show g__law_dicts_3 _ = _ from for_st i2 l3, SR.bind_nx]
  simp [outR, ioOut, OB.toD]
theorem get_paG {Qs : List (Int × Int)} {m : Int × Int → Int} (hz : ∀ P, OkP P → P ∉ Qs → m P = 0) {P : Int × Int} (hP : OkP P) : gGet (.dT (Qs.map paK) (Qs.map fun P => .int (m P))) (paD P) (.int 0) = some (.int (m P)) := by
  have k : keysOf [D.int P.1, D.int P.2] = some (paK P) := rfl
  show (keysOf [D.int P.1, D.int P.2]).map (fun k => (lookD (Qs.map paK) (Qs.map fun P => D.int (m P)) k).getD (.int 0)) = _
  rw [k]
  by_cases h : P ∈ Qs
  · have := look_pa (fun P => D.int (m P)) h
    rw [Option.map_some, this]; rfl
  · have : ∀ l : List (Int × Int), P ∉ l → lookD (l.map paK) (l.map fun P => D.int (m P)) (paK P) = none := by
      intro l
      induction l with
      | nil => intro _; rfl
      | cons Q l ih =>
        intro hn
        rw [List.mem_cons, not_or] at hn
        show (if paK Q = paK P then _ else lookD (l.map paK) _ _) = none
        rw [if_neg (fun e => hn.1 (paK_inj e).symm)]
        exact ih hn.2
    rw [Option.map_some, this Qs h, hz P hP h]; rfl
structure PG (w : Int) (u : Nat) (Ys : List Int) (k : Int → Int) : Prop where
  nd : Ys.Nodup
  len : Ys.length ≤ u
  ok : ∀ z ∈ Ys, 1 ≤ z ∧ z ≤ MX ∧ 1 ≤ k z ∧ k z ≤ u
  hz : ∀ z, z ∉ Ys → k z = 0
def dnW (w : Int) (k : Int → Int) (z : Int) : Rat := Rat.divInt (k z) (z * w)
theorem PG.rg {w : Int} {u : Nat} {Ys : List Int} {k : Int → Int} (h : PG w u Ys k) (hw : 1 ≤ w ∧ w ≤ 9) (hu : u ≤ 9) : RG u Ys (dnW w k) where
  nd := h.nd
  len := h.len
  ok := fun z hz => by
    obtain ⟨a, b, c, d⟩ := h.ok z hz
    have zw : 0 < z * w := Int.mul_pos (by omega) (by omega)
    have zb : z * w ≤ MX * 9 := Int.mul_le_mul b hw.2 (by omega) (by decide)
    have e : MX * 9 < 2 ^ 80 := by decide
    have e2 : (9 : Nat) < 2 ^ 80 := by decide
    exact ⟨a, b, num_pos (by omega) zw, bq_div zw (by omega) (by omega)⟩
  hz := fun z hz => by unfold dnW; rw [h.hz z hz]; exact Rat.zero_divInt _
theorem p_turn {o : OB} (h : Pot o) {w l : Int} (hw : 1 ≤ w ∧ w ≤ 9) (hl : 1 ≤ l ∧ l ≤ w) {u : Nat} (hu : l + u = w) {Ps : List (Int × Int)} {many : Int × Int → Int} (L : LG u Ps many) {Ys : List Int} {k : Int → Int} (R : PG w u Ys k) (hn : Ps.length + Ys.length ≤ u) (s5 s6 s7 : Option TS.R) :
    ∃ o' l' u' Ps' many' Ys' k' r5 r6 r7, Pot o' ∧ 0 ≤ l' ∧ l' < l ∧ l' + (u' : Nat) = w ∧ LG u' Ps' many' ∧ PG w u' Ys' k' ∧ Ps'.length + Ys'.length ≤ u' ∧
    g__law_parts_3B [some (.brw o), some (.imm (.int l)), some (.imm (.int w)), some (.own (.dT (Ps.map paK) (Ps.map fun P => .int (many P)))), some (.own (.dK (Ys.map Sum.inl) (Ys.map fun z => paD (qP (dnW w k z))))), s5, s6, s7] =
      .nx [some (.brw o'), some (.imm (.int l')), some (.imm (.int w)), some (.own (.dT (Ps'.map paK) (Ps'.map fun P => .int (many' P)))), some (.own (.dK (Ys'.map Sum.inl) (Ys'.map fun z => paD (qP (dnW w k' z))))), r5, r6, r7] := by
  obtain ⟨a, o1, e1, p1, a0, a1⟩ := draw_ok h (m := l) (by omega) (by omega)
  obtain ⟨s, hs, hs0, hs1⟩ : ∃ s : Int, 1 + a = s ∧ 1 ≤ s ∧ s ≤ l := ⟨1 + a, rfl, by omega, by omega⟩
  -- how many
  obtain ⟨m, o2, p2, m0, m1, S3⟩ : ∃ m o2, Pot o2 ∧ 1 ≤ m ∧ m ≤ MX ∧ ∀ x1 x2 x3 x4 x5 x6 x7, g__law_parts_3_3 [some (.brw o1), x1, x2, x3, x4, x5, x6, x7] = .nx [some (.brw o2), x1, x2, x3, x4, x5, some (.imm (.int m)), x7] := by
    obtain ⟨q, oa, ea, pa, q0, q1⟩ := draw_ok p1 (m := 6) (by decide) (by decide)
    by_cases z : 0 < q
    · obtain ⟨b, ob, eb, pb, b0, b1⟩ := draw_ok pa (m := 4) (by decide) (by decide)
      refine ⟨1 + b, ob, pb, by omega, by unfold MX; omega, fun x1 x2 x3 x4 x5 x6 x7 => ?_⟩
      simp [ea, z, eb]
    · obtain ⟨b, ob, eb, pb, b1⟩ := great_ok pa (g := 3) (by decide)
      have e3 : (10000000 : Int) ^ 3 = MX := by decide
      rw [e3] at b1
      have eb : m__law_great (some oa) [.int 3] = .ok (.imm (.int b)) (some ob) := eb
      have ab : gAbs [.int b] = some (.imm (.int (b.natAbs : Int))) := by simp [gAbs, ifabs]
      refine ⟨(b.natAbs : Int) + 1, ob, pb, by omega, by omega, fun x1 x2 x3 x4 x5 x6 x7 => ?_⟩
      generalize (b.natAbs : Int) = q at *
      simp [ea, z, eb, ab, -gAbs_i]
  obtain ⟨q, o3, e4, p3, q0, q1⟩ := draw_ok p2 (m := 3) (by decide) (by decide)
  have S12 : ∀ x3 x4 x5 x6 x7, g__law_parts_3B [some (.brw o), some (.imm (.int l)), some (.imm (.int w)), x3, x4, x5, x6, x7] = g__law_parts_3_4 [some (.brw o2), some (.imm (.int (l - s))), some (.imm (.int w)), x3, x4, some (.imm (.int s)), some (.imm (.int m)), x7] := fun x3 x4 x5 x6 x7 => by
    rw [show g__law_parts_3B = sSeq g__law_parts_3_1 (sSeq g__law_parts_3_2 (sSeq g__law_parts_3_3 g__law_parts_3_4)) from rfl]
    have T1 : g__law_parts_3_1 [some (.brw o), some (.imm (.int l)), some (.imm (.int w)), x3, x4, x5, x6, x7] = .nx [some (.brw o1), some (.imm (.int l)), some (.imm (.int w)), x3, x4, some (.imm (.int s)), x6, x7] := by simp [e1, hs]
    have T2 : g__law_parts_3_2 [some (.brw o1), some (.imm (.int l)), some (.imm (.int w)), x3, x4, some (.imm (.int s)), x6, x7] = .nx [some (.brw o1), some (.imm (.int (l - s))), some (.imm (.int w)), x3, x4, some (.imm (.int s)), x6, x7] := by simp
    rw [ap_sSeq, T1, SR.bind_nx, ap_sSeq, T2, SR.bind_nx, ap_sSeq, S3, SR.bind_nx]
  have eM : MX = 1000000000000000000000 := rfl
  have mw : 1 ≤ m * w ∧ m * w ≤ 9 * MX := by
    have h1 : 1 * 1 ≤ m * w := Int.mul_le_mul m0 hw.1 (by decide) (by omega)
    have h2 : m * w ≤ MX * 9 := Int.mul_le_mul m1 hw.2 (by omega) (by decide)
    omega
  have g1 := gMul_i (i := m) (j := w) (by omega) (by omega)
  have us : (u + s.toNat : Nat) = ((u : Int) + s) := by omega
  by_cases zq : 0 < q
  · obtain ⟨sg, o4, e5, p4, hsg⟩ := sign_ok p3
    have g2 := gMul_i (i := m * w) (j := sg) (by omega) (by omega)
    have hns : m * w * sg ≠ 0 ∧ (m * w * sg).natAbs ≤ 9000000000000000000000 := by rcases hsg with rfl | rfl <;> omega
    have lo := lawlow_q (a := m * w * sg) (b := s) (by omega) (Nat.lt_of_lt_of_le (show s.natAbs < 2 ^ 10 by omega) (pw2 (by decide)))
    have sp := speed_q hns.1 hns.2 (show 0 < s by omega) (by omega)
    generalize hS : qP (Rat.divInt (m * w * sg) s) = S at *
    have hm0 : 0 ≤ many S ∧ many S ≤ u * MX := by
      by_cases w : S ∈ Ps
      · have := L.ml S w; omega
      · rw [L.hz S w]; exact ⟨by omega, Int.mul_nonneg (by omega) (by decide)⟩
    obtain ⟨L', pe⟩ := L.put sp (v := many S + m) (by omega) (by
      rw [Int.natCast_succ, Int.add_mul]; omega)
    have ga := get_paG (Qs := Ps) (m := many) (fun P _ hP => L.hz P hP) sp.1
    have so : setOB (.dT (Ps.map paK) (Ps.map fun P => .int (many P))) (paD S) (.int (many S + m)) = some (.dT ((extL Ps S).map paK) ((extL Ps S).map fun P => D.int (if P = S then many S + m else many P))) := by
      have hl : ((Ps.map fun P => D.int (many P)).length < 16777216) := by rw [List.length_map]; have := L.len; omega
      show (if (Ps.map fun P => D.int (many P)).length < 16777216 then _ else _) = _
      rw [if_pos hl]
      show some (OB.dT (putD (Ps.map paK) (Ps.map fun P => D.int (many P)) (paK S) (.int (many S + m))).1 (putD (Ps.map paK) (Ps.map fun P => D.int (many P)) (paK S) (.int (many S + m))).2) = _
      rw [pe]
    have le := len_ext (l := Ps) (s := S)
    refine ⟨o4, l - s, u + s.toNat, _, _, Ys, k, some (.imm (.int s)), some (.imm (.int m)), some (.imm (paD S)), p4, by omega, by omega, by omega, L'.mono (by omega), ⟨R.nd, by have := R.len; omega, fun z hz => by have := R.ok z hz; exact ⟨this.1, this.2.1, this.2.2.1, by omega⟩, R.hz⟩, by omega, ?_⟩
    rw [S12]
    clear S12 S3 pe L' sp L hm0 R hn
    generalize (extL Ps S).map paK = K2 at *
    generalize ((extL Ps S).map fun P => D.int (if P = S then many S + m else many P)) = V2 at *
    generalize paD S = X at *
    generalize many S = ms at *
    generalize (Ps.map fun P => D.int (many P)) = V at *
    generalize Ps.map paK = K at *
    generalize Ys.map (Sum.inl : Int → Key) = KY at *
    generalize (Ys.map fun z => paD (qP (dnW w k z))) = VY at *
    generalize m * w = w1 at *
    generalize w1 * sg = w2 at *
    simp [e4, zq, g1, e5, g2, lo, fGetV, ga, so, OB.toD, isDD]
  · have zw : 0 < m * w := by omega
    have kb : 0 ≤ k m ∧ k m ≤ u := by
      by_cases z : m ∈ Ys
      · have := R.ok m z; omega
      · rw [R.hz m z]; omega
    have e80 : 9 * MX < 2 ^ 80 := by decide
    have e8 : (9 : Nat) < 2 ^ 80 := by decide
    have R0 := R.rg hw (by omega)
    have dq : bq 80 (dnW w k m) := by
      unfold dnW
      exact bq_div zw (by omega) (by omega)
    have lp := lawplus_qP (r := dnW w k m) (a := s) (b := m * w) (dq.mono (by decide)) zw (Nat.lt_of_lt_of_le (show s.natAbs < 2 ^ 10 by omega) (pw2 (by decide))) (Nat.lt_of_lt_of_le (show (m * w).natAbs < 2 ^ 80 by omega) (pw2 (by decide)))
    have sm : dnW w k m + Rat.divInt s (m * w) = Rat.divInt (k m + s) (m * w) := by
      unfold dnW
      rw [Rat.divInt_add_divInt _ _ (by omega) (by omega)]
      refine (Rat.divInt_eq_divInt_iff ?_ (by omega)).mpr ?_
      · exact fun z => by rcases Int.mul_eq_zero.mp z with z | z <;> omega
      · generalize m * w = x at *
        rw [← Int.add_mul, Int.mul_assoc]
    rw [sm] at lp
    have ga := get_in (dnW w k) (Ys := Ys) R0.hz m
    obtain ⟨_, pe⟩ := R0.put (z := m) (v := Rat.divInt (k m + s) (m * w)) ⟨m0, m1, num_pos (by omega) zw, bq_div zw (by omega) (by omega)⟩
    have ef : (fun y => paD (qP (if y = m then Rat.divInt (k m + s) (m * w) else dnW w k y))) = fun y => paD (qP (dnW w (fun y => if y = m then k m + s else k y) y)) := by
      funext y
      unfold dnW
      by_cases z : y = m
      · subst z; rw [if_pos rfl]; simp
      · rw [if_neg z]; simp only [if_neg z]
    rw [ef] at pe
    have so : setOB (.dK (Ys.map Sum.inl) (Ys.map fun z => paD (qP (dnW w k z)))) (.int m) (paD (qP (Rat.divInt (k m + s) (m * w)))) = some (.dK ((extL Ys m).map Sum.inl) ((extL Ys m).map fun y => paD (qP (dnW w (fun y => if y = m then k m + s else k y) y)))) := by
      have hl : ((Ys.map fun z => paD (qP (dnW w k z))).length < 16777216) := by rw [List.length_map]; have := R.len; omega
      show (TS.keyOf (.int m)).bind (fun q => if (Ys.map fun z => paD (qP (dnW w k z))).length < 16777216 then _ else _) = _
      rw [show TS.keyOf (.int m) = some (Sum.inl m) from rfl, Option.bind_some, if_pos hl]
      show some (OB.dK (putD (Ys.map Sum.inl) (Ys.map fun z => paD (qP (dnW w k z))) (Sum.inl m : Key) (paD (qP (Rat.divInt (k m + s) (m * w))))).1 (putD (Ys.map Sum.inl) (Ys.map fun z => paD (qP (dnW w k z))) (Sum.inl m : Key) (paD (qP (Rat.divInt (k m + s) (m * w))))).2) = _
      rw [pe]
    have le := len_ext (l := Ys) (s := m)
    have R' : PG w (u + s.toNat) (extL Ys m) (fun y => if y = m then k m + s else k y) := by
      refine ⟨nd_ext R.nd, by have := R.len; omega, fun y hy => ?_, fun y hy => ?_⟩
      · by_cases z : y = m
        · subst z
          refine ⟨m0, m1, ?_, ?_⟩
          · show 1 ≤ (if y = y then k y + s else k y); rw [if_pos rfl]; omega
          · show (if y = y then k y + s else k y) ≤ _; rw [if_pos rfl]; omega
        · simp only [if_neg z]
          rcases mem_ext.mp hy with hy | e
          · have := R.ok y hy; exact ⟨this.1, this.2.1, this.2.2.1, by omega⟩
          · exact absurd e z
      · have n1 : y ∉ Ys := fun w => hy (mem_ext.mpr (.inl w))
        have n2 : y ≠ m := fun w => hy (mem_ext.mpr (.inr w))
        simp only [if_neg n2]; exact R.hz y n1
    refine ⟨o3, l - s, u + s.toNat, Ps, many, _, _, some (.imm (.int s)), some (.imm (.int m)), s7, p3, by omega, by omega, by omega, L.mono (by omega), R', by omega, ?_⟩
    rw [S12]
    clear S12 S3 pe R' R0 L R hn ef sm dq kb
    generalize (extL Ys m).map (Sum.inl : Int → Key) = K2 at *
    generalize ((extL Ys m).map fun y => paD (qP (dnW w (fun y => if y = m then k m + s else k y) y))) = V2 at *
    generalize paD (qP (Rat.divInt (k m + s) (m * w))) = X at *
    generalize paD (qP (dnW w k m)) = X0 at *
    generalize (Ps.map fun P => D.int (many P)) = V at *
    generalize Ps.map paK = K at *
    generalize Ys.map (Sum.inl : Int → Key) = KY at *
    generalize (Ys.map fun z => paD (qP (dnW w k z))) = VY at *
    generalize m * w = w1 at *
    simp [e4, zq, g1, lp, fGetV, ga, so, OB.toD, isDD]
theorem p_loop {w : Int} (hw : 1 ≤ w ∧ w ≤ 9) : ∀ (n fuel : Nat) (o : OB) (l : Int) (u : Nat) (Ps : List (Int × Int)) (many : Int × Int → Int) (Ys : List Int) (k : Int → Int) (s5 s6 s7 : Option TS.R), Pot o → 0 ≤ l → l ≤ n → n < fuel → l + u = w → LG u Ps many → PG w u Ys k → Ps.length + Ys.length ≤ u →
    ∃ o' Ps' many' Ys' k' l' r5 r6 r7, Pot o' ∧ LG w.toNat Ps' many' ∧ PG w w.toNat Ys' k' ∧ Ps'.length + Ys'.length ≤ w.toNat ∧
    whileL (fTst (fBin gGt (vI 1) (kD (.int 0)))) g__law_parts_3B fuel [some (.brw o), some (.imm (.int l)), some (.imm (.int w)), some (.own (.dT (Ps.map paK) (Ps.map fun P => .int (many P)))), some (.own (.dK (Ys.map Sum.inl) (Ys.map fun z => paD (qP (dnW w k z))))), s5, s6, s7] =
      .nx [some (.brw o'), some (.imm (.int l')), some (.imm (.int w)), some (.own (.dT (Ps'.map paK) (Ps'.map fun P => .int (many' P)))), some (.own (.dK (Ys'.map Sum.inl) (Ys'.map fun z => paD (qP (dnW w k' z))))), r5, r6, r7] := by
  intro n
  induction n with
  | zero =>
    intro fuel o l u Ps many Ys k s5 s6 s7 h l0 l1 hf hu L R hn
    obtain ⟨f, rfl⟩ : ∃ f, fuel = f + 1 := ⟨fuel - 1, by omega⟩
    have lz : l = 0 := by omega
    subst lz
    have uw : u = w.toNat := by omega
    subst uw
    refine ⟨o, Ps, many, Ys, k, 0, s5, s6, s7, h, L, R, hn, ?_⟩
    generalize (Ps.map fun P => D.int (many P)) = V at *
    generalize Ps.map paK = K at *
    generalize Ys.map (Sum.inl : Int → Key) = KY at *
    generalize (Ys.map fun z => paD (qP (dnW w k z))) = VY at *
    simp [whileL]
  | succ n ih =>
    intro fuel o l u Ps many Ys k s5 s6 s7 h l0 l1 hf hu L R hn
    obtain ⟨f, rfl⟩ : ∃ f, fuel = f + 1 := ⟨fuel - 1, by omega⟩
    by_cases z : l = 0
    · subst z
      have uw : u = w.toNat := by omega
      subst uw
      refine ⟨o, Ps, many, Ys, k, 0, s5, s6, s7, h, L, R, hn, ?_⟩
      generalize (Ps.map fun P => D.int (many P)) = V at *
      generalize Ps.map paK = K at *
      generalize Ys.map (Sum.inl : Int → Key) = KY at *
      generalize (Ys.map fun z => paD (qP (dnW w k z))) = VY at *
      simp [whileL]
    · obtain ⟨o1, l2, u2, P2, m2, Y2, k2, r5, r6, r7, p1, q0, q1, q2, L2, R2, n2, e1⟩ := p_turn h hw (l := l) (by omega) hu L R hn s5 s6 s7
      obtain ⟨o', Ps', many', Ys', k', l', r5', r6', r7', p', L', R', n', e'⟩ := ih f o1 l2 u2 P2 m2 Y2 k2 r5 r6 r7 p1 q0 (by omega) (by omega) q2 L2 R2 n2
      refine ⟨o', Ps', many', Ys', k', l', r5', r6', r7', p', L', R', n', ?_⟩
      rw [← e']
      have lp : 0 < l := by omega
      generalize (Ps.map fun P => D.int (many P)) = V at *
      generalize Ps.map paK = K at *
      generalize Ys.map (Sum.inl : Int → Key) = KY at *
      generalize (Ys.map fun z => paD (qP (dnW w k z))) = VY at *
      generalize (P2.map fun P => D.int (m2 P)) = Va at *
      generalize P2.map paK = Ka at *
      generalize Y2.map (Sum.inl : Int → Key) = KYa at *
      generalize (Y2.map fun z => paD (qP (dnW w k2 z))) = VYa at *
      generalize g__law_parts_3B = B at *
      simp [whileL, lp, e1]
theorem parts_ok {o : OB} (h : Pot o) : ∃ o' Ps many Ys den, Pot o' ∧ PrG 80 Ps many Ys den ∧ (∀ P, P ∉ Ps → many P = 0) ∧ (∀ z, z ∉ Ys → den z = 0) ∧ m__law_parts (some o) [] = .ok (.imm (.tup [.dT (Ps.map paK) (Ps.map fun P => .int (many P)), .dK (Ys.map Sum.inl) (Ys.map fun z => paD (qP (den z)))])) (some o') := by
  obtain ⟨a, o1, e1, p1, a0, a1⟩ := draw_ok h (m := 9) (by decide) (by decide)
  obtain ⟨w, hw, hw0, hw1⟩ : ∃ w : Int, 1 + a = w ∧ 1 ≤ w ∧ w ≤ 9 := ⟨1 + a, rfl, by omega, by omega⟩
  obtain ⟨o2, Ps, many, Ys, k, l', r5, r6, r7, p2, L, R, hn, lp⟩ := p_loop ⟨hw0, hw1⟩ w.toNat (w.natAbs + 2) o1 w 0 [] (fun _ => 0) [] (fun _ => 0) none none none p1 (by omega) (by omega) (by omega) (by omega) LG.nil ⟨List.nodup_nil, by simp, by simp, fun _ _ => rfl⟩ (by simp)
  have RR := R.rg ⟨hw0, hw1⟩ (by omega)
  refine ⟨o2, Ps, many, Ys, dnW w k, p2, prg_of L RR (by omega) (by omega), L.hz, RR.hz, ?_⟩
  have l3 : g__law_parts_3 [some (.brw o1), some (.imm (.int w)), some (.imm (.int w)), some (.own (.dT [] [])), some (.own (.dK [] [])), none, none, none] = _ := lp
  generalize Ys.map (Sum.inl : Int → Key) = K2 at *
  generalize (Ys.map fun z => paD (qP (dnW w k z))) = V2 at *
  generalize Ps.map paK = K at *
  generalize (Ps.map fun P => D.int (many P)) = V at *
  (unfold m__law_parts g__law_parts; unfold mir; rw [if_pos (by simp [ioN])]; simp only [ini, ioS, ioN, List.replicate, List.map_cons, List.map_nil, List.length_cons, List.length_nil, List.nil_append, List.cons_append, Nat.zero_add, Nat.reduceAdd, Nat.reduceSub])
  (rw [ap_sSeq]; (conv in (SR.bind _ _) => (arg 1; simp [e1, hw])); (try rw [SR.bind_nx]))
  (rw [ap_sSeq]; (conv in (SR.bind _ _) => (arg 1; simp [])); (try rw [SR.bind_nx]))
  rw [ap_sSeq, l3, SR.bind_nx]
  simp [outR, ioOut, OB.toD]
end
end K47

namespace K47
open PySem L2 TS
noncomputable section
-- needs: gprof
set_option exponentiation.threshold 6000
structure It2 (dp bk : Nat) (p : PyData) : Prop where
  sw : p.showable = true
  ls : p.leavesShort 600 = true
  so : PyData.strOk p.shown = true
  dp : p.depth ≤ dp
  bk : p.bulk ≤ bk
theorem it2_int {i : Int} (h : i.natAbs < 2 ^ 1900) : It2 0 0 (.int i) where
  sw := by
    have := log2_lt h (by decide)
    simp only [PyData.showable, decide_eq_true_eq]
    omega
  ls := by
    have h3 : (PyData.shown (.int i)).length ≤ 600 := by
      unfold PyData.shown
      have e := int_text_length_le10 (a := i) (k := 578) (by decide) (Nat.lt_trans h (by decide +kernel))
      show (Str.ofString (toString i)).length ≤ 600
      simp only [Str.length, Str.ofString_eq_toList, List.size_toArray, List.length_map]
      rw [String.length_toList]
      omega
    simp only [PyData.leavesShort, decide_eq_true_eq]
    exact h3
  so := by unfold PyData.shown; exact strOk_of _
  dp := by simp [PyData.depth]
  bk := by simp [PyData.bulk]
theorem it2_all {d b : Nat} {ps : List PyData} (h : ∀ p ∈ ps, It2 d b p) : PyData.showableAll ps = true ∧ PyData.leavesShortAll 600 ps = true ∧ (∀ t ∈ PyData.shownAll ps, PyData.strOk t = true) ∧ PyData.depthAll ps ≤ d ∧ PyData.bulkAll ps ≤ (b + 1) * ps.length := by
  induction ps with
  | nil => simp [PyData.showableAll, PyData.leavesShortAll, PyData.shownAll, PyData.depthAll, PyData.bulkAll]
  | cons p ps ih =>
    obtain ⟨h1, h2, h3, h4, h5⟩ := ih fun q hq => h q (by simp [hq])
    have hp := h p (by simp)
    refine ⟨by simp [PyData.showableAll, hp.sw, h1], by simp [PyData.leavesShortAll, hp.ls, h2], ?_, ?_, ?_⟩
    · intro t ht
      rw [PyData.shownAll, List.mem_cons] at ht
      rcases ht with rfl | ht
      · exact hp.so
      · exact h3 t ht
    · have := hp.dp
      simp only [PyData.depthAll]
      omega
    · have := hp.bk
      simp only [PyData.bulkAll, List.length_cons, Nat.mul_succ]
      omega
theorem it2_list {d b n : Nat} {ps : List PyData} (h : ∀ p ∈ ps, It2 d b p) (hn : (b + 1) * ps.length ≤ n) : It2 (d + 1) n (.list ps) := by
  obtain ⟨h1, h2, h3, h4, h5⟩ := it2_all h
  refine ⟨by simpa [PyData.showable] using h1, by simpa [PyData.leavesShort] using h2, ?_, by simp only [PyData.depth]; omega, by simp only [PyData.bulk]; omega⟩
  unfold PyData.shown listText
  exact strOk_app (strOk_from _ _ _ (strOk_of _) h3) (strOk_of _)
theorem it2_tuple {d b n : Nat} {ps : List PyData} (h : ∀ p ∈ ps, It2 d b p) (hn : (b + 1) * ps.length ≤ n) : It2 (d + 1) n (.tuple ps) := by
  obtain ⟨h1, h2, h3, h4, h5⟩ := it2_all h
  refine ⟨by simpa [PyData.showable] using h1, by simpa [PyData.leavesShort] using h2, ?_, by simp only [PyData.depth]; omega, by simp only [PyData.bulk]; omega⟩
  unfold PyData.shown tupleText
  exact strOk_app (strOk_app (strOk_of _) (strOk_join _ h3)) (strOk_of _)
theorem it2_kv {d b : Nat} {ps : List (PyData × PyData)} (h : ∀ p ∈ ps, It2 d b p.1 ∧ It2 d b p.2) : PyData.showableKv ps = true ∧ PyData.leavesShortKv 600 ps = true ∧ (∀ t ∈ PyData.shownKv ps, PyData.strOk t = true) ∧ PyData.depthKv ps ≤ d ∧ PyData.bulkKv ps ≤ (2 * b + 2) * ps.length := by
  induction ps with
  | nil => simp [PyData.showableKv, PyData.leavesShortKv, PyData.shownKv, PyData.depthKv, PyData.bulkKv]
  | cons p ps ih =>
    obtain ⟨h1, h2, h3, h4, h5⟩ := ih fun q hq => h q (by simp [hq])
    obtain ⟨k, v⟩ := p
    obtain ⟨hk, hv⟩ : It2 d b k ∧ It2 d b v := h (k, v) (by simp)
    refine ⟨by simp [PyData.showableKv, hk.sw, hv.sw, h1], by simp [PyData.leavesShortKv, hk.ls, hv.ls, h2], ?_, ?_, ?_⟩
    · intro t ht
      rw [PyData.shownKv, List.mem_cons] at ht
      rcases ht with rfl | ht
      · exact strOk_app (strOk_app hk.so (strOk_of _)) hv.so
      · exact h3 t ht
    · have := hk.dp
      have := hv.dp
      simp only [PyData.depthKv]
      omega
    · have := hk.bk
      have := hv.bk
      simp only [PyData.bulkKv, List.length_cons, Nat.mul_succ]
      omega
theorem it2_dict {d b n : Nat} {ps : List (PyData × PyData)} (h : ∀ p ∈ ps, It2 d b p.1 ∧ It2 d b p.2) (hn : (2 * b + 2) * ps.length ≤ n) : It2 (d + 1) n (.dict ps) := by
  obtain ⟨h1, h2, h3, h4, h5⟩ := it2_kv h
  refine ⟨by simpa [PyData.showable] using h1, by simpa [PyData.leavesShort] using h2, ?_, by simp only [PyData.depth]; omega, by simp only [PyData.bulk]; omega⟩
  unfold PyData.shown dictText
  exact strOk_app (strOk_app (strOk_of _) (strOk_join _ h3)) (strOk_of _)
theorem textT {D0 : D} {p : PyData} {d b : Nat} (e : toPt D0 = some p) (h : It2 d b p) (hd : d ≤ 32) (hb : 602 * b + 600 ≤ 16777216) : ∃ X, gReprT D0 = some X ∧ PyData.strOk X = true := by
  have hl := PyData.shown_le_bulk 600 (by decide) p h.ls
  have h1 := h.bk
  have h2 := h.dp
  have h3 : (600 + 2) * p.bulk ≤ 602 * b := Nat.mul_le_mul_left _ h1
  have hs : shOkD p = true := gd_true ⟨h.sw, by omega, by show _ ≤ 16777216; omega⟩
  exact ⟨p.shown, by simp only [gReprT, e, hs, if_true], h.so⟩
theorem neT {X : Str} (h : PyData.strOk X = true) : gNe (.str X) (.str X) = some (.imm (.bl false)) := gNe_self (p := .str X) (by simp [toP]) (shaped_str h)
theorem eqT {X : Str} (h : PyData.strOk X = true) : gEq (.str X) (.str X) = some (.imm (.bl true)) := by rw [gEq_str h h]; simp
theorem toPts_map {α : Type} {f : α → D} {g : α → PyData} : ∀ {l : List α}, (∀ x ∈ l, toPt (f x) = some (g x)) → toPts (l.map f) = some (l.map g)
  | [], _ => rfl
  | x :: l, h => by
    rw [List.map_cons, List.map_cons]
    unfold toPts
    rw [h x (by simp), Option.bind_some, toPts_map fun y hy => h y (by simp [hy])]
    rfl
def paP (P : Int × Int) : PyData := .tuple [.int P.1, .int P.2]
theorem toPt_pa (P : Int × Int) : toPt (paD P) = some (paP P) := rfl
theorem it2_pa {P : Int × Int} (h1 : P.1.natAbs < 2 ^ 1900) (h2 : P.2.natAbs < 2 ^ 1900) : It2 1 2 (paP P) :=
  it2_tuple (b := 0) (fun p hp => by
    simp only [List.mem_cons, List.not_mem_nil, or_false] at hp
    rcases hp with rfl | rfl
    · exact it2_int h1
    · exact it2_int h2) (by simp)
theorem It2.mono {d b d' b' : Nat} {p : PyData} (h : It2 d b p) (h1 : d ≤ d') (h2 : b ≤ b') : It2 d' b' p := ⟨h.sw, h.ls, h.so, Nat.le_trans h.dp h1, Nat.le_trans h.bk h2⟩
end
end K47

namespace K47
open PySem L2 TS
noncomputable section
-- needs: prof4
set_option exponentiation.threshold 6000
def w1 (_ : List Nat) : Int := 1
end
end K47

namespace K47
open PySem L2 TS
noncomputable section
-- needs: prof5
set_option exponentiation.threshold 6000
section
variable {s : List Int} {cs : List (List Nat)} {PL : D}
end
theorem perm_isum {xs ys : List Int} (h : xs.Perm ys) : xs.sum = ys.sum := by
  induction h with
  | nil => rfl
  | cons _ _ ih => simp [ih]
  | swap a b _ => simp only [List.sum_cons]; omega
  | trans _ _ a b => exact a.trans b
theorem PrF.both {N : Int} {Ps : List (Int × Int)} {many nP : Int × Int → Int} {Ys : List Int} {cnt : Int → Int} (F : PrF N Ps many nP Ys cnt) {Qs : List (Int × Int)} {Zs : List Int} (h : Qs.Perm Ps) (k : Zs.Perm Ys) : PrF N Qs many nP Zs cnt where
  N0 := F.N0
  N2 := F.N2
  ok := fun P hP => F.ok P (h.mem_iff.mp hP)
  ml := fun P hP => F.ml P (h.mem_iff.mp hP)
  nl := fun P hP => F.nl P (h.mem_iff.mp hP)
  mn := fun P hP => F.mn P (h.mem_iff.mp hP)
  yl := fun z hz => F.yl z (k.mem_iff.mp hz)
  sm := by rw [perm_isum (h.map nP), perm_isum (k.map fun z => z * cnt z)]; exact F.sm
  nd := h.nodup_iff.mpr F.nd
  nd2 := k.nodup_iff.mpr F.nd2
  l1 := by rw [h.length_eq]; exact F.l1
  l2 := by rw [k.length_eq]; exact F.l2
end
end K47

namespace K47
open PySem L2 TS
noncomputable section
-- needs: prof6
set_option exponentiation.threshold 6000
theorem prof_lines_ok {Qs : List (Int × Int)} {many : Int × Int → Int} {Ys : List Int} {den : Int → Int × Int} (hq : Qs.Nodup) (hl : Qs.length ≤ 2520) : m_Profile_lines none [.obj 5 (prD Qs many Ys den)] = .ok (.own (.dT (Qs.map paK) (Qs.map fun P => .int (many P)))) none := by
  have d : fDc (.dT [] []) (stPair 1 2) [1, 2] (itItems (fFld ix_own_lines (vP 0))) tTrue (vI 1) (vI 2) [some (.imm (.obj 5 (prD Qs many Ys den))), none, none] = .ok (.own (.dT (Qs.map paK) (Qs.map fun P => .int (many P)))) [some (.imm (.obj 5 (prD Qs many Ys den))), none, none] := by
    refine dc_all .dT keysD setT_new (xs := Qs) (inj := fun P => .tup [paD P, .int (many P)]) paK (fun P => .int (many P)) [some (.imm (.obj 5 (prD Qs many Ys den))), none, none] ?_ rfl rfl rfl (by omega) (paK_nd hq) fun P hP => ?_
    · have := zipM paD (fun P => D.int (many P)) Qs
      rw [← this, ← keysD_map]
      unfold prD
      generalize Qs.map paK = K at *
      generalize (Qs.map fun P => D.int (many P)) = V at *
      simp [itItems, ix_own_lines]
    · rw [keysD_paK]
      refine ⟨[some (.imm (.obj 5 (prD Qs many Ys den))), some (.imm (paD P)), some (.imm (.int (many P)))], rfl, ?_, ?_, rfl⟩
      · generalize paD P = X at *
        generalize D.obj 5 (prD Qs many Ys den) = O at *
        simp
      · generalize paD P = X at *
        generalize D.obj 5 (prD Qs many Ys den) = O at *
        simp
  generalize D.obj 5 (prD Qs many Ys den) = O at *
  generalize (Qs.map fun P => D.int (many P)) = V at *
  generalize Qs.map paK = K at *
  (unfold m_Profile_lines g_Profile_lines; unfold mir; rw [if_pos (by simp [ioN])]; simp only [ini, ioS, ioN, List.replicate, List.map_cons, List.map_nil, List.length_cons, List.length_nil, List.nil_append, List.cons_append, Nat.zero_add, Nat.reduceAdd, Nat.reduceSub])
  rw [show g_Profile_lines_1 = sRet _ from rfl, ap_sRet, d]
  rfl
def BB (L : Int × Int → Int) (B : Nat) : Prop := ∀ d : Nat, d ∣ B ↔ ∀ P, OkP P → d ∣ (L P).natAbs
theorem BB.uniq {L : Int × Int → Int} {B C : Nat} (h : BB L B) (k : BB L C) : B = C :=
  Nat.dvd_antisymm ((k B).mpr ((h B).mp (Nat.dvd_refl _))) ((h C).mpr ((k C).mp (Nat.dvd_refl _)))
end
end K47

namespace K47
open PySem L2 TS
noncomputable section
-- needs: draw
theorem pot_ok (ns : List Int) (k : Nat) (hk : k < 100) : ∃ o, m__law_pot none [.scr (ns.map D.int), .int (k : Int)] = .ok (.own o) none ∧ Pot o := by
  have m23 : gMul (.int 79) (.int (k : Int)) = some (.imm (.int (79 * (k : Int)))) := gMul_i (by decide) (by omega)
  have m79 : gMul (.int 41017) (.int (k : Int)) = some (.imm (.int (41017 * (k : Int)))) := gMul_i (by decide) (by omega)
  have e3 : ∀ i : Int, gMod (.int i) (.int 2147483629) = some (.imm (.int (i % 2147483629))) := fun i => gMod_i (by decide)
  have e4 : ∀ i : Int, gMod (.int i) (.int 2147483587) = some (.imm (.int (i % 2147483587))) := fun i => gMod_i (by decide)
  have e5 : ∀ i : Int, gMul (.int (i % 2147483587)) (.int 44017) = some (.imm (.int (i % 2147483587 * 44017))) := fun i => by
    have h1 := Int.emod_nonneg i (show (2147483587 : Int) ≠ 0 by decide)
    have h2 := Int.emod_lt_of_pos i (show (0 : Int) < 2147483587 by decide)
    exact gMul_i (by omega) (by decide)
  have key : ∀ c : Int, Pot (.l [.int (if c - 1000000000000000000 > 0 then c - 1000000000000000000 else 0), .int ((c % 2147483587 * 44017 + 41017 * (k : Int) + 59) % 2147483629 + 1)]) := fun c => by
    refine ⟨_, _, rfl, by split <;> omega, ?_, ?_⟩
    · have := Int.emod_nonneg (c % 2147483587 * 44017 + 41017 * (k : Int) + 59) (show (2147483629 : Int) ≠ 0 by decide); omega
    · have := Int.emod_lt_of_pos (c % 2147483587 * 44017 + 41017 * (k : Int) + 59) (show (0 : Int) < 2147483629 by decide); omega
  by_cases h : k < ns.length
  · have hx : gIx (.scr (ns.map D.int)) (.int (k : Int)) = some (.imm (.int ns[k])) := by
      show (atI (ns.map D.int) (k : Int)).map R.imm = _
      rw [show ns.map D.int = iL ns from rfl, atI_ints, atI_in h]; rfl
    have hl : ((k : Int) < (ns.length : Int)) := by omega
    refine ⟨_, ?_, key (if ns[k] < 0 then -ns[k] else ns[k])⟩
    simp [m__law_pot, mir, ini, ioS, ioN, outR, ioOut, g__law_pot, m23, m79, e3, e4, e5, hx, h, pow_18]
  · refine ⟨_, ?_, key (79 * (k : Int) + 13)⟩
    simp [m__law_pot, mir, ini, ioS, ioN, outR, ioOut, g__law_pot, m23, m79, e3, e4, e5, h, pow_18]
end
end K47

namespace K47
open PySem L2 TS
noncomputable section
-- needs: gparts2 reprT prof7 pot
set_option exponentiation.threshold 6000
theorem rounds_47 {Ys : List Int} {f : Int → D} {L : D} (hq : Ys.Nodup) (hl : Ys.length ≤ 2520) : m_Profile_rounds none [.obj 5 [L, .dK (Ys.map .inl) (Ys.map f)]] = .ok (.own (.dK (Ys.map .inl) (Ys.map f))) none := by
  have d : fDc (.dK [] []) (stPair 1 2) [1, 2] (itItems (fFld ix_own_rounds (vP 0))) tTrue (vI 1) (vI 2) [some (.imm (.obj 5 [L, .dK (Ys.map .inl) (Ys.map f)])), none, none] = .ok (.own (.dK (Ys.map .inl) (Ys.map f))) [some (.imm (.obj 5 [L, .dK (Ys.map .inl) (Ys.map f)])), none, none] := by
    refine dc_all .dK keyD setK_new (xs := Ys) (inj := fun z => .tup [.int z, f z]) Sum.inl f [some (.imm (.obj 5 [L, .dK (Ys.map .inl) (Ys.map f)])), none, none] ?_ rfl rfl rfl (by omega) (inl_nd hq) fun z hz => ?_
    · have := zipM D.int f Ys
      rw [← this, ← keyD_map]
      generalize Ys.map (Sum.inl : Int → Key) = K at *
      generalize Ys.map f = V at *
      simp [itItems, ix_own_rounds]
    · refine ⟨[some (.imm (.obj 5 [L, .dK (Ys.map .inl) (Ys.map f)])), some (.imm (.int z)), some (.imm (f z))], rfl, ?_, ?_, rfl⟩
      · show _ = Res.ok (D.int z) _
        generalize D.obj 5 [L, .dK (Ys.map .inl) (Ys.map f)] = O at *
        simp
      · generalize D.obj 5 [L, .dK (Ys.map .inl) (Ys.map f)] = O at *
        generalize f z = X at *
        simp
  generalize D.obj 5 [L, .dK (Ys.map .inl) (Ys.map f)] = O at *
  generalize Ys.map f = V at *
  generalize Ys.map (Sum.inl : Int → Key) = K at *
  (unfold m_Profile_rounds g_Profile_rounds; unfold mir; rw [if_pos (by simp [ioN])]; simp only [ini, ioS, ioN, List.replicate, List.map_cons, List.map_nil, List.length_cons, List.length_nil, List.nil_append, List.cons_append, Nat.zero_add, Nat.reduceAdd, Nat.reduceSub])
  rw [show g_Profile_rounds_1 = sRet _ from rfl, ap_sRet, d]
  rfl
theorem sum_perm {xs ys : List Rat} (p : xs.Perm ys) : xs.sum = ys.sum := by
  induction p with
  | nil => rfl
  | cons x _ ih => simp only [List.sum_cons, ih]
  | swap x y l => simp only [List.sum_cons]; rw [← Rat.add_assoc, Rat.add_comm y x, Rat.add_assoc]
  | trans _ _ a b => exact a.trans b
section
variable {B : Nat} {Ps Qs : List (Int × Int)} {many : Int × Int → Int} {Ys Zs : List Int} {den : Int → Rat}
theorem tot_perm (p : Qs.Perm Ps) (q : Zs.Perm Ys) : totQ Qs many Zs den = totQ Ps many Ys den := by
  unfold totQ
  exact sum_perm ((p.map _).append (q.map _))
theorem PrG.perm (F : PrG B Ps many Ys den) (p : Qs.Perm Ps) (q : Zs.Perm Ys) : PrG B Qs many Zs den where
  ok := fun P hP => F.ok P (p.mem_iff.mp hP)
  ml := fun P hP => F.ml P (p.mem_iff.mp hP)
  yl := fun z hz => F.yl z (q.mem_iff.mp hz)
  nd := p.nodup_iff.mpr F.nd
  nd2 := q.nodup_iff.mpr F.nd2
  bB := F.bB
  sz := by rw [p.length_eq, q.length_eq]; exact F.sz
  dn := by rw [List.Perm.sum_nat (p.map fun P : Int × Int => P.2.toNat)]; exact F.dn
theorem PrG.noL (F : PrG B Ps many Ys den) : PrG B [] many Ys den where
  ok := fun P hP => by cases hP
  ml := fun P hP => by cases hP
  yl := F.yl
  nd := List.nodup_nil
  nd2 := F.nd2
  bB := F.bB
  sz := by
    have := F.sz
    have h : (([] : List (Int × Int)).length + Ys.length) * (2 * B + 1) ≤ (Ps.length + Ys.length) * (2 * B + 1) := Nat.mul_le_mul_right _ (by simp)
    omega
  dn := by simp
theorem PrG.noR (F : PrG B Ps many Ys den) : PrG B Ps many [] den where
  ok := F.ok
  ml := F.ml
  yl := fun P hP => by cases hP
  nd := F.nd
  nd2 := List.nodup_nil
  bB := F.bB
  sz := by
    have := F.sz
    have h : (Ps.length + ([] : List Int).length) * (2 * B + 1) ≤ (Ps.length + Ys.length) * (2 * B + 1) := Nat.mul_le_mul_right _ (by simp)
    omega
  dn := F.dn
theorem tot_two : totQ Ps many [] den + totQ [] many Ys den = totQ Ps many Ys den := by
  unfold totQ
  simp only [List.map_nil, List.append_nil, List.nil_append, List.sum_append, List.sum_nil, Rat.add_zero, Rat.zero_add]
theorem PrG.bl (F : PrG B Ps many Ys den) : bq (1 + (Ps.length + Ys.length) * (2 * B + 1)) (totQ Ps many Ys den) := by
  have h := bq_sum (D := 2 * B) (xs := Ps.map (shQ many) ++ Ys.map (rsQ den)) (a := 0) (C := 1) (fun r hr => by
    rcases List.mem_append.mp hr with hr | hr
    · obtain ⟨P, hP, rfl⟩ := List.mem_map.mp hr; exact F.sh hP
    · obtain ⟨z, hz, rfl⟩ := List.mem_map.mp hr; exact F.rs hz) ⟨by decide, by decide⟩
  rw [Rat.zero_add] at h
  refine h.mono ?_
  rw [List.length_append, List.length_map, List.length_map]
  omega
theorem PrG.bt (hB : 1 ≤ B) (F : PrG B Ps many Ys den) : bq 1900 (totQ Ps many Ys den) := F.bl.mono (by have := F.sz; omega)
theorem psum_lin (F : PrG B Ps many Ys den) : m_profile_sum none [(linD Ps fun P => .int (many P)).toD, .dK (Ys.map .inl) (Ys.map fun z => paD (qP (den z)))] = .ok (.imm (paD (qP (totQ Ps many Ys den)))) none := by
  unfold linD
  by_cases h : Ps = []
  · subst h
    rw [if_pos rfl]
    exact profile_sum_g F are_lines_K0 it_dK0
  · rw [if_neg h]
    exact profile_sum_n F
theorem q_one {r : Rat} : qP r = (1, 1) ↔ r = 1 := by
  unfold qP
  constructor
  · intro h
    injection h with h1 h2
    exact Rat.ext h1 (by show r.den = 1; omega)
  · rintro rfl; rfl
theorem text_one : gReprT (.tup [.int 1, .int 1]) = some (Str.ofString "(1, 1)") := by
  have h : It2 1 2 (paP (1, 1)) := it2_pa (by show 1 < _; exact Nat.one_lt_two_pow (by decide)) (by show 1 < _; exact Nat.one_lt_two_pow (by decide))
  have hl := PyData.shown_le_bulk 600 (by decide) _ h.ls
  have h1 := h.bk
  have h2 := h.dp
  have hs : shOkD (paP (1, 1)) = true := gd_true ⟨h.sw, by omega, by show _ ≤ 16777216; omega⟩
  have e : toPt (.tup [.int 1, .int 1]) = some (paP (1, 1)) := rfl
  simp only [gReprT, e, hs, if_true]
  exact congrArg some (by decide +kernel)
theorem text_dicts (F : PrG B Ps many Ys den) : ∃ X, gReprT (.lst [.dT (Ps.map paK) (Ps.map fun P => .int (many P)), .dK (Ys.map Sum.inl) (Ys.map fun z => paD (qP (den z)))]) = some X ∧ PyData.strOk X = true := by
  have hB := F.bB
  have p2 : ∀ {n : Nat}, n < 2 ^ B → n < 2 ^ 1900 := fun h => Nat.lt_of_lt_of_le h (Nat.pow_le_pow_right (by decide) (by omega))
  have t1 : toPts (Ps.map fun P => D.int (many P)) = some (Ps.map fun P => PyData.int (many P)) := toPts_map fun P _ => rfl
  have t2 : toPts (Ys.map fun z => paD (qP (den z))) = some (Ys.map fun z => paP (qP (den z))) := toPts_map fun z _ => toPt_pa _
  have l1 := F.l1
  refine textT (d := 3) (b := 24002) (p := .list [.dict (((Ps.map paK).map fun k => PyData.tuple (k.map kP)).zip (Ps.map fun P => PyData.int (many P))), .dict (((Ys.map (Sum.inl : Int → Key)).map kP).zip (Ys.map fun z => paP (qP (den z))))]) ?_ ?_ (by decide) (by decide)
  · simp only [toPt, toPts, t1, t2, Option.map_some, Option.bind_some]
  · refine it2_list (d := 2) (b := 12000) (fun p hp => ?_) (by simp)
    simp only [List.mem_cons, List.not_mem_nil, or_false] at hp
    rcases hp with rfl | rfl
    · refine it2_dict (d := 1) (b := 2) (fun kv hkv => ?_) (by simp; omega)
      obtain ⟨h1, h2⟩ := List.of_mem_zip (a := kv.1) (b := kv.2) hkv
      rw [List.map_map] at h1
      obtain ⟨P, hP, e1⟩ := List.mem_map.mp h1
      obtain ⟨Q, hQ, e2⟩ := List.mem_map.mp h2
      obtain ⟨_, _, b1, b2⟩ := F.ok P hP
      rw [← e1, ← e2]
      exact ⟨it2_pa (p2 b1) (p2 b2), (it2_int (p2 (F.ml Q hQ).2)).mono (by decide) (by decide)⟩
    · refine it2_dict (d := 1) (b := 2) (fun kv hkv => ?_) (by simp; omega)
      obtain ⟨h1, h2⟩ := List.of_mem_zip (a := kv.1) (b := kv.2) hkv
      rw [List.map_map] at h1
      obtain ⟨z, hz, e1⟩ := List.mem_map.mp h1
      obtain ⟨y, hy, e2⟩ := List.mem_map.mp h2
      have b1 := (F.yl z hz).2.1
      have b2 := (F.yl y hy).2.2.2
      rw [← e1, ← e2]
      exact ⟨(it2_int (p2 b1)).mono (by decide) (by decide), it2_pa (p2 b2.1) (p2 (by show ((den y).den : Int).natAbs < _; rw [Int.natAbs_natCast]; exact b2.2))⟩
theorem text_told {a b c : Rat} (ha : bq 1900 a) (hb : bq 1900 b) (hc : bq 1900 c) : ∃ X, gReprT (.lst [paD (qP a), paD (qP a), paD (qP b), paD (qP c)]) = some X ∧ PyData.strOk X = true := by
  refine textT (d := 2) (b := 12) (p := .list [paP (qP a), paP (qP a), paP (qP b), paP (qP c)]) (by simp only [toPt, toPts, toPt_pa, Option.map_some, Option.bind_some]) ?_ (by decide) (by decide)
  refine it2_list (d := 1) (b := 2) (fun p hp => ?_) (by simp)
  have f : ∀ {r : Rat}, bq 1900 r → It2 1 2 (paP (qP r)) := fun {r} h => it2_pa h.1 (by show (r.den : Int).natAbs < _; rw [Int.natAbs_natCast]; exact h.2)
  simp only [List.mem_cons, List.not_mem_nil, or_false] at hp
  rcases hp with rfl | rfl | rfl | rfl
  · exact f ha
  · exact f ha
  · exact f hb
  · exact f hc
theorem made_ok (F : PrG B Ps many Ys den) : m__law_made none [.dT (Ps.map paK) (Ps.map fun P => .int (many P)), .dK (Ys.map .inl) (Ys.map fun z => paD (qP (den z)))] = .ok (.imm (.str (if totQ Ps many Ys den = 1 then "(1, 1)" else "sum"))) none := by
  by_cases one : totQ Ps many Ys den = 1
  · rw [if_pos one]
    obtain ⟨Qs, q1, _, i1⟩ := profile_init_g F one
    have F2 : PrG B Qs many (srt Ys) den := F.perm q1 (srt_perm Ys)
    have l1 := F2.l1
    have hl := prof_lines_ok (many := many) (Ys := srt Ys) (den := fun z => qP (den z)) F2.nd (by omega)
    have hr := rounds_47 (L := .dT (Qs.map paK) (Qs.map fun P => .int (many P))) (f := fun z => paD (qP (den z))) F2.nd2 (by omega)
    have ps := profile_sum_n F2
    rw [tot_perm q1 (srt_perm Ys), one] at ps
    have ps3 : m_profile_sum none [.dT (Qs.map paK) (Qs.map fun P => .int (many P)), .dK ((srt Ys).map .inl) ((srt Ys).map fun z => paD (qP (den z)))] = .ok (.imm (.tup [.int 1, .int 1])) none := ps
    have hr2 : m_Profile_rounds none [.obj 5 (prD Qs many (srt Ys) fun z => qP (den z))] = .ok (.own (.dK ((srt Ys).map .inl) ((srt Ys).map fun z => paD (qP (den z))))) none := hr
    have tl : tab_lines 5 = some m_Profile_lines := rfl
    have tr : tab_rounds 5 = some m_Profile_rounds := rfl
    have t1 := text_one
    generalize prD Qs many (srt Ys) (fun z => qP (den z)) = O at *
    generalize (srt Ys).map (Sum.inl : Int → Key) = K2 at *
    generalize ((srt Ys).map fun z => paD (qP (den z))) = V2 at *
    generalize Qs.map paK = K1 at *
    generalize (Qs.map fun P => D.int (many P)) = V1 at *
    generalize Ys.map (Sum.inl : Int → Key) = K4 at *
    generalize (Ys.map fun z => paD (qP (den z))) = V4 at *
    generalize Ps.map paK = K3 at *
    generalize (Ps.map fun P => D.int (many P)) = V3 at *
    (unfold m__law_made g__law_made; unfold mir; rw [if_pos (by simp [ioN])]; simp only [ini, ioS, ioN, List.replicate, List.map_cons, List.map_nil, List.length_cons, List.length_nil, List.nil_append, List.cons_append, Nat.zero_add, Nat.reduceAdd, Nat.reduceSub])
    rw [ap_sSeq, show g__law_made_1 _ = _ from try_nx (δ1 := [some (.imm (.dT K3 V3)), some (.imm (.dK K4 V4)), none, some (.own (.o 5 O))]) (by simp [i1]), SR.bind_nx]
    simp [outR, ioOut, tl, tr, hl, hr2, ps3, t1, OB.toD]
  · rw [if_neg one]
    have i1 := profile_init_x F one
    generalize Ys.map (Sum.inl : Int → Key) = K4 at *
    generalize (Ys.map fun z => paD (qP (den z))) = V4 at *
    generalize Ps.map paK = K3 at *
    generalize (Ps.map fun P => D.int (many P)) = V3 at *
    (unfold m__law_made g__law_made; unfold mir; rw [if_pos (by simp [ioN])]; simp only [ini, ioS, ioN, List.replicate, List.map_cons, List.map_nil, List.length_cons, List.length_nil, List.nil_append, List.cons_append, Nat.zero_add, Nat.reduceAdd, Nat.reduceSub])
    simp [outR, ioOut, sTry, i1, hCons, xm_InvalidProfile, xFldT, xFld, xf_problem]
end
theorem right_ok {o : OB} (h : Pot o) : ∃ o', Pot o' ∧ m__law_right (some o) [] = .ok (.imm (.bl true)) (some o') := by
  obtain ⟨a, o1, e1, p1, a0, a1⟩ := draw_ok h (m := 3) (by decide) (by decide)
  obtain ⟨o2, Ps, many, Ys, den, p2, F, hzP, hzY, e2⟩ : ∃ o2 Ps many Ys den, Pot o2 ∧ PrG 80 Ps many Ys den ∧ (∀ P, P ∉ Ps → many P = 0) ∧ (∀ z, z ∉ Ys → den z = 0) ∧ g__law_right_1 [some (.brw o), none, none, none, none, none, none] = .nx [some (.brw o2), none, none, some (.imm (.dT (Ps.map paK) (Ps.map fun P => .int (many P)))), some (.imm (.dK (Ys.map Sum.inl) (Ys.map fun z => paD (qP (den z))))), none, none] := by
    by_cases z : a = 0
    · obtain ⟨o2, Ps, many, Ys, den, p2, F, hzP, hzY, e2⟩ := parts_ok p1
      refine ⟨o2, Ps, many, Ys, den, p2, F, hzP, hzY, ?_⟩
      generalize Ys.map (Sum.inl : Int → Key) = K4 at *
      generalize (Ys.map fun z => paD (qP (den z))) = V4 at *
      generalize Ps.map paK = K3 at *
      generalize (Ps.map fun P => D.int (many P)) = V3 at *
      simp [e1, z, e2, OB.toD, isDD]
    · obtain ⟨o2, Ps, many, Ys, den, p2, F, hzP, hzY, e2⟩ := dicts_ok p1
      refine ⟨o2, Ps, many, Ys, den, p2, F, hzP, hzY, ?_⟩
      generalize Ys.map (Sum.inl : Int → Key) = K4 at *
      generalize (Ys.map fun z => paD (qP (den z))) = V4 at *
      generalize Ps.map paK = K3 at *
      generalize (Ps.map fun P => D.int (many P)) = V3 at *
      simp [e1, z, e2, OB.toD, isDD]
  have l1 := F.l1
  obtain ⟨Zs, o3, q3, p3, t3⟩ := turnedR_ok p2 (g := fun z => paD (qP (den z))) F.nd2 (by omega)
  obtain ⟨Qs, o4, q4, p4, t4⟩ := turnedL_ok p3 (many := many) F.nd (by omega)
  have ls := lawsum_g F
  have lsR := lawsum_g F.noL
  have lsL := lawsum_g F.noR
  have ps := profile_sum_n F
  have ps2 := psum_lin (F.perm q4 q3)
  rw [tot_perm q4 q3] at ps2
  have psR := profile_sum_n F.noL
  have psL := profile_sum_n F.noR
  obtain ⟨X, x1, x2⟩ := text_dicts F
  obtain ⟨Y, y1, y2⟩ := text_told (PrG.bt (by decide) F) (PrG.bt (by decide) F.noL) (PrG.bt (by decide) F.noR)
  have sz := F.sz
  rw [Nat.add_mul] at sz
  have lp := lawplus_rr (r := totQ [] many Ys den) (s := totQ Ps many [] den) (A := 1 + Ys.length * (2 * 80 + 1)) (C := 1 + Ps.length * (2 * 80 + 1)) (by omega) (by omega) (by omega) (by have := F.noL.bl; rwa [List.length_nil, Nat.zero_add] at this) (by have := F.noR.bl; rwa [List.length_nil, Nat.add_zero] at this)
  rw [Rat.add_comm, tot_two] at lp
  have md := made_ok F
  have eo : gEq (paD (qP (totQ Ps many Ys den))) (.tup [.int 1, .int 1]) = some (.imm (.bl (decide (totQ Ps many Ys den = 1)))) := by
    have := gEq_pa (qP (totQ Ps many Ys den)) 1 1
    have e : decide (qP (totQ Ps many Ys den) = (1, 1)) = decide (totQ Ps many Ys den = 1) := decide_eq_decide.mpr q_one
    rw [e] at this
    exact this
  have ne : gNe (paD (qP (totQ Ps many Ys den))) (paD (qP (totQ Ps many Ys den))) = some (.imm (.bl false)) := by
    have : gNe (paD (qP (totQ Ps many Ys den))) (paD (qP (totQ Ps many Ys den))) = some (.imm (.bl (!decide (qP (totQ Ps many Ys den) = qP (totQ Ps many Ys den))))) := gNe_pa (qP (totQ Ps many Ys den)) (qP (totQ Ps many Ys den)).1 (qP (totQ Ps many Ys den)).2
    rw [decide_eq_true rfl] at this
    exact this
  have s1 : PyData.strOk (Str.ofString "(1, 1)") = true := strOk_of _
  have s2 : PyData.strOk (Str.ofString "sum") = true := strOk_of _
  have n1 := eqT s1
  have n2 := eqT s2
  have xe := eqT x2
  have yn := neT y2
  generalize hT : totQ Ps many Ys den = T at *
  generalize paD (qP T) = TT at *
  generalize paD (qP (totQ [] many Ys den)) = TR at *
  generalize paD (qP (totQ Ps many [] den)) = TL at *
  refine ⟨o4, p4, ?_⟩
  simp only [List.map_nil] at lsR lsL psR psL
  generalize hLD : (linD Qs fun P => D.int (many P)).toD = DD at *
  generalize (linD Qs fun P => D.int (many P)) = LD at *
  generalize Zs.map (Sum.inl : Int → Key) = KZ at *
  generalize (Zs.map fun z => paD (qP (den z))) = VZ at *
  generalize Ys.map (Sum.inl : Int → Key) = K4 at *
  generalize (Ys.map fun z => paD (qP (den z))) = V4 at *
  generalize Ps.map paK = K3 at *
  generalize (Ps.map fun P => D.int (many P)) = V3 at *
  (unfold m__law_right g__law_right; unfold mir; rw [if_pos (by simp [ioN])]; simp only [ini, ioS, ioN, List.replicate, List.map_cons, List.map_nil, List.length_cons, List.length_nil, List.nil_append, List.cons_append, Nat.zero_add, Nat.reduceAdd, Nat.reduceSub])
  rw [ap_sSeq, e2, SR.bind_nx]
  (rw [ap_sSeq]; (conv in (SR.bind _ _) => (arg 1; simp [ls, x1])); (try rw [SR.bind_nx]))
  (rw [ap_sSeq]; (conv in (SR.bind _ _) => (arg 1; simp [ps, OB.toD])); (try rw [SR.bind_nx]))
  have dz : OB.toD (.dK KZ VZ) = .dK KZ VZ := rfl
  (rw [ap_sSeq]; (conv in (SR.bind _ _) => (arg 1; simp [t3, t4, m_fk_profile_sum_0_rounds_lines, fmIx, ps2, hLD, dz, mAppend])); (try rw [SR.bind_nx]))
  (rw [ap_sSeq]; (conv in (SR.bind _ _) => (arg 1; simp [psR, OB.toD, mAppend])); (try rw [SR.bind_nx]))
  (rw [ap_sSeq]; (conv in (SR.bind _ _) => (arg 1; simp [psL, OB.toD, mAppend])); (try rw [SR.bind_nx]))
  (rw [ap_sSeq]; (conv in (SR.bind _ _) => (arg 1; simp [lsR, lsL, OB.toD])); (try rw [SR.bind_nx]))
  have ga : gAdd (.lst [TT, TT]) (.lst [TR, TL]) = some (.own (.l [TT, TT, TR, TL])) := by first | rfl | simp [gAdd, gOr, gI, gCat]
  have g0 : atI [TR, TL] 0 = some TR := rfl
  have g1 : atI [TR, TL] 1 = some TL := rfl
  (rw [ap_sSeq]; (conv in (SR.bind _ _) => (arg 1; simp [y1, ga, g0, g1, lp, ne, yn, OB.toD])); (try rw [SR.bind_nx]))
  by_cases one : T = 1
  · simp [outR, ioOut, md, one, eo, n1, x1, xe]
  · simp [outR, ioOut, md, one, eo, n2, x1, xe]
theorem law_true (ns : List Int) (hl : ns.length ≤ 63) : m_law none [.scr (ns.map D.int)] = .ok (.imm (.bl true)) none := by
  obtain ⟨k, hk, ek⟩ := cells_ok 4 ns.length (by decide)
  have turns : ∀ (a : Nat) (o : OB) (s3 : Option TS.R), Pot o → ∃ o2 r3, forL (tName 3) g_law_1_2B (iL (nats 0 4)) [some (.imm (.scr (ns.map D.int))), some (.imm (.int (a : Int))), some (.own o), s3] = .nx [some (.imm (.scr (ns.map D.int))), some (.imm (.int (a : Int))), some (.own o2), r3] := fun a o s3 p => by
    obtain ⟨o1, p1, e1⟩ := right_ok p
    obtain ⟨o2, p2, e2⟩ := right_ok p1
    obtain ⟨o3, p3, e3⟩ := right_ok p2
    obtain ⟨o4, p4, e4⟩ := right_ok p3
    refine ⟨o4, some (.imm (.int 3)), ?_⟩
    rw [show iL (nats 0 4) = [.int 0, .int 1, .int 2, .int 3] from rfl]
    simp [forL, e1, e2, e3, e4]
  have turn : ∀ (a : Nat) (s2 s3 : Option TS.R), a < 100 → ∃ r2 r3, g_law_1B [some (.imm (.scr (ns.map D.int))), some (.imm (.int (a : Int))), s2, s3] = .nx [some (.imm (.scr (ns.map D.int))), some (.imm (.int (a : Int))), r2, r3] := fun a s2 s3 ha => by
    obtain ⟨o, e, p⟩ := pot_ok ns a ha
    obtain ⟨o2, r3, lp⟩ := turns a o s3 p
    refine ⟨some (.own o2), r3, ?_⟩
    have it : itRg1 (kD (.int 4)) [some (.imm (.scr (ns.map D.int))), some (.imm (.int (a : Int))), some (.own o), s3] = .ok (iL (nats 0 4)) [some (.imm (.scr (ns.map D.int))), some (.imm (.int (a : Int))), some (.own o), s3] := itRg1_ok (k := 4) (by decide) (by simp)
    show (sSeq g_law_1_1 g_law_1_2) _ = _
    rw [ap_sSeq, show g_law_1_1 [some (.imm (.scr (ns.map D.int))), some (.imm (.int (a : Int))), s2, s3] = .nx [some (.imm (.scr (ns.map D.int))), some (.imm (.int (a : Int))), some (.own o), s3] from by simp [e], SR.bind_nx]
    exact for_st it lp
  have loop : ∀ (m i : Nat) (s1 s2 s3 : Option TS.R), i + m ≤ 100 → ∃ r1 r2 r3, forL (tName 1) g_law_1B (iL (nats i m)) [some (.imm (.scr (ns.map D.int))), s1, s2, s3] = .nx [some (.imm (.scr (ns.map D.int))), r1, r2, r3] := by
    intro m
    induction m with
    | zero => intro i s1 s2 s3 _; exact ⟨s1, s2, s3, by simp [nats, forL, iL]⟩
    | succ m ih =>
      intro i s1 s2 s3 hi
      obtain ⟨r2, r3, e⟩ := turn i s2 s3 (by omega)
      obtain ⟨q1, q2, q3, e2⟩ := ih (i + 1) (some (.imm (.int (i : Int)))) r2 r3 (by omega)
      refine ⟨q1, q2, q3, ?_⟩
      rw [← e2, nats_succ]
      simp only [forL, ap_tNameI, SR.bind_nx, List.set_cons_succ, List.set_cons_zero]
      rw [e]
  obtain ⟨r1, r2, r3, lp⟩ := loop k 0 none none none (by omega)
  have it : itRg1 (frz (fCal gMax (aCons (kD (.int 1)) (aCons (frz (fCal gMin (aCons (kD (.int 4)) (aCons (frz (fCal gLen (aOne (vP 0)))) aNil)))) aNil)))) [some (.imm (.scr (ns.map D.int))), none, none, none] = .ok (iL (nats 0 k)) [some (.imm (.scr (ns.map D.int))), none, none, none] := itRg1_ok (by omega) (by simp [ek])
  (unfold m_law g_law; unfold mir; rw [if_pos (by simp [ioN])]; simp only [ini, ioS, ioN, List.replicate, List.map_cons, List.map_nil, List.length_cons, List.length_nil, List.nil_append, List.cons_append, Nat.zero_add, Nat.reduceAdd, Nat.reduceSub])
  rw [ap_sSeq, show g_law_1 _ = _ from for_st it lp, SR.bind_nx]
  simp [outR, ioOut]
end
end K47

set_option maxHeartbeats 0
namespace K47
open PySem L2 TS
theorem facts {P : Program} {w : World} {K : PySem.W.Frag} {h : Heap} {mg : Str → Option Value} {f : Addr} (X : K.In h) (G : h.Ns mainGlobals mg) (hfa : mg ("law" : Str) = some (.ref f)) (c : SaysT fa fn tn K h) :
    ∃ fd : FuncData, (∀ (s : Shared) (v : Value), BindsTo s fd ⟨[v], []⟩ [("_law_script", v)]) ∧ ∀ base : Heap, K.In base → base.Ns mainGlobals mg → (∀ p ∈ csOf tn K, LamX.TabB base mg p.1 p.2) → TS.FnOk P w K mg base (L2.CX P w) 13 f fd ["_law_script"] (spD (MM K) m_law) := by
  obtain ⟨fd, F⟩ := c.s.def_ 40 (d := d_law) rfl
  have e := hfa.symm.trans (He.glo_ok X G (c.s.fact 84 (f := .he (.glo "law")) rfl))
  cases e
  have b := FunD.bindsA (ps := ["_law_script"]) F fun _ _ _ _ _ _ us hl => match us, hl with | [_], _ => rfl
  exact ⟨fd, fun s v => b s [v] rfl, fun base hX hG hT => funD_mir (M := MM K) F S_law (by decide) (fun cdv A outer s H E hr tk hp => b_law (base := base) ⟨c.s, hX, hG, hT, fun x hx => (c.m x hx).1, c.u⟩ cdv A outer s H E hr tk hp)⟩
theorem sp_law {K : PySem.W.Frag} {H : Hp} {a : Addr} {ns : List Int} (hl : ns.length ≤ 63) (hH : ∀ p ∈ csOf tn K, H p.2 = some (.tbl #[])) (hS : SqL K H a (ns.map V.int)) : spD (MM K) m_law [.ref a] H (fun v _ => v = .bl true) (fun _ _ _ => False) := by
  obtain ⟨F, s, tb, rs⟩ := entry (M := MM K) hS (fun p hp => (List.mem_map.mp hp).elim fun x z => by rw [← z.2]; exact hH _ (List.mem_map.mpr ⟨x, z.1, rfl⟩))
  refine ⟨F, none, 0, [.ref a], [.scr (ns.map D.int)], rfl, s, tb, rs, trivial, ?_⟩
  rw [law_true ns hl]
  intro v F' H' st ra ia
  have z : rep (MM K) F' (.bl true) v := ra
  unfold rep at z
  exact z
end K47
open PySem PySem.W PySem.Calls PyProof.Rows
theorem PySem.Challenge.cw_threeswaps_k47_sums_of_profiles_holds : PySem.Challenge.rw_threeswaps_k47_sums_of_profiles.Holds := by
  w_on; o_law
  refine HandSHeadRun.head_any (r := OpenLaw.row PySem.Challenge.rw_threeswaps_k47_sums_of_profiles) (q := view (OpenLaw.row PySem.Challenge.rw_threeswaps_k47_sums_of_profiles).prog [68]) (H := K47.hk) (ob := K47.ob) (M := 12000) (loose := K47.loose) (d := HandSHeadRun.topDef (OpenLaw.row PySem.Challenge.rw_threeswaps_k47_sums_of_profiles).prog 68) (kwd := []) K47.ob_eq
    (by kernel_rfl) (fun s => by kernel_rfl) K47.run (by kernel_rfl) (by kernel_rfl) (by kernel_rfl) (by rfl) (by first | assumption | decide +kernel) (by decide +kernel) ⟨rfl, rfl, rfl, rfl, rfl, by decide +kernel⟩ ?hw ?hc
  case hw => w_witness2
  case hc =>
    refine TS.walk_ofT (l := PySem.Challenge.rw_threeswaps_k47_sums_of_profiles) (n := 63) (k := 13) (x := "_law_script") (CX := fun w => L2.CX PySem.Challenge.rw_threeswaps_k47_sums_of_profiles.prog w) rfl (by decide) (by kernel_rfl) ⟨⟨rfl, by decide, by decide⟩, rfl⟩ ?F (fun _ _ _ _ _ z => TS.noCX z)
    intro w mg fa h Y G hmg0
    obtain ⟨K, KX, c⟩ := Y
    have hmg : mg ("law" : PySem.Str) = some (.ref fa) := by
      have e : (HandSHeadRun.topDef (OpenLaw.row PySem.Challenge.rw_threeswaps_k47_sums_of_profiles).prog 68).name = ("law" : PySem.Str) := by kernel_rfl
      rw [← e]
      exact hmg0
    obtain ⟨fd, hb, hF⟩ := K47.facts (P := (PySem.Challenge.rw_threeswaps_k47_sums_of_profiles).prog) (w := w) KX G hmg c
    exact ⟨K, TS.csOf K47.tn K, fd, _, KX, TS.cs_tab c, TS.cs_no c, TS.cs_code KX c, hb, fun H a ns hl hH hS => K47.sp_law hl hH hS, hF⟩
