import PyProof.Rows.All
import Wide.All
import OpenK.AllK
import Wide.FinOn
import HandS.ForMost
import HandS.ForExc
import HandS.More
import HandS.Star
import HandS.ClsMeth
import HandS.Property
import HandS.Defaults
import HandS.IsInst
import HandS.Wide
import HandS.WideBits
import HandS.Conv
import HandS.Lambda
import HandS.ExcInit
import KE.KStateDown
import Lean
import HandS.WordsExc
import HandS.Head0
import HandS.Head1
import HandS.Head2
import HandS.HeadEnd
import HandS.HeadHook1
import HandS.HeadHook2
import KE.KExcInit
import KE.KNestM
import KE.KSuper
import HandS.OwnEq
import HandS.MakeKw
import HandS.MakeKwOnly
import HandS.RaiseMore
import HandS.TryOnly
import HandS.Style
import HandS.SortInts
import PyProof.LongRange
import KE.GoesMore
import HandS.ExcField
import HandS.ExcIs
import HandS.TryMany
import KE.KExcIs
import HandS.Zip
import KE.OsSetLaws
import HandS.SetKeys
import PyProof.DictMoreH
import HandS.Small
import OpenK.KOps
import KE.KCallOwn
import HandS.FStr
import HandS.Text
import HandS.DictSubView
import HandS.DictTup
import KE.SortKeyHeap
import KE.KSortKey
import HandS.DictComp
import KE.KDictList
import KE.KEqDict
import HandS.Nested
import HandS.Dict
import KE.KEqNest
import PyProof.NeKinds
import OpenK.KOwn
import PyProof.Rows.StrOr
import PyProof.StrHeap
import PyProof.ReprNest
import PyProof.ReprRoads
import OpenK.KWalk
import PyProof.DictFindH
import KE.GoesEnum
import KE.KDictZip
import HandS.ListItems
import KE.KIndexWalk
import HandS.EndTab
import PyProof.ReprBulk
import PyProof.FitsInt
import PySem.Challenge.RW_threeswaps_k10_errors_made
set_option Elab.async false
set_option linter.all false
set_option maxRecDepth 100000
set_option maxRecDepth 100000
set_option maxHeartbeats 4000000
namespace TS
open PySem L2
noncomputable section
noncomputable def gd (p : Prop) [Decidable p] : Bool := Classical.choose (⟨decide p, rfl⟩ : ∃ b, b = decide p)
theorem gd_eq (p : Prop) [Decidable p] : gd p = decide p := Classical.choose_spec (⟨decide p, rfl⟩ : ∃ b, b = decide p)
theorem gd_true {p : Prop} [Decidable p] (h : p) : gd p = true := by rw [gd_eq]; exact decide_eq_true h
theorem of_gd {p : Prop} [Decidable p] (h : gd p = true) : p := by rw [gd_eq] at h; exact of_decide_eq_true h
structure Lm where
  p : Hp → V → Prop
  mono : ∀ {F F' : Hp} {v : V}, Same F F' → p F v → p F' v
  rf : ∀ {F : Hp} {v : V}, p F v → ∃ a, v = .ref a
def L0 : Lm := ⟨fun _ _ => False, fun _ h => h, fun h => h.elim⟩
structure Gm where
  K : PySem.W.Frag
  G : Nat → Option Addr
  nm : Nat → List Str
  T : List (Addr × Str) := []
  lm : Lm := L0
def Gm.wl (M : Gm) (L : Lm) : Gm := { M with lm := L }
def TbOb : HO → Bool
  | .tbl _ => false
  | .ext _ => false
  | _ => true
abbrev TbO (o : HO) : Prop := TbOb o = true
def NTb : HO → Bool
  | .tbl _ => false
  | .ext _ => false
  | .tup _ => false
  | _ => true
abbrev NT (o : HO) : Prop := NTb o = true
theorem NT.tt {o : HO} (n : NT o) : TbO o := by cases o <;> first | rfl | cases n
instance {o : HO} : Coe (NT o) (TbO o) := ⟨NT.tt⟩
structure Tb (M : Gm) (F H : Hp) : Prop where
  tab : LamX.Tabs M.T H
  fr : ∀ p ∈ M.T, F p.1 = none
  nt : ∀ b ps, F b ≠ some (.tbl ps)
theorem Tb.keep {M : Gm} {F H F' H' : Hp} (t : Tb M F H) (k : ∀ b o, H b = some o → ¬ TbO o → H' b = some o) (kf : ∀ b o, H b = some o → ¬ TbO o → F b = none → F' b = none) (kn : ∀ b ps, F' b ≠ some (.tbl ps)) : Tb M F' H' where
  tab := fun p hp => by
    obtain ⟨ps, h1, h2, h3⟩ := t.tab p hp
    exact ⟨ps, k _ _ h1 (by intro z; cases z), h2, fun pos cv hc => by
      obtain ⟨c, e1, e2⟩ := h3 pos cv hc
      exact ⟨c, e1, k _ _ e2 (by intro z; cases z)⟩⟩
  fr := fun p hp => by
    obtain ⟨ps, h1, _⟩ := t.tab p hp
    exact kf _ _ h1 (by intro z; cases z) (t.fr p hp)
  nt := kn
theorem Tb.alloc {M : Gm} {F H : Hp} (t : Tb M F H) {p : Addr} {o : HO} (hp : H p = none) : Tb M F (upd H p o) :=
  t.keep (fun b u e _ => by rw [upd_ne (ne_of_none e hp)]; exact e) (fun _ _ _ _ z => z) t.nt
theorem Tb.frz {M : Gm} {F H : Hp} (t : Tb M F H) {p : Addr} {o u : HO} (hp : H p = some o) (n : TbO o) (n2 : TbO u := by first | rfl | assumption | exact NT.tt (by assumption)) : Tb M (upd F p u) H :=
  t.keep (fun b u e _ => e) (fun b v e z q => by
    rw [upd_ne (fun y => by rw [y, hp] at e; cases e; exact z n)]; exact q) fun b ps e => by
    by_cases z : b = p
    · rw [z, upd_same] at e; cases e; cases n2
    · rw [upd_ne z] at e; exact t.nt b ps e
theorem Tb.write {M : Gm} {F H : Hp} (t : Tb M F H) {p : Addr} {o u : HO} (hp : H p = some o) (n : TbO o) : Tb M F (upd H p u) :=
  t.keep (fun b v e z => by rw [upd_ne (fun y => by rw [y, hp] at e; cases e; exact z n)]; exact e) (fun _ _ _ _ q => q) t.nt
def str0 (H : Hp) : Hp := fun b => match H b with
  | some o => if NTb o then some o else none
  | none => none
theorem str0_nt {H : Hp} {b : Addr} {o : HO} (h : str0 H b = some o) : H b = some o ∧ NT o := by
  unfold str0 at h
  split at h
  · rename_i u e
    split at h
    · rename_i n; cases h; exact ⟨e, n⟩
    · cases h
  · cases h
theorem str0_of {H : Hp} {b : Addr} {o : HO} (h : H b = some o) (n : NT o) : str0 H b = some o := by
  unfold str0
  rw [h]
  simp [show NTb o = true from n]
theorem str0_none {H : Hp} {b : Addr} (h : str0 H b = none) : ∀ o, H b = some o → ¬ NT o := fun o e n => by
  rw [str0_of e n] at h; cases h
inductive D where
  | non | bl (b : Bool) | int (i : Int) | str (x : Str)
  | lst (xs : List D) | tup (xs : List D) | scr (xs : List D)
  | dK (ks : List Key) (vs : List D) | dT (ks : List (List Key)) (vs : List D)
  | obj (c : Nat) (vs : List D)
  | cls (c : Nat)
  | lam
  | ktp (ns : List Int)
  | ex (c : Nat) (vs : List D)
inductive OB where
  | l (xs : List D) | dK (ks : List Key) (vs : List D) | dT (ks : List (List Key)) (vs : List D) | o (c : Nat) (vs : List D)
def OB.dic : OB → Bool
  | .dK _ _ => true
  | .dT _ _ => true
  | _ => false
def D.dic : D → Bool
  | .dK _ _ => true
  | .dT _ _ => true
  | _ => false
def OB.toD : OB → D
  | .l xs => .lst xs
  | .dK ks vs => .dK ks vs
  | .dT ks vs => .dT ks vs
  | .o c vs => .obj c vs
inductive R where
  | imm (d : D) | own (o : OB) | brw (o : OB) | nst (tp : Bool) (ps : List (D ⊕ OB))
def R.mu : R → Bool
  | .imm _ => false
  | .own _ => true
  | .brw _ => true
  | .nst _ _ => false
abbrev Sl := List (Option R)
structure XD where
  c : Nat
  vs : List D
inductive Res (α : Type) where
  | ok (a : α) (δ : Sl) | exc (x : XD) (δ : Sl) | bad
inductive SR where
  | nx (δ : Sl) | rt (r : R) (δ : Sl) | bk (δ : Sl) | ct (δ : Sl) | exc (x : XD) (δ : Sl) | bad
inductive FR where
  | ok (r : R) (io : Option OB) | exc (x : XD) (io : Option OB) | bad
abbrev Fm := Option OB → List D → FR
abbrev FE := Sl → Res R
abbrev FD := Sl → Res D
abbrev FA := Sl → Res (List D)
abbrev FT := Sl → Res Bool
abbrev FS := Sl → SR
def Res.bind {α β : Type} (m : Res α) (k : α → Sl → Res β) : Res β := match m with
  | .ok a δ => k a δ
  | .exc x δ => .exc x δ
  | .bad => .bad
def Res.bindS {α : Type} (m : Res α) (k : α → Sl → SR) : SR := match m with
  | .ok a δ => k a δ
  | .exc x δ => .exc x δ
  | .bad => .bad
@[simp] theorem Res.bind_ok {α β : Type} (a : α) (δ : Sl) (k : α → Sl → Res β) : (Res.ok a δ).bind k = k a δ := rfl
@[simp] theorem Res.bindS_ok {α : Type} (a : α) (δ : Sl) (k : α → Sl → SR) : (Res.ok a δ).bindS k = k a δ := rfl
@[simp] theorem Res.bind_exc {α β : Type} (x : XD) (δ : Sl) (k : α → Sl → Res β) : (Res.exc x δ : Res α).bind k = .exc x δ := rfl
@[simp] theorem Res.bindS_exc {α : Type} (x : XD) (δ : Sl) (k : α → Sl → SR) : (Res.exc x δ : Res α).bindS k = .exc x δ := rfl
def KTup (K : PySem.W.Frag) (a : Addr) (ns : List Int) : Prop := ∃ (o : Obj) (its : Array Value) (n : Nat), K.lookup a = some o ∧ o.cls = .type "tuple" ∧ o.data = .seq its n ∧ its.size ≤ 100 ∧ Vals (ns.map V.int) its.toList ∧ o.dict = none
def FTup (F : Hp) (a : Addr) (ns : List Int) : Prop := ∃ o : Obj, F a = some (.frz o (.tup (ns.map V.int))) ∧ o.dict = none
def ITup (K : PySem.W.Frag) (F : Hp) (a : Addr) (ns : List Int) : Prop := KTup K a ns ∨ FTup F a ns
mutual
def rep (M : Gm) (F : Hp) : D → V → Prop
  | .non, v => v = .non
  | .bl b, v => v = .bl b
  | .int i, v => v = .int i
  | .str x, v => v = .str x
  | .lst ds, v => ∃ a vs, v = .ref a ∧ F a = some (.lst vs) ∧ reps M F ds vs
  | .scr ds, v => ∃ a vs, v = .ref a ∧ SqL M.K F a vs ∧ reps M F ds vs
  | .tup ds, v => ∃ a vs, v = .ref a ∧ F a = some (.tup vs) ∧ reps M F ds vs
  | .dK ks ds, v => ∃ (a : Addr) (od : Obj) (kvs : List (Key × V)), v = .ref a ∧ F a = some (.frz od (.dK kvs)) ∧ kvs.map (·.1) = ks ∧ reps M F ds (kvs.map (·.2))
  | .dT ks ds, v => ∃ (a : Addr) (od : Obj) (kvs : List (List Key × V)), v = .ref a ∧ F a = some (.frz od (.dT kvs)) ∧ kvs.map (·.1) = ks ∧ reps M F ds (kvs.map (·.2))
  | .obj c ds, v => ∃ (a C dx : Addr) (fs : List (Str × V)), v = .ref a ∧ M.G c = some C ∧ F a = some (.ins C dx fs) ∧ fs.map (·.1) = (M.nm c).take ds.length ∧ reps M F ds (fs.map (·.2))
  | .cls c, v => ∃ C, M.G c = some C ∧ v = .ref C
  | .lam, v => M.lm.p F v
  | .ktp ns, v => ∃ a, v = .ref a ∧ ITup M.K F a ns
  | .ex c ds, v => ∃ (a C : Addr) (fs : List (Str × V)), v = .ref a ∧ M.G c = some C ∧ fs.map (·.1) = M.nm c ∧ reps M F ds (fs.map (·.2)) ∧ (fs = [] ∧ F a = some (exo a C none) ∨ ∃ dx : Addr, F a = some (exo a C (some dx)) ∧ F dx = some (exd dx fs))
def reps (M : Gm) (F : Hp) : List D → List V → Prop
  | [], vs => vs = []
  | d :: ds, vs => ∃ v r, vs = v :: r ∧ rep M F d v ∧ reps M F ds r
end
def obAt (M : Gm) (F H : Hp) : OB → Addr → Prop
  | .l ds, a => ∃ vs, H a = some (.lst vs) ∧ reps M F ds vs
  | .dK ks ds, a => ∃ (kvs : List (Key × V)), H a = some (.dK kvs) ∧ kvs.map (·.1) = ks ∧ reps M F ds (kvs.map (·.2))
  | .dT ks ds, a => ∃ (kvs : List (List Key × V)), H a = some (.dT kvs) ∧ kvs.map (·.1) = ks ∧ reps M F ds (kvs.map (·.2))
  | .o c ds, a => ∃ (C dx : Addr) (fs : List (Str × V)), M.G c = some C ∧ H a = some (.ins C dx fs) ∧ fs.map (·.1) = (M.nm c).take ds.length ∧ reps M F ds (fs.map (·.2))
section
variable {M : Gm} {F F' H H' : Hp}
mutual
theorem rep_mono (e : Same F F') : ∀ (d : D) (v : V), rep M F d v → rep M F' d v
  | .non, v, h => by unfold rep at h ⊢; exact h
  | .bl _, v, h => by unfold rep at h ⊢; exact h
  | .int _, v, h => by unfold rep at h ⊢; exact h
  | .str _, v, h => by unfold rep at h ⊢; exact h
  | .lst ds, v, h => by
    unfold rep at h ⊢
    obtain ⟨a, vs, h1, h2, h3⟩ := h
    exact ⟨a, vs, h1, e _ _ h2, reps_mono e ds vs h3⟩
  | .scr ds, v, h => by
    unfold rep at h ⊢
    obtain ⟨a, vs, h1, h2, h3⟩ := h
    exact ⟨a, vs, h1, e.seq h2, reps_mono e ds vs h3⟩
  | .tup ds, v, h => by
    unfold rep at h ⊢
    obtain ⟨a, vs, h1, h2, h3⟩ := h
    exact ⟨a, vs, h1, e _ _ h2, reps_mono e ds vs h3⟩
  | .dK ks ds, v, h => by
    unfold rep at h ⊢
    obtain ⟨a, od, vs, h1, h2, h3, h4⟩ := h
    exact ⟨a, od, vs, h1, e _ _ h2, h3, reps_mono e ds _ h4⟩
  | .dT ks ds, v, h => by
    unfold rep at h ⊢
    obtain ⟨a, od, vs, h1, h2, h3, h4⟩ := h
    exact ⟨a, od, vs, h1, e _ _ h2, h3, reps_mono e ds _ h4⟩
  | .obj c ds, v, h => by
    unfold rep at h ⊢
    obtain ⟨a, C, dx, fs, h1, h2, h3, h4, h5⟩ := h
    exact ⟨a, C, dx, fs, h1, h2, e _ _ h3, h4, reps_mono e ds _ h5⟩
  | .cls c, v, h => by unfold rep at h ⊢; exact h
  | .lam, v, h => by unfold rep at h ⊢; exact M.lm.mono e h
  | .ktp ns, v, h => by
    unfold rep at h ⊢
    obtain ⟨a, h1, h2⟩ := h
    exact ⟨a, h1, h2.imp id fun ⟨o, h3, h4⟩ => ⟨o, e _ _ h3, h4⟩⟩
  | .ex c ds, v, h => by
    unfold rep at h ⊢
    obtain ⟨a, C, fs, h1, h2, h3, h4, h5⟩ := h
    exact ⟨a, C, fs, h1, h2, h3, reps_mono e ds _ h4, h5.imp (fun ⟨z, h6⟩ => ⟨z, e _ _ h6⟩) fun ⟨dx, h6, h7⟩ => ⟨dx, e _ _ h6, e _ _ h7⟩⟩
theorem reps_mono (e : Same F F') : ∀ (ds : List D) (vs : List V), reps M F ds vs → reps M F' ds vs
  | [], vs, h => by unfold reps at h ⊢; exact h
  | d :: ds, vs, h => by
    unfold reps at h ⊢
    obtain ⟨v, r, h1, h2, h3⟩ := h
    exact ⟨v, r, h1, rep_mono e d v h2, reps_mono e ds r h3⟩
end
theorem reps_length : ∀ {ds : List D} {vs : List V}, reps M F ds vs → vs.length = ds.length
  | [], vs, h => by unfold reps at h; rw [h]; rfl
  | d :: ds, vs, h => by
    unfold reps at h
    obtain ⟨v, r, rfl, _, h3⟩ := h
    simp [reps_length h3]
theorem reps_get : ∀ {ds : List D} {vs : List V} {i : Nat} {d : D}, reps M F ds vs → ds[i]? = some d → ∃ v, vs[i]? = some v ∧ rep M F d v
  | [], vs, i, d, h, e => by simp at e
  | d :: ds, vs, 0, d', h, e => by
    unfold reps at h
    obtain ⟨v, r, rfl, h2, h3⟩ := h
    simp at e; subst e
    exact ⟨v, rfl, h2⟩
  | d :: ds, vs, i + 1, d', h, e => by
    unfold reps at h
    obtain ⟨v, r, rfl, h2, h3⟩ := h
    simp at e
    obtain ⟨w, e1, e2⟩ := reps_get h3 e
    exact ⟨w, by simpa using e1, e2⟩
theorem reps_nil : reps M F [] [] := by unfold reps; rfl
theorem reps_cons {d : D} {ds : List D} {v : V} {vs : List V} (h1 : rep M F d v) (h2 : reps M F ds vs) : reps M F (d :: ds) (v :: vs) := by
  unfold reps; exact ⟨v, vs, rfl, h1, h2⟩
theorem reps_cons_iff {d : D} {ds : List D} {v : V} {vs : List V} : reps M F (d :: ds) (v :: vs) ↔ rep M F d v ∧ reps M F ds vs := by
  constructor
  · intro h
    unfold reps at h
    obtain ⟨v', r, e, h2, h3⟩ := h
    cases e
    exact ⟨h2, h3⟩
  · exact fun h => reps_cons h.1 h.2
theorem reps_append : ∀ {ds es : List D} {vs ws : List V}, reps M F ds vs → reps M F es ws → reps M F (ds ++ es) (vs ++ ws)
  | [], es, vs, ws, h, h' => by unfold reps at h; subst h; exact h'
  | d :: ds, es, vs, ws, h, h' => by
    unfold reps at h
    obtain ⟨v, r, rfl, h2, h3⟩ := h
    exact reps_cons h2 (reps_append h3 h')
theorem reps_take : ∀ {ds : List D} {vs : List V} (n : Nat), reps M F ds vs → reps M F (ds.take n) (vs.take n)
  | _, _, 0, _ => by simp [reps]
  | [], vs, n + 1, h => by unfold reps at h; subst h; simp [reps]
  | d :: ds, vs, n + 1, h => by
    unfold reps at h
    obtain ⟨v, r, rfl, h2, h3⟩ := h
    exact reps_cons h2 (reps_take n h3)
theorem reps_drop : ∀ {ds : List D} {vs : List V} (n : Nat), reps M F ds vs → reps M F (ds.drop n) (vs.drop n)
  | _, _, 0, h => h
  | [], vs, n + 1, h => by unfold reps at h; subst h; simp [reps]
  | d :: ds, vs, n + 1, h => by
    unfold reps at h
    obtain ⟨v, r, rfl, h2, h3⟩ := h
    exact reps_drop n h3
theorem reps_set : ∀ {ds : List D} {vs : List V} {d : D} {v : V} (i : Nat), reps M F ds vs → rep M F d v → reps M F (ds.set i d) (vs.set i v)
  | [], vs, d, v, i, h, _ => by unfold reps at h; subst h; simp [reps]
  | d0 :: ds, vs, d, v, 0, h, hv => by
    unfold reps at h
    obtain ⟨v0, r, rfl, h2, h3⟩ := h
    exact reps_cons hv h3
  | d0 :: ds, vs, d, v, i + 1, h, hv => by
    unfold reps at h
    obtain ⟨v0, r, rfl, h2, h3⟩ := h
    exact reps_cons h2 (reps_set i h3 hv)
theorem obAt_mono (e : Same F F') {o : OB} {a : Addr} (ha : H' a = H a) (h : obAt M F H o a) : obAt M F' H' o a := by
  cases o with
  | l ds => obtain ⟨vs, h1, h2⟩ := h; exact ⟨vs, ha.trans h1, reps_mono e _ _ h2⟩
  | dK ks ds => obtain ⟨vs, h1, h2, h3⟩ := h; exact ⟨vs, ha.trans h1, h2, reps_mono e _ _ h3⟩
  | dT ks ds => obtain ⟨vs, h1, h2, h3⟩ := h; exact ⟨vs, ha.trans h1, h2, reps_mono e _ _ h3⟩
  | o c ds => obtain ⟨C, dx, fs, h1, h2, h3, h4⟩ := h; exact ⟨C, dx, fs, h1, ha.trans h2, h3, reps_mono e _ _ h4⟩
theorem obAt_some {o : OB} {a : Addr} (h : obAt M F H o a) : ∃ u, H a = some u := by
  cases o with
  | l ds => obtain ⟨vs, h1, h2⟩ := h; exact ⟨_, h1⟩
  | dK ks ds => obtain ⟨vs, h1, h2, h3⟩ := h; exact ⟨_, h1⟩
  | dT ks ds => obtain ⟨vs, h1, h2, h3⟩ := h; exact ⟨_, h1⟩
  | o c ds => obtain ⟨C, dx, fs, h1, h2, h3, h4⟩ := h; exact ⟨_, h2⟩
theorem obAt_nt {o : OB} {a : Addr} (h : obAt M F H o a) : ∃ u, H a = some u ∧ NT u := by
  cases o with
  | l ds => obtain ⟨vs, h1, h2⟩ := h; exact ⟨_, h1, rfl⟩
  | dK ks ds => obtain ⟨vs, h1, h2, h3⟩ := h; exact ⟨_, h1, rfl⟩
  | dT ks ds => obtain ⟨vs, h1, h2, h3⟩ := h; exact ⟨_, h1, rfl⟩
  | o c ds => obtain ⟨C, dx, fs, h1, h2, h3, h4⟩ := h; exact ⟨_, h2, rfl⟩
theorem obAt_rep {o : OB} {a : Addr} (hd : o.dic = false) (h : obAt M F F o a) : rep M F o.toD (.ref a) := by
  cases o with
  | l ds => obtain ⟨vs, h1, h2⟩ := h; unfold OB.toD rep; exact ⟨a, vs, rfl, h1, h2⟩
  | dK ks ds => cases hd
  | dT ks ds => cases hd
  | o c ds => obtain ⟨C, dx, fs, h1, h2, h3, h4⟩ := h; unfold OB.toD rep; exact ⟨a, C, dx, fs, rfl, h1, h2, h3, h4⟩
theorem obAt_repD {o : OB} {a : Addr} {u : HO} {od : Obj} (hd : o.dic = true) (hu : H a = some u) (hF : F' a = some (.frz od u)) (g : Same F F') (h : obAt M F H o a) : rep M F' o.toD (.ref a) := by
  cases o with
  | l ds => cases hd
  | dK ks ds =>
    obtain ⟨vs, h1, h2, h3⟩ := h
    rw [hu] at h1; cases h1
    unfold OB.toD rep; exact ⟨a, od, vs, rfl, hF, h2, reps_mono g _ _ h3⟩
  | dT ks ds =>
    obtain ⟨vs, h1, h2, h3⟩ := h
    rw [hu] at h1; cases h1
    unfold OB.toD rep; exact ⟨a, od, vs, rfl, hF, h2, reps_mono g _ _ h3⟩
  | o c ds => cases hd
theorem obAt_mut {o : OB} {a : Addr} (h : obAt M F H o a) : ∃ u, H a = some u ∧ NT u ∧ Mut (some u) := by
  cases o with
  | l ds => obtain ⟨vs, h1, h2⟩ := h; exact ⟨_, h1, rfl, True.intro⟩
  | dK ks ds => obtain ⟨vs, h1, h2, h3⟩ := h; exact ⟨_, h1, rfl, True.intro⟩
  | dT ks ds => obtain ⟨vs, h1, h2, h3⟩ := h; exact ⟨_, h1, rfl, True.intro⟩
  | o c ds => obtain ⟨C, dx, fs, h1, h2, h3, h4⟩ := h; exact ⟨_, h2, rfl, True.intro⟩
end
inductive LkS (Q : Hp → Prop) : Hp → Prop where
  | now {H : Hp} (h : Q H) : LkS Q H
  | lock {H : Hp} (d : Addr) (u : HO) (h : H d = some u) (mu : Mut (some u)) (k : ∀ od, LkS Q (upd H d (.frz od u))) : LkS Q H
theorem LkS.mono {Q R : Hp → Prop} {H : Hp} (l : LkS Q H) (h : ∀ H', Q H' → R H') : LkS R H := by
  induction l with
  | now q => exact .now (h _ q)
  | lock d u e mu _ ih => exact .lock d u e mu ih
theorem LkS.bind {Q R : Hp → Prop} {H : Hp} (l : LkS Q H) (h : ∀ H', Q H' → LkS R H') : LkS R H := by
  induction l with
  | now q => exact h _ q
  | lock d u e mu _ ih => exact .lock d u e mu ih
section
variable {X : Cx} {pins : List (Addr × Obj)} {σ : St} {s : Shared}
theorem LkS.inv {Q : Hp → Prop} {H : Hp} (l : LkS Q H) (I : Inv X pins σ H s) : ∃ H', Inv X pins σ H' s ∧ Q H' := by
  induction l with
  | now q => exact ⟨_, I, q⟩
  | lock d u e mu _ ih =>
    obtain ⟨od, I'⟩ := I.lock e mu
    exact ih od I'
theorem pe_lks {e : Expr} {t : TE} (p : PE X e t) : PE X e (fun σ H Q => t σ H fun v H' => LkS (Q v) H') := by
  refine ⟨fun pins s σ H Q I h => thn (p.run pins s σ H _ I h) fun v s1 ⟨x, H1, I1, r, q⟩ => ?_⟩
  obtain ⟨H2, I2, q2⟩ := q.inv I1
  exact ⟨x, H2, I2, r, q2⟩
end
def nAt (M : Gm) (F H : Hp) : D ⊕ OB → V → Prop
  | .inl d, v => rep M F d v
  | .inr o, v => ∃ b, v = .ref b ∧ obAt M F H o b
def nAdr : List (D ⊕ OB) → List V → List Addr
  | .inr _ :: ps, .ref b :: vs => b :: nAdr ps vs
  | _ :: ps, _ :: vs => nAdr ps vs
  | _, _ => []
def nOwn (tp : Bool) (ps : List (D ⊕ OB)) (a : Addr) (vs : List V) : List Addr := if tp then nAdr ps vs else a :: nAdr ps vs
structure NAt (M : Gm) (F H : Hp) (tp : Bool) (ps : List (D ⊕ OB)) (a : Addr) (vs : List V) : Prop where
  top : if tp then F a = some (.tup vs) else H a = some (.lst vs)
  pts : Paired (nAt M F H) ps vs
  nod : (nOwn tp ps a vs).Nodup
theorem nAts_mono {M : Gm} {F F' H H' : Hp} (g : Same F F') : ∀ {ps : List (D ⊕ OB)} {vs : List V}, (∀ b ∈ nAdr ps vs, H' b = H b) → Paired (nAt M F H) ps vs → Paired (nAt M F' H') ps vs
  | [], _, _, .nil => .nil
  | .inl d :: ps, v :: vs, h, .cons h1 h2 => .cons (rep_mono g _ _ h1) (nAts_mono g (fun b hb => h b (by cases v <;> exact hb)) h2)
  | .inr o :: ps, v :: vs, h, .cons h1 h2 => by
    obtain ⟨b, rfl, h1⟩ := h1
    exact .cons ⟨b, rfl, obAt_mono g (h b (List.mem_cons_self ..)) h1⟩ (nAts_mono g (fun b hb => h b (List.mem_cons_of_mem _ hb)) h2)
theorem NAt.mono {M : Gm} {F F' H H' : Hp} {tp : Bool} {ps : List (D ⊕ OB)} {a : Addr} {vs : List V} (n : NAt M F H tp ps a vs) (g : Same F F') (h : ∀ b ∈ nOwn tp ps a vs, H' b = H b) : NAt M F' H' tp ps a vs where
  top := by
    have t := n.top
    cases tp with
    | true => exact g _ _ t
    | false => exact (h a (List.mem_cons_self ..)).trans t
  pts := nAts_mono g (fun b hb => h b (by cases tp with | true => exact hb | false => exact List.mem_cons_of_mem _ hb)) n.pts
  nod := n.nod
theorem nAdr_nt {M : Gm} {F H : Hp} : ∀ {ps : List (D ⊕ OB)} {vs : List V}, Paired (nAt M F H) ps vs → ∀ b ∈ nAdr ps vs, ∃ u, H b = some u ∧ NT u
  | [], _, .nil, b, hb => by cases hb
  | .inl d :: ps, v :: vs, .cons h1 h2, b, hb => nAdr_nt h2 b (by cases v <;> exact hb)
  | .inr o :: ps, v :: vs, .cons h1 h2, b, hb => by
    obtain ⟨b', rfl, h1⟩ := h1
    rcases List.mem_cons.mp hb with rfl | hb
    · exact obAt_nt h1
    · exact nAdr_nt h2 b hb
theorem NAt.nt {M : Gm} {F H : Hp} {tp : Bool} {ps : List (D ⊕ OB)} {a : Addr} {vs : List V} (n : NAt M F H tp ps a vs) {b : Addr} (hb : b ∈ nOwn tp ps a vs) : ∃ u, H b = some u ∧ NT u := by
  have t := n.top
  cases tp with
  | true => exact nAdr_nt n.pts b hb
  | false =>
    rcases List.mem_cons.mp hb with rfl | hb
    · exact ⟨_, t, rfl⟩
    · exact nAdr_nt n.pts b hb
structure Cn (M : Gm) where
  F0 : Hp
  H0 : Hp
  io : Option Addr
  iob : ∀ a, io = some a → H0 a ≠ none
  nt : ∀ b o, H0 b = some o → NT o
  nd : Option (Addr × List V × List Addr)
  ndh : ∀ z, nd = some z → ∀ b ∈ z.2.2, H0 b ≠ none ∧ F0 b = none ∧ io ≠ some b
def slotOk (c : Cn M) (F H : Hp) : R → V → Prop
  | .imm d, v => rep M F d v
  | .own o, v => ∃ a, v = .ref a ∧ F a = none ∧ c.H0 a = none ∧ obAt M F H o a
  | .brw o, v => ∃ a, v = .ref a ∧ F a = none ∧ c.io = some a ∧ obAt M F H o a
  | .nst tp ps, v => ∃ a vs, v = .ref a ∧ c.nd = some (a, vs, nOwn tp ps a vs) ∧ NAt M F c.H0 tp ps a vs
structure Ok (c : Cn M) (F H : Hp) (σ : St) (δ : Sl) : Prop where
  same : Same F H
  grow : Same c.F0 F
  nofz : ∀ b, c.H0 b ≠ none → c.F0 b = none → F b = none
  kept : ∀ b o, c.H0 b = some o → c.io ≠ some b → H b = some o
  ioh : ∀ a, c.io = some a → ∃ u, H a = some u ∧ NT u
  tb : Tb M F H
  len : σ.length = δ.length
  slot : ∀ (i : Nat) (r : R), δ[i]? = some (some r) → ∃ v, σ[i]? = some (some v) ∧ slotOk c F H r v
  dist : ∀ (i j : Nat) (r r' : R) (v : V), i ≠ j → δ[i]? = some (some r) → δ[j]? = some (some r') → r.mu = true → r'.mu = true → σ[i]? = some (some v) → σ[j]? = some (some v) → False
def repR (c : Cn M) (F H : Hp) (σ : St) (δ : Sl) : R → V → Prop
  | .imm d, v => rep M F d v
  | .own o, v => ∃ a, v = .ref a ∧ F a = none ∧ c.H0 a = none ∧ obAt M F H o a ∧ ∀ (i : Nat) (r : R), δ[i]? = some (some r) → r.mu = true → σ[i]? ≠ some (some (V.ref a))
  | .brw _, _ => False
  | .nst tp ps, v => ∃ a vs, v = .ref a ∧ NAt M F H tp ps a vs ∧ ∀ b ∈ nOwn tp ps a vs, F b = none ∧ c.H0 b = none ∧ ∀ (i : Nat) (r : R), δ[i]? = some (some r) → r.mu = true → σ[i]? ≠ some (some (V.ref b))
section
variable {M : Gm} {c : Cn M} {F F' H H' : Hp} {σ : St} {δ : Sl}
theorem slot_nst {tp : Bool} {ps : List (D ⊕ OB)} {v : V} (g : Same F F') (h : slotOk c F H (.nst tp ps) v) : slotOk c F' H' (.nst tp ps) v := by
  obtain ⟨a, vs, h1, h2, h3⟩ := h
  exact ⟨a, vs, h1, h2, h3.mono g fun _ _ => rfl⟩
theorem Ok.h0 (ok : Ok c F H σ δ) {p : Addr} (hp : H p = none) : c.H0 p = none := by
  cases e : c.H0 p with
  | none => rfl
  | some o =>
    by_cases hi : c.io = some p
    · obtain ⟨u, e1, _⟩ := ok.ioh p hi
      rw [hp] at e1; cases e1
    · rw [ok.kept p o e hi] at hp; cases hp
theorem Ok.hn (ok : Ok c F H σ δ) {p : Addr} (hp : c.H0 p ≠ none) : ∃ u, H p = some u ∧ NT u := by
  by_cases hi : c.io = some p
  · exact ok.ioh p hi
  · cases e : c.H0 p with
    | none => exact absurd e hp
    | some o => exact ⟨o, ok.kept p o e hi, c.nt p o e⟩
theorem Ok.h1 (ok : Ok c F H σ δ) {p : Addr} (hp : ∀ o, H p = some o → ¬ NT o) : c.H0 p = none := by
  cases e : c.H0 p with
  | none => rfl
  | some o =>
    obtain ⟨u, e1, e2⟩ := ok.hn (p := p) (by rw [e]; exact fun z => by cases z)
    exact absurd e2 (hp u e1)
theorem Ok.f (ok : Ok c F H σ δ) {p : Addr} (hp : H p = none) : F p = none := ok.same.free hp
theorem Ok.mus (ok : Ok c F H σ δ) {i : Nat} {r : R} (e : δ[i]? = some (some r)) (hm : r.mu = true) : ∃ a o, σ[i]? = some (some (.ref a)) ∧ F a = none ∧ obAt M F H o a ∧ (r = .own o ∧ c.H0 a = none ∨ r = .brw o ∧ c.io = some a) := by
  obtain ⟨v, e1, e2⟩ := ok.slot i r e
  cases r with
  | imm d => cases hm
  | own o => obtain ⟨a, rfl, h1, h2, h3⟩ := e2; exact ⟨a, o, e1, h1, h3, .inl ⟨rfl, h2⟩⟩
  | brw o => obtain ⟨a, rfl, h1, h2, h3⟩ := e2; exact ⟨a, o, e1, h1, h3, .inr ⟨rfl, h2⟩⟩
  | nst tp ps => cases hm
theorem Ok.fresh1 (ok : Ok c F H σ δ) {p : Addr} (hp : ∀ o, H p = some o → ¬ NT o) : ∀ (i : Nat) (r : R), δ[i]? = some (some r) → r.mu = true → σ[i]? ≠ some (some (V.ref p)) := fun i r e hm q => by
  obtain ⟨a, o, e1, _, h3, _⟩ := ok.mus e hm
  rw [e1] at q
  cases q
  obtain ⟨u, hu, n⟩ := obAt_nt h3
  exact hp u hu n
theorem Ok.fresh (ok : Ok c F H σ δ) {p : Addr} (hp : H p = none) : ∀ (i : Nat) (r : R), δ[i]? = some (some r) → r.mu = true → σ[i]? ≠ some (some (V.ref p)) := fun i r e hm q => by
  obtain ⟨a, o, e1, _, h3, _⟩ := ok.mus e hm
  rw [e1] at q
  cases q
  obtain ⟨u, hu⟩ := obAt_some h3
  rw [hu] at hp; cases hp
theorem Ok.alloc (ok : Ok c F H σ δ) {p : Addr} {o : HO} (hp : H p = none) : Ok c F (upd H p o) σ δ where
  same := fun b u e => by rw [upd_ne (ne_of_none (ok.same b u e) hp)]; exact ok.same b u e
  grow := ok.grow
  nofz := ok.nofz
  kept := fun b u e hi => by
    have := ok.kept b u e hi
    rw [upd_ne (ne_of_none this hp)]; exact this
  ioh := fun a e => by
    obtain ⟨u, e1, e2⟩ := ok.ioh a e
    exact ⟨u, by rw [upd_ne (ne_of_none e1 hp)]; exact e1, e2⟩
  tb := ok.tb.alloc hp
  len := ok.len
  slot := fun i r e => by
    obtain ⟨v, e1, e2⟩ := ok.slot i r e
    refine ⟨v, e1, ?_⟩
    cases r with
    | imm d => exact e2
    | own ob =>
      obtain ⟨a, rfl, h1, h2, h3⟩ := e2
      obtain ⟨u, hu⟩ := obAt_some h3
      exact ⟨a, rfl, h1, h2, obAt_mono (Same.refl _) (upd_ne (ne_of_none hu hp)) h3⟩
    | brw ob =>
      obtain ⟨a, rfl, h1, h2, h3⟩ := e2
      obtain ⟨u, hu⟩ := obAt_some h3
      exact ⟨a, rfl, h1, h2, obAt_mono (Same.refl _) (upd_ne (ne_of_none hu hp)) h3⟩
    | nst tp ps => exact e2
  dist := ok.dist
theorem Ok.made (ok : Ok c F H σ δ) {p : Addr} {o : HO} {ob : OB} (hp : H p = none) (h : obAt M F (upd H p o) ob p) : repR c F (upd H p o) σ δ (.own ob) (.ref p) :=
  ⟨p, rfl, ok.f hp, ok.h0 hp, h, ok.fresh hp⟩
theorem Ok.freeze (ok : Ok c F H σ δ) {ob : OB} {v : V} (r : repR c F H σ δ (.own ob) v) : LkS (fun H' => ∃ F', Same F F' ∧ Ok c F' H' σ δ ∧ rep M F' ob.toD v) H := by
  obtain ⟨a, rfl, h1, h2, h3, h4⟩ := r
  obtain ⟨u, hu, hnu, hmu⟩ := obAt_mut h3
  have key : ∀ (u' : HO) (H' : Hp), NT u' → H' a = some u' → (∀ b, b ≠ a → H' b = H b) → Tb M (upd F a u') H' → Same F (upd F a u') ∧ Ok c (upd F a u') H' σ δ := fun u' H' hn' ea eb htb => by
    have g : Same F (upd F a u') := fun b o e => by rw [upd_ne (ne_of_none e h1)]; exact e
    refine ⟨g, fun b o e => ?_, ok.grow.trans g, fun b e1 e2 => ?_, fun b o e hi => ?_, fun b e => ?_, htb, ok.len, fun i r e => ?_, ok.dist⟩
    · by_cases q : b = a
      · subst q; rw [upd_same] at e; cases e; exact ea
      · rw [upd_ne q] at e; rw [eb b q]; exact ok.same b o e
    · have q : b ≠ a := fun z => e1 (z ▸ h2)
      rw [upd_ne q]; exact ok.nofz b e1 e2
    · have q : b ≠ a := fun z => by rw [z, h2] at e; cases e
      rw [eb b q]; exact ok.kept b o e hi
    · have q : b ≠ a := fun z => c.iob b e (z ▸ h2)
      rw [eb b q]; exact ok.ioh b e
    · obtain ⟨v, e1, e2⟩ := ok.slot i r e
      refine ⟨v, e1, ?_⟩
      cases r with
      | imm d => exact rep_mono g _ _ e2
      | own o =>
        obtain ⟨a', rfl, k1, k2, k3⟩ := e2
        have q : a' ≠ a := fun z => h4 i _ e rfl (by rw [e1, z])
        exact ⟨a', rfl, by rw [upd_ne q]; exact k1, k2, obAt_mono g (eb a' q) k3⟩
      | brw o =>
        obtain ⟨a', rfl, k1, k2, k3⟩ := e2
        have q : a' ≠ a := fun z => h4 i _ e rfl (by rw [e1, z])
        exact ⟨a', rfl, by rw [upd_ne q]; exact k1, k2, obAt_mono g (eb a' q) k3⟩
      | nst tp ps => exact slot_nst g e2
  cases hd : ob.dic with
  | false =>
    obtain ⟨g, ok'⟩ := key u H hnu hu (fun _ _ => rfl) (ok.tb.frz hu hnu)
    exact .now ⟨upd F a u, g, ok', obAt_rep hd (obAt_mono g (upd_same.trans hu.symm) h3)⟩
  | true =>
    refine .lock a u hu hmu fun od => .now ?_
    obtain ⟨g, ok'⟩ := key (.frz od u) (upd H a (.frz od u)) rfl upd_same (fun b z => upd_ne z) ((ok.tb.frz hu hnu rfl).keep (fun b o e z => by
      rw [upd_ne (fun y => by rw [y, hu] at e; cases e; exact z hnu)]; exact e) (fun b o e z q => q) (ok.tb.frz hu hnu rfl).nt)
    exact ⟨upd F a (.frz od u), g, ok', obAt_repD hd hu upd_same g h3⟩
theorem getElem?_set_some {α : Type} {l : List α} {i j : Nat} {x y : α} (h : (l.set i x)[j]? = some y) : (i = j ∧ x = y ∧ i < l.length) ∨ (i ≠ j ∧ l[j]? = some y) := by
  by_cases e : i = j
  · subst e
    by_cases hl : i < l.length
    · rw [List.getElem?_set_self hl] at h
      exact .inl ⟨rfl, Option.some.inj h, hl⟩
    · rw [List.getElem?_eq_none (by simpa using hl)] at h; cases h
  · rw [List.getElem?_set_ne e] at h
    exact .inr ⟨e, h⟩
theorem Ok.setI (ok : Ok c F H σ δ) {d : D} {v : V} (i : Nat) (r : rep M F d v) : Ok c F H (σ.set i (some v)) (δ.set i (some (.imm d))) where
  same := ok.same
  grow := ok.grow
  nofz := ok.nofz
  kept := ok.kept
  ioh := ok.ioh
  tb := ok.tb
  len := by simp [ok.len]
  slot := fun j r' e => by
    rcases getElem?_set_some e with ⟨rfl, e1, hl⟩ | ⟨hn, e1⟩
    · cases e1
      exact ⟨v, List.getElem?_set_self (by rw [ok.len]; exact hl), r⟩
    · rw [List.getElem?_set_ne hn]
      exact ok.slot j r' e1
  dist := fun j k r1 r2 w hjk e1 e2 m1 m2 s1 s2 => by
    rcases getElem?_set_some e1 with ⟨rfl, q, _⟩ | ⟨hn, q1⟩
    · cases q; cases m1
    · rcases getElem?_set_some e2 with ⟨rfl, q, _⟩ | ⟨hn2, q2⟩
      · cases q; cases m2
      · rw [List.getElem?_set_ne hn] at s1
        rw [List.getElem?_set_ne hn2] at s2
        exact ok.dist j k r1 r2 w hjk q1 q2 m1 m2 s1 s2
theorem Ok.setO (ok : Ok c F H σ δ) {ob : OB} {v : V} (i : Nat) (r : repR c F H σ δ (.own ob) v) : Ok c F H (σ.set i (some v)) (δ.set i (some (.own ob))) where
  same := ok.same
  grow := ok.grow
  nofz := ok.nofz
  kept := ok.kept
  ioh := ok.ioh
  tb := ok.tb
  len := by simp [ok.len]
  slot := fun j r' e => by
    rcases getElem?_set_some e with ⟨rfl, e1, hl⟩ | ⟨hn, e1⟩
    · cases e1
      obtain ⟨a, rfl, h1, h2, h3, _⟩ := r
      exact ⟨.ref a, List.getElem?_set_self (by rw [ok.len]; exact hl), a, rfl, h1, h2, h3⟩
    · rw [List.getElem?_set_ne hn]
      exact ok.slot j r' e1
  dist := fun j k r1 r2 w hjk e1 e2 m1 m2 s1 s2 => by
    obtain ⟨a, rfl, h1, h2, h3, h4⟩ := r
    rcases getElem?_set_some e1 with ⟨rfl, q, hl⟩ | ⟨hn, q1⟩
    · rw [List.getElem?_set_self (by rw [ok.len]; exact hl)] at s1
      rcases getElem?_set_some e2 with ⟨rfl, q, _⟩ | ⟨hn2, q2⟩
      · exact hjk rfl
      · rw [List.getElem?_set_ne hn2] at s2
        cases s1
        exact h4 k r2 q2 m2 s2
    · rw [List.getElem?_set_ne hn] at s1
      rcases getElem?_set_some e2 with ⟨rfl, q, hl⟩ | ⟨hn2, q2⟩
      · rw [List.getElem?_set_self (by rw [ok.len]; exact hl)] at s2
        cases s2
        exact h4 j r1 q1 m1 s1
      · rw [List.getElem?_set_ne hn2] at s2
        exact ok.dist j k r1 r2 w hjk q1 q2 m1 m2 s1 s2
theorem Ok.mutate (ok : Ok c F H σ δ) {i : Nat} {r r' : R} {a : Addr} {ob ob' : OB} (e : δ[i]? = some (some r)) (hr : r = .own ob ∧ r' = .own ob' ∨ r = .brw ob ∧ r' = .brw ob') (ea : σ[i]? = some (some (.ref a))) (g : Same F F')
    (hF : ∀ b o, b ≠ a → H b = some o → NT o → F b = none → F' b = none) (hFa : F' a = none)
    (hk : ∀ b o, b ≠ a → NT o → H b = some o → H' b = some o) (hs : Same F' H') (htb : Tb M F' H') (hob : obAt M F' H' ob' a) : Ok c F' H' σ (δ.set i (some r')) := by
  have hm : r.mu = true := by rcases hr with ⟨rfl, _⟩ | ⟨rfl, _⟩ <;> rfl
  have hm' : r'.mu = true := by rcases hr with ⟨_, rfl⟩ | ⟨_, rfl⟩ <;> rfl
  obtain ⟨a', o', q1, q2, q3, q4⟩ := ok.mus e hm
  rw [ea] at q1; cases q1
  have ha0 : c.H0 a = none ∨ c.io = some a := by rcases q4 with ⟨_, z⟩ | ⟨_, z⟩; exact .inl z; exact .inr z
  have hfa : F a = none := q2
  refine ⟨hs, ok.grow.trans g, fun b e1 e2 => ?_, fun b o e1 e2 => ?_, fun b e1 => ?_, htb, by simp [ok.len], fun j r1 e1 => ?_, fun j k r1 r2 w hjk e1 e2 m1 m2 s1 s2 => ?_⟩
  · by_cases z : b = a
    · subst z; exact hFa
    · obtain ⟨u, k1, k2⟩ := ok.hn e1
      exact hF b u z k1 k2 (ok.nofz b e1 e2)
  · have z : b ≠ a := fun z => by
      subst z
      rcases ha0 with z | z
      · rw [z] at e1; cases e1
      · exact e2 z
    exact hk b o z (c.nt b o e1) (ok.kept b o e1 e2)
  · obtain ⟨u, hu, hn⟩ := obAt_nt hob
    by_cases z : b = a
    · subst z; exact ⟨u, hu, hn⟩
    · obtain ⟨o, q1, q2⟩ := ok.ioh b e1
      exact ⟨o, hk b o z q2 q1, q2⟩
  · rcases getElem?_set_some e1 with ⟨rfl, z, hl⟩ | ⟨hn, e1⟩
    · cases z
      refine ⟨.ref a, ea, ?_⟩
      rcases hr with ⟨rfl, rfl⟩ | ⟨rfl, rfl⟩
      · rcases q4 with ⟨_, z⟩ | ⟨z, _⟩
        · exact ⟨a, rfl, hFa, z, hob⟩
        · cases z
      · rcases q4 with ⟨z, _⟩ | ⟨_, z⟩
        · cases z
        · exact ⟨a, rfl, hFa, z, hob⟩
    · obtain ⟨v, s1, s2⟩ := ok.slot j r1 e1
      refine ⟨v, s1, ?_⟩
      cases r1 with
      | imm d => exact rep_mono g _ _ s2
      | own o =>
        obtain ⟨b, rfl, k1, k2, k3⟩ := s2
        have z : b ≠ a := fun z => ok.dist i j r (.own o) (.ref a) hn e e1 hm rfl ea (by rw [s1, z])
        obtain ⟨u, hu, hn⟩ := obAt_nt k3
        exact ⟨b, rfl, hF b u z hu hn k1, k2, obAt_mono g ((hk b u z hn hu).trans hu.symm) k3⟩
      | brw o =>
        obtain ⟨b, rfl, k1, k2, k3⟩ := s2
        have z : b ≠ a := fun z => ok.dist i j r (.brw o) (.ref a) hn e e1 hm rfl ea (by rw [s1, z])
        obtain ⟨u, hu, hn⟩ := obAt_nt k3
        exact ⟨b, rfl, hF b u z hu hn k1, k2, obAt_mono g ((hk b u z hn hu).trans hu.symm) k3⟩
      | nst tp ps => exact slot_nst g s2
  · have f1 : ∃ q, δ[j]? = some (some q) ∧ q.mu = true := by
      rcases getElem?_set_some e1 with ⟨rfl, z, hl⟩ | ⟨hn, z⟩
      · exact ⟨r, e, hm⟩
      · exact ⟨r1, z, m1⟩
    have f2 : ∃ q, δ[k]? = some (some q) ∧ q.mu = true := by
      rcases getElem?_set_some e2 with ⟨rfl, z, hl⟩ | ⟨hn, z⟩
      · exact ⟨r, e, hm⟩
      · exact ⟨r2, z, m2⟩
    obtain ⟨x1, y1, z1⟩ := f1
    obtain ⟨x2, y2, z2⟩ := f2
    exact ok.dist j k x1 x2 w hjk y1 y2 z1 z2 s1 s2
theorem Ok.write (ok : Ok c F H σ δ) {i : Nat} {r r' : R} {a : Addr} {ob ob' : OB} {o : HO} (e : δ[i]? = some (some r)) (hr : r = .own ob ∧ r' = .own ob' ∨ r = .brw ob ∧ r' = .brw ob') (ea : σ[i]? = some (some (.ref a)))
    (hob : obAt M F (upd H a o) ob' a) : Ok c F (upd H a o) σ (δ.set i (some r')) := by
  have hm : r.mu = true := by rcases hr with ⟨rfl, _⟩ | ⟨rfl, _⟩ <;> rfl
  obtain ⟨a', o', q1, q2, q3, q4⟩ := ok.mus e hm
  rw [ea] at q1; cases q1
  obtain ⟨u0, hu0, hn0⟩ := obAt_nt q3
  refine ok.mutate e hr ea (Same.refl _) (fun _ _ _ _ _ z => z) q2 (fun b u z _ h => by rw [upd_ne z]; exact h) (fun b u h => ?_) (ok.tb.write hu0 hn0) hob
  have z : b ≠ a := fun z => by rw [z, q2] at h; cases h
  rw [upd_ne z]; exact ok.same b u h
end
structure Stp (M : Gm) (F H F' H' : Hp) (io : Option Addr) : Prop where
  grow : Same F F'
  nofz : ∀ b o, H b = some o → NT o → F b = none → F' b = none
  kept : ∀ b o, H b = some o → NT o → io ≠ some b → H' b = some o
  same : Same F' H'
  tb : Tb M F' H'
def ioAt (M : Gm) (F H : Hp) : Option OB → Addr → Prop
  | none, _ => True
  | some o, a => F a = none ∧ obAt M F H o a
def ioV : Option OB → Addr → List V
  | none, _ => []
  | some _, a => [.ref a]
def resAt (M : Gm) (H F' H' : Hp) : R → V → Prop
  | .imm d, v => rep M F' d v
  | .own o, v => ∃ a, v = .ref a ∧ F' a = none ∧ (∀ u, H a = some u → ¬ NT u) ∧ obAt M F' H' o a
  | .brw _, _ => False
  | .nst tp ps, v => ∃ a vs, v = .ref a ∧ NAt M F' H' tp ps a vs ∧ ∀ b ∈ nOwn tp ps a vs, F' b = none ∧ ∀ u, H b = some u → ¬ NT u
def xAt (M : Gm) (F : Hp) (x : XD) (cls : Value) (d : Option Addr) (H : Hp) : Prop :=
  ∃ C, M.G x.c = some C ∧ cls = .ref C ∧ (x.vs = [] ∨ ∃ (dd : Addr) (fs : List (Str × V)), d = some dd ∧ F dd = some (.xd fs) ∧ fs.map (·.1) = M.nm x.c ∧ reps M F x.vs (fs.map (·.2)))
def spD (M : Gm) (f : Fm) : Sp := fun vs H Q E => ∃ (F : Hp) (io : Option OB) (a : Addr) (ws : List V) (ds : List D),
  vs = ioV io a ++ ws ∧ Same F H ∧ Tb M F H ∧ reps M F ds ws ∧ ioAt M F H io a ∧
  match f io ds with
  | .ok r io' => ∀ v F' H', Stp M F H F' H' (io.map fun _ => a) → resAt M H F' H' r v → ioAt M F' H' io' a → Q v H'
  | .exc x io' => ∀ cls d F' H', Stp M F H F' H' (io.map fun _ => a) → xAt M F' x cls d H' → ioAt M F' H' io' a → E cls d H'
  | .bad => False
section
variable {M : Gm} {c : Cn M} {F F' H H' : Hp} {σ : St} {δ : Sl}
theorem Ok.stp (ok : Ok c F H σ δ) (st : Stp M F H F' H' none) : Ok c F' H' σ δ := by
  have kp : ∀ b o, H b = some o → NT o → H' b = some o := fun b o e n => st.kept b o e n (fun z => by cases z)
  refine ⟨st.same, ok.grow.trans st.grow, fun b e1 e2 => ?_, fun b o e1 e2 => kp b o (ok.kept b o e1 e2) (c.nt b o e1), fun b e1 => ?_, st.tb, ok.len, fun i r e => ?_, ok.dist⟩
  · obtain ⟨u, k1, k2⟩ := ok.hn e1
    exact st.nofz b u k1 k2 (ok.nofz b e1 e2)
  · obtain ⟨o, q1, q2⟩ := ok.ioh b e1
    exact ⟨o, kp b o q1 q2, q2⟩
  · obtain ⟨v, s1, s2⟩ := ok.slot i r e
    refine ⟨v, s1, ?_⟩
    cases r with
    | imm d => exact rep_mono st.grow _ _ s2
    | own o =>
      obtain ⟨b, rfl, k1, k2, k3⟩ := s2
      obtain ⟨u, hu, hn⟩ := obAt_nt k3
      exact ⟨b, rfl, st.nofz b u hu hn k1, k2, obAt_mono st.grow ((kp b u hu hn).trans hu.symm) k3⟩
    | brw o =>
      obtain ⟨b, rfl, k1, k2, k3⟩ := s2
      obtain ⟨u, hu, hn⟩ := obAt_nt k3
      exact ⟨b, rfl, st.nofz b u hu hn k1, k2, obAt_mono st.grow ((kp b u hu hn).trans hu.symm) k3⟩
    | nst tp ps => exact slot_nst st.grow s2
theorem Ok.stpIo (ok : Ok c F H σ δ) {i : Nat} {r r' : R} {a : Addr} {ob ob' : OB} (e : δ[i]? = some (some r)) (hr : r = .own ob ∧ r' = .own ob' ∨ r = .brw ob ∧ r' = .brw ob') (ea : σ[i]? = some (some (.ref a)))
    (st : Stp M F H F' H' (some a)) (h : ioAt M F' H' (some ob') a) : Ok c F' H' σ (δ.set i (some r')) :=
  ok.mutate e hr ea st.grow (fun b o _ e1 n e2 => st.nofz b o e1 n e2) h.1 (fun b o z n q => st.kept b o q n (fun y => z (Option.some.inj y).symm)) st.same st.tb h.2
theorem Ok.resR (ok : Ok c F H σ δ) (st : Stp M F H F' H' none) {r : R} {v : V} (h : resAt M H F' H' r v) : repR c F' H' σ δ r v := by
  cases r with
  | imm d => exact h
  | own o =>
    obtain ⟨a, rfl, h1, h2, h3⟩ := h
    exact ⟨a, rfl, h1, ok.h1 h2, h3, ok.fresh1 h2⟩
  | brw o => exact h
  | nst tp ps =>
    obtain ⟨a, vs, h1, h2, h3⟩ := h
    exact ⟨a, vs, h1, h2, fun b hb => ⟨(h3 b hb).1, ok.h1 (h3 b hb).2, ok.fresh1 (h3 b hb).2⟩⟩
end
end
end TS

namespace TS
open PySem L2
noncomputable section
def prep (M : Gm) (F H : Hp) (d : D) (v : V) : Prop := rep M F d v ∨ ∃ o a, v = V.ref a ∧ d = OB.toD o ∧ obAt M F H o a
def Post {α β : Type} (c : Cn M) (W : WX) (F : Hp) (σ : St) (ρ : Hp → Hp → Sl → α → β → Prop) (r : Res α) (Q : β → Hp → Prop) : Prop := match r with
  | .ok a δ' => ∀ v F' H', Same F F' → Ok c F' H' σ δ' → ρ F' H' δ' a v → Q v H'
  | .exc x δ' => ∀ cls d F' H', Same F F' → Ok c F' H' σ δ' → xAt M F' x cls d H' → W cls d σ H'
  | .bad => False
abbrev ρD (c : Cn M) : Hp → Hp → Sl → D → V → Prop := fun F _ _ d v => rep M F d v
abbrev ρP (c : Cn M) : Hp → Hp → Sl → D → V → Prop := fun F H _ d v => prep M F H d v
abbrev ρR (c : Cn M) (σ : St) : Hp → Hp → Sl → R → V → Prop := fun F H δ r v => repR c F H σ δ r v
abbrev ρA (c : Cn M) : Hp → Hp → Sl → List D → List V → Prop := fun F _ _ ds vs => reps M F ds vs
abbrev ρB (c : Cn M) : Hp → Hp → Sl → List D → List V → Prop := fun F H _ ds vs => Paired (prep M F H) ds vs
abbrev ρT : Hp → Hp → Sl → Bool → Bool → Prop := fun _ _ _ b k => b = k
section
variable {M : Gm} {c : Cn M} {W : WX} {F F1 H H1 : Hp} {σ : St} {δ : Sl}
theorem Post.shift {α β : Type} {ρ : Hp → Hp → Sl → α → β → Prop} {r : Res α} {Q : β → Hp → Prop} (h : Post c W F σ ρ r Q) (g : Same F F1) : Post c W F1 σ ρ r Q := by
  cases r with
  | ok a δ' => exact fun v F' H' s => h v F' H' (g.trans s)
  | exc x δ' => exact fun cls d F' H' s => h cls d F' H' (g.trans s)
  | bad => exact h
theorem Post.bind {α β γ ζ : Type} {m : Res α} {k : α → Sl → Res γ} {ρ : Hp → Hp → Sl → α → β → Prop} {ρ' : Hp → Hp → Sl → γ → ζ → Prop} {Q : ζ → Hp → Prop} {T : β → Hp → Prop} (h : Post c W F σ ρ' (m.bind k) Q)
    (f : ∀ a δ1 v F1 H1, m = .ok a δ1 → Same F F1 → Ok c F1 H1 σ δ1 → ρ F1 H1 δ1 a v → Post c W F1 σ ρ' (k a δ1) Q → T v H1) : Post c W F σ ρ m T := by
  cases m with
  | ok a δ' => exact fun v F' H' s ok r => f a δ' v F' H' rfl s ok r (Post.shift h s)
  | exc x δ' => exact h
  | bad => exact h
theorem Post.ok {α β : Type} {ρ : Hp → Hp → Sl → α → β → Prop} {a : α} {δ : Sl} {Q : β → Hp → Prop} (h : Post c W F σ ρ (.ok a δ) Q) {v : β} (ok : Ok c F H σ δ) (r : ρ F H δ a v) : Q v H := h v F H (Same.refl _) ok r
end
def DE (M : Gm) (W : WX) (X : Cx) (e : Expr) (f : FE) : Prop := ∃ t, PE X e t ∧ ∀ (c : Cn M) F H σ δ Q, Ok c F H σ δ → Post c W F σ (ρR c σ) (f δ) Q → t σ H Q
def DI (M : Gm) (W : WX) (X : Cx) (e : Expr) (f : FD) : Prop := ∃ t, PE X e t ∧ ∀ (c : Cn M) F H σ δ Q, Ok c F H σ δ → Post c W F σ (ρD c) (f δ) Q → t σ H Q
def DP (M : Gm) (W : WX) (X : Cx) (e : Expr) (f : FD) : Prop := ∃ t, PE X e t ∧ ∀ (c : Cn M) F H σ δ Q, Ok c F H σ δ → Post c W F σ (ρP c) (f δ) Q → t σ H Q
def DT (M : Gm) (W : WX) (X : Cx) (e : Expr) (f : FT) : Prop := ∃ t, PT X e t ∧ ∀ (c : Cn M) F H σ δ Q, Ok c F H σ δ → Post c W F σ ρT (f δ) Q → t σ H Q
def DW (M : Gm) (W : WX) (X : Cx) (e : Expr) (f : FT) : Prop := ∃ t, PW X e t ∧ ∀ (c : Cn M) F H σ δ Q, Ok c F H σ δ → Post c W F σ ρT (f δ) Q → t σ H Q
def DA (M : Gm) (W : WX) (X : Cx) (es : List Expr) (f : FA) : Prop := ∃ t, PA X es t ∧ ∀ (c : Cn M) F H σ δ Q, Ok c F H σ δ → Post c W F σ (ρA c) (f δ) Q → t σ H Q
def DB (M : Gm) (W : WX) (X : Cx) (es : List Expr) (f : FA) : Prop := ∃ t, PA X es t ∧ ∀ (c : Cn M) F H σ δ Q, Ok c F H σ δ → Post c W F σ (ρB c) (f δ) Q → t σ H Q
def toE (f : FD) : FE := fun δ => (f δ).bind fun d δ => .ok (.imm d) δ
def frz (f : FE) : FD := fun δ => (f δ).bind fun r δ => match r with
  | .imm d => .ok d δ
  | .own o => .ok o.toD δ
  | .brw _ => .bad
  | .nst _ _ => .bad
section
variable {M : Gm} {c : Cn M} {W : WX} {X : Cx} {e : Expr}
theorem DI.toE {f : FD} (h : DI M W X e f) : DE M W X e (toE f) := by
  obtain ⟨t, p, h⟩ := h
  exact ⟨t, p, fun c F H σ δ Q ok post => h c F H σ δ Q ok (Post.bind post fun d δ1 v F1 H1 _ s ok1 r post => post.ok ok1 r)⟩
theorem DE.frz {f : FE} (h : DE M W X e f) : DI M W X e (frz f) := by
  obtain ⟨t, p, h⟩ := h
  refine ⟨_, pe_lks p, fun c F H σ δ Q ok post => h c F H σ δ (fun v H' => LkS (Q v) H') ok (Post.bind post fun r δ1 v F1 H1 _ s ok1 rr post => ?_)⟩
  cases r with
  | imm d => exact .now (post.ok ok1 rr)
  | own o => exact (ok1.freeze rr).mono fun H2 ⟨F', g, ok', r'⟩ => post v F' H2 g ok' r'
  | brw o => exact post.elim
  | nst _ _ => exact post.elim
theorem DE.pk {f : FE} (h : DE M W X e f) : DP M W X e (TS.frz f) := by
  obtain ⟨t, p, h⟩ := h
  refine ⟨t, p, fun c F H σ δ Q ok post => h c F H σ δ Q ok (Post.bind post fun r δ1 v F1 H1 _ s ok1 rr post => ?_)⟩
  cases r with
  | imm d => exact post.ok ok1 (.inl rr)
  | own o =>
    obtain ⟨a, rfl, h1, h2, h3, h4⟩ := rr
    exact post.ok ok1 (.inr ⟨o, a, rfl, rfl, h3⟩)
  | brw o => exact post.elim
  | nst _ _ => exact post.elim
theorem DI.pk {f : FD} (h : DI M W X e f) : DP M W X e f := by
  obtain ⟨t, p, h⟩ := h
  refine ⟨t, p, fun c F H σ δ Q ok post => h c F H σ δ Q ok ?_⟩
  cases q : f δ with
  | ok d δ1 => rw [q] at post; exact fun v F' H' s ok' r => post v F' H' s ok' (.inl r)
  | exc x δ1 => rw [q] at post; exact post
  | bad => rw [q] at post; exact post
end
def kD (d : D) : FD := fun δ => .ok d δ
def vI (i : Nat) : FD := fun δ => match δ[i]? with
  | some (some (.imm d)) => .ok d δ
  | some (some (.own o)) => .ok o.toD (δ.set i (some (.imm o.toD)))
  | _ => .bad
def vP (i : Nat) : FD := fun δ => match δ[i]? with
  | some (some (.imm d)) => .ok d δ
  | some (some (.own o)) => .ok o.toD δ
  | some (some (.brw o)) => .ok o.toD δ
  | _ => .bad
def vR (i : Nat) : FE := fun δ => match δ[i]? with
  | some (some (.imm d)) => .ok (.imm d) δ
  | some (some (.own o)) => .ok (.own o) (δ.set i none)
  | _ => .bad
section
variable {M : Gm} {c : Cn M} {W : WX} {X : Cx} {e : Expr}
theorem di_c {v : V} {d : D} (h : PE X e (tC v)) (r : ∀ F, rep M F d v) : DI M W X e (kD d) := ⟨_, h, fun c F H σ δ Q ok post => post.ok ok (r F)⟩
theorem di_int {i j pos} : DI M W X (.Constant (.int i) j pos) (kD (.int i)) := di_c pe_int fun F => by unfold rep; rfl
theorem di_bl {b j pos} : DI M W X (.Constant (.bool b) j pos) (kD (.bl b)) := di_c pe_bl fun F => by unfold rep; rfl
theorem di_non {j pos} : DI M W X (.Constant .none j pos) (kD .non) := di_c pe_non fun F => by unfold rep; rfl
theorem di_str {x j pos} : DI M W X (.Constant (.str x) j pos) (kD (.str x)) := di_c pe_str fun F => by unfold rep; rfl
theorem Ok.drop {F H : Hp} {σ : St} {δ : Sl} (ok : Ok c F H σ δ) (i : Nat) : Ok c F H σ (δ.set i none) where
  same := ok.same
  grow := ok.grow
  nofz := ok.nofz
  kept := ok.kept
  ioh := ok.ioh
  tb := ok.tb
  len := by simp [ok.len]
  slot := fun j r e => by
    rcases getElem?_set_some e with ⟨_, e1, _⟩ | ⟨_, e1⟩
    · cases e1
    · exact ok.slot j r e1
  dist := fun j k r1 r2 w hjk e1 e2 m1 m2 s1 s2 => by
    rcases getElem?_set_some e1 with ⟨_, q, _⟩ | ⟨_, q1⟩
    · cases q
    · rcases getElem?_set_some e2 with ⟨_, q, _⟩ | ⟨_, q2⟩
      · cases q
      · exact ok.dist j k r1 r2 w hjk q1 q2 m1 m2 s1 s2
theorem Ok.take {F H : Hp} {σ : St} {δ : Sl} (ok : Ok c F H σ δ) {i : Nat} {o : OB} (e : δ[i]? = some (some (.own o))) : ∃ v, σ[i]? = some (some v) ∧ repR c F H σ (δ.set i none) (.own o) v := by
  obtain ⟨v, e1, a, rfl, h1, h2, h3⟩ := ok.slot i _ e
  refine ⟨.ref a, e1, a, rfl, h1, h2, h3, fun j r q hm z => ?_⟩
  rcases getElem?_set_some q with ⟨_, q, _⟩ | ⟨hn, q⟩
  · cases q
  · exact ok.dist i j _ r _ hn e q rfl hm e1 z
theorem Ok.setSame {F H : Hp} {σ : St} {δ : Sl} (ok : Ok c F H σ δ) {i : Nat} {d : D} {v : V} (e1 : σ[i]? = some (some v)) (r : rep M F d v) : Ok c F H σ (δ.set i (some (.imm d))) := by
  have h := ok.setI i r
  have e : σ.set i (some v) = σ := by
    apply List.ext_getElem?
    intro j
    by_cases hj : i = j
    · subst hj
      rw [List.getElem?_set_self (List.getElem?_eq_some_iff.mp e1).1, e1]
    · rw [List.getElem?_set_ne hj]
  rw [e] at h
  exact h
theorem di_var {i : Nat} (h : PE X e (tVar i)) : DI M W X e (vI i) := by
  refine ⟨_, pe_lks h, fun c F H σ δ Q ok post => ?_⟩
  unfold vI at post
  split at post
  · rename_i d q
    obtain ⟨v, e1, e2⟩ := ok.slot i _ q
    exact ⟨v, e1, .now (post.ok ok e2)⟩
  · rename_i o q
    obtain ⟨v, e1, e2⟩ := ok.take q
    refine ⟨v, e1, ((ok.drop i).freeze e2).mono fun H2 ⟨F', g, ok', r'⟩ => ?_⟩
    have ok2 := ok'.setSame (i := i) e1 r'
    rw [List.set_set] at ok2
    exact post v F' H2 g ok2 r'
  · exact post.elim
theorem dp_var {i : Nat} (h : PE X e (tVar i)) : DP M W X e (vP i) := by
  refine ⟨_, h, fun c F H σ δ Q ok post => ?_⟩
  unfold vP at post
  split at post
  · rename_i d q
    obtain ⟨v, e1, e2⟩ := ok.slot i _ q
    exact ⟨v, e1, post.ok ok (.inl e2)⟩
  · rename_i o q
    obtain ⟨v, e1, a, rfl, h1, h2, h3⟩ := ok.slot i _ q
    exact ⟨_, e1, post.ok ok (.inr ⟨o, a, rfl, rfl, h3⟩)⟩
  · rename_i o q
    obtain ⟨v, e1, a, rfl, h1, h2, h3⟩ := ok.slot i _ q
    exact ⟨_, e1, post.ok ok (.inr ⟨o, a, rfl, rfl, h3⟩)⟩
  · exact post.elim
theorem de_var {i : Nat} (h : PE X e (tVar i)) : DE M W X e (vR i) := by
  refine ⟨_, h, fun c F H σ δ Q ok post => ?_⟩
  unfold vR at post
  split at post
  · rename_i d q
    obtain ⟨v, e1, e2⟩ := ok.slot i _ q
    exact ⟨v, e1, post.ok ok e2⟩
  · rename_i o q
    obtain ⟨v, e1, e2⟩ := ok.take q
    exact ⟨v, e1, post.ok (ok.drop i) e2⟩
  · exact post.elim
end
section
variable {M : Gm} {c : Cn M} {F H : Hp} {v : V}
theorem prep_bl {b : Bool} (h : prep M F H (.bl b) v) : v = .bl b := by
  rcases h with h | ⟨o, a, _, e, _⟩
  · unfold rep at h; exact h
  · cases o <;> cases e
theorem prep_int {i : Int} (h : prep M F H (.int i) v) : v = .int i := by
  rcases h with h | ⟨o, a, _, e, _⟩
  · unfold rep at h; exact h
  · cases o <;> cases e
theorem prep_str {x : Str} (h : prep M F H (.str x) v) : v = .str x := by
  rcases h with h | ⟨o, a, _, e, _⟩
  · unfold rep at h; exact h
  · cases o <;> cases e
theorem prep_lst {ds : List D} (s : Same F H) (h : prep M F H (.lst ds) v) : ∃ a vs, v = .ref a ∧ H a = some (.lst vs) ∧ reps M F ds vs := by
  rcases h with h | ⟨o, a, ev, e, h⟩
  · unfold rep at h
    obtain ⟨a, vs, h1, h2, h3⟩ := h
    exact ⟨a, vs, h1, s _ _ h2, h3⟩
  · cases o <;> cases e
    obtain ⟨vs, h1, h2⟩ := h
    exact ⟨a, vs, ev, h1, h2⟩
theorem prep_tup {ds : List D} (s : Same F H) (h : prep M F H (.tup ds) v) : ∃ a vs, v = .ref a ∧ SqT M.K H a vs ∧ reps M F ds vs := by
  rcases h with h | ⟨o, a, ev, e, h⟩
  · unfold rep at h
    obtain ⟨a, vs, h1, h2, h3⟩ := h
    exact ⟨a, vs, h1, SqT.of (s _ _ h2), h3⟩
  · cases o <;> cases e
theorem reps_kt {M : Gm} {F : Hp} : ∀ ns : List Int, reps M F (ns.map D.int) (ns.map V.int)
  | [] => reps_nil
  | n :: ns => reps_cons (by unfold rep; rfl) (reps_kt ns)
theorem ktup_sq {K : PySem.W.Frag} {H : Hp} {a : Addr} {ns : List Int} (h : KTup K a ns) : SqT K H a (ns.map V.int) := by
  obtain ⟨o, its, n, h1, h2, h3, h4, h5, _⟩ := h
  exact .inr ⟨o, its, n, h1, h2, h3, by rw [sizeLine_eq]; omega, h5⟩
theorem itup_sq {K : PySem.W.Frag} {F H : Hp} {a : Addr} {ns : List Int} (s : Same F H) (h : ITup K F a ns) : SqT K H a (ns.map V.int) := by
  rcases h with h | ⟨o, h, _⟩
  · exact ktup_sq h
  · exact .inl (.inr ⟨o, s _ _ h⟩)
theorem prep_ktp {ns : List Int} (s : Same F H) (h : prep M F H (.ktp ns) v) : ∃ a, v = .ref a ∧ SqT M.K H a (ns.map V.int) ∧ reps M F (ns.map D.int) (ns.map V.int) := by
  rcases h with h | ⟨o, a, ev, e, h⟩
  · unfold rep at h
    obtain ⟨a, h1, h2⟩ := h
    exact ⟨a, h1, itup_sq s h2, reps_kt ns⟩
  · cases o <;> cases e
theorem prep_scr {ds : List D} (s : Same F H) (h : prep M F H (.scr ds) v) : ∃ a vs, v = .ref a ∧ SqL M.K H a vs ∧ reps M F ds vs := by
  rcases h with h | ⟨o, a, ev, e, h⟩
  · unfold rep at h
    obtain ⟨a, vs, h1, h2, h3⟩ := h
    exact ⟨a, vs, h1, s.seq h2, h3⟩
  · cases o <;> cases e
theorem prep_dK {ks : List Key} {ds : List D} (s : Same F H) (h : prep M F H (.dK ks ds) v) : ∃ (a : Addr) (kvs : List (Key × V)), v = .ref a ∧ Rd H a (.dK kvs) ∧ kvs.map (·.1) = ks ∧ reps M F ds (kvs.map (·.2)) := by
  rcases h with h | ⟨o, a, ev, e, h⟩
  · unfold rep at h
    obtain ⟨a, od, vs, h1, h2, h3, h4⟩ := h
    exact ⟨a, vs, h1, .inr ⟨od, s _ _ h2⟩, h3, h4⟩
  · cases o <;> cases e
    obtain ⟨vs, h1, h2, h3⟩ := h
    exact ⟨a, vs, ev, .inl h1, h2, h3⟩
theorem prep_dT {ks : List (List Key)} {ds : List D} (s : Same F H) (h : prep M F H (.dT ks ds) v) : ∃ (a : Addr) (kvs : List (List Key × V)), v = .ref a ∧ Rd H a (.dT kvs) ∧ kvs.map (·.1) = ks ∧ reps M F ds (kvs.map (·.2)) := by
  rcases h with h | ⟨o, a, ev, e, h⟩
  · unfold rep at h
    obtain ⟨a, od, vs, h1, h2, h3, h4⟩ := h
    exact ⟨a, vs, h1, .inr ⟨od, s _ _ h2⟩, h3, h4⟩
  · cases o <;> cases e
    obtain ⟨vs, h1, h2, h3⟩ := h
    exact ⟨a, vs, ev, .inl h1, h2, h3⟩
end
@[simp] theorem rep_int' {M : Gm} {F : Hp} (i : Int) : rep M F (.int i) (.int i) := by unfold rep; rfl
@[simp] theorem rep_bl' {M : Gm} {F : Hp} (b : Bool) : rep M F (.bl b) (.bl b) := by unfold rep; rfl
@[simp] theorem rep_str' {M : Gm} {F : Hp} (x : Str) : rep M F (.str x) (.str x) := by unfold rep; rfl
@[simp] theorem rep_non' {M : Gm} {F : Hp} : rep M F .non .non := by unfold rep; rfl
section
variable {M : Gm} {c : Cn M} {F H : Hp} {σ : St} {δ : Sl}
theorem rr_int {i : Int} : repR c F H σ δ (.imm (.int i)) (.int i) := rep_int' (M := M) (F := F) i
theorem rr_bl {b : Bool} : repR c F H σ δ (.imm (.bl b)) (.bl b) := rep_bl' (M := M) (F := F) b
theorem rr_str {x : Str} : repR c F H σ δ (.imm (.str x)) (.str x) := rep_str' (M := M) (F := F) x
end
def OpD (M : Gm) (r : R2) (g : D → D → Option R) : Prop := ∀ (c : Cn M) (F H : Hp) (σ : St) (δ : Sl) (x y : V) (dx dy : D) (z : R) (Q : VK), Ok c F H σ δ → prep M F H dx x → prep M F H dy y → g dx dy = some z →
  (∀ v F' H', Same F F' → Ok c F' H' σ δ → repR c F' H' σ δ z v → Q v H') → r x y H Q
def gOr (g g' : D → D → Option R) : D → D → Option R := fun x y => match g x y with
  | some z => some z
  | none => g' x y
theorem OpD.or {M : Gm} {r r' : R2} {g g' : D → D → Option R} (h : OpD M r g) (h' : OpD M r' g') : OpD M (fun x y H Q => r x y H Q ∨ r' x y H Q) (gOr g g') := by
  intro c F H σ δ x y dx dy z Q ok px py e q
  unfold gOr at e
  cases e1 : g dx dy with
  | some w =>
    rw [e1] at e
    cases e
    exact .inl (h c F H σ δ x y dx dy _ Q ok px py e1 q)
  | none =>
    rw [e1] at e
    exact .inr (h' c F H σ δ x y dx dy z Q ok px py e q)
def gI (C : Int → Int → Bool) (g : Int → Int → Int) : D → D → Option R
  | .int i, .int j => if C i j then some (.imm (.int (g i j))) else none
  | _, _ => none
def gB (g : Int → Int → Bool) : D → D → Option R
  | .int i, .int j => some (.imm (.bl (g i j)))
  | _, _ => none
theorem od_I {M : Gm} {C : Int → Int → Prop} {Cb : Int → Int → Bool} {g : Int → Int → Int} (hC : ∀ i j, Cb i j = true → C i j) : OpD M (rI C fun i j => .int (g i j)) (gI Cb g) := by
  intro c F H σ δ x y dx dy z Q ok px py e q
  unfold gI at e
  split at e
  · rename_i i j
    split at e
    · rename_i hc
      cases e
      exact ⟨i, j, prep_int px, prep_int py, hC i j hc, q _ F H (Same.refl _) ok rr_int⟩
    · cases e
  · cases e
theorem od_I0 {M : Gm} {g : Int → Int → Int} : OpD M (rI0 fun i j => .int (g i j)) (gI (fun _ _ => true) g) := by
  intro c F H σ δ x y dx dy z Q ok px py e q
  unfold gI at e
  split at e
  · rename_i i j
    cases e
    exact ⟨i, j, prep_int px, prep_int py, q _ F H (Same.refl _) ok rr_int⟩
  · cases e
theorem od_B {M : Gm} {g : Int → Int → Bool} : OpD M (rI0 fun i j => .bl (g i j)) (gB g) := by
  intro c F H σ δ x y dx dy z Q ok px py e q
  unfold gB at e
  split at e
  · rename_i i j
    cases e
    exact ⟨i, j, prep_int px, prep_int py, q _ F H (Same.refl _) ok rr_bl⟩
  · cases e
def fBin (g : D → D → Option R) (fa fb : FD) : FE := fun δ => (fa δ).bind fun x δ1 => (fb δ1).bind fun y δ2 => match g x y with
  | some z => .ok z δ2
  | none => .bad
def there (δ : Sl) (i : Nat) : Bool := match δ[i]? with
  | some (some _) => true
  | _ => false
def fBinV (g : D → D → Option R) (i : Nat) (fb : FD) : FE := fun δ => if there δ i then (fb δ).bind fun y δ1 => (vP i δ1).bind fun x δ2 => match g x y with
  | some z => .ok z δ2
  | none => .bad
  else .bad
section
variable {M : Gm} {c : Cn M} {W : WX} {X : Cx} {a b : Expr} {pos : Pos} {fa fb : FD} {r : R2} {g : D → D → Option R}
theorem bin_of (hd : OpD M r g) {F H : Hp} {σ : St} {δ : Sl} {x y : V} {dx dy : D} {Q : VK} (ok : Ok c F H σ δ) (px : prep M F H dx x) (py : prep M F H dy y)
    (post : Post c W F σ (ρR c σ) (match g dx dy with | some z => .ok z δ | none => .bad) Q) : r x y H Q := by
  cases e : g dx dy with
  | none => rw [e] at post; exact post.elim
  | some z => rw [e] at post; exact hd c F H σ δ x y dx dy z Q ok px py e post
theorem d_op {e : Expr} (mk : ∀ {ta tb : TE}, PE X a ta → PE X b tb → PE X e (tOp r ta tb)) (hd : OpD M r g) (ha : DI M W X a fa) (hb : DP M W X b fb) : DE M W X e (fBin g fa fb) := by
  obtain ⟨ta, pa, ha⟩ := ha
  obtain ⟨tb, pb, hb⟩ := hb
  refine ⟨_, mk pa pb, fun c F H σ δ Q ok post => ha c F H σ δ _ ok (Post.bind post fun dx δ1 x F1 H1 _ s1 ok1 rx post => hb c F1 H1 σ δ1 _ ok1 (Post.bind post fun dy δ2 y F2 H2 _ s2 ok2 ry post => ?_))⟩
  exact bin_of hd ok2 (.inl (rep_mono s2 _ _ rx)) ry post
theorem vP_run {i : Nat} {F H : Hp} {σ : St} {δ : Sl} {α β : Type} {k : D → Sl → Res α} {ρ : Hp → Hp → Sl → α → β → Prop} {Q : β → Hp → Prop} {P : Prop} (ok : Ok c F H σ δ) {v : V} (e1 : σ[i]? = some (some v))
    (post : Post c W F σ ρ ((vP i δ).bind k) Q) (h : ∀ d, vP i δ = .ok d δ → prep M F H d v → Post c W F σ ρ (k d δ) Q → P) : P := by
  unfold vP at post h
  split at post
  · rename_i d q
    obtain ⟨v', e2, e3⟩ := ok.slot i _ q
    rw [e1] at e2; cases e2
    exact h d (by rw [q]) (.inl e3) post
  · rename_i o q
    obtain ⟨v', e2, a, rfl, h1, h2, h3⟩ := ok.slot i _ q
    rw [e1] at e2; cases e2
    exact h o.toD (by rw [q]) (.inr ⟨o, a, rfl, rfl, h3⟩) post
  · rename_i o q
    obtain ⟨v', e2, a, rfl, h1, h2, h3⟩ := ok.slot i _ q
    rw [e1] at e2; cases e2
    exact h o.toD (by rw [q]) (.inr ⟨o, a, rfl, rfl, h3⟩) post
  · exact post.elim
theorem there_v {F H : Hp} {σ : St} {δ : Sl} {i : Nat} (ok : Ok c F H σ δ) (h : there δ i = true) : ∃ v, σ[i]? = some (some v) := by
  unfold there at h
  split at h
  · rename_i r q
    obtain ⟨v, e, _⟩ := ok.slot i r q
    exact ⟨v, e⟩
  · cases h
theorem d_opV {e : Expr} {i : Nat} (mk : ∀ {ta tb : TE}, PE X a ta → PE X b tb → PE X e (tOp r ta tb)) (hd : OpD M r g) (ha : PE X a (tVar i)) (hb : DP M W X b fb) : DE M W X e (fBinV g i fb) := by
  obtain ⟨tb, pb, hb⟩ := hb
  refine ⟨_, mk ha pb, fun c F H σ δ Q ok post => ?_⟩
  unfold fBinV at post
  by_cases ht : there δ i = true
  · rw [if_pos ht] at post
    obtain ⟨v, e1⟩ := there_v ok ht
    refine ⟨v, e1, hb c F H σ δ _ ok (Post.bind post fun dy δ2 y F2 H2 _ s2 ok2 ry post => ?_)⟩
    exact vP_run ok2 e1 post fun dx _ px post => bin_of hd ok2 px ry post
  · rw [if_neg ht] at post
    exact post.elim
end
def CMulB (i j : Int) : Bool := gd (i.natAbs.log2 + j.natAbs.log2 < 1000000)
def CDivB (i j : Int) : Bool := gd (0 < j ∧ j.natAbs.log2 < 9000)
def CDivNB (i j : Int) : Bool := gd (j < 0 ∧ j.natAbs.log2 < 9000)
def CModB (i j : Int) : Bool := decide (0 < j)
def CPowB (i j : Int) : Bool := gd (0 ≤ j ∧ j ≤ 1000000 ∧ i.natAbs < 18446744073709551616)
section
variable {M : Gm} {c : Cn M} {W : WX} {X : Cx}
theorem od_sub : OpD M (rI0 fun i j => .int (i - j)) (gI (fun _ _ => true) fun i j => i - j) := od_I0
theorem od_mul : OpD M (rI CMulW fun i j => .int (i * j)) (gI CMulB fun i j => i * j) := od_I fun i j h => of_gd (p := (i.natAbs.log2 + j.natAbs.log2 < 1000000)) h
theorem od_fdiv : OpD M (rI CDivW fun i j => .int (i / j)) (gI CDivB fun i j => i / j) := od_I fun i j h => of_gd (p := (0 < j ∧ j.natAbs.log2 < 9000)) h
theorem od_fdivN : OpD M (rI (fun _ j => j < 0 ∧ j.natAbs.log2 < 9000) fun i j => .int (i.fdiv j)) (gI CDivNB fun i j => i.fdiv j) := od_I fun i j h => of_gd (p := (j < 0 ∧ j.natAbs.log2 < 9000)) h
theorem od_mod : OpD M (rI (fun _ j => 0 < j) fun i j => .int (i % j)) (gI CModB fun i j => i % j) := od_I fun i j h => of_decide_eq_true h
theorem od_pow : OpD M (rI CPow fun i j => .int (i ^ j.toNat)) (gI CPowB fun i j => i ^ j.toNat) := od_I fun i j h => by
  obtain ⟨h1, h2, h3⟩ := of_gd h
  exact ⟨h1, h2, by have e : (2:Nat) ^ 64 = 18446744073709551616 := by decide
                    rw [e]; exact h3⟩
end
def gCat : D → D → Option R
  | .lst xs, .lst ys => if xs.length + ys.length ≤ 16777216 then some (.own (.l (xs ++ ys))) else none
  | _, _ => none
def gRep : D → D → Option R
  | .lst xs, .int k => if gd (0 ≤ k ∧ k < 9223372036854775808 ∧ xs.length * k.toNat ≤ 16777216) then some (.own (.l ((List.replicate k.toNat xs).flatten))) else none
  | _, _ => none
def gCatS : D → D → Option R
  | .str x, .str y => if x.length + y.length ≤ 16777216 then some (.imm (.str (x ++ y))) else none
  | _, _ => none
theorem reps_rep {M : Gm} {F : Hp} {ds : List D} {vs : List V} (h : reps M F ds vs) : ∀ n : Nat, reps M F (List.replicate n ds).flatten (List.replicate n vs).flatten
  | 0 => by simp [reps]
  | n + 1 => by
    rw [List.replicate_succ, List.replicate_succ, List.flatten_cons, List.flatten_cons]
    exact reps_append h (reps_rep h n)
section
variable {M : Gm} {c : Cn M} {W : WX} {X : Cx}
theorem new_list {F H : Hp} {σ : St} {δ : Sl} (ok : Ok c F H σ δ) {p : Addr} (hp : H p = none) {ds : List D} {vs : List V} (r : reps M F ds vs) : Ok c F (upd H p (.lst vs)) σ δ ∧ repR c F (upd H p (.lst vs)) σ δ (.own (.l ds)) (.ref p) :=
  ⟨ok.alloc hp, ok.made hp ⟨vs, upd_same, r⟩⟩
theorem od_cat : OpD M rCat gCat := by
  intro c F H σ δ x y dx dy z Q ok px py e q
  unfold gCat at e
  split at e
  · rename_i xs ys
    split at e
    · rename_i hl
      cases e
      obtain ⟨a, vs, h1, h2, h3⟩ := prep_lst ok.same px
      obtain ⟨b, ws, k1, k2, k3⟩ := prep_lst ok.same py
      refine ⟨a, b, vs, ws, h1, k1, h2, k2, ?_, fun p hp => ?_⟩
      · rw [reps_length h3, reps_length k3, sizeLine_eq]; exact hl
      · obtain ⟨o1, o2⟩ := new_list ok hp (reps_append h3 k3)
        exact q _ F _ (Same.refl _) o1 o2
    · cases e
  · cases e
theorem od_rep : OpD M rRep gRep := by
  intro c F H σ δ x y dx dy z Q ok px py e q
  unfold gRep at e
  split at e
  · rename_i xs k
    split at e
    · rename_i hl
      cases e
      obtain ⟨h0, hk, hz⟩ := of_gd hl
      obtain ⟨a, vs, h1, h2, h3⟩ := prep_lst ok.same px
      refine ⟨a, k, vs, h1, prep_int py, h2, by omega, by omega, ?_, fun p hp => ?_⟩
      · rw [reps_length h3, sizeLine_eq]; exact hz
      · obtain ⟨o1, o2⟩ := new_list ok hp (reps_rep h3 k.toNat)
        exact q _ F _ (Same.refl _) o1 o2
    · cases e
  · cases e
theorem od_catS : OpD M (fun x y H Q => ∃ i j, x = .str i ∧ y = .str j ∧ i.length + j.length ≤ sizeLine ∧ Q (.str (i ++ j)) H) gCatS := by
  intro c F H σ δ x y dx dy z Q ok px py e q
  unfold gCatS at e
  split at e
  · rename_i i j
    split at e
    · rename_i hl
      cases e
      exact ⟨i, j, prep_str px, prep_str py, by rw [sizeLine_eq]; exact hl, q _ F H (Same.refl _) ok rr_str⟩
    · cases e
  · cases e
end
end
end TS

namespace TS
open PySem L2
noncomputable section
mutual
def toP : D → Option PyData
  | .non => some .none
  | .bl b => some (.bool b)
  | .int i => some (.int i)
  | .str x => some (.str x)
  | .lst ds => (toPs ds).map .list
  | .tup ds => (toPs ds).map .tuple
  | .ktp ns => some (.tuple (ns.map PyData.int))
  | _ => none
def toPs : List D → Option (List PyData)
  | [] => some []
  | d :: ds => match toP d, toPs ds with
    | some p, some ps => some (p :: ps)
    | _, _ => none
end
section
variable {M : Gm} {F H : Hp}
mutual
theorem rep_dp (s : Same F H) : ∀ (d : D) (v : V) (p : PyData), rep M F d v → toP d = some p → Dp M.K H v p
  | .non, v, p, h, e => by unfold rep at h; unfold toP at e; cases e; subst h; exact .non
  | .bl b, v, p, h, e => by unfold rep at h; unfold toP at e; cases e; subst h; exact .bl b
  | .int b, v, p, h, e => by unfold rep at h; unfold toP at e; cases e; subst h; exact .int b
  | .str b, v, p, h, e => by unfold rep at h; unfold toP at e; cases e; subst h; exact .str b
  | .lst ds, v, p, h, e => by
    unfold rep at h
    unfold toP at e
    obtain ⟨ps, e1, rfl⟩ := Option.map_eq_some_iff.mp e
    obtain ⟨a, vs, rfl, h2, h3⟩ := h
    exact .lst (SqL.of (s _ _ h2)) (reps_dp s ds vs ps h3 e1)
  | .tup ds, v, p, h, e => by
    unfold rep at h
    unfold toP at e
    obtain ⟨ps, e1, rfl⟩ := Option.map_eq_some_iff.mp e
    obtain ⟨a, vs, rfl, h2, h3⟩ := h
    exact .tup (SqT.of (s _ _ h2)) (reps_dp s ds vs ps h3 e1)
  | .scr ds, v, p, h, e => by unfold toP at e; cases e
  | .dK ks ds, v, p, h, e => by unfold toP at e; cases e
  | .dT ks ds, v, p, h, e => by unfold toP at e; cases e
  | .obj c ds, v, p, h, e => by unfold toP at e; cases e
  | .cls c, v, p, h, e => by unfold toP at e; cases e
  | .lam, v, p, h, e => by unfold toP at e; cases e
  | .ex _ _, v, p, h, e => by unfold toP at e; cases e
  | .ktp ns, v, p, h, e => by
    unfold rep at h
    unfold toP at e
    cases e
    obtain ⟨a, rfl, h2⟩ := h
    refine .tup (itup_sq s h2) ?_
    clear h2
    induction ns with
    | nil => exact .nil
    | cons i ns ih => exact .cons (.int i) ih
theorem reps_dp (s : Same F H) : ∀ (ds : List D) (vs : List V) (ps : List PyData), reps M F ds vs → toPs ds = some ps → DpAll M.K H vs ps
  | [], vs, ps, h, e => by unfold reps at h; unfold toPs at e; cases e; subst h; exact .nil
  | d :: ds, vs, ps, h, e => by
    unfold reps at h
    obtain ⟨v, r, rfl, h2, h3⟩ := h
    unfold toPs at e
    split at e
    · rename_i p qs e1 e2
      cases e
      exact .cons (rep_dp s d v p h2 e1) (reps_dp s ds r qs h3 e2)
    · cases e
end
end
theorem prep_dp {M : Gm} {F H : Hp} {d : D} {v : V} {p : PyData} (s : Same F H) (h : prep M F H d v) (e : toP d = some p) : Dp M.K H v p := by
  rcases h with h | ⟨o, a, rfl, rfl, h⟩
  · exact rep_dp s d v p h e
  · cases o with
    | l ds =>
      obtain ⟨vs, h1, h2⟩ := h
      unfold OB.toD toP at e
      obtain ⟨ps, e1, rfl⟩ := Option.map_eq_some_iff.mp e
      exact .lst (SqL.of h1) (reps_dp s ds vs ps h2 e1)
    | dK ks ds => unfold OB.toD toP at e; cases e
    | dT ks ds => unfold OB.toD toP at e; cases e
    | o n ds => unfold OB.toD toP at e; cases e
def gEq : D → D → Option R := fun x y => match toP x, toP y with
  | some p, some q => if SeqAt.shaped p && SeqAt.shaped q then some (.imm (.bl (PyData.eqv p q))) else none
  | _, _ => none
def gNe : D → D → Option R := fun x y => match toP x, toP y with
  | some p, some q => if SeqAt.shaped p && SeqAt.shaped q then some (.imm (.bl (!PyData.eqv p q))) else none
  | _, _ => none
theorem od_eq {M : Gm} : OpD M (rEqD M.K) gEq := by
  intro c F H σ δ x y dx dy z Q ok px py e q
  unfold gEq at e
  split at e
  · rename_i p p' e1 e2
    split at e
    · rename_i hs
      cases e
      rw [Bool.and_eq_true] at hs
      exact ⟨p, p', prep_dp ok.same px e1, prep_dp ok.same py e2, hs.1, hs.2, q _ F H (Same.refl _) ok rr_bl⟩
    · cases e
  · cases e
theorem od_ne {M : Gm} : OpD M (rNeD M.K) gNe := by
  intro c F H σ δ x y dx dy z Q ok px py e q
  unfold gNe at e
  split at e
  · rename_i p p' e1 e2
    split at e
    · rename_i hs
      cases e
      rw [Bool.and_eq_true] at hs
      exact ⟨p, p', prep_dp ok.same px e1, prep_dp ok.same py e2, hs.1, hs.2, q _ F H (Same.refl _) ok rr_bl⟩
    · cases e
  · cases e
def keyOf : D → Option Key
  | .int i => some (.inl i)
  | .str x => some (.inr x)
  | _ => none
def keysOf : List D → Option (List Key)
  | [] => some []
  | d :: ds => match keyOf d, keysOf ds with
    | some k, some ks => some (k :: ks)
    | _, _ => none
def lookD {κ : Type} [DecidableEq κ] : List κ → List D → κ → Option D
  | k' :: ks, d :: ds, k => if k' = k then some d else lookD ks ds k
  | _, _, _ => none
theorem keyOf_v {M : Gm} {F H : Hp} {d : D} {v : V} {k : Key} (h : prep M F H d v) (e : keyOf d = some k) : v = kV k := by
  cases d <;> simp [keyOf] at e
  · subst e; exact prep_int h
  · subst e; exact prep_str h
theorem lookD_val {M : Gm} {F : Hp} {κ : Type} [DecidableEq κ] : ∀ {kvs : List (κ × V)} {ds : List D} (k : κ), reps M F ds (kvs.map (·.2)) → (∀ d, lookD (kvs.map (·.1)) ds k = some d → ∃ v, valV kvs k = some v ∧ rep M F d v) ∧ (lookD (kvs.map (·.1)) ds k = none → valV kvs k = none)
  | [], ds, k, h => by
    constructor
    · intro d e; simp [lookD] at e
    · intro _; rfl
  | p :: kvs, ds, k, h => by
    cases ds with
    | nil => unfold reps at h; cases h
    | cons d ds =>
      rw [List.map_cons, reps_cons_iff] at h
      obtain ⟨h1, h2⟩ := h
      have ih := lookD_val k h2
      unfold valV at ih ⊢
      by_cases e : p.1 = k
      · constructor
        · intro d' e'
          simp only [List.map_cons, lookD, if_pos e] at e'
          cases e'
          exact ⟨p.2, by simp [List.find?_cons, e], h1⟩
        · intro e'
          simp only [List.map_cons, lookD, if_pos e] at e'
          cases e'
      · constructor
        · intro d' e'
          simp only [List.map_cons, lookD, if_neg e] at e'
          obtain ⟨v, q1, q2⟩ := ih.1 d' e'
          exact ⟨v, by simp only [List.find?_cons, decide_eq_false e]; exact q1, q2⟩
        · intro e'
          simp only [List.map_cons, lookD, if_neg e] at e'
          simp only [List.find?_cons, decide_eq_false e]
          exact ih.2 e'
theorem atI_reps {M : Gm} {F : Hp} {ds : List D} {vs : List V} {i : Int} {d : D} (h : reps M F ds vs) (e : atI ds i = some d) : ∃ v, atI vs i = some v ∧ rep M F d v := by
  unfold atI at e ⊢
  rw [reps_length h]
  cases q : ixN ds.length i with
  | none => rw [q] at e; cases e
  | some j =>
    rw [q] at e
    exact reps_get h e
theorem keysOf_v {M : Gm} {F : Hp} : ∀ {ds : List D} {vs : List V} {ks : List Key}, reps M F ds vs → keysOf ds = some ks → vs = ks.map kV
  | [], vs, ks, h, e => by unfold reps at h; unfold keysOf at e; cases e; subst h; rfl
  | d :: ds, vs, ks, h, e => by
    unfold reps at h
    obtain ⟨v, r, rfl, h2, h3⟩ := h
    unfold keysOf at e
    split at e
    · rename_i k ks' e1 e2
      cases e
      rw [keyOf_v (M := M) (F := F) (H := F) (.inl h2) e1, keysOf_v h3 e2]; rfl
    · cases e
theorem prep_tupK {M : Gm} {F H : Hp} {v : V} {ds : List D} {ks : List Key} (s : Same F H) (h : prep M F H (.tup ds) v) (e : keysOf ds = some ks) : ∃ b, v = .ref b ∧ H b = some (.tup (ks.map kV)) := by
  rcases h with h | ⟨o, a, ev, e, h⟩
  · unfold rep at h
    obtain ⟨a, vs, h1, h2, h3⟩ := h
    have := keysOf_v h3 e
    subst this
    exact ⟨a, h1, s _ _ h2⟩
  · cases o <;> cases e
def gIx : D → D → Option R
  | .dT ks ds, .tup kds => (keysOf kds).bind fun k => (lookD ks ds k).map .imm
  | .lst xs, .int i => (atI xs i).map .imm
  | .tup xs, .int i => (atI xs i).map .imm
  | .ktp ns, .int i => (atI (ns.map D.int) i).map .imm
  | .scr xs, .int i => (atI xs i).map .imm
  | .str z, .int i => if z.length ≤ 16777216 then (atI z.cps.toList i).map (fun c => .imm (.str ⟨#[c]⟩)) else none
  | .dK ks ds, k => (keyOf k).bind fun k => (lookD ks ds k).map .imm
  | _, _ => none
def rIxD : R2 := fun x y H Q => ∃ a v, x = .ref a ∧ DGet H a y (some v) ∧ Q v H
theorem ix_dict {X : Cx} (hu : X.A.units + 1 < cLine) : IxR X rIxD := by
  intro value slice pins s σ H x y v u Q I rx ry h hs
  obtain ⟨a, z, rfl, g, q⟩ := h
  cases rx
  exact PyProof.Rows.tail_any (dict_typeIs I g) PySem.F.slot_dict_getitem.lookup (d_getItem hu I g ry fun w' s3 I3 rw' => ⟨z, H, I3, rw', q⟩) hs
def rIxAll (K : PySem.W.Frag) : R2 := fun x y H Q => rIx K x y H Q ∨ rIxD x y H Q
theorem ix_all {X : Cx} {M : Gm} (hK : X.K = M.K) (hu : X.A.units + 1 < cLine) : IxR X (rIxAll M.K) := by rw [← hK]; exact ix_seq.or (ix_dict hu)
theorem od_ix {M : Gm} : OpD M (rIxAll M.K) gIx := by
  intro c F H σ δ x y dx dy z Q ok px py e q
  unfold gIx at e
  split at e
  · rename_i ks ds kds
    obtain ⟨kk, e1, e2⟩ := Option.bind_eq_some_iff.mp e
    obtain ⟨d, e3, rfl⟩ := Option.map_eq_some_iff.mp e2
    obtain ⟨a, kvs, rfl, h2, h3, h4⟩ := prep_dT ok.same px
    obtain ⟨b, rfl, hb⟩ := prep_tupK ok.same py e1
    subst h3
    obtain ⟨v, k1, k2⟩ := (lookD_val kk h4).1 d e3
    refine .inr ⟨a, v, rfl, ?_, q _ F H (Same.refl _) ok k2⟩
    rw [← k1]
    exact .inr ⟨_, _, _, h2, rfl, hb, rfl⟩
  · rename_i xs i
    obtain ⟨d, e1, rfl⟩ := Option.map_eq_some_iff.mp e
    obtain ⟨a, vs, rfl, h2, h3⟩ := prep_lst ok.same px
    obtain ⟨v, k1, k2⟩ := atI_reps h3 e1
    exact .inl (.inl ⟨a, vs, i, v, rfl, prep_int py, SqL.of h2, k1, q _ F H (Same.refl _) ok k2⟩)
  · rename_i xs i
    obtain ⟨d, e1, rfl⟩ := Option.map_eq_some_iff.mp e
    obtain ⟨a, vs, rfl, h2, h3⟩ := prep_tup ok.same px
    obtain ⟨v, k1, k2⟩ := atI_reps h3 e1
    exact .inl (.inr (.inl ⟨a, vs, i, v, rfl, prep_int py, h2, k1, q _ F H (Same.refl _) ok k2⟩))
  · rename_i xs i
    obtain ⟨d, e1, rfl⟩ := Option.map_eq_some_iff.mp e
    obtain ⟨a, rfl, h2, h3⟩ := prep_ktp ok.same px
    obtain ⟨v, k1, k2⟩ := atI_reps h3 e1
    exact .inl (.inr (.inl ⟨a, _, i, v, rfl, prep_int py, h2, k1, q _ F H (Same.refl _) ok k2⟩))
  · rename_i xs i
    obtain ⟨d, e1, rfl⟩ := Option.map_eq_some_iff.mp e
    obtain ⟨a, vs, rfl, h2, h3⟩ := prep_scr ok.same px
    obtain ⟨v, k1, k2⟩ := atI_reps h3 e1
    exact .inl (.inl ⟨a, vs, i, v, rfl, prep_int py, h2, k1, q _ F H (Same.refl _) ok k2⟩)
  · rename_i zz i
    split at e
    · rename_i hl
      obtain ⟨cc, e1, rfl⟩ := Option.map_eq_some_iff.mp e
      exact .inl (.inr (.inr ⟨zz, i, cc, prep_str px, prep_int py, by rw [sizeLine_eq]; exact hl, e1, q _ F H (Same.refl _) ok rr_str⟩))
    · cases e
  · rename_i ks ds k
    obtain ⟨kk, e1, e2⟩ := Option.bind_eq_some_iff.mp e
    obtain ⟨d, e3, rfl⟩ := Option.map_eq_some_iff.mp e2
    obtain ⟨a, kvs, rfl, h2, h3, h4⟩ := prep_dK ok.same px
    subst h3
    obtain ⟨v, k1, k2⟩ := (lookD_val kk h4).1 d e3
    refine .inr ⟨a, v, rfl, ?_, q _ F H (Same.refl _) ok k2⟩
    rw [keyOf_v py e1, ← k1]
    exact .inl ⟨_, _, h2, rfl, rfl⟩
  · cases e
def flatD : D → Bool
  | .non => true
  | .bl _ => true
  | .int _ => true
  | .str _ => true
  | _ => false
def eqFl : D → D → Bool
  | .non, .non => true
  | .bl a, .bl b => a == b
  | .bl a, .int b => (if a then 1 else 0) == b
  | .int a, .bl b => a == (if b then 1 else 0)
  | .int a, .int b => a == b
  | .str a, .str b => a == b
  | _, _ => false
def inD (x : D) (xs : List D) : Bool := xs.any fun y => eqFl y x
def gIn : D → D → Option R
  | x, .lst ys => if flatD x && ys.all flatD then some (.imm (.bl (inD x ys))) else none
  | x, .tup ys => if flatD x && ys.all flatD then some (.imm (.bl (inD x ys))) else none
  | x, .ktp ns => if flatD x && (ns.map D.int).all flatD then some (.imm (.bl (inD x (ns.map D.int)))) else none
  | x, .dK ks ds => (keyOf x).map fun k => .imm (.bl (lookD ks ds k).isSome)
  | .tup kds, .dT ks ds => (keysOf kds).map fun k => .imm (.bl (lookD ks ds k).isSome)
  | _, _ => none
def gNotIn : D → D → Option R
  | x, .lst ys => if flatD x && ys.all flatD then some (.imm (.bl (!inD x ys))) else none
  | x, .tup ys => if flatD x && ys.all flatD then some (.imm (.bl (!inD x ys))) else none
  | x, .ktp ns => if flatD x && (ns.map D.int).all flatD then some (.imm (.bl (!inD x (ns.map D.int)))) else none
  | x, .dK ks ds => (keyOf x).map fun k => .imm (.bl (!(lookD ks ds k).isSome))
  | .tup kds, .dT ks ds => (keysOf kds).map fun k => .imm (.bl (!(lookD ks ds k).isSome))
  | _, _ => none
def rInD (neg : Bool) : R2 := fun y x H Q => ∃ a o, x = .ref a ∧ DGet H a y o ∧ Q (.bl (if neg then !o.isSome else o.isSome)) H
theorem op_inD {X : Cx} (hu : X.A.units + 1 < cLine) : OpR X (compareOp .In) (rInD false) := by
  intro pins s σ H y x iv u Q I ry rx h
  obtain ⟨a, o, rfl, g, q⟩ := h
  obtain rfl : u = Value.ref a := rx
  exact d_in hu I g ry fun s3 I3 => ⟨.bl o.isSome, H, I3, rfl, q⟩
def rInAll (K : PySem.W.Frag) (neg : Bool) : R2 := fun x y H Q => rIn K neg x y H Q ∨ rInD neg x y H Q
theorem op_inAll {X : Cx} {M : Gm} (hK : X.K = M.K) (hu : X.A.units + 1 < cLine) : OpR X (compareOp .In) (rInAll M.K false) := by rw [← hK]; exact op_in_seq.or (op_inD hu)
def flV : D → V
  | .non => .non
  | .bl b => .bl b
  | .int i => .int i
  | .str x => .str x
  | _ => .non
theorem flat_v {M : Gm} {F : Hp} {d : D} {v : V} (f : flatD d = true) (h : rep M F d v) : v = flV d ∧ flatV v = true := by
  cases d <;> simp [flatD] at f <;> unfold rep at h <;> subst h <;> exact ⟨rfl, rfl⟩
theorem flats_v {M : Gm} {F : Hp} : ∀ {ds : List D} {vs : List V}, ds.all flatD = true → reps M F ds vs → vs = ds.map flV ∧ vs.all flatV = true
  | [], vs, _, h => by unfold reps at h; subst h; exact ⟨rfl, rfl⟩
  | d :: ds, vs, f, h => by
    unfold reps at h
    obtain ⟨v, r, rfl, h2, h3⟩ := h
    rw [List.all_cons, Bool.and_eq_true] at f
    obtain ⟨e1, e2⟩ := flat_v f.1 h2
    obtain ⟨e3, e4⟩ := flats_v f.2 h3
    exact ⟨by rw [e1, e3]; rfl, by rw [List.all_cons, e2, e4]; rfl⟩
theorem eqFl_v {d e : D} (f : flatD d = true) (f' : flatD e = true) : eqV (flV d) (flV e) = eqFl d e := by
  cases d <;> simp [flatD] at f <;> cases e <;> simp [flatD] at f' <;> rfl
theorem inD_v {x : D} : ∀ {ds : List D}, flatD x = true → ds.all flatD = true → inV (flV x) (ds.map flV) = inD x ds
  | [], _, _ => rfl
  | d :: ds, f, f' => by
    rw [List.all_cons, Bool.and_eq_true] at f'
    have ih := inD_v f f'.2
    unfold inV inD at ih ⊢
    rw [List.map_cons, List.any_cons, List.any_cons, eqFl_v f'.1 f, ih]
theorem flat_p {M : Gm} {F H : Hp} {d : D} {v : V} (f : flatD d = true) (h : prep M F H d v) : v = flV d ∧ flatV v = true := by
  rcases h with h | ⟨o, a, _, rfl, _⟩
  · exact flat_v f h
  · cases o <;> cases f
theorem od_in {M : Gm} (neg : Bool) {g : D → D → Option R} (hg : g = if neg then gNotIn else gIn) : OpD M (rInAll M.K neg) g := by
  intro c F H σ δ x y dx dy z Q ok px py e q
  have seq : ∀ {ys : List D} {vs : List V} {a : Addr}, y = .ref a → (SqL M.K H a vs ∨ SqT M.K H a vs) → reps M F ys vs → (flatD dx && ys.all flatD) = true → z = .imm (.bl (if neg then !inD dx ys else inD dx ys)) → rInAll M.K neg x y H Q := by
    intro ys vs a e1 e2 e3 e4 e5
    rw [Bool.and_eq_true] at e4
    obtain ⟨f1, f2⟩ := flat_p e4.1 px
    obtain ⟨f3, f4⟩ := flats_v e4.2 e3
    refine .inl ⟨a, vs, e1, e2, f2, f4, ?_⟩
    rw [f1, f3, inD_v e4.1 e4.2]
    rw [e5] at q
    exact q _ F H (Same.refl _) ok rr_bl
  have dict : ∀ {ks : List Key} {ds : List D} {k : Key}, prep M F H (.dK ks ds) y → keyOf dx = some k → z = .imm (.bl (if neg then !(lookD ks ds k).isSome else (lookD ks ds k).isSome)) → rInAll M.K neg x y H Q := by
    intro ks ds k py e1 e2
    obtain ⟨a, kvs, rfl, h2, h3, h4⟩ := prep_dK ok.same py
    subst h3
    have lk := lookD_val k h4
    refine .inr ⟨a, valV kvs k, rfl, ?_, ?_⟩
    · rw [keyOf_v px e1]; exact .inl ⟨_, _, h2, rfl, rfl⟩
    · rw [e2] at q
      have e : (valV kvs k).isSome = (lookD (kvs.map (·.1)) ds k).isSome := by
        cases l : lookD (kvs.map (·.1)) ds k with
        | none => rw [lk.2 l]; rfl
        | some d => obtain ⟨v, e, _⟩ := lk.1 d l; rw [e]; rfl
      rw [e]
      exact q _ F H (Same.refl _) ok rr_bl
  have dictT : ∀ {kds : List D} {ks : List (List Key)} {ds : List D} {k : List Key}, prep M F H (.dT ks ds) y → prep M F H (.tup kds) x → keysOf kds = some k → z = .imm (.bl (if neg then !(lookD ks ds k).isSome else (lookD ks ds k).isSome)) → rInAll M.K neg x y H Q := by
    intro kds ks ds k py px e1 e2
    obtain ⟨a, kvs, rfl, h2, h3, h4⟩ := prep_dT ok.same py
    obtain ⟨b, rfl, hb⟩ := prep_tupK ok.same px e1
    subst h3
    have lk := lookD_val k h4
    refine .inr ⟨a, valV kvs k, rfl, .inr ⟨_, _, _, h2, rfl, hb, rfl⟩, ?_⟩
    rw [e2] at q
    have e : (valV kvs k).isSome = (lookD (kvs.map (·.1)) ds k).isSome := by
      cases l : lookD (kvs.map (·.1)) ds k with
      | none => rw [lk.2 l]; rfl
      | some d => obtain ⟨v, e, _⟩ := lk.1 d l; rw [e]; rfl
    rw [e]
    exact q _ F H (Same.refl _) ok rr_bl
  subst hg
  cases neg with
  | false =>
    have e : gIn dx dy = some z := e
    unfold gIn at e
    split at e
    · split at e
      · rename_i ys hf
        cases e
        obtain ⟨a, vs, h1, h2, h3⟩ := prep_lst ok.same py
        exact seq h1 (.inl (SqL.of h2)) h3 hf rfl
      · cases e
    · split at e
      · rename_i ys hf
        cases e
        obtain ⟨a, vs, h1, h2, h3⟩ := prep_tup ok.same py
        exact seq h1 (.inr h2) h3 hf rfl
      · cases e
    · split at e
      · rename_i ys hf
        cases e
        obtain ⟨a, h1, h2, h3⟩ := prep_ktp ok.same py
        exact seq h1 (.inr h2) h3 hf rfl
      · cases e
    · obtain ⟨k, e1, e2⟩ := Option.map_eq_some_iff.mp e
      exact dict py e1 e2.symm
    · obtain ⟨k, e1, e2⟩ := Option.map_eq_some_iff.mp e
      exact dictT py px e1 e2.symm
    · cases e
  | true =>
    have e : gNotIn dx dy = some z := e
    unfold gNotIn at e
    split at e
    · split at e
      · rename_i ys hf
        cases e
        obtain ⟨a, vs, h1, h2, h3⟩ := prep_lst ok.same py
        exact seq h1 (.inl (SqL.of h2)) h3 hf rfl
      · cases e
    · split at e
      · rename_i ys hf
        cases e
        obtain ⟨a, vs, h1, h2, h3⟩ := prep_tup ok.same py
        exact seq h1 (.inr h2) h3 hf rfl
      · cases e
    · split at e
      · rename_i ys hf
        cases e
        obtain ⟨a, h1, h2, h3⟩ := prep_ktp ok.same py
        exact seq h1 (.inr h2) h3 hf rfl
      · cases e
    · obtain ⟨k, e1, e2⟩ := Option.map_eq_some_iff.mp e
      exact dict py e1 e2.symm
    · obtain ⟨k, e1, e2⟩ := Option.map_eq_some_iff.mp e
      exact dictT py px e1 e2.symm
    · cases e
end
end TS

namespace TS
open PySem L2
noncomputable section
abbrev RE (M : Gm) (W : WX) (t : TE) (f : FE) : Prop := ∀ (c : Cn M) F H σ δ Q, Ok c F H σ δ → Post c W F σ (ρR c σ) (f δ) Q → t σ H Q
def fTst (f : FE) : FT := fun δ => (f δ).bind fun r δ => match r with
  | .imm (.bl b) => .ok b δ
  | _ => .bad
section
variable {M : Gm} {c : Cn M} {W : WX} {X : Cx} {e a b : Expr} {pos : Pos}
theorem tst_of {t : TE} {f : FE} (h : RE M W t f) : ∀ (c : Cn M) F H σ δ Q, Ok c F H σ δ → Post c W F σ ρT (fTst f δ) Q → tTest t σ H Q := fun c F H σ δ Q ok post =>
  h c F H σ δ _ ok (Post.bind post fun r δ1 v F1 H1 _ s ok1 rr post => by
    split at post
    · rename_i b0 _
      have e : v = .bl b0 := by
        have z : rep M F1 (.bl b0) v := rr
        unfold rep at z; exact z
      subst e
      exact ⟨b0, rfl, post.ok ok1 rfl⟩
    · exact post.elim)
theorem dt_val {f : FE} (h : DE M W X e f) (he : ∀ whole, isTrue e X.env whole = (do let v ← whole; standAt e.pos; holding [v] (truthy v)) := by intro _; rfl) : DT M W X e (fTst f) := by
  obtain ⟨t, p, h⟩ := h
  exact ⟨_, pt_val p he, tst_of h⟩
theorem dt_op {r : R2} {g : D → D → Option R} {fa fb : FD} (mk : ∀ {ta tb : TE}, PE X a ta → PE X b tb → PT X e (tTest (tOp r ta tb))) (hd : OpD M r g) (ha : DI M W X a fa) (hb : DP M W X b fb) : DT M W X e (fTst (fBin g fa fb)) := by
  obtain ⟨ta, pa, ha⟩ := ha
  obtain ⟨tb, pb, hb⟩ := hb
  refine ⟨_, mk pa pb, tst_of fun c F H σ δ Q ok post => ha c F H σ δ _ ok (Post.bind post fun dx δ1 x F1 H1 _ s1 ok1 rx post => hb c F1 H1 σ δ1 _ ok1 (Post.bind post fun dy δ2 y F2 H2 _ s2 ok2 ry post => ?_))⟩
  exact bin_of hd ok2 (.inl (rep_mono s2 _ _ rx)) ry post
theorem dt_opV {i : Nat} {r : R2} {g : D → D → Option R} {fb : FD} (mk : ∀ {ta tb : TE}, PE X a ta → PE X b tb → PT X e (tTest (tOp r ta tb))) (hd : OpD M r g) (ha : PE X a (tVar i)) (hb : DP M W X b fb) : DT M W X e (fTst (fBinV g i fb)) := by
  obtain ⟨tb, pb, hb⟩ := hb
  refine ⟨_, mk ha pb, tst_of fun c F H σ δ Q ok post => ?_⟩
  unfold fBinV at post
  by_cases ht : there δ i = true
  · rw [if_pos ht] at post
    obtain ⟨v, e1⟩ := there_v ok ht
    refine ⟨v, e1, hb c F H σ δ _ ok (Post.bind post fun dy δ2 y F2 H2 _ s2 ok2 ry post => ?_)⟩
    exact vP_run ok2 e1 post fun dx _ px post => bin_of hd ok2 px ry post
  · rw [if_neg ht] at post
    exact post.elim
def fNot (f : FT) : FT := fun δ => (f δ).bind fun b δ => .ok (!b) δ
def fAnd (f g : FT) : FT := fun δ => (f δ).bind fun b δ => if b then g δ else .ok false δ
def fOr (f g : FT) : FT := fun δ => (f δ).bind fun b δ => if b then .ok true δ else g δ
theorem dt_not {f : FT} (h : DT M W X a f) : DT M W X (.UnaryOp .Not a pos) (fNot f) := by
  obtain ⟨t, p, h⟩ := h
  refine ⟨_, pt_not p, fun c F H σ δ Q ok post => h c F H σ δ _ ok (Post.bind post fun b δ1 k F1 H1 _ s ok1 e post => ?_)⟩
  cases (show b = k from e)
  exact post.ok ok1 rfl
theorem DW.pt {f : FT} (h : DW M W X e f) : DT M W X e f := by
  obtain ⟨t, p, h⟩ := h
  exact ⟨t, p.pt, h⟩
theorem dw_or1 {f : FT} (h : DT M W X a f) : DW M W X (.BoolOp .Or [a] pos) f := by
  obtain ⟨t, p, h⟩ := h
  exact ⟨t, pw_or1 p, h⟩
theorem dw_or {f g : FT} {rest : List Expr} (h : DT M W X a f) (h' : DW M W X (.BoolOp .Or (b :: rest) pos) g) : DW M W X (.BoolOp .Or (a :: b :: rest) pos) (fOr f g) := by
  obtain ⟨t, p, h⟩ := h
  obtain ⟨t', p', h'⟩ := h'
  refine ⟨_, pw_or p p', fun c F H σ δ Q ok post => h c F H σ δ _ ok (Post.bind post fun b δ1 k F1 H1 _ s ok1 e post => ?_)⟩
  cases (show b = k from e)
  cases b with
  | false => exact h' c F1 H1 σ δ1 Q ok1 post
  | true => exact post.ok ok1 rfl
def fAndV (f : FD) (g : FE) : FE := fun δ => (f δ).bind fun d δ => match d with
  | .bl true => g δ
  | .bl false => .ok (.imm (.bl false)) δ
  | _ => .bad
def fOrV (f : FD) (g : FE) : FE := fun δ => (f δ).bind fun d δ => match d with
  | .bl true => .ok (.imm (.bl true)) δ
  | .bl false => g δ
  | _ => .bad
def fNotV (f : FD) : FD := fun δ => (f δ).bind fun d δ => match d with
  | .bl b => .ok (.bl (!b)) δ
  | _ => .bad
theorem de_one {op} {f : FE} (h : DE M W X a f) : DE M W X (.BoolOp op [a] pos) f := by
  obtain ⟨t, p, h⟩ := h
  exact ⟨t, pe_one p, h⟩
theorem de_and {f : FD} {g : FE} {rest : List Expr} (h : DI M W X a f) (h' : DE M W X (.BoolOp .And (b :: rest) pos) g) : DE M W X (.BoolOp .And (a :: b :: rest) pos) (fAndV f g) := by
  obtain ⟨t, p, h⟩ := h
  obtain ⟨t', p', h'⟩ := h'
  refine ⟨_, pe_and p p', fun c F H σ δ Q ok post => h c F H σ δ _ ok (Post.bind post fun d δ1 v F1 H1 _ s ok1 r post => ?_)⟩
  split at post
  · have e : v = .bl true := by unfold ρD rep at r; exact r
    subst e
    exact ⟨true, rfl, h' c F1 H1 σ δ1 Q ok1 post⟩
  · have e : v = .bl false := by unfold ρD rep at r; exact r
    subst e
    exact ⟨false, rfl, post.ok ok1 rr_bl⟩
  · exact post.elim
def fIfE (f : FT) (g h : FE) : FE := fun δ => (f δ).bind fun b δ => if b then g δ else h δ
end
def aNil : FA := fun δ => .ok [] δ
def aCons (f : FD) (g : FA) : FA := fun δ => (f δ).bind fun d δ1 => (g δ1).bind fun ds δ2 => .ok (d :: ds) δ2
def aOne (f : FD) : FA := fun δ => (f δ).bind fun d δ1 => .ok [d] δ1
section
variable {M : Gm} {c : Cn M} {W : WX} {X : Cx} {e : Expr} {es : List Expr}
theorem da_nil : DA M W X [] aNil := ⟨_, pa_nil, fun c F H σ δ Q ok post => post.ok ok reps_nil⟩
theorem da_cons {f : FD} {g : FA} (h : DI M W X e f) (h' : DA M W X es g) (hs : starEach (e :: es) X.env = (false, eval e X.env) :: starEach es X.env := by rfl) : DA M W X (e :: es) (aCons f g) := by
  obtain ⟨t, p, h⟩ := h
  obtain ⟨t', p', h'⟩ := h'
  exact ⟨_, pa_cons p p' hs, fun c F H σ δ Q ok post => h c F H σ δ _ ok (Post.bind post fun d δ1 v F1 H1 _ s ok1 r post => h' c F1 H1 σ δ1 _ ok1 (Post.bind post fun ds δ2 vs F2 H2 _ s2 ok2 rs post => post.ok ok2 (reps_cons (rep_mono s2 _ _ r) rs)))⟩
theorem reps_paired {F H : Hp} : ∀ {ds : List D} {vs : List V}, reps M F ds vs → Paired (prep M F H) ds vs
  | [], vs, h => by unfold reps at h; subst h; exact .nil
  | d :: ds, vs, h => by
    unfold reps at h
    obtain ⟨v, r, rfl, h2, h3⟩ := h
    exact .cons (.inl h2) (reps_paired h3)
theorem DA.b {f : FA} (h : DA M W X es f) : DB M W X es f := by
  obtain ⟨t, p, h⟩ := h
  refine ⟨t, p, fun c F H σ δ Q ok post => h c F H σ δ Q ok ?_⟩
  cases q : f δ with
  | ok d δ1 => rw [q] at post; exact fun v F' H' s ok' r => post v F' H' s ok' (reps_paired r)
  | exc x δ1 => rw [q] at post; exact post
  | bad => rw [q] at post; exact post
theorem db_one {f : FD} (h : DP M W X e f) (hs : starEach (e :: []) X.env = (false, eval e X.env) :: starEach [] X.env := by rfl) : DB M W X [e] (aOne f) := by
  obtain ⟨t, p, h⟩ := h
  exact ⟨_, pa_cons p pa_nil hs, fun c F H σ δ Q ok post => h c F H σ δ _ ok (Post.bind post fun d δ1 v F1 H1 _ s ok1 r post => post.ok ok1 (.cons r .nil))⟩
end
abbrev RC := List V → Hp → VK → Prop
def CallD (M : Gm) (r : RC) (g : List D → Option R) : Prop := ∀ (c : Cn M) (F H : Hp) (σ : St) (δ : Sl) (xs : List V) (ds : List D) (z : R) (Q : VK), Ok c F H σ δ → Paired (prep M F H) ds xs → g ds = some z →
  (∀ v F' H', Same F F' → Ok c F' H' σ δ → repR c F' H' σ δ z v → Q v H') → r xs H Q
def fCal (g : List D → Option R) (fa : FA) : FE := fun δ => (fa δ).bind fun ds δ1 => match g ds with
  | some z => .ok z δ1
  | none => .bad
section
variable {M : Gm} {c : Cn M} {W : WX} {X : Cx} {e : Expr} {es : List Expr} {r : RC} {g : List D → Option R} {fa : FA}
theorem d_call (mk : ∀ {t : TA}, PA X es t → PE X e (tCB r t)) (hd : CallD M r g) (ha : DB M W X es fa) : DE M W X e (fCal g fa) := by
  obtain ⟨t, p, h⟩ := ha
  refine ⟨_, mk p, fun c F H σ δ Q ok post => h c F H σ δ _ ok (Post.bind post fun ds δ1 vs F1 H1 _ s ok1 rs post => ?_)⟩
  cases q : g ds with
  | none => rw [q] at post; exact post.elim
  | some z => rw [q] at post; exact hd c F1 H1 σ δ1 vs ds z Q ok1 rs q post
theorem CallR.or {f : Value} {r r' : RC} (h : CallR X f r) (h' : CallR X f r') : CallR X f (fun xs H Q => r xs H Q ∨ r' xs H Q) := by
  intro pins s σ H xs us Q I rs q
  rcases q with q | q
  · exact h pins s σ H xs us Q I rs q
  · exact h' pins s σ H xs us Q I rs q
def gcOr (g g' : List D → Option R) : List D → Option R := fun ds => match g ds with
  | some z => some z
  | none => g' ds
theorem CallD.or {r r' : RC} {g g' : List D → Option R} (h : CallD M r g) (h' : CallD M r' g') : CallD M (fun xs H Q => r xs H Q ∨ r' xs H Q) (gcOr g g') := by
  intro c F H σ δ xs ds z Q ok pxs e q
  unfold gcOr at e
  cases e1 : g ds with
  | some w => rw [e1] at e; cases e; exact .inl (h c F H σ δ xs ds _ Q ok pxs e1 q)
  | none => rw [e1] at e; exact .inr (h' c F H σ δ xs ds z Q ok pxs e q)
theorem p1 {F H : Hp} {d : D} {xs : List V} (h : Paired (prep M F H) [d] xs) : ∃ x, xs = [x] ∧ prep M F H d x := by
  cases h with
  | cons a b => cases b; exact ⟨_, rfl, a⟩
theorem p2 {F H : Hp} {d d' : D} {xs : List V} (h : Paired (prep M F H) [d, d'] xs) : ∃ x y, xs = [x, y] ∧ prep M F H d x ∧ prep M F H d' y := by
  cases h with
  | cons a b =>
    cases b with
    | cons a' b' => cases b'; exact ⟨_, _, rfl, a, a'⟩
def lenD : D → Option Nat
  | .lst xs => some xs.length
  | .tup xs => some xs.length
  | .ktp ns => some ns.length
  | .scr xs => some xs.length
  | .str z => if z.length ≤ 16777216 then some z.length else none
  | .dK ks ds => some ds.length
  | _ => none
def gLen : List D → Option R
  | [d] => (lenD d).map fun n => .imm (.int n)
  | _ => none
def rLenAll (K : PySem.W.Frag) : RC := fun xs H Q => (∃ x n, xs = [x] ∧ LenV K x H n ∧ Q (.int n) H) ∨ ∃ a kvs, xs = [V.ref a] ∧ Rd H a (.dK kvs) ∧ Q (.int kvs.length) H
theorem call_lenRd : CallR X (.builtin "len") (fun xs H Q => ∃ a kvs, xs = [V.ref a] ∧ Rd H a (.dK kvs) ∧ Q (.int kvs.length) H) := by
  intro pins s σ H xs us Q I r h
  obtain ⟨a, kvs, rfl, ha, q⟩ := h
  obtain ⟨u, rfl, ru⟩ := vals1 r
  cases ru
  exact d_len I ha fun t s' I' => ⟨.int kvs.length, H, I', ⟨t, rfl⟩, q⟩
theorem call_lenAll (hK : X.K = M.K) : CallR X (.builtin "len") (rLenAll M.K) := by rw [← hK]; exact CallR.or call_len call_lenRd
theorem cd_len : CallD M (rLenAll M.K) gLen := by
  intro c F H σ δ xs ds z Q ok pxs e q
  unfold gLen at e
  split at e
  · rename_i d
    obtain ⟨n, e1, rfl⟩ := Option.map_eq_some_iff.mp e
    obtain ⟨x, rfl, px⟩ := p1 pxs
    have fin := q (.int n) F H (Same.refl _) ok rr_int
    unfold lenD at e1
    split at e1
    · cases e1
      obtain ⟨a, vs, rfl, h2, h3⟩ := prep_lst ok.same px
      exact .inl ⟨_, _, rfl, .inl ⟨vs, SqL.of h2, (reps_length h3).symm⟩, fin⟩
    · cases e1
      obtain ⟨a, vs, rfl, h2, h3⟩ := prep_tup ok.same px
      exact .inl ⟨_, _, rfl, .inr ⟨vs, h2, (reps_length h3).symm⟩, fin⟩
    · cases e1
      obtain ⟨a, rfl, h2, h3⟩ := prep_ktp ok.same px
      exact .inl ⟨_, _, rfl, .inr ⟨_, h2, by rw [List.length_map]⟩, fin⟩
    · cases e1
      obtain ⟨a, vs, rfl, h2, h3⟩ := prep_scr ok.same px
      exact .inl ⟨_, _, rfl, .inl ⟨vs, h2, (reps_length h3).symm⟩, fin⟩
    · split at e1
      · rename_i hl
        cases e1
        have ex := prep_str px
        subst ex
        exact .inl ⟨_, _, rfl, ⟨by rw [sizeLine_eq]; exact hl, rfl⟩, fin⟩
      · cases e1
    · cases e1
      obtain ⟨a, kvs, rfl, h2, h3, h4⟩ := prep_dK ok.same px
      refine .inr ⟨a, kvs, rfl, h2, ?_⟩
      have := reps_length h4
      rw [List.length_map] at this
      rw [this]; exact fin
    · cases e1
  · cases e
def gAbs : List D → Option R
  | [.int i] => some (.imm (.int (if i < 0 then -i else i)))
  | _ => none
theorem cd_abs : CallD M (fun xs H Q => ∃ i, xs = [.int i] ∧ Q (.int (if i < 0 then -i else i)) H) gAbs := by
  intro c F H σ δ xs ds z Q ok pxs e q
  unfold gAbs at e
  split at e
  · cases e
    obtain ⟨x, rfl, px⟩ := p1 pxs
    cases prep_int px
    exact ⟨_, rfl, q _ F H (Same.refl _) ok rr_int⟩
  · cases e
def gMax2 : List D → Option R
  | [.int i, .int j] => some (.imm (.int (if j > i then j else i)))
  | _ => none
def gMin2 : List D → Option R
  | [.int i, .int j] => some (.imm (.int (if j < i then j else i)))
  | _ => none
theorem cd_max2 : CallD M (fun xs H Q => ∃ i j, xs = [.int i, .int j] ∧ Q (.int (if j > i then j else i)) H) gMax2 := by
  intro c F H σ δ xs ds z Q ok pxs e q
  unfold gMax2 at e
  split at e
  · cases e
    obtain ⟨x, y, rfl, px, py⟩ := p2 pxs
    cases prep_int px
    cases prep_int py
    exact ⟨_, _, rfl, q _ F H (Same.refl _) ok rr_int⟩
  · cases e
theorem cd_min2 : CallD M (fun xs H Q => ∃ i j, xs = [.int i, .int j] ∧ Q (.int (if j < i then j else i)) H) gMin2 := by
  intro c F H σ δ xs ds z Q ok pxs e q
  unfold gMin2 at e
  split at e
  · cases e
    obtain ⟨x, y, rfl, px, py⟩ := p2 pxs
    cases prep_int px
    cases prep_int py
    exact ⟨_, _, rfl, q _ F H (Same.refl _) ok rr_int⟩
  · cases e
def gInt : List D → Option R
  | [.int i] => some (.imm (.int i))
  | [.bl k] => some (.imm (.int (if k then 1 else 0)))
  | _ => none
theorem cd_int : CallD M (fun xs H Q => (∃ i, xs = [.int i] ∧ Q (.int i) H) ∨ ∃ k, xs = [.bl k] ∧ Q (.int (if k then 1 else 0)) H) gInt := by
  intro c F H σ δ xs ds z Q ok pxs e q
  unfold gInt at e
  split at e
  · cases e
    obtain ⟨x, rfl, px⟩ := p1 pxs
    cases prep_int px
    exact .inl ⟨_, rfl, q _ F H (Same.refl _) ok rr_int⟩
  · cases e
    obtain ⟨x, rfl, px⟩ := p1 pxs
    cases prep_bl px
    exact .inr ⟨_, rfl, q _ F H (Same.refl _) ok rr_int⟩
  · cases e
def gList : List D → Option R
  | [.lst xs] => some (.own (.l xs))
  | [.tup xs] => some (.own (.l xs))
  | _ => none
theorem cd_list {K : PySem.W.Frag} (hK : K = M.K) : CallD M (fun xs H Q => ∃ p ys, xs = [.ref p] ∧ (SqL K H p ys ∨ SqT K H p ys) ∧ ∀ l, H l = none → Q (.ref l) (upd H l (.lst ys))) gList := by
  intro c F H σ δ xs ds z Q ok pxs e q
  subst hK
  unfold gList at e
  split at e
  · cases e
    obtain ⟨x, rfl, px⟩ := p1 pxs
    obtain ⟨a, vs, rfl, h2, h3⟩ := prep_lst ok.same px
    refine ⟨a, vs, rfl, .inl (SqL.of h2), fun p hp => ?_⟩
    obtain ⟨o1, o2⟩ := new_list ok hp h3
    exact q _ F _ (Same.refl _) o1 o2
  · cases e
    obtain ⟨x, rfl, px⟩ := p1 pxs
    obtain ⟨a, vs, rfl, h2, h3⟩ := prep_tup ok.same px
    refine ⟨a, vs, rfl, .inr h2, fun p hp => ?_⟩
    obtain ⟨o1, o2⟩ := new_list ok hp h3
    exact q _ F _ (Same.refl _) o1 o2
  · cases e
theorem new_tup {F H : Hp} {σ : St} {δ : Sl} (ok : Ok c F H σ δ) {p : Addr} (hp : H p = none) {ds : List D} {vs : List V} (r : reps M F ds vs) : ∃ F', Same F F' ∧ Ok c F' (upd H p (.tup vs)) σ δ ∧ rep M F' (.tup ds) (.ref p) := by
  have ok1 : Ok c F (upd H p (.tup vs)) σ δ := ok.alloc hp
  have hF := ok.f hp
  have g : Same F (upd F p (.tup vs)) := fun b o e => by rw [upd_ne (ne_of_none e hF)]; exact e
  refine ⟨upd F p (.tup vs), g, ⟨fun b o e => ?_, ok.grow.trans g, fun b e1 e2 => ?_, ok1.kept, ok1.ioh, ok1.tb.frz upd_same rfl, ok.len, fun i r e => ?_, ok.dist⟩, ?_⟩
  · by_cases q : b = p
    · subst q; rw [upd_same] at e ⊢; exact e
    · rw [upd_ne q] at e ⊢; exact ok.same b o e
  · have q : b ≠ p := fun z => e1 (z ▸ ok.h0 hp)
    rw [upd_ne q]; exact ok.nofz b e1 e2
  · obtain ⟨v, e1, e2⟩ := ok1.slot i r e
    refine ⟨v, e1, ?_⟩
    cases r with
    | imm d => exact rep_mono g _ _ e2
    | own o =>
      obtain ⟨a', rfl, k1, k2, k3⟩ := e2
      have q : a' ≠ p := fun z => ok.fresh hp i _ e rfl (by rw [e1, z])
      exact ⟨a', rfl, by rw [upd_ne q]; exact k1, k2, obAt_mono g rfl k3⟩
    | brw o =>
      obtain ⟨a', rfl, k1, k2, k3⟩ := e2
      have q : a' ≠ p := fun z => ok.fresh hp i _ e rfl (by rw [e1, z])
      exact ⟨a', rfl, by rw [upd_ne q]; exact k1, k2, obAt_mono g rfl k3⟩
    | nst tp ps => exact slot_nst g e2
  · unfold rep
    exact ⟨p, vs, rfl, upd_same, reps_mono g _ _ r⟩
def intsD : List D → Option (List Int)
  | [] => some []
  | .int i :: r => (intsD r).map (i :: ·)
  | _ :: _ => none
def blsOf : List D → Option (List Bool)
  | [] => some []
  | .bl i :: r => (blsOf r).map (i :: ·)
  | _ :: _ => none
theorem intsD_v {M : Gm} {F : Hp} : ∀ {ds : List D} {vs : List V} {ns : List Int}, reps M F ds vs → intsD ds = some ns → vs = ns.map V.int
  | [], vs, ns, h, e => by unfold reps at h; unfold intsD at e; cases e; subst h; rfl
  | d :: ds, vs, ns, h, e => by
    unfold reps at h
    obtain ⟨v, r, rfl, h2, h3⟩ := h
    cases d <;> simp [intsD] at e
    obtain ⟨ms, e1, rfl⟩ := e
    unfold rep at h2
    subst h2
    rw [intsD_v h3 e1]; rfl
theorem blsOf_v {M : Gm} {F : Hp} : ∀ {ds : List D} {vs : List V} {ns : List Bool}, reps M F ds vs → blsOf ds = some ns → vs = ns.map V.bl
  | [], vs, ns, h, e => by unfold reps at h; unfold blsOf at e; cases e; subst h; rfl
  | d :: ds, vs, ns, h, e => by
    unfold reps at h
    obtain ⟨v, r, rfl, h2, h3⟩ := h
    cases d <;> simp [blsOf] at e
    obtain ⟨ms, e1, rfl⟩ := e
    unfold rep at h2
    subst h2
    rw [blsOf_v h3 e1]; rfl
def maxL : List Int → Int
  | [] => 0
  | [x] => x
  | x :: r => max x (maxL r)
def minL : List Int → Int
  | [] => 0
  | [x] => x
  | x :: r => min x (minL r)
theorem maxL_ok : ∀ {ns : List Int}, 0 < ns.length → maxL ns ∈ ns ∧ ∀ y ∈ ns, y ≤ maxL ns
  | [], h => by simp at h
  | [x], _ => by simp [maxL]
  | x :: y :: r, _ => by
    obtain ⟨h1, h2⟩ := maxL_ok (ns := y :: r) (by simp)
    unfold maxL
    constructor
    · rcases Int.le_total x (maxL (y :: r)) with h | h
      · rw [Int.max_eq_right h]; exact List.mem_cons_of_mem _ h1
      · rw [Int.max_eq_left h]; exact List.mem_cons_self
    · intro z hz
      rcases List.mem_cons.mp hz with rfl | hz
      · exact Int.le_max_left _ _
      · exact Int.le_trans (h2 z hz) (Int.le_max_right _ _)
theorem minL_ok : ∀ {ns : List Int}, 0 < ns.length → minL ns ∈ ns ∧ ∀ y ∈ ns, minL ns ≤ y
  | [], h => by simp at h
  | [x], _ => by simp [minL]
  | x :: y :: r, _ => by
    obtain ⟨h1, h2⟩ := minL_ok (ns := y :: r) (by simp)
    unfold minL
    constructor
    · rcases Int.le_total x (minL (y :: r)) with h | h
      · rw [Int.min_eq_left h]; exact List.mem_cons_self
      · rw [Int.min_eq_right h]; exact List.mem_cons_of_mem _ h1
    · intro z hz
      rcases List.mem_cons.mp hz with rfl | hz
      · exact Int.min_le_left _ _
      · exact Int.le_trans (Int.min_le_right _ _) (h2 z hz)
def gMaxL : List D → Option R
  | [.lst xs] => (intsD xs).bind fun ns => if 0 < ns.length then some (.imm (.int (maxL ns))) else none
  | _ => none
def gMinL : List D → Option R
  | [.lst xs] => (intsD xs).bind fun ns => if 0 < ns.length then some (.imm (.int (minL ns))) else none
  | _ => none
def gAll : List D → Option R
  | [.lst xs] => (blsOf xs).map fun bs => .imm (.bl (bs.all id))
  | _ => none
theorem cd_maxL {K : PySem.W.Frag} : CallD M (rMax K) gMaxL := by
  intro c F H σ δ xs ds z Q ok pxs e q
  unfold gMaxL at e
  split at e
  · obtain ⟨ns, e1, e2⟩ := Option.bind_eq_some_iff.mp e
    split at e2
    · rename_i hl
      cases e2
      obtain ⟨x, rfl, px⟩ := p1 pxs
      obtain ⟨a, vs, rfl, h2, h3⟩ := prep_lst ok.same px
      have ev := intsD_v h3 e1
      subst ev
      refine ⟨a, ns, rfl, SqL.of h2, hl, fun m hm hy => ?_⟩
      obtain ⟨k1, k2⟩ := maxL_ok hl
      have em : m = maxL ns := Int.le_antisymm (k2 m hm) (hy _ k1)
      rw [em]
      exact q _ F H (Same.refl _) ok rr_int
    · cases e2
  · cases e
theorem cd_minL {K : PySem.W.Frag} : CallD M (rMin K) gMinL := by
  intro c F H σ δ xs ds z Q ok pxs e q
  unfold gMinL at e
  split at e
  · obtain ⟨ns, e1, e2⟩ := Option.bind_eq_some_iff.mp e
    split at e2
    · rename_i hl
      cases e2
      obtain ⟨x, rfl, px⟩ := p1 pxs
      obtain ⟨a, vs, rfl, h2, h3⟩ := prep_lst ok.same px
      have ev := intsD_v h3 e1
      subst ev
      refine ⟨a, ns, rfl, SqL.of h2, hl, fun m hm hy => ?_⟩
      obtain ⟨k1, k2⟩ := minL_ok hl
      have em : m = minL ns := Int.le_antisymm (hy _ k1) (k2 m hm)
      rw [em]
      exact q _ F H (Same.refl _) ok rr_int
    · cases e2
  · cases e
theorem cd_all {K : PySem.W.Frag} : CallD M (rAll K) gAll := by
  intro c F H σ δ xs ds z Q ok pxs e q
  unfold gAll at e
  split at e
  · obtain ⟨ns, e1, rfl⟩ := Option.map_eq_some_iff.mp e
    obtain ⟨x, rfl, px⟩ := p1 pxs
    obtain ⟨a, vs, rfl, h2, h3⟩ := prep_lst ok.same px
    have ev := blsOf_v h3 e1
    subst ev
    exact ⟨a, ns, rfl, SqL.of h2, q _ F H (Same.refl _) ok rr_bl⟩
  · cases e
def gDivmod : List D → Option R
  | [.int i, .int j] => if decide (0 < j ∧ j.natAbs.log2 < 9000) then some (.imm (.tup [.int (i / j), .int (i % j)])) else none
  | _ => none
end
end
end TS

namespace TS
open PySem L2
noncomputable section
def fLst (fa : FA) : FE := fun δ => (fa δ).bind fun ds δ => if ds.length ≤ 16777216 then .ok (.own (.l ds)) δ else .bad
def fTup (fa : FA) : FD := fun δ => (fa δ).bind fun ds δ => if ds.length ≤ 16777216 then .ok (.tup ds) δ else .bad
section
variable {M : Gm} {c : Cn M} {W : WX} {X : Cx} {es : List Expr} {pos : Pos} {fa : FA}
theorem de_lst (h : DA M W X es fa) : DE M W X (.List es pos) (fLst fa) := by
  obtain ⟨t, p, h⟩ := h
  refine ⟨_, pe_lst p, fun c F H σ δ Q ok post => h c F H σ δ _ ok (Post.bind post fun ds δ1 vs F1 H1 _ s ok1 rs post => ?_)⟩
  split at post
  · rename_i hl
    refine ⟨by rw [reps_length rs, sizeLine_eq]; exact hl, fun q hq => ?_⟩
    obtain ⟨o1, o2⟩ := new_list ok1 hq rs
    exact post.ok o1 o2
  · exact post.elim
theorem di_tup {x1} (h : DA M W X es fa) : DI M W X (.Tuple es x1 pos) (fTup fa) := by
  obtain ⟨t, p, h⟩ := h
  refine ⟨_, pe_tup p, fun c F H σ δ Q ok post => h c F H σ δ _ ok (Post.bind post fun ds δ1 vs F1 H1 _ s ok1 rs post => ?_)⟩
  split at post
  · rename_i hl
    refine ⟨by rw [reps_length rs, sizeLine_eq]; exact hl, fun q hq => ?_⟩
    obtain ⟨F', g, o1, o2⟩ := new_tup ok1 hq rs
    exact post _ F' _ g o1 o2
  · exact post.elim
theorem call_divmodP {X : Cx} : CallR X (.builtin "divmod") (fun xs H Q => ∃ i j, xs = [.int i, .int j] ∧ CDivP i j ∧ ∀ p, H p = none → Q (.ref p) (upd H p (.tup [.int (i / j), .int (i % j)]))) := call_divmodW
theorem cd_divmod : CallD M (fun xs H Q => ∃ i j, xs = [.int i, .int j] ∧ CDivP i j ∧ ∀ p, H p = none → Q (.ref p) (upd H p (.tup [.int (i / j), .int (i % j)]))) gDivmod := by
  intro c F H σ δ xs ds z Q ok pxs e q
  unfold gDivmod at e
  split at e
  · rename_i i j
    split at e
    · rename_i hc
      cases e
      obtain ⟨h1, h2⟩ := of_decide_eq_true hc
      obtain ⟨x, y, rfl, px, py⟩ := p2 pxs
      cases prep_int px
      cases prep_int py
      refine ⟨_, _, rfl, ⟨h1, PyProof.noPylong_of_log2 h2⟩, fun p hp => ?_⟩
      obtain ⟨F', g, o1, o2⟩ := new_tup ok hp (ds := [.int (i / j), .int (i % j)]) (reps_cons (rep_int' _) (reps_cons (rep_int' _) reps_nil))
      exact q _ F' _ g o1 o2
    · cases e
  · cases e
end
abbrev FO := Sl → Res (Option Int)
abbrev ρO : Hp → Hp → Sl → Option Int → Option Int → Prop := fun _ _ _ a b => a = b
def DO (M : Gm) (W : WX) (X : Cx) (e : Option Expr) (f : FO) : Prop := ∃ t, PO X e t ∧ ∀ (c : Cn M) F H σ δ Q, Ok c F H σ δ → Post c W F σ ρO (f δ) Q → t σ H Q
def oNone : FO := fun δ => .ok none δ
def oSome (f : FD) : FO := fun δ => (f δ).bind fun d δ => match d with
  | .int i => .ok (some i) δ
  | _ => .bad
def cutD (xs : List D) (lo hi : Option Int) : List D := (xs.drop (HT.sIx xs.length 0 lo)).take (HT.sIx xs.length xs.length hi - HT.sIx xs.length 0 lo)
def gSl : D → Option Int → Option Int → Option R
  | .lst xs, lo, hi => some (.own (.l (cutD xs lo hi)))
  | .tup xs, lo, hi => if HT.sIx xs.length 0 lo = 0 ∧ HT.sIx xs.length xs.length hi = xs.length then none else some (.imm (.tup (cutD xs lo hi)))
  | _, _, _ => none
def fSl (fe : FD) (fl fh : FO) : FE := fun δ => (fe δ).bind fun d δ => (fl δ).bind fun lo δ => (fh δ).bind fun hi δ => match gSl d lo hi with
  | some r => .ok r δ
  | none => .bad
def fSlV (i : Nat) (fl fh : FO) : FE := fun δ => if there δ i then (fl δ).bind fun lo δ => (fh δ).bind fun hi δ => (vP i δ).bind fun d δ => match gSl d lo hi with
  | some r => .ok r δ
  | none => .bad
  else .bad
section
variable {M : Gm} {c : Cn M} {W : WX} {X : Cx} {e : Expr} {lo hi : Option Expr} {pos p2 : Pos}
theorem do_none : DO M W X none oNone := ⟨_, po_none, fun c F H σ δ Q ok post => post.ok ok rfl⟩
theorem do_some {f : FD} (h : DI M W X e f) : DO M W X (some e) (oSome f) := by
  obtain ⟨t, p, h⟩ := h
  refine ⟨_, po_some p, fun c F H σ δ Q ok post => h c F H σ δ _ ok (Post.bind post fun d δ1 v F1 H1 _ s ok1 r post => ?_)⟩
  split at post
  · rename_i i _
    have ev : v = .int i := by unfold ρD rep at r; exact r
    exact ⟨i, ev, post.ok ok1 rfl⟩
  · exact post.elim
theorem sl_of (hK : X.K = M.K) {F H : Hp} {σ : St} {δ : Sl} {x : V} {d : D} {l u : Option Int} {Q : VK} (ok : Ok c F H σ δ) (px : prep M F H d x)
    (post : Post c W F σ (ρR c σ) (match gSl d l u with | some r => .ok r δ | none => .bad) Q) : rSlL X.K x l u H Q ∨ rSlT X.K x l u H Q := by
  unfold gSl at post
  split at post
  · rename_i r e
    split at e
    · cases e
      rename_i xs
      obtain ⟨a, vs, rfl, h2, h3⟩ := prep_lst ok.same px
      refine .inl ⟨a, vs, rfl, SqL.of h2, fun p hp => ?_⟩
      have : reps M F (cutD xs l u) (cutV vs l u) := by
        unfold cutD cutV
        rw [reps_length h3]
        exact reps_take _ (reps_drop _ h3)
      obtain ⟨o1, o2⟩ := new_list ok hp this
      exact post.ok o1 o2
    · split at e
      · cases e
      · rename_i xs hn
        cases e
        obtain ⟨a, vs, rfl, h2, h3⟩ := prep_tup ok.same px
        refine .inr ⟨a, vs, rfl, by rw [hK]; exact h2, by rw [reps_length h3]; exact hn, fun p hp => ?_⟩
        have : reps M F (cutD xs l u) (cutV vs l u) := by
          unfold cutD cutV
          rw [reps_length h3]
          exact reps_take _ (reps_drop _ h3)
        obtain ⟨F', g, o1, o2⟩ := new_tup ok hp this
        exact post _ F' _ g o1 o2
    · cases e
  · exact post.elim
theorem de_sl {fe : FD} {fl fh : FO} (h : DI M W X e fe) (hl : DO M W X lo fl) (hh : DO M W X hi fh) (hK : X.K = M.K := by rfl) : DE M W X (.Subscript e (.Slice lo hi none p2) pos) (fSl fe fl fh) := by
  obtain ⟨t, p, h⟩ := h
  obtain ⟨tl, pl, hl⟩ := hl
  obtain ⟨th, ph, hh⟩ := hh
  refine ⟨_, pe_slice (SlR.or sl_list sl_tup) p pl ph, fun c F H σ δ Q ok post => h c F H σ δ _ ok (Post.bind post fun d δ1 v F1 H1 _ s1 ok1 r post => hl c F1 H1 σ δ1 _ ok1 (Post.bind post fun l δ2 l' F2 H2 _ s2 ok2 el post => hh c F2 H2 σ δ2 _ ok2 (Post.bind post fun u δ3 u' F3 H3 _ s3 ok3 eu post => ?_)))⟩
  cases (show l = l' from el)
  cases (show u = u' from eu)
  exact sl_of hK ok3 (.inl (rep_mono (s2.trans s3) _ _ r)) post
def rgD (a b : Int) : List D := (List.range (b - a).toNat).map fun i => D.int (a + (i : Nat))
end
abbrev RM := V → List V → Hp → VK → Prop
def MutD (M : Gm) (r : RM) (m : List D → List D → Option (D × List D)) : Prop := ∀ (F H : Hp) (a : Addr) (vs xs : List V) (ds as : List D) (z : D) (ds' : List D) (Q : VK), Same F H → F a = none → H a = some (.lst vs) → reps M F ds vs → reps M F as xs →
  m ds as = some (z, ds') → (∀ v vs', rep M F z v → reps M F ds' vs' → Q v (upd H a (.lst vs'))) → r (.ref a) xs H Q
def getL (δ : Sl) (i : Nat) : Option (List D) := match δ[i]? with
  | some (some (.own (.l ds))) => some ds
  | some (some (.brw (.l ds))) => some ds
  | _ => none
def fMut (i : Nat) (m : List D → List D → Option (D × List D)) (fa : FA) : FD := fun δ => match getL δ i with
  | none => .bad
  | some _ => (fa δ).bind fun as δ1 => match getL δ1 i with
    | none => .bad
    | some ds => match m ds as with
      | none => .bad
      | some (z, ds') => .ok z (match δ1[i]? with
        | some (some (.own _)) => δ1.set i (some (.own (.l ds')))
        | _ => δ1.set i (some (.brw (.l ds'))))
section
variable {M : Gm} {c : Cn M} {W : WX} {X : Cx}
theorem getL_at {F H : Hp} {σ : St} {δ : Sl} {i : Nat} {ds : List D} (ok : Ok c F H σ δ) (h : getL δ i = some ds) : ∃ a vs, σ[i]? = some (some (.ref a)) ∧ F a = none ∧ H a = some (.lst vs) ∧ reps M F ds vs ∧ (δ[i]? = some (some (.own (.l ds))) ∨ δ[i]? = some (some (.brw (.l ds)))) := by
  unfold getL at h
  split at h
  · rename_i ds0 q
    cases h
    obtain ⟨v, e1, a, rfl, h1, h2, vs, h3, h4⟩ := ok.slot i _ q
    exact ⟨a, vs, e1, h1, h3, h4, .inl q⟩
  · rename_i ds0 q
    cases h
    obtain ⟨v, e1, a, rfl, h1, h2, vs, h3, h4⟩ := ok.slot i _ q
    exact ⟨a, vs, e1, h1, h3, h4, .inr q⟩
  · cases h
theorem putL_ok {F H : Hp} {σ : St} {δ : Sl} {i : Nat} {ds ds' : List D} {a : Addr} {vs' : List V} (ok : Ok c F H σ δ) (ea : σ[i]? = some (some (.ref a))) (hd : δ[i]? = some (some (.own (.l ds))) ∨ δ[i]? = some (some (.brw (.l ds)))) (r : reps M F ds' vs') :
    Ok c F (upd H a (.lst vs')) σ (match δ[i]? with
        | some (some (.own _)) => δ.set i (some (.own (.l ds')))
        | _ => δ.set i (some (.brw (.l ds')))) := by
  rcases hd with q | q
  · rw [q]
    exact ok.write (ob := .l ds) (ob' := .l ds') q (.inl ⟨rfl, rfl⟩) ea ⟨vs', upd_same, r⟩
  · rw [q]
    exact ok.write (ob := .l ds) (ob' := .l ds') q (.inr ⟨rfl, rfl⟩) ea ⟨vs', upd_same, r⟩
theorem d_mut {e o : Expr} {es : List Expr} {i : Nat} {r : RM} {m : List D → List D → Option (D × List D)} {fa : FA} (mk : ∀ {t : TA}, PA X es t → PE X e (tBM X.K "list" r (tVar i) t)) (hd : MutD M r m) (ha : DA M W X es fa) : DI M W X e (fMut i m fa) := by
  obtain ⟨t, p, h⟩ := ha
  refine ⟨_, mk p, fun c F H σ δ Q ok post => ?_⟩
  unfold fMut at post
  split at post
  · exact post.elim
  · rename_i ds0 q0
    obtain ⟨a, vs, ea, _, hl, _, _⟩ := getL_at ok q0
    refine ⟨.ref a, ea, .inl ⟨rfl, vs, SqL.of hl⟩, h c F H σ δ _ ok (Post.bind post fun as δ1 xs F1 H1 _ s1 ok1 rs post => ?_)⟩
    split at post
    · exact post.elim
    · rename_i ds q1
      obtain ⟨a', vs', ea', hf', hl', hr', hs'⟩ := getL_at ok1 q1
      rw [ea] at ea'; cases ea'
      split at post
      · exact post.elim
      · rename_i z ds' q2
        exact hd F1 H1 a vs' xs ds as z ds' Q ok1.same hf' hl' hr' rs q2 fun v vs2 rv rv2 => post.ok (putL_ok ok1 ea hs' rv2) rv
def mAppend : List D → List D → Option (D × List D)
  | ds, [d] => if ds.length < 16777216 then some (.non, ds ++ [d]) else none
  | _, _ => none
theorem md_append : MutD M rAppend mAppend := by
  intro F H a vs xs ds as z ds' Q s hf hl hr ha e q
  unfold mAppend at e
  split at e
  · split at e
    · rename_i d hlen
      cases e
      obtain ⟨v, r, rfl, h2, h3⟩ := (show ∃ v r, xs = v :: r ∧ rep M F d v ∧ reps M F [] r by unfold reps at ha; exact ha)
      unfold reps at h3
      subst h3
      exact ⟨a, vs, v, rfl, rfl, hl, by rw [reps_length hr, sizeLine_eq]; exact hlen, q _ _ rep_non' (reps_append hr (reps_cons h2 reps_nil))⟩
    · cases e
  · cases e
end
end
end TS

namespace TS
open PySem L2
noncomputable section
structure Room (k : Nat) (A : Around) : Prop where
  lo : L2.Room k A
  gu : A.guards = some []
theorem Room.mono {j k : Nat} {A : Around} (r : Room k A) (h : j ≤ k) : Room j A := ⟨L2.Room.mono r.lo h, r.gu⟩
theorem Room.deeper {k : Nat} {A : Around} (r : Room (k + 1) A) (env : Env) : Room k (A.deeper env) := ⟨L2.Room.deeper r.lo env, r.gu⟩
theorem Room.make {k : Nat} {A : Around} (r : Room (k + 1) A) (C : Addr) (us : List Value) (kw : List (Str × Value)) : Room k (A.under (.builtin "type.__call__" ⟨.ref C :: us, kw⟩)) := by
  refine ⟨L2.Room.make r.lo C us kw, ?_⟩
  have e : (Code.builtin "type.__call__" ⟨.ref C :: us, kw⟩).isGuard = false := by
    show guardIds.contains "type.__call__" = false
    decide +kernel
  simp [Around.under, Code.guards, e, pushGuards, r.gu]
theorem Room.hd {k : Nat} {A : Around} (r : Room k A) : A.handled = none := r.lo.hd
theorem Room.depth {k : Nat} {A : Around} (r : Room k A) : A.depth < recursionLimit := L2.Room.depth r.lo
theorem Room.units {k : Nat} {A : Around} (r : Room k A) : A.units + 64 < cLine := L2.Room.units r.lo
theorem hu_of {A : Around} {k : Nat} (hr : Room k A) : A.units + 1 < cLine := L2.hu_of hr.lo
def FnR (P : Program) (w : World) (K : PySem.W.Frag) (mg : Str → Option Value) (base : Heap) (CX : CXT) (k : Nat) (f : Addr) (sp : Sp) : Prop :=
  ∀ (A : Around) (outer : List Env) (s : Shared) (H : Hp) (us : List Value) (vs : List V) (Q : VK) (E : XK), Room k A → Env0 P w K mg base A outer s H → Vals vs us → sp vs H Q E → codeAny (model P w) A (.call (.ref f) ⟨us, []⟩) (CR CX outer P w H s Q E) s
structure FnOk (P : Program) (w : World) (K : PySem.W.Frag) (mg : Str → Option Value) (base : Heap) (CX : CXT) (k : Nat) (f : Addr) (fd : FuncData) (ps : List Str) (sp : Sp) : Prop where
  len : ∀ vs H Q E, sp vs H Q E → vs.length = ps.length
  run : ∀ (A : Around) (outer : List Env) (s : Shared) (H : Hp) (args : Args) (us : List Value) (vs : List V) (Q : VK) (E : XK), Room k A → Env0 P w K mg base A outer s H → BindsTo s fd args (ps.zip us) → Vals vs us → sp vs H Q E → codeAny (model P w) A (.call (.ref f) args) (CR CX outer P w H s Q E) s
section
variable {P : Program} {w : World} {K : PySem.W.Frag} {mg : Str → Option Value} {base : Heap} {CX : CXT} {j k : Nat} {f : Addr} {fd : FuncData} {ps : List Str} {sp sp' : Sp}
theorem FnR.mono (F : FnR P w K mg base CX j f sp) (h : j ≤ k) : FnR P w K mg base CX k f sp := fun A outer s H us vs Q E hr e0 => F A outer s H us vs Q E (Room.mono hr h) e0
theorem FnR.imp (F : FnR P w K mg base CX k f sp) (h : ∀ vs H Q E, sp' vs H Q E → sp vs H Q E) : FnR P w K mg base CX k f sp' := fun A outer s H us vs Q E hr e0 rv hs => F A outer s H us vs Q E hr e0 rv (h vs H Q E hs)
theorem FnOk.mono (F : FnOk P w K mg base CX j f fd ps sp) (h : j ≤ k) : FnOk P w K mg base CX k f fd ps sp where
  len := F.len
  run := fun A outer s H args us vs Q E hr => F.run A outer s H args us vs Q E (Room.mono hr h)
theorem FnOk.raw {ds : List Value} {dvs : List V} (F : FnOk P w K mg base CX k f fd ps sp) (hb : Binds K fd ps ds) (hd : Vals dvs ds) : FnR P w K mg base CX k f (fun vs H Q E => sp (vs ++ dvs) H Q E) := by
  intro A outer s H us vs Q E hr e0 rv hs
  have rr := rv.append hd
  have lr : (us ++ ds).length = ps.length := rr.length.symm.trans (F.len _ _ _ _ hs)
  have kin : K.In s.heap := e0.mod.kin.keeps fun b o e => (e0.bs b o e).1
  exact F.run A outer s H ⟨us, []⟩ (us ++ ds) (vs ++ dvs) Q E hr e0 (hb s us kin lr) rr hs
def CodeAt (K : PySem.W.Frag) (f : Addr) (x qual : Str) (params : Arguments) (body : List Stmt) (scope : Scope) (cdv : Value) : Prop := ∃ (oc : Value) (od : Option Addr) (dV kV doc pm ct : Value) (an : Option Addr) (osl : Array (Option Value)), K.lookup f = some ⟨oc, od, .func (PySem.W.fnOf x qual params body scope dV kV doc pm an cdv ct), osl⟩
theorem FnOk.ofC {x qual : Str} {params : Arguments} {body : List Stmt} {scope : Scope} {dvs : List V} {kws : List (Str × V)} {N : List Str} (F : FunD K x qual params body scope dvs kws f fd) (S : FnScope N ps scope) (len : ∀ vs H Q E, sp vs H Q E → vs.length = ps.length)
    (hb : ∀ (cdv : Value), CodeAt K f x qual params body scope cdv → ∀ (A : Around) (outer : List Env) (s : Shared) (H : Hp) (vs : List V) (Q : VK) (E : XK), Room k (A.deeper (PyProof.Rows.envOfC qual scope s.heap.objs.size f cdv)) → sp vs H Q E →
      ∃ t, PSs (cxOf CX P w K mg base N qual scope f cdv A outer s H E) body t ∧ t { rt := Q, nx := fun _ H' => Q .non H' } (start N vs) H) : FnOk P w K mg base CX (k + 1) f fd ps sp := by
  obtain ⟨oc, od, dV, kV, doc, pm, an, cdv, ct, osl, rfl, lk, hcd, _, _⟩ := F.ex
  refine ⟨len, ?_⟩
  intro A outer s H args us vs Q E hr e0 hbn rv hs
  have kin : K.In s.heap := e0.mod.kin.keeps fun b o e => (e0.bs b o e).1
  have nl : s.heap.NoLimit := e0.mod.nolimit.keeps fun b o e => (e0.bs b o e).1
  have kinds : ∀ y ∈ ps.zip us, scope.names.lookup y.1 = some .local ∨ (scope.names.lookup y.1 = some .cell ∧ ((cellsFrom (s.heap.objs.size + 1) scope.names []).lookup y.1).isSome = true) := by
    rintro ⟨n, v⟩ hy
    have := S.par n (List.of_mem_zip hy).1
    exact this.elim Or.inl fun q => Or.inr ⟨q, PySem.W.cellsFrom_some _ _ _ (Or.inl q)⟩
  refine codeAny_call_function hr.depth (kin _ _ lk) rfl S.co S.gen rfl (PySem.W.codeRec_of kin hcd) (hbn _ _ _ _ (PySem.wpAny_newFunctionEnv_cells S.kind kinds ?_))
  rintro env rfl s1 x1
  refine ⟨nl.keeps x1.toInCall.keep, codeAny_func ?_⟩
  obtain ⟨t, pt, ht⟩ := hb cdv ⟨oc, od, dV, kV, doc, pm, ct, an, osl, lk⟩ A outer s H vs Q E (Room.deeper hr _) hs
  have I1 := inv_start (CX := CX) (E := E) S hr.hd e0 (len _ _ _ _ hs) rv x1
  refine wpAny_mono (pt.run [] s1 _ H _ I1 ht) (fun fl s2 z => ?_) fun _ _ z => z
  cases fl with
  | ret u => obtain ⟨v, σ2, H2, J, ru, q⟩ := z; exact ⟨v, H2, J.os, J.bare, J.base, J.hok, ru, q⟩
  | next => obtain ⟨σ2, H2, J, q⟩ := z; exact ⟨V.non, H2, J.os, J.bare, J.base, J.hok, rfl, q⟩
  | brk => obtain ⟨_, _, _, q⟩ := z; exact q.elim
  | cont => obtain ⟨_, _, _, q⟩ := z; exact q.elim
theorem FnOk.of {x qual : Str} {params : Arguments} {body : List Stmt} {scope : Scope} {dvs : List V} {kws : List (Str × V)} {N : List Str} (F : FunD K x qual params body scope dvs kws f fd) (S : FnScope N ps scope) (len : ∀ vs H Q E, sp vs H Q E → vs.length = ps.length)
    (hb : ∀ (cdv : Value) (A : Around) (outer : List Env) (s : Shared) (H : Hp) (vs : List V) (Q : VK) (E : XK), Room k (A.deeper (PyProof.Rows.envOfC qual scope s.heap.objs.size f cdv)) → sp vs H Q E →
      ∃ t, PSs (cxOf CX P w K mg base N qual scope f cdv A outer s H E) body t ∧ t { rt := Q, nx := fun _ H' => Q .non H' } (start N vs) H) : FnOk P w K mg base CX (k + 1) f fd ps sp := FnOk.ofC F S len fun cdv _ => hb cdv
end
abbrev CXX (X : Cx) : CXT := L2.CX X.prog X.w
section
variable {X : Cx} {W : WX} {pins : List (Addr × Obj)} {σ : St} {H : Hp} {s : Shared}
theorem run_fnRS {k : Nat} {f : Addr} {sp : Sp} {Q : VK} {us : List Value} {vs : List V} (F : FnR X.prog X.w X.K X.mg X.base (CXX X) k f sp) (hr : Room k X.A) (tk : Takes X W) (I : Inv X pins σ H s) (r : Vals vs us) (h : sp vs H Q (WE W σ)) :
    codeAny (model X.prog X.w) X.A (.call (.ref f) ⟨us, []⟩) (fun r s' => match r with | .ok (.ret v) => EP X pins σ Q v s' | .ok _ => False | .error e => X.xe e s') s := by
  refine codeAny_mono (F X.A X.stack s H us vs Q (WE W σ) hr I.env0 r h) fun r s' hq => ?_
  cases r with
  | error e => exact passAt tk σ pins H s e s' I hq
  | ok fl =>
    cases fl with
    | ret u => exact I.after hq
    | next => exact False.elim hq
    | brk => exact False.elim hq
    | cont => exact False.elim hq
end
section
variable {X : Cx} {W : WX} {k : Nat} {f C : Addr} {sp : Sp} {x m : Str} {e o : Expr} {es : List Expr} {ta : TE} {t : TA} {p pos apos : Pos}
def tOwn (W : WX) (sp : Sp) (t : TA) : TE := fun σ H Q => t σ H fun vs H1 => sp vs H1 Q (WE W σ)
theorem pe_own (F : FnR X.prog X.w X.K X.mg X.base (CXX X) k f sp) (hr : Room k X.A) (tk : Takes X W) (hg : Gl X x) (hm : X.mg x = some (.ref f)) (hk : PySem.W.keepIn X.K (.ref f) = true) (ha : PA X (e :: es) t)
    (hdb : (x == ("__debug__" : Str)) = false := by decide) (he : starEach (e :: es) X.env = (false, eval e X.env) :: starEach es X.env := by rfl) (hpl : (backTo pos (starEach es X.env)).any (·.1) = false := by rfl) :
    PE X (.Call (.Name x p) (e :: es) [] pos) (tOwn W sp t) := by
  refine ⟨fun pins s σ H Q I h => ?_⟩
  refine wpAny_Call_Name_kw (ld_glob I hg hm ?_ hdb)
  refine PySem.W.callWith_K (h₀ := X.base) I.ok.mod.kin hk (thn (ha.run pos pins s σ H _ I h) fun us s1 ⟨vs, H1, I1, r, q⟩ => ⟨I1.kIn, ?_⟩) he hpl
  exact wpAny_call (run_fnRS F hr tk I1 r q)
end
section
variable {M : Gm} {c : Cn M} {F F' H H' : Hp} {σ : St} {δ δ' : Sl}
theorem Ok.stpTmp (ok : Ok c F H σ δ) {x : Addr} (hx : c.H0 x = none) (hns : ∀ (i : Nat) (r : R), δ[i]? = some (some r) → r.mu = true → σ[i]? ≠ some (some (V.ref x))) (st : Stp M F H F' H' (some x)) : Ok c F' H' σ δ := by
  have hio : c.io ≠ some x := fun z => c.iob x z hx
  have kp : ∀ b o, b ≠ x → H b = some o → NT o → H' b = some o := fun b o hb e n => st.kept b o e n (fun z => hb (Option.some.inj z).symm)
  refine ⟨st.same, ok.grow.trans st.grow, fun b e1 e2 => ?_, fun b o e1 e2 => ?_, fun b e1 => ?_, st.tb, ok.len, fun i r e => ?_, ok.dist⟩
  · obtain ⟨u, k1, k2⟩ := ok.hn e1
    exact st.nofz b u k1 k2 (ok.nofz b e1 e2)
  · exact kp b o (fun z => by rw [z, hx] at e1; cases e1) (ok.kept b o e1 e2) (c.nt b o e1)
  · have hb : b ≠ x := fun z => hio (z ▸ e1)
    obtain ⟨o, q1, q2⟩ := ok.ioh b e1
    exact ⟨o, kp b o hb q1 q2, q2⟩
  · obtain ⟨v, s1, s2⟩ := ok.slot i r e
    refine ⟨v, s1, ?_⟩
    cases r with
    | imm d => exact rep_mono st.grow _ _ s2
    | own o =>
      obtain ⟨b, rfl, k1, k2, k3⟩ := s2
      obtain ⟨u, hu, hn⟩ := obAt_nt k3
      have hb : b ≠ x := fun z => hns i _ e rfl (by rw [s1, z])
      exact ⟨b, rfl, st.nofz b u hu hn k1, k2, obAt_mono st.grow ((kp b u hb hu hn).trans hu.symm) k3⟩
    | brw o =>
      obtain ⟨b, rfl, k1, k2, k3⟩ := s2
      obtain ⟨u, hu, hn⟩ := obAt_nt k3
      have hb : b ≠ x := fun z => hns i _ e rfl (by rw [s1, z])
      exact ⟨b, rfl, st.nofz b u hu hn k1, k2, obAt_mono st.grow ((kp b u hb hu hn).trans hu.symm) k3⟩
    | nst tp ps => exact slot_nst st.grow s2
theorem Ok.resR' (ok : Ok c F H σ δ) (hm : ∀ (j : Nat) (r : R), δ'[j]? = some (some r) → r.mu = true → ∃ r0, δ[j]? = some (some r0) ∧ r0.mu = true) {r : R} {v : V} (h : resAt M H F' H' r v) : repR c F' H' σ δ' r v := by
  cases r with
  | imm d => exact h
  | own o =>
    obtain ⟨a, rfl, h1, h2, h3⟩ := h
    refine ⟨a, rfl, h1, ok.h1 h2, h3, fun i r e m => ?_⟩
    obtain ⟨r0, e0, m0⟩ := hm i r e m
    exact ok.fresh1 h2 i r0 e0 m0
  | brw o => exact h
  | nst tp ps =>
    obtain ⟨a, vs, h1, h2, h3⟩ := h
    refine ⟨a, vs, h1, h2, fun b hb => ⟨(h3 b hb).1, ok.h1 (h3 b hb).2, fun i r e m => ?_⟩⟩
    obtain ⟨r0, e0, m0⟩ := hm i r e m
    exact ok.fresh1 (h3 b hb).2 i r0 e0 m0
theorem set_mu {i : Nat} {r r' : R} (e : δ[i]? = some (some r)) (h : r.mu = true) : ∀ (j : Nat) (q : R), (δ.set i (some r'))[j]? = some (some q) → q.mu = true → ∃ r0, δ[j]? = some (some r0) ∧ r0.mu = true := fun j q e1 m => by
  rcases getElem?_set_some e1 with ⟨rfl, _, _⟩ | ⟨_, e2⟩
  · exact ⟨r, e, h⟩
  · exact ⟨q, e2, m⟩
end
def outE (r : FR) (δ : Sl) : Res R := match r with
  | .ok r _ => .ok r δ
  | .exc x _ => .exc x δ
  | .bad => .bad
def fOwn (f : Fm) (fa : FA) : FE := fun δ => (fa δ).bind fun ds δ1 => outE (f none ds) δ1
def fOwnIo (f : Fm) (i : Nat) (fa : FA) : FE := fun δ => match δ[i]? with
  | some (some r0) => if r0.mu then (fa δ).bind fun ds δ1 => match δ1[i]? with
      | some (some (.own o)) => (match f (some o) ds with
        | .ok r (some o') => .ok r (δ1.set i (some (.own o')))
        | .exc x (some o') => .exc x (δ1.set i (some (.own o')))
        | _ => .bad)
      | some (some (.brw o)) => (match f (some o) ds with
        | .ok r (some o') => .ok r (δ1.set i (some (.brw o')))
        | .exc x (some o') => .exc x (δ1.set i (some (.brw o')))
        | _ => .bad)
      | _ => .bad
    else .bad
  | _ => .bad
def fOwnT (f : Fm) (fe : FE) : FE := fun δ => (fe δ).bind fun r δ1 => match r with
  | .own o => outE (f (some o) []) δ1
  | _ => .bad
def fMake (n : Nat) (f : Fm) (fa : FA) : FE := fun δ => (fa δ).bind fun ds δ1 => match f (some (.o n [])) ds with
  | .ok (.imm .non) (some (.o n' vs)) => if n' = n then .ok (.own (.o n vs)) δ1 else .bad
  | .exc x _ => .exc x δ1
  | _ => .bad
def fMakeL (n i : Nat) (f : Fm) (fa : FA) : FE := fun δ => match δ[i]? with
  | some (some (.imm (.cls n'))) => if n' = n then fMake n f fa δ else .bad
  | _ => .bad
def fMeth (tab : Nat → Option Fm) (fo : FD) (fa : FA) : FE := fun δ => (fo δ).bind fun d δ1 => match d with
  | .obj n vs => (match tab n with
    | some f => (fa δ1).bind fun ds δ2 => outE (f none (.obj n vs :: ds)) δ2
    | none => .bad)
  | _ => .bad
section
variable {M : Gm} {c : Cn M} {W : WX} {X : Cx} {e : Expr} {es : List Expr} {fa : FA} {f : Fm}
theorem own_of {F H : Hp} {σ : St} {δ : Sl} {vs : List V} {ds : List D} {Q : VK} (ok : Ok c F H σ δ) (rs : reps M F ds vs) (post : Post c W F σ (ρR c σ) (outE (f none ds) δ) Q) : spD M f vs H Q (WE W σ) := by
  refine ⟨F, none, 0, vs, ds, rfl, ok.same, ok.tb, rs, trivial, ?_⟩
  unfold outE at post
  cases q : f none ds with
  | ok r io => rw [q] at post; exact fun v F' H' st ra _ => post v F' H' st.grow (ok.stp st) (ok.resR st ra)
  | exc x io => rw [q] at post; exact fun cls d F' H' st xa _ => post cls d F' H' st.grow (ok.stp st) xa
  | bad => rw [q] at post; exact post
theorem d_own (mk : ∀ {t : TA}, PA X es t → PE X e (tOwn W (spD M f) t)) (ha : DA M W X es fa) : DE M W X e (fOwn f fa) := by
  obtain ⟨t, p, h⟩ := ha
  exact ⟨_, mk p, fun c F H σ δ Q ok post => h c F H σ δ _ ok (Post.bind post fun ds δ1 vs F1 H1 _ s ok1 rs post => own_of ok1 rs post)⟩
theorem d_ownIo {e0 : Expr} {i : Nat} (mk : ∀ {t : TA}, PA X (e0 :: es) t → PE X e (tOwn W (spD M f) t)) (h0 : PE X e0 (tVar i)) (ha : DA M W X es fa) (hs : starEach (e0 :: es) X.env = (false, eval e0 X.env) :: starEach es X.env := by rfl) : DE M W X e (fOwnIo f i fa) := by
  obtain ⟨t, p, h⟩ := ha
  refine ⟨_, mk (pa_cons h0 p hs), fun c F H σ δ Q ok post => ?_⟩
  unfold fOwnIo at post
  split at post
  · rename_i r0 q0
    split at post
    · rename_i hm0
      obtain ⟨a, ob0, ea, _, _, _⟩ := ok.mus q0 hm0
      refine ⟨.ref a, ea, h c F H σ δ _ ok (Post.bind post fun ds δ1 vs F1 H1 _ s1 ok1 rs post => ?_)⟩
      have fin : ∀ (r r1 : R) (ob : OB) (mkr : OB → R), δ1[i]? = some (some r1) → r1 = mkr ob → (∀ o, (mkr o).mu = true) → (mkr = R.own ∨ mkr = R.brw) →
          Post c W F1 σ (ρR c σ) (match f (some ob) ds with | .ok r (some o') => .ok r (δ1.set i (some (mkr o'))) | .exc x (some o') => .exc x (δ1.set i (some (mkr o'))) | _ => .bad) Q → spD M f (V.ref a :: vs) H1 Q (WE W σ) := by
        intro r r1 ob mkr q1 e1 hm hk post
        subst e1
        obtain ⟨a', ob1, ea', hf1, hob1, hk1⟩ := ok1.mus q1 (hm ob)
        rw [ea] at ea'; cases ea'
        have eob : ob1 = ob := by
          rcases hk with rfl | rfl
          · rcases hk1 with ⟨z, _⟩ | ⟨z, _⟩ <;> cases z; rfl
          · rcases hk1 with ⟨z, _⟩ | ⟨z, _⟩ <;> cases z; rfl
        subst eob
        have rel : ∀ o', (mkr ob1 = R.own ob1 ∧ mkr o' = R.own o') ∨ (mkr ob1 = R.brw ob1 ∧ mkr o' = R.brw o') := fun o' => by
          rcases hk with rfl | rfl
          · exact .inl ⟨rfl, rfl⟩
          · exact .inr ⟨rfl, rfl⟩
        refine ⟨F1, some ob1, a, vs, ds, rfl, ok1.same, ok1.tb, rs, ⟨hf1, hob1⟩, ?_⟩
        cases q : f (some ob1) ds with
        | bad => rw [q] at post; exact post
        | ok r io =>
          rw [q] at post
          cases io with
          | none => exact post.elim
          | some o' =>
            intro v F' H' st ra ia
            exact post v F' H' st.grow (ok1.stpIo q1 (rel o') ea st ia) (ok1.resR' (set_mu q1 (hm _)) ra)
        | exc x io =>
          rw [q] at post
          cases io with
          | none => exact post.elim
          | some o' =>
            intro cls d F' H' st xa ia
            exact post cls d F' H' st.grow (ok1.stpIo q1 (rel o') ea st ia) xa
      split at post
      · rename_i o q1
        exact fin (.imm .non) _ o R.own q1 rfl (fun _ => rfl) (.inl rfl) post
      · rename_i o q1
        exact fin (.imm .non) _ o R.brw q1 rfl (fun _ => rfl) (.inr rfl) post
      · exact post.elim
    · exact post.elim
  · exact post.elim
theorem d_ownT {e0 : Expr} {fe : FE} (mk : ∀ {t : TA}, PA X [e0] t → PE X e (tOwn W (spD M f) t)) (h0 : DE M W X e0 fe) (hs : starEach (e0 :: []) X.env = (false, eval e0 X.env) :: starEach [] X.env := by rfl) : DE M W X e (fOwnT f fe) := by
  obtain ⟨t, p, h⟩ := h0
  refine ⟨_, mk (pa_cons p pa_nil hs), fun c F H σ δ Q ok post => h c F H σ δ _ ok (Post.bind post fun r δ1 v F1 H1 _ s1 ok1 rr post => ?_)⟩
  cases r with
  | imm d => exact post.elim
  | brw o => exact post.elim
  | nst _ _ => exact post.elim
  | own o =>
    obtain ⟨a, rfl, h1, h2, h3, h4⟩ := rr
    refine ⟨F1, some o, a, [], [], rfl, ok1.same, ok1.tb, reps_nil, ⟨h1, h3⟩, ?_⟩
    change Post c W F1 σ (ρR c σ) (outE (f (some o) []) δ1) Q at post
    unfold outE at post
    cases q : f (some o) [] with
    | ok r io => rw [q] at post; exact fun v F' H' st ra _ => post v F' H' st.grow (ok1.stpTmp h2 h4 st) (ok1.resR' (fun j r e m => ⟨r, e, m⟩) ra)
    | exc x io => rw [q] at post; exact fun cls d F' H' st xa _ => post cls d F' H' st.grow (ok1.stpTmp h2 h4 st) xa
    | bad => rw [q] at post; exact post
def fFld (ix : Nat → Option Nat) (fo : FD) : FD := fun δ => (fo δ).bind fun d δ1 => match d with
  | .obj n vs => (match ix n with
    | some j => (match vs[j]? with
      | some d => .ok d δ1
      | none => .bad)
    | none => .bad)
  | _ => .bad
def fProp (tab : Nat → Option Fm) (fo : FD) : FD := fun δ => (fo δ).bind fun d δ1 => match d with
  | .obj n vs => (match tab n with
    | some f => (match f none [.obj n vs] with
      | .ok (.imm d) _ => .ok d δ1
      | _ => .bad)
    | none => .bad)
  | _ => .bad
end
end
end TS

namespace TS
open PySem L2
noncomputable section
section
variable {M : Gm} {c : Cn M} {W : WX} {X : Cx}
section
variable {X : Cx} {pins : List (Addr × Obj)} {σ : St} {H : Hp} {s : Shared} {k : Nat} {C p g : Addr} {mc : Value} {sp : Sp} {o e : Expr} {es : List Expr} {m : Str} {pos apos : Pos} {ta : TE} {t : TA} {pl : Sem Bool}
end
def fCMeth (n : Nat) (f : Fm) (fa : FA) : FE := fun δ => (fa δ).bind fun ds δ1 => outE (f none (.cls n :: ds)) δ1
end
def PostS (c : Cn M) (W : WX) (F : Hp) (r : SR) (E : Ends) : Prop := match r with
  | .nx δ' => ∀ F' H' σ', Same F F' → Ok c F' H' σ' δ' → E.nx σ' H'
  | .rt r δ' => ∀ v F' H' σ', Same F F' → Ok c F' H' σ' δ' → repR c F' H' σ' δ' r v → E.rt v H'
  | .bk δ' => ∀ F' H' σ', Same F F' → Ok c F' H' σ' δ' → E.bk σ' H'
  | .ct δ' => ∀ F' H' σ', Same F F' → Ok c F' H' σ' δ' → E.ct σ' H'
  | .exc x δ' => ∀ cls d F' H' σ', Same F F' → Ok c F' H' σ' δ' → xAt M F' x cls d H' → W cls d σ' H'
  | .bad => False
def DS (M : Gm) (W : WX) (X : Cx) (s : Stmt) (g : FS) : Prop := ∃ t, PS X s t ∧ ∀ (c : Cn M) F H σ δ E, Ok c F H σ δ → PostS c W F (g δ) E → t E σ H
def DSs (M : Gm) (W : WX) (X : Cx) (s : List Stmt) (g : FS) : Prop := ∃ t, PSs X s t ∧ ∀ (c : Cn M) F H σ δ E, Ok c F H σ δ → PostS c W F (g δ) E → t E σ H
def SR.bind (m : SR) (k : Sl → SR) : SR := match m with
  | .nx δ => k δ
  | r => r
@[simp] theorem SR.bind_nx (δ : Sl) (k : Sl → SR) : (SR.nx δ).bind k = k δ := rfl
@[simp] theorem SR.bind_rt (r : R) (δ : Sl) (k : Sl → SR) : (SR.rt r δ).bind k = .rt r δ := rfl
@[simp] theorem SR.bind_exc (r : XD) (δ : Sl) (k : Sl → SR) : (SR.exc r δ).bind k = .exc r δ := rfl
section
variable {M : Gm} {c : Cn M} {W : WX} {X : Cx} {F F1 H H1 : Hp} {σ : St} {δ : Sl}
theorem PostS.shift {r : SR} {E : Ends} (h : PostS c W F r E) (g : Same F F1) : PostS c W F1 r E := by
  cases r with
  | nx δ' => exact fun F' H' σ' s => h F' H' σ' (g.trans s)
  | rt r δ' => exact fun v F' H' σ' s => h v F' H' σ' (g.trans s)
  | bk δ' => exact fun F' H' σ' s => h F' H' σ' (g.trans s)
  | ct δ' => exact fun F' H' σ' s => h F' H' σ' (g.trans s)
  | exc x δ' => exact fun cls d F' H' σ' s => h cls d F' H' σ' (g.trans s)
  | bad => exact h
theorem PostS.bind {m : SR} {k : Sl → SR} {E : Ends} {N : St → Hp → Prop} (h : PostS c W F (m.bind k) E) (f : ∀ δ1 F1 H1 σ1, m = .nx δ1 → Same F F1 → Ok c F1 H1 σ1 δ1 → PostS c W F1 (k δ1) E → N σ1 H1) : PostS c W F m { E with nx := N } := by
  cases m with
  | nx δ' => exact fun F' H' σ' s ok => f δ' F' H' σ' rfl s ok (PostS.shift h s)
  | rt r δ' => exact h
  | bk δ' => exact h
  | ct δ' => exact h
  | exc x δ' => exact h
  | bad => exact h
theorem PostS.ofE {α β : Type} {ρ : Hp → Hp → Sl → α → β → Prop} {m : Res α} {k : α → Sl → SR} {E : Ends} {T : β → Hp → Prop} (h : PostS c W F (m.bindS k) E)
    (f : ∀ a δ1 v F1 H1, m = .ok a δ1 → Same F F1 → Ok c F1 H1 σ δ1 → ρ F1 H1 δ1 a v → PostS c W F1 (k a δ1) E → T v H1) : Post c W F σ ρ m T := by
  cases m with
  | ok a δ' => exact fun v F' H' s ok r => f a δ' v F' H' rfl s ok r (PostS.shift h s)
  | exc x δ' => exact fun cls d F' H' s ok r => h cls d F' H' σ s ok r
  | bad => exact h
def sSeq (f g : FS) : FS := fun δ => (f δ).bind g
def sNil : FS := fun δ => .nx δ
theorem dss_nil : DSs M W X [] sNil := ⟨_, pss_nil, fun c F H σ δ E ok post => post F H σ (Same.refl _) ok⟩
theorem dss_cons {s : Stmt} {ss : List Stmt} {f g : FS} (h : DS M W X s f) (h' : DSs M W X ss g) : DSs M W X (s :: ss) (sSeq f g) := by
  obtain ⟨t, p, h⟩ := h
  obtain ⟨t', p', h'⟩ := h'
  exact ⟨_, pss_cons p p', fun c F H σ δ E ok post => h c F H σ δ _ ok (PostS.bind post fun δ1 F1 H1 σ1 _ s1 ok1 post => h' c F1 H1 σ1 δ1 E ok1 post)⟩
theorem dss_one {s : Stmt} {f : FS} (h : DS M W X s f) : DSs M W X [s] f := by
  obtain ⟨t, p, h⟩ := h
  exact ⟨_, pss_one p, h⟩
def sRet (f : FE) : FS := fun δ => (f δ).bindS fun r δ1 => .rt r δ1
theorem ds_ret {e : Expr} {pos : Pos} {f : FE} (h : DE M W X e f) : DS M W X (.Return (some e) pos) (sRet f) := by
  obtain ⟨t, p, h⟩ := h
  exact ⟨_, ps_ret p, fun c F H σ δ E ok post => h c F H σ δ _ ok (PostS.ofE post fun r δ1 v F1 H1 _ s ok1 rr post => post v F1 H1 σ (Same.refl _) ok1 rr)⟩
def sExpr (f : FE) : FS := fun δ => (f δ).bindS fun _ δ1 => .nx δ1
theorem ds_expr {e : Expr} {pos : Pos} {f : FE} (h : DE M W X e f) (hs : swapsWith e none pos.line X.env = pure false := by rfl) : DS M W X (.Expr e pos) (sExpr f) := by
  obtain ⟨t, p, h⟩ := h
  exact ⟨_, ps_expr p hs, fun c F H σ δ E ok post => h c F H σ δ _ ok (PostS.ofE post fun r δ1 v F1 H1 _ s ok1 rr post => post F1 H1 σ (Same.refl _) ok1)⟩
def sIf (t : FT) (f g : FS) : FS := fun δ => (t δ).bindS fun b δ1 => if b then f δ1 else g δ1
theorem ds_if {e : Expr} {ss ss' : List Stmt} {pos : Pos} {t : FT} {f g : FS} (h : DT M W X e t) (ha : DSs M W X ss f) (hb : DSs M W X ss' g) : DS M W X (.If e ss ss' pos) (sIf t f g) := by
  obtain ⟨t, p, h⟩ := h
  obtain ⟨ta, pa, ha⟩ := ha
  obtain ⟨tb, pb, hb⟩ := hb
  refine ⟨_, ps_if p pa pb, fun c F H σ δ E ok post => h c F H σ δ _ ok (PostS.ofE post fun b δ1 k F1 H1 _ s ok1 e post => ?_)⟩
  cases (show b = k from e)
  cases b with
  | true => exact ha c F1 H1 σ δ1 E ok1 post
  | false => exact hb c F1 H1 σ δ1 E ok1 post
def sNev : FS := fun _ => .bad
def DG (M : Gm) (W : WX) (X : Cx) (tg : Expr) (h : R → Sl → SR) : Prop := ∃ g, PG X tg g ∧ ∀ (c : Cn M) F H σ δ v r (Q : St → Hp → Prop), Ok c F H σ δ → repR c F H σ δ r v → PostS c W F (h r δ) ⟨Q, fun _ _ => False, fun _ _ => False, fun _ _ => False⟩ → g v σ H Q
def tName (i : Nat) : R → Sl → SR := fun r δ => match r with
  | .brw _ => .bad
  | .nst _ _ => .bad
  | r => .nx (δ.set i (some r))
theorem dg_name {tg : Expr} {i : Nat} (h : PG X tg (gName i)) : DG M W X tg (tName i) := by
  refine ⟨_, h, fun c F H σ δ v r Q ok rr post => ?_⟩
  unfold tName at post
  cases r with
  | imm d => exact post F H _ (Same.refl _) (ok.setI i rr)
  | own o => exact post F H _ (Same.refl _) (ok.setO i rr)
  | brw o => exact post.elim
  | nst _ _ => exact post.elim
def DGs (M : Gm) (W : WX) (X : Cx) (ts : List Expr) (h : List D → Sl → SR) : Prop := ∃ g, PGs X ts g ∧ ∀ (c : Cn M) F H σ δ vs ds (Q : St → Hp → Prop), Ok c F H σ δ → reps M F ds vs → PostS c W F (h ds δ) ⟨Q, fun _ _ => False, fun _ _ => False, fun _ _ => False⟩ → g vs σ H Q
def tsNil : List D → Sl → SR := fun ds δ => match ds with
  | [] => .nx δ
  | _ => .bad
def tsCons (h : R → Sl → SR) (hs : List D → Sl → SR) : List D → Sl → SR := fun ds δ => match ds with
  | d :: ds => (h (.imm d) δ).bind (hs ds)
  | [] => .bad
theorem dgs_nil : DGs M W X [] tsNil := ⟨_, pgs_nil, fun c F H σ δ vs ds Q ok rs post => by
  unfold tsNil at post
  split at post
  · unfold reps at rs
    exact ⟨rs, post F H σ (Same.refl _) ok⟩
  · exact post.elim⟩
theorem dgs_cons {e : Expr} {es : List Expr} {h : R → Sl → SR} {hs : List D → Sl → SR} (h1 : DG M W X e h) (h2 : DGs M W X es hs) (hq : (assignEach (e :: es) X.env).map (·.2) = assign e X.env :: (assignEach es X.env).map (·.2) := by rfl) : DGs M W X (e :: es) (tsCons h hs) := by
  obtain ⟨g, p, h1⟩ := h1
  obtain ⟨g', p', h2⟩ := h2
  refine ⟨_, pgs_cons p p' hq, fun c F H σ δ vs ds Q ok rs post => ?_⟩
  unfold tsCons at post
  split at post
  · rename_i d ds
    unfold reps at rs
    obtain ⟨v, r, rfl, k1, k2⟩ := rs
    exact ⟨v, r, rfl, h1 c F H σ δ v (.imm d) _ ok k1 (PostS.bind post fun δ1 F1 H1 σ1 _ s1 ok1 post => h2 c F1 H1 σ1 δ1 r ds Q ok1 (reps_mono s1 _ _ k2) post)⟩
  · exact post.elim
def tTup (n : Nat) (hs : List D → Sl → SR) : R → Sl → SR := fun r δ => match r with
  | .imm (.tup ds) => if ds.length = n then hs ds δ else .bad
  | .imm (.ktp ns) => if ns.length = n then hs (ns.map D.int) δ else .bad
  | _ => .bad
theorem dg_tup {es : List Expr} {k n : Nat} {pos : Pos} {hs : List D → Sl → SR} (hc : X.calm = true) (h : DGs M W X es hs) (hK : X.K = M.K := by rfl) (hn : (assignEach es X.env).length = n := by rfl) (hst : (assignEach es X.env).findIdx? (·.1) = none := by rfl) : DG M W X (.Tuple es k pos) (tTup n hs) := by
  obtain ⟨g, p, h⟩ := h
  refine ⟨_, pg_tup hc p hn hst, fun c F H σ δ v r Q ok rr post => ?_⟩
  unfold tTup at post
  split at post
  · split at post
    · rename_i ds hl
      have z : rep M F (.tup ds) v := rr
      unfold rep at z
      obtain ⟨a, vs, rfl, h2, h3⟩ := z
      exact ⟨a, vs, rfl, by rw [hK]; exact SqT.of (ok.same _ _ h2), by rw [reps_length h3]; exact hl, h c F H σ δ vs ds Q ok h3 post⟩
    · exact post.elim
  · split at post
    · rename_i ns hl
      have z : rep M F (.ktp ns) v := rr
      unfold rep at z
      obtain ⟨a, rfl, h2⟩ := z
      exact ⟨a, _, rfl, by rw [hK]; exact itup_sq ok.same h2, by rw [List.length_map]; exact hl, h c F H σ δ _ _ Q ok (reps_kt ns) post⟩
    · exact post.elim
  · exact post.elim
def rSetAll : V → V → V → Hp → (Hp → Prop) → Prop := fun o i v H Q => rSetL o i v H Q ∨ ∃ a H', o = .ref a ∧ DPut H a i v H' ∧ Q H'
theorem set_all (hu : X.A.units + 1 < cLine) : PSet X rSetAll := by
  intro pins s σ H o i v ov iv u Q I ro ri rv h
  rcases h with h | ⟨a, H', rfl, g, q⟩
  · exact set_list pins s σ H o i v ov iv u Q I ro ri rv h
  · obtain rfl : ov = Value.ref a := ro
    exact d_setItem hu I g ri rv fun s4 I4 => ⟨H', I4, q⟩
def repD {κ : Type} [DecidableEq κ] (k : κ) (d : D) : List κ → List D → List D
  | k' :: ks, d' :: ds => (if k' = k then d else d') :: repD k d ks ds
  | _, ds => ds
def putD {κ : Type} [DecidableEq κ] (ks : List κ) (ds : List D) (k : κ) (d : D) : List κ × List D := if (ks.any fun k' => decide (k' = k)) = true then (ks, repD k d ks ds) else (ks ++ [k], ds ++ [d])
theorem putD_v {M : Gm} {F : Hp} {κ : Type} [DecidableEq κ] {v : V} {d : D} (hv : rep M F d v) (k : κ) {kvs : List (κ × V)} {ds : List D} (h : reps M F ds (kvs.map (·.2))) : (putK kvs k v).map (·.1) = (putD (kvs.map (·.1)) ds k d).1 ∧ reps M F (putD (kvs.map (·.1)) ds k d).2 ((putK kvs k v).map (·.2)) := by
  unfold putK putD
  have e : ((kvs.map (·.1)).any fun k' => decide (k' = k)) = kvs.any fun kv => decide (kv.1 = k) := by rw [List.any_map]; rfl
  rw [e]
  by_cases hc : (kvs.any fun kv => decide (kv.1 = k)) = true
  · rw [if_pos hc, if_pos hc]
    clear hc e
    constructor
    · rw [List.map_map]
      refine List.map_congr_left fun p _ => ?_
      simp only [Function.comp]
      split <;> rfl
    · show reps M F (repD k d (kvs.map (·.1)) ds) _
      induction kvs generalizing ds with
      | nil =>
        unfold reps at h
        cases ds with
        | nil => simp [repD, reps]
        | cons d' ds => obtain ⟨_, _, z, _⟩ := h; cases z
      | cons p r ih =>
        cases ds with
        | nil => unfold reps at h; cases h
        | cons d' ds =>
          rw [List.map_cons, reps_cons_iff] at h
          simp only [List.map_cons, repD]
          refine reps_cons ?_ (ih h.2)
          by_cases z : p.1 = k
          · rw [if_pos z, if_pos z]; exact hv
          · rw [if_neg z, if_neg z]; exact h.1
  · rw [if_neg hc, if_neg hc]
    exact ⟨by simp, by rw [List.map_append]; exact reps_append h (reps_cons hv reps_nil)⟩
def setOB : OB → D → D → Option OB
  | .l ds, .int i, d => (ixN ds.length i).map fun j => .l (ds.set j d)
  | .dK ks ds, k, d => (keyOf k).bind fun k => if ds.length < 16777216 then some (.dK (putD ks ds k d).1 (putD ks ds k d).2) else none
  | .dT ks ds, .tup kds, d => (keysOf kds).bind fun k => if ds.length < 16777216 then some (.dT (putD ks ds k d).1 (putD ks ds k d).2) else none
  | _, _, _ => none
def tSub (x : Nat) (fi : FD) : R → Sl → SR := fun r δ => match r with
  | .imm d => (match δ[x]? with
    | some (some r0) => if r0.mu then (fi δ).bindS fun i δ1 => match δ1[x]? with
      | some (some (.own o)) => (match setOB o i d with
        | some o' => .nx (δ1.set x (some (.own o')))
        | none => .bad)
      | some (some (.brw o)) => (match setOB o i d with
        | some o' => .nx (δ1.set x (some (.brw o')))
        | none => .bad)
      | _ => .bad
      else .bad
    | _ => .bad)
  | _ => .bad
theorem setOB_ok {F H : Hp} {ob ob' : OB} {a : Addr} {vi vd : V} {di d : D} {Q : Hp → Prop} (s : Same F H) (hob : obAt M F H ob a) (ri : rep M F di vi) (rd : rep M F d vd) (e : setOB ob di d = some ob') (q : ∀ o, obAt M F (upd H a o) ob' a → Q (upd H a o)) : rSetAll (.ref a) vi vd H Q := by
  unfold setOB at e
  split at e
  · rename_i ds i
    obtain ⟨j, e1, rfl⟩ := Option.map_eq_some_iff.mp e
    obtain ⟨vs, h1, h2⟩ := hob
    unfold rep at ri
    refine .inl ⟨a, vs, i, j, rfl, ri, h1, by rw [reps_length h2]; exact e1, q _ ⟨_, upd_same, reps_set j h2 rd⟩⟩
  · rename_i ks ds k
    obtain ⟨kk, e1, e2⟩ := Option.bind_eq_some_iff.mp e
    split at e2
    · rename_i hl
      cases e2
      obtain ⟨kvs, h1, h2, h3⟩ := hob
      subst h2
      obtain ⟨p1, p2⟩ := putD_v rd kk h3
      have ek := keyOf_v (M := M) (H := H) (.inl ri) e1
      subst ek
      refine .inr ⟨a, _, rfl, DPut.k h1 ?_, q _ ⟨_, upd_same, p1, p2⟩⟩
      have z := reps_length h3
      rw [List.length_map] at z
      rw [z, sizeLine_eq]; exact hl
    · cases e2
  · rename_i ks ds kds
    obtain ⟨kk, e1, e2⟩ := Option.bind_eq_some_iff.mp e
    split at e2
    · rename_i hl
      cases e2
      obtain ⟨kvs, h1, h2, h3⟩ := hob
      subst h2
      obtain ⟨p1, p2⟩ := putD_v rd kk h3
      obtain ⟨b, rfl, hb⟩ := prep_tupK s (.inl ri) e1
      refine .inr ⟨a, _, rfl, DPut.t h1 hb ?_, q _ ⟨_, upd_same, p1, p2⟩⟩
      have z := reps_length h3
      rw [List.length_map] at z
      rw [z, sizeLine_eq]; exact hl
    · cases e2
  · cases e
theorem dg_sub {o ie : Expr} {x : Nat} {pos : Pos} {fi : FD} (ho : PE X o (tVar x)) (hi : DI M W X ie fi) (hu : X.A.units + 1 < cLine)
    (ha : ∀ v, assign (.Subscript o ie pos) X.env v = (do
      let ov ← holding [v] (eval o X.env)
      let iv ← holding [v, ov] (eval ie X.env)
      standAt pos
      holding [v, ov, iv] (setItem ov iv v)
      release [v, ov, iv] []) := by intro _; rfl) : DG M W X (.Subscript o ie pos) (tSub x fi) := by
  obtain ⟨ti, pi, hi⟩ := hi
  refine ⟨_, pg_sub ho pi (set_all hu) ha, fun c F H σ δ v r Q ok rr post => ?_⟩
  unfold tSub at post
  cases r with
  | own o => exact post.elim
  | brw o => exact post.elim
  | nst _ _ => exact post.elim
  | imm d =>
    simp only at post
    split at post
    · rename_i r0 q0
      split at post
      · rename_i hm
        obtain ⟨a, ob0, ea, _, _, _⟩ := ok.mus q0 hm
        refine ⟨.ref a, ea, hi c F H σ δ _ ok (PostS.ofE post fun di δ1 vi F1 H1 _ s1 ok1 ri post => ?_)⟩
        split at post
        · rename_i ob q1
          split at post
          · rename_i ob' e1
            obtain ⟨a', ob1, ea', hf, hob, hk⟩ := ok1.mus q1 rfl
            rw [ea] at ea'; cases ea'
            rcases hk with ⟨z, _⟩ | ⟨z, _⟩ <;> cases z
            refine setOB_ok ok1.same hob ri (rep_mono s1 _ _ rr) e1 fun o' hob' => post F1 _ σ (Same.refl _) (ok1.write q1 (.inl ⟨rfl, rfl⟩) ea hob')
          · exact post.elim
        · rename_i ob q1
          split at post
          · rename_i ob' e1
            obtain ⟨a', ob1, ea', hf, hob, hk⟩ := ok1.mus q1 rfl
            rw [ea] at ea'; cases ea'
            rcases hk with ⟨z, _⟩ | ⟨z, _⟩ <;> cases z
            refine setOB_ok ok1.same hob ri (rep_mono s1 _ _ rr) e1 fun o' hob' => post F1 _ σ (Same.refl _) (ok1.write q1 (.inr ⟨rfl, rfl⟩) ea hob')
          · exact post.elim
        · exact post.elim
      · exact post.elim
    · exact post.elim
def sAsg (f : FE) (h : R → Sl → SR) : FS := fun δ => (f δ).bindS h
theorem asg_of {t : TE} {g : TG} {f : FE} {h : R → Sl → SR} (he : RE M W t f) (hg : ∀ (c : Cn M) F H σ δ v r (Q : St → Hp → Prop), Ok c F H σ δ → repR c F H σ δ r v → PostS c W F (h r δ) ⟨Q, fun _ _ => False, fun _ _ => False, fun _ _ => False⟩ → g v σ H Q)
    (hn : ∀ r δ, (∃ δ', h r δ = .nx δ') ∨ (∃ x δ', h r δ = .exc x δ') ∨ h r δ = .bad) : ∀ (c : Cn M) F H σ δ E, Ok c F H σ δ → PostS c W F (sAsg f h δ) E → tAsg t g E σ H := fun c F H σ δ E ok post =>
  he c F H σ δ _ ok (PostS.ofE post fun r δ1 v F1 H1 _ s ok1 rr post => hg c F1 H1 σ δ1 v r _ ok1 rr (by
    rcases hn r δ1 with ⟨δ', e⟩ | ⟨x, δ', e⟩ | e
    · rw [e] at post ⊢; exact post
    · rw [e] at post ⊢; exact post
    · rw [e] at post ⊢; exact post))
def Tgt (h : R → Sl → SR) : Prop := ∀ r δ, (∃ δ', h r δ = .nx δ') ∨ (∃ x δ', h r δ = .exc x δ') ∨ h r δ = .bad
def Tgs (h : List D → Sl → SR) : Prop := ∀ r δ, (∃ δ', h r δ = .nx δ') ∨ (∃ x δ', h r δ = .exc x δ') ∨ h r δ = .bad
theorem tgt_name (i : Nat) : Tgt (tName i) := fun r δ => by
  unfold tName
  cases r with
  | imm d => exact .inl ⟨_, rfl⟩
  | own d => exact .inl ⟨_, rfl⟩
  | brw d => exact .inr (.inr rfl)
  | nst _ _ => exact .inr (.inr rfl)
theorem tgs_nil : Tgs tsNil := fun r δ => by
  unfold tsNil
  cases r with
  | nil => exact .inl ⟨_, rfl⟩
  | cons d ds => exact .inr (.inr rfl)
theorem tgs_cons {h : R → Sl → SR} {hs : List D → Sl → SR} (h1 : Tgt h) (h2 : Tgs hs) : Tgs (tsCons h hs) := fun r δ => by
  unfold tsCons
  cases r with
  | nil => exact .inr (.inr rfl)
  | cons d ds =>
    simp only
    rcases h1 (.imm d) δ with ⟨δ', e⟩ | ⟨x, δ', e⟩ | e
    · rw [e]; exact h2 ds δ'
    · rw [e]; exact .inr (.inl ⟨x, δ', rfl⟩)
    · rw [e]; exact .inr (.inr rfl)
theorem tgt_tup {n : Nat} {hs : List D → Sl → SR} (h : Tgs hs) : Tgt (tTup n hs) := fun r δ => by
  unfold tTup
  split
  · split
    · exact h _ _
    · exact .inr (.inr rfl)
  · split
    · exact h _ _
    · exact .inr (.inr rfl)
  · exact .inr (.inr rfl)
theorem tgt_sub {x : Nat} {fi : FD} : Tgt (tSub x fi) := fun r δ => by
  unfold tSub
  split
  · split
    · split
      · cases fi δ with
        | bad => exact .inr (.inr rfl)
        | exc x δ' => exact .inr (.inl ⟨x, δ', rfl⟩)
        | ok d δ1 =>
          simp only [Res.bindS_ok]
          split
          · split
            · exact .inl ⟨_, rfl⟩
            · exact .inr (.inr rfl)
          · split
            · exact .inl ⟨_, rfl⟩
            · exact .inr (.inr rfl)
          · exact .inr (.inr rfl)
      · exact .inr (.inr rfl)
    · exact .inr (.inr rfl)
  · exact .inr (.inr rfl)
theorem ds_asg {tg e : Expr} {pos : Pos} {f : FE} {h : R → Sl → SR} (he : DE M W X e f) (hg : DG M W X tg h) (hn : Tgt h) (hs : swapsWithSole [tg] e pos.line X.env = pure false := by rfl) (hw : swappedStores [tg] e X.env = pure none := by rfl)
    (h1 : (assignEach [tg] X.env).map (·.2) = [assign tg X.env] := by rfl) : DS M W X (.Assign [tg] e pos) (sAsg f h) := by
  obtain ⟨t, p, he⟩ := he
  obtain ⟨g, pg, hg⟩ := hg
  exact ⟨_, ps_asg p pg hs hw h1, asg_of he hg hn⟩
theorem ds_set {i : Nat} {x : Str} {e : Expr} {pos pos' : Pos} {f : FE} (hN : X.N.Nodup) (hi : X.N[i]? = some x) (hx : Loc X.env.scope x) (he : DE M W X e f) (hs : swapsWith e (some (.Name x pos')) pos.line X.env = pure false := by rfl) (hf : X.fn x = true ∨ X.env.scope.names.lookup x = some .local := by first | exact .inl rfl | exact .inr rfl | assumption) :
    DS M W X (.Assign [.Name x pos'] e pos) (sAsg f (tName i)) := by
  obtain ⟨t, p, he⟩ := he
  refine ⟨_, ps_set hN hi hx p hs hf, asg_of he (fun c F H σ δ v r Q ok rr post => ?_) (tgt_name i)⟩
  unfold tName at post
  cases r with
  | imm d => exact post F H _ (Same.refl _) (ok.setI i rr)
  | own o => exact post F H _ (Same.refl _) (ok.setO i rr)
  | brw o => exact post.elim
  | nst _ _ => exact post.elim
def Cn.guard (c : Cn M) (a : Addr) (o : HO) (hn : NT o) : Cn M := ⟨c.F0, fun b => if b = a then some o else c.H0 b, c.io, fun b h => by
  by_cases e : b = a
  · simp [e]
  · simp only [if_neg e]; exact c.iob b h, fun b u h => by
  by_cases e : b = a
  · simp only [if_pos e] at h; cases h; exact hn
  · simp only [if_neg e] at h; exact c.nt b u h, c.nd, fun z hz b hb => by
  obtain ⟨h1, h2, h3⟩ := c.ndh z hz b hb
  refine ⟨?_, h2, h3⟩
  by_cases e : b = a
  · simp [e]
  · simp only [if_neg e]; exact h1⟩
theorem Ok.guard {a : Addr} {o : HO} (ok : Ok c F H σ δ) (hF : F a = none) (h0 : c.H0 a = none) (ho : H a = some o) (hn : NT o) (hns : ∀ (i : Nat) (r : R), δ[i]? = some (some r) → r.mu = true → σ[i]? ≠ some (some (V.ref a))) : Ok (c.guard a o hn) F H σ δ := by
  have hio : c.io ≠ some a := fun z => c.iob a z h0
  have g0 : ∀ b, b ≠ a → (c.guard a o hn).H0 b = c.H0 b := fun b hb => if_neg hb
  refine ⟨ok.same, ok.grow, fun b e1 e2 => ?_, fun b u e1 e2 => ?_, ok.ioh, ok.tb, ok.len, fun i r e => ?_, ok.dist⟩
  · by_cases z : b = a
    · rw [z]; exact hF
    · rw [g0 b z] at e1; exact ok.nofz b e1 e2
  · by_cases z : b = a
    · subst z
      have : (c.guard b o hn).H0 b = some o := if_pos rfl
      rw [this] at e1; cases e1
      exact ho
    · rw [g0 b z] at e1; exact ok.kept b u e1 e2
  · obtain ⟨v, e1, e2⟩ := ok.slot i r e
    refine ⟨v, e1, ?_⟩
    cases r with
    | imm d => exact e2
    | own ob =>
      obtain ⟨b, rfl, k1, k2, k3⟩ := e2
      have z : b ≠ a := fun z => hns i _ e rfl (by rw [e1, z])
      exact ⟨b, rfl, k1, by rw [g0 b z]; exact k2, k3⟩
    | brw ob => exact e2
    | nst tp ps =>
      obtain ⟨b, vs, h1, h2, h3⟩ := e2
      exact ⟨b, vs, h1, h2, h3.mono (Same.refl _) fun b' hb => g0 b' fun z => (c.ndh _ h2 b' hb).1 (z ▸ h0)⟩
theorem Ok.unguard {a : Addr} {o : HO} {hn : NT o} (ok : Ok (c.guard a o hn) F H σ δ) (h0 : c.H0 a = none) : Ok c F H σ δ ∧ (c.F0 a = none → F a = none) ∧ H a = some o ∧ (∀ (i : Nat) (r : R), δ[i]? = some (some r) → r.mu = true → σ[i]? ≠ some (some (V.ref a))) := by
  have hio : c.io ≠ some a := fun z => c.iob a z h0
  have g0 : ∀ b, b ≠ a → (c.guard a o hn).H0 b = c.H0 b := fun b hb => if_neg hb
  have ga : (c.guard a o hn).H0 a = some o := if_pos rfl
  have ne : ∀ b, c.H0 b ≠ none → b ≠ a := fun b h z => h (z ▸ h0)
  refine ⟨⟨ok.same, ok.grow, fun b e1 e2 => ok.nofz b (by rw [g0 b (ne b e1)]; exact e1) e2, fun b u e1 e2 => ok.kept b u (by rw [g0 b (ne b (by rw [e1]; exact fun z => by cases z))]; exact e1) e2, ok.ioh, ok.tb, ok.len, fun i r e => ?_, ok.dist⟩, fun hF => ok.nofz a (by rw [ga]; exact fun z => by cases z) hF, ok.kept a o ga hio, fun i r e m z => ?_⟩
  · obtain ⟨v, e1, e2⟩ := ok.slot i r e
    refine ⟨v, e1, ?_⟩
    cases r with
    | imm d => exact e2
    | own ob =>
      obtain ⟨b, rfl, k1, k2, k3⟩ := e2
      have z : b ≠ a := fun z => by rw [z, ga] at k2; cases k2
      exact ⟨b, rfl, k1, by rw [← g0 b z]; exact k2, k3⟩
    | brw ob => exact e2
    | nst tp ps =>
      obtain ⟨b, vs, h1, h2, h3⟩ := e2
      exact ⟨b, vs, h1, h2, h3.mono (Same.refl _) fun b' hb => (g0 b' fun z => (c.ndh _ h2 b' hb).1 (z ▸ h0)).symm⟩
  · obtain ⟨b, ob, e1, e2, e3, e4⟩ := ok.mus e m
    rw [e1] at z; cases z
    rcases e4 with ⟨_, k⟩ | ⟨_, k⟩
    · rw [ga] at k; cases k
    · exact hio k
def sPar (i j : Nat) (f g : FE) : FS := fun δ => (f δ).bindS fun r δ1 => match r with
  | .brw _ => .bad
  | .nst _ _ => .bad
  | r => (g δ1).bindS fun r' δ2 => match r' with
    | .brw _ => .bad
    | .nst _ _ => .bad
    | r' => .nx ((δ2.set i (some r)).set j (some r'))
theorem repR_setI {d : D} {v w : V} {r : R} {i : Nat} (h : repR c F H σ δ r w) : repR c F H (σ.set i (some v)) (δ.set i (some (.imm d))) r w := by
  have key : ∀ a : Addr, (∀ (k : Nat) (r : R), δ[k]? = some (some r) → r.mu = true → σ[k]? ≠ some (some (V.ref a))) → ∀ (k : Nat) (r : R), (δ.set i (some (.imm d)))[k]? = some (some r) → r.mu = true → (σ.set i (some v))[k]? ≠ some (some (V.ref a)) := fun a h4 k r e m => by
    rcases getElem?_set_some e with ⟨_, z, _⟩ | ⟨hn, e⟩
    · cases z; cases m
    · rw [List.getElem?_set_ne hn]; exact h4 k r e m
  cases r with
  | imm d' => exact h
  | brw o => exact h
  | own o =>
    obtain ⟨a, rfl, h1, h2, h3, h4⟩ := h
    exact ⟨a, rfl, h1, h2, h3, key a h4⟩
  | nst tp ps =>
    obtain ⟨a, vs, h1, h2, h3⟩ := h
    exact ⟨a, vs, h1, h2, fun b hb => ⟨(h3 b hb).1, (h3 b hb).2.1, key b (h3 b hb).2.2⟩⟩
theorem ds_par {i j : Nat} {x y : Str} {a b : Expr} {f g : FE} {px py pt pos : Pos} {kt k2 pt2} (hc : X.calm = true) (hN : X.N.Nodup) (hi : X.N[i]? = some x) (hj : X.N[j]? = some y) (hij : i ≠ j)
    (hx : X.env.scope.names.lookup x = some .local) (hy : X.env.scope.names.lookup y = some .local) (ha : DE M W X a f) (hb : DE M W X b g)
    (hw : swappedStores [.Tuple [.Name x px, .Name y py] kt pt] (.Tuple [a, b] k2 pt2) X.env = pure (some [x, y]))
    (hs : swapsWithSole [.Tuple [.Name x px, .Name y py] kt pt] (.Tuple [a, b] k2 pt2) pos.line X.env = pure false := by rfl)
    (h1 : starEach (a :: [b]) X.env = (false, eval a X.env) :: starEach [b] X.env := by rfl) (h2 : starEach (b :: []) X.env = (false, eval b X.env) :: starEach [] X.env := by rfl) :
    DS M W X (.Assign [.Tuple [.Name x px, .Name y py] kt pt] (.Tuple [a, b] k2 pt2) pos) (sPar i j f g) := by
  obtain ⟨t, p, ha⟩ := ha
  obtain ⟨t', p', hb⟩ := hb
  refine ⟨_, ps_par hc hN hi hj hij hx hy (pa_cons p (pa_cons p' pa_nil h2) h1) hw hs, fun c F H σ δ E ok post => ha c F H σ δ _ ok (PostS.ofE post fun r δ1 v F1 H1 _ s1 ok1 rr post => ?_)⟩
  cases r with
  | brw o => exact post.elim
  | nst _ _ => exact post.elim
  | imm d =>
    refine hb c F1 H1 σ δ1 _ ok1 (PostS.ofE post fun r' δ2 w F2 H2 _ s2 ok2 rr' post => ⟨v, w, rfl, ?_⟩)
    have rv : rep M F2 d v := rep_mono s2 _ _ rr
    cases r' with
    | brw o => exact post.elim
    | nst _ _ => exact post.elim
    | imm d' => exact post F2 H2 _ (Same.refl _) ((ok2.setI i rv).setI j rr')
    | own o' => exact post F2 H2 _ (Same.refl _) ((ok2.setI i rv).setO j (repR_setI rr'))
  | own o =>
    obtain ⟨a, rfl, k1, k2, k3, k4⟩ := rr
    obtain ⟨u, hu, hn⟩ := obAt_nt k3
    have okg := ok1.guard k1 k2 hu hn k4
    have f0 : c.F0 a = none := by
      cases z : c.F0 a with
      | none => rfl
      | some q => rw [ok1.grow a q z] at k1; cases k1
    have un : ∀ {F2 H2 : Hp} {δ2 : Sl}, Same F1 F2 → Ok (c.guard a u hn) F2 H2 σ δ2 → Ok c F2 H2 σ δ2 ∧ repR c F2 H2 σ δ2 (.own o) (.ref a) := fun {F2 H2 δ2} g ok2 => by
      obtain ⟨q1, q2, q3, q4⟩ := ok2.unguard k2
      exact ⟨q1, a, rfl, q2 f0, k2, obAt_mono g (q3.trans hu.symm) k3, q4⟩
    refine hb (c.guard a u hn) F1 H1 σ δ1 _ okg ?_
    cases q : g δ1 with
    | bad => rw [q] at post; exact post
    | exc x δ2 => rw [q] at post; exact fun cls d F2 H2 g ok2 xa => post cls d F2 H2 σ g (un g ok2).1 xa
    | ok r' δ2 =>
      rw [q] at post
      intro w F2 H2 s2 ok2 rr'
      refine ⟨.ref a, w, rfl, ?_⟩
      obtain ⟨ok3, ro⟩ := un s2 ok2
      cases r' with
      | brw o => exact post.elim
      | nst _ _ => exact post.elim
      | imm d' => exact post F2 H2 _ s2 ((ok3.setO i ro).setI j rr')
      | own o' =>
        obtain ⟨b, rfl, l1, l2, l3, l4⟩ := rr'
        have hba : b ≠ a := fun z => by
          have : (c.guard a u hn).H0 a = some u := if_pos rfl
          rw [z, this] at l2; cases l2
        have l2' : c.H0 b = none := by
          have : (c.guard a u hn).H0 b = c.H0 b := if_neg hba
          rw [← this]; exact l2
        refine post F2 H2 _ s2 ((ok3.setO i ro).setO j ⟨b, rfl, l1, l2', l3, fun k r e m => ?_⟩)
        rcases getElem?_set_some e with ⟨rfl, z, hl⟩ | ⟨hn, e⟩
        · rw [List.getElem?_set_self (by rw [ok3.len]; exact hl)]
          intro z; cases z; exact hba rfl
        · rw [List.getElem?_set_ne hn]; exact l4 k r e m
end
end
end TS

namespace TS
open PySem L2
noncomputable section
def ovH (F fr : Hp) : Hp := fun b => match F b with
  | some o => some o
  | none => fr b
def Yl (M : Gm) (F H : Hp) (x : V) (H' : Hp) (d : D) : Prop := ∃ fr : Hp, (∀ b o, fr b = some o → (∃ ws, o = HO.tup ws) ∧ H' b = some o) ∧ Same H H' ∧ rep M (ovH F fr) d x
theorem ovH_grow {F fr : Hp} : Same F (ovH F fr) := fun b o e => by unfold ovH; rw [e]
theorem Yl.same {M : Gm} {F H : Hp} {x : V} {H' : Hp} {d : D} (e : H' = H) (r : rep M F d x) : Yl M F H x H' d :=
  ⟨fun _ => none, (fun _ _ z => by cases z), by rw [e]; exact Same.refl _, rep_mono ovH_grow _ _ r⟩
theorem Yl.new {M : Gm} {F H : Hp} {x : V} {H' : Hp} {d : D} (s : Same F H) {p : Addr} {ws : List V} {es : List D} (k1 : H p = none) (k2 : x = V.ref p) (k3 : H' = upd H p (.tup ws)) (k4 : d = .tup es) (r : reps M F es ws) : Yl M F H x H' d := by
  subst k2 k3 k4
  refine ⟨fun b => if b = p then some (.tup ws) else none, fun b o e => ?_, fun b o e => by rw [upd_ne (ne_of_none e k1)]; exact e, ?_⟩
  · dsimp only at e
    by_cases z : b = p
    · subst z; rw [if_pos rfl] at e; cases e; exact ⟨⟨_, rfl⟩, upd_same⟩
    · rw [if_neg z] at e; cases e
  · unfold rep
    refine ⟨p, ws, rfl, ?_, reps_mono ovH_grow _ _ r⟩
    unfold ovH
    rw [s.free k1]
    simp
theorem Yl.stp {M : Gm} {F F2 H : Hp} {x : V} {H' : Hp} {d : D} (y : Yl M F H x H' d) (g : Same F F2) (s : Same F2 H) (tb : Tb M F2 H) : ∃ F3, Stp M F2 H F3 H' none ∧ rep M F3 d x := by
  obtain ⟨fr, h1, h2, h3⟩ := y
  have sm : Same (ovH F2 fr) H' := fun b o e => by
    unfold ovH at e
    split at e
    · rename_i o' e'; cases e; exact h2 _ _ (s _ _ e')
    · exact (h1 b o e).2
  refine ⟨ovH F2 fr, ⟨ovH_grow, fun b o e n z => ?_, fun b o e n _ => h2 b o e, sm, ?_⟩, rep_mono (fun b o e => ?_) _ _ h3⟩
  · unfold ovH
    rw [z]
    cases q : fr b with
    | none => rfl
    | some o' =>
      obtain ⟨⟨ws, rfl⟩, q2⟩ := h1 b o' q
      rw [h2 b o e] at q2; cases q2; cases n
  · refine (tb.keep (fun b o e _ => h2 b o e) (fun b o e n z => z) tb.nt).keep (fun b o e _ => e) (fun b o e n z => ?_) fun b ps e => ?_
    · unfold ovH
      rw [z]
      cases q : fr b with
      | none => rfl
      | some o' =>
        obtain ⟨⟨ws, rfl⟩, q2⟩ := h1 b o' q
        rw [e] at q2; cases q2; exact absurd rfl n
    · unfold ovH at e
      split at e
      · rename_i o' e'; cases e; exact tb.nt b ps e'
      · obtain ⟨⟨ws, z⟩, _⟩ := h1 b _ e; cases z
  · unfold ovH at e ⊢
    split at e
    · rename_i o' e'; cases e; rw [g _ _ e']
    · cases q : F2 b with
      | none => exact e
      | some o2 =>
        have := h2 _ _ (s _ _ q)
        rw [(h1 b o e).2] at this
        cases this; rfl
def Walks (M : Gm) (J : It) (F : Hp) (ds : List D) : Prop := ∀ (i : Nat) (H : Hp), Same F H →
  (∀ d, ds[i]? = some d → J.go i H ∧ ∀ x H', J.yld i H x H' → Yl M F H x H' d) ∧ (ds[i]? = none → J.stop i H)
abbrev ρI (M : Gm) : Hp → Hp → Sl → List D → It → Prop := fun F _ _ ds J => Walks M J F ds
def DIt (M : Gm) (W : WX) (X : Cx) (tg e : Expr) (f : FA) : Prop := ∃ wi, PI X tg e wi ∧ ∀ (c : Cn M) F H σ δ (Q : It → Hp → Prop), Ok c F H σ δ → Post c W F σ (ρI M) (f δ) Q → wi σ H Q
section
variable {M : Gm} {c : Cn M} {W : WX} {X : Cx} {tg e : Expr} {F F1 H H1 : Hp} {σ : St} {δ : Sl}
theorem walks_list {a : Addr} {vs : List V} {ds : List D} (hK : X.K = M.K) (hF : F a = some (.lst vs)) (r : reps M F ds vs) : Walks M (Itl X.K a) F ds := fun i H s => by
  have hq : SqL X.K H a vs := SqL.of (s _ _ hF)
  refine ⟨fun d hd => ?_, fun hn => ⟨vs, hq, by rw [reps_length r]; exact List.getElem?_eq_none_iff.mp hn⟩⟩
  obtain ⟨v, e1, e2⟩ := reps_get r hd
  refine ⟨⟨vs, v, hq, e1⟩, fun x H' y => Yl.same y.1 ?_⟩
  have := y.2 vs hq
  rw [e1] at this; cases this
  exact e2
theorem rgD_get {lo : Int} {n i : Nat} : ((List.range n).map fun i => D.int (lo + (i : Nat)))[i]? = if i < n then some (.int (lo + (i : Nat))) else none := by
  rw [List.getElem?_map]
  by_cases h : i < n
  · rw [if_pos h, List.getElem?_range h]; rfl
  · rw [if_neg h, List.getElem?_eq_none (by simpa using h)]; rfl
theorem walks_range (lo : Int) (n : Nat) : Walks M (Itr lo n) F ((List.range n).map fun i => D.int (lo + (i : Nat))) := fun i H s => by
  rw [rgD_get]
  refine ⟨fun d hd => ?_, fun hn => ?_⟩
  · by_cases h : i < n
    · rw [if_pos h] at hd
      cases hd
      refine ⟨h, fun x H' y => Yl.same y.1 ?_⟩
      rw [y.2]; exact rep_int' _
    · rw [if_neg h] at hd; cases hd
  · by_cases h : i < n
    · rw [if_pos h] at hn; cases hn
    · exact Nat.le_of_not_lt h
def enumD (k : Nat) : List D → List D
  | [] => []
  | d :: ds => .tup [.int k, d] :: enumD (k + 1) ds
theorem enumD_get : ∀ (ds : List D) (k i : Nat), (enumD k ds)[i]? = (ds[i]?).map fun d => .tup [.int ((k + i : Nat) : Int), d]
  | [], k, i => by simp [enumD]
  | d :: ds, k, 0 => by simp [enumD]
  | d :: ds, k, i + 1 => by
    simp only [enumD, List.getElem?_cons_succ]
    rw [enumD_get ds (k + 1) i]
    have : k + 1 + i = k + (i + 1) := by omega
    rw [this]
theorem walks_enum {a : Addr} {vs : List V} {ds : List D} (hK : X.K = M.K) (hF : F a = some (.lst vs)) (r : reps M F ds vs) : Walks M (Ite X.K a) F (enumD 0 ds) := fun i H s => by
  have hq : SqL X.K H a vs := SqL.of (s _ _ hF)
  rw [enumD_get]
  refine ⟨fun d hd => ?_, fun hn => ⟨vs, hq, ?_⟩⟩
  · obtain ⟨d0, hd0, rfl⟩ := Option.map_eq_some_iff.mp hd
    obtain ⟨v, e1, e2⟩ := reps_get r hd0
    refine ⟨⟨vs, v, hq, e1⟩, fun x H' y => ?_⟩
    obtain ⟨T, x0, k1, k2, k3, k4⟩ := y
    have := k4 vs hq
    rw [e1] at this; cases this
    exact Yl.new s k2 k1 k3 rfl (reps_cons (by rw [Nat.zero_add]; exact rep_int' _) (reps_cons e2 reps_nil))
  · rw [reps_length r]
    exact List.getElem?_eq_none_iff.mp (by simpa using hn)
def zipD : List D → List D → List D
  | a :: as, b :: bs => .tup [a, b] :: zipD as bs
  | _, _ => []
def itSeq (f : FD) : FA := fun δ => (f δ).bind fun d δ => match d with
  | .lst ds => .ok ds δ
  | _ => .bad
def itTup (f : FD) : FA := fun δ => (f δ).bind fun d δ => match d with
  | .tup ds => .ok ds δ
  | .ktp ns => .ok (ns.map D.int) δ
  | _ => .bad
def itRg1 (f : FD) : FA := fun δ => (f δ).bind fun d δ => match d with
  | .int n => if gd (-4611686018427387904 ≤ n ∧ n < 4611686018427387904) then .ok (rgD 0 n) δ else .bad
  | _ => .bad
def itEnum (f : FD) : FA := fun δ => (f δ).bind fun d δ => match d with
  | .lst ds => .ok (enumD 0 ds) δ
  | _ => .bad
theorem dit_list {f : FD} (h : DI M W X e f) (hK : X.K = M.K := by rfl) : DIt M W X tg e (itSeq f) := by
  obtain ⟨t, p, h⟩ := h
  refine ⟨_, pi_list p, fun c F H σ δ Q ok post => h c F H σ δ _ ok (Post.bind post fun d δ1 v F1 H1 _ s1 ok1 r post => ?_)⟩
  split at post
  · unfold ρD rep at r
    obtain ⟨a, vs, rfl, h2, h3⟩ := r
    exact ⟨a, rfl, ⟨vs, SqL.of (ok1.same _ _ h2)⟩, post.ok ok1 (walks_list hK h2 h3)⟩
  · exact post.elim
theorem dit_rg1 {a : Expr} {f : FD} {p pos : Pos} (hg : Gl X "range") (hm : X.mg "range" = none) (h : DI M W X a f) (hs : starEach [a] X.env = [(false, eval a X.env)] := by rfl) (hs2 : starEach (a :: []) X.env = (false, eval a X.env) :: starEach [] X.env := by rfl) : DIt M W X tg (.Call (.Name "range" p) [a] [] pos) (itRg1 f) := by
  obtain ⟨t, pp, h⟩ := h
  refine ⟨_, pi_range1 hg hm (pa_cons pp pa_nil hs2) hs, fun c F H σ δ Q ok post => h c F H σ δ _ ok (Post.bind post fun d δ1 v F1 H1 _ s1 ok1 r post => ?_)⟩
  split at post
  · rename_i n _
    split at post
    · rename_i hc
      obtain ⟨h1, h2⟩ := of_gd hc
      unfold ρD rep at r
      subst r
      refine ⟨n, rfl, by omega, by omega, post.ok ok1 ?_⟩
      have := walks_range (M := M) (F := F1) 0 n.toNat
      unfold rgD
      rw [Int.sub_zero]
      exact this
    · exact post.elim
  · exact post.elim
theorem dit_enum {a : Expr} {f : FD} {p pos tpos : Pos} {elts : List Expr} {kk : Nat} (hg : Gl X "enumerate") (hm : X.mg "enumerate" = none) (h : DI M W X a f) (hK : X.K = M.K := by rfl) (hs : starEach [a] X.env = [(false, eval a X.env)] := by rfl) (hs2 : starEach (a :: []) X.env = (false, eval a X.env) :: starEach [] X.env := by rfl) :
    DIt M W X (.Tuple elts kk tpos) (.Call (.Name "enumerate" p) [a] [] pos) (itEnum f) := by
  obtain ⟨t, pp, h⟩ := h
  refine ⟨_, pi_enum hg hm (pa_cons pp pa_nil hs2) hs, fun c F H σ δ Q ok post => h c F H σ δ _ ok (Post.bind post fun d δ1 v F1 H1 _ s1 ok1 r post => ?_)⟩
  split at post
  · unfold ρD rep at r
    obtain ⟨a, vs, rfl, h2, h3⟩ := r
    exact ⟨a, vs, rfl, SqL.of (ok1.same _ _ h2), post.ok ok1 (walks_enum hK h2 h3)⟩
  · exact post.elim
def forL (tg : R → Sl → SR) (body : FS) : List D → FS
  | [], δ => .nx δ
  | d :: ds, δ => match (tg (.imm d) δ).bind body with
    | .nx δ' => forL tg body ds δ'
    | .ct δ' => forL tg body ds δ'
    | .bk δ' => .nx δ'
    | r => r
def sFor (fi : FA) (tg : R → Sl → SR) (body : FS) : FS := fun δ => (fi δ).bindS fun ds δ1 => forL tg body ds δ1
theorem Walks.turn {J : It} {F0 : Hp} {ds : List D} (w : Walks M J F0 ds) (g : Same F0 F) (ok : Ok c F H σ δ) {i : Nat} {d : D} (hd : ds[i]? = some d) : J.go i H ∧ ∀ x H', J.yld i H x H' → ∃ F', Same F F' ∧ Ok c F' H' σ δ ∧ rep M F' d x := by
  obtain ⟨h1, h2⟩ := (w i H (g.trans ok.same)).1 d hd
  refine ⟨h1, fun x H' y => ?_⟩
  obtain ⟨F3, st, r⟩ := (h2 x H' y).stp g ok.same ok.tb
  exact ⟨F3, st.grow, ok.stp st, r⟩
theorem ds_for {iter : Expr} {ss : List Stmt} {pos : Pos} {fi : FA} {ft : R → Sl → SR} {body : FS} (hp : PassesOwn (model X.prog X.w) X.A X.env X.xe) (hc : X.calm = true) (hi : DIt M W X tg iter fi) (hg : DG M W X tg ft) (hn : Tgt ft) (hb : DSs M W X ss body)
    (hs : ∀ x, foldedSetIterable iter X.env x = pure x := by intro _; rfl) : DS M W X (.For tg iter ss [] pos) (sFor fi ft body) := by
  obtain ⟨wi, pi, hi⟩ := hi
  obtain ⟨g, pg, hg⟩ := hg
  obtain ⟨tb, pb, hb⟩ := hb
  refine ⟨_, ps_for hp hc pi pg pb hs, fun c F H σ δ E ok post => hi c F H σ δ _ ok (PostS.ofE post fun ds δ1 J F1 H1 _ s1 ok1 wk post => ?_)⟩
  refine ⟨fun i m σ H => i ≤ ds.length ∧ m = ds.length - i ∧ ∃ F' δ', Same F1 F' ∧ Ok c F' H σ δ' ∧ PostS c W F' (forL ft body (ds.drop i) δ') E, ⟨ds.length, Nat.zero_le _, rfl, F1, δ1, Same.refl _, ok1, post⟩, ?_⟩
  rintro i m σ2 H2 ⟨hi, rfl, F2, δ2, g2, ok2, post⟩
  by_cases hl : i < ds.length
  · right
    have hd : ds[i]? = some ds[i] := List.getElem?_eq_getElem hl
    obtain ⟨k1, k2⟩ := Walks.turn wk g2 ok2 hd
    refine ⟨k1, fun σ' H' => ∃ F' δ', Same F1 F' ∧ Ok c F' H' σ' δ' ∧ PostS c W F' (forL ft body (ds.drop (i + 1)) δ') E, fun σ' H' h => ⟨ds.length - (i + 1), by omega, by omega, rfl, h⟩, fun x H' y => ?_⟩
    obtain ⟨F3, g3, ok3, r3⟩ := k2 x H' y
    rw [List.drop_eq_getElem_cons hl] at post
    unfold forL at post
    refine hg c F3 H' σ2 δ2 x (.imm ds[i]) _ ok3 r3 ?_
    have post := PostS.shift post g3
    rcases hn (.imm ds[i]) δ2 with ⟨δ3, e3⟩ | ⟨xx, δ3, e3⟩ | e3
    · rw [e3] at post ⊢
      simp only [SR.bind_nx] at post
      intro F4 H4 σ4 g4 ok4
      refine hb c F4 H4 σ4 δ3 _ ok4 ?_
      have post := PostS.shift post g4
      have gg : Same F1 F4 := (g2.trans g3).trans g4
      cases q : body δ3 with
      | nx δ5 => rw [q] at post; exact fun F5 H5 σ5 g5 ok5 => ⟨F5, δ5, gg.trans g5, ok5, PostS.shift post g5⟩
      | ct δ5 => rw [q] at post; exact fun F5 H5 σ5 g5 ok5 => ⟨F5, δ5, gg.trans g5, ok5, PostS.shift post g5⟩
      | bk δ5 => rw [q] at post; exact post
      | rt r δ5 => rw [q] at post; exact post
      | exc x δ5 => rw [q] at post; exact post
      | bad => rw [q] at post; exact post
    · rw [e3] at post ⊢; exact post
    · rw [e3] at post; exact post.elim
  · left
    have hi' : i = ds.length := by omega
    subst hi'
    refine ⟨(wk _ H2 (g2.trans ok2.same)).2 (List.getElem?_eq_none (Nat.le_refl _)), ?_⟩
    rw [List.drop_length] at post
    exact post F2 H2 σ2 (Same.refl _) ok2
end
end
end TS

namespace TS
open PySem L2
noncomputable section
abbrev W0 : WX := fun _ _ _ _ => False
def canD (M : Gm) (W : WX) (f : FD) : TE := fun σ H Q => ∃ (c : Cn M) (F : Hp) (δ : Sl), Ok c F H σ δ ∧ Post c W F σ (ρD c) (f δ) Q
def canT (M : Gm) (W : WX) (f : FT) : TT := fun σ H Q => ∃ (c : Cn M) (F : Hp) (δ : Sl), Ok c F H σ δ ∧ Post c W F σ ρT (f δ) Q
section
variable {M : Gm} {c : Cn M} {W : WX} {X : Cx} {tg e : Expr} {F F1 H H1 : Hp} {σ : St} {δ : Sl}
theorem DI.can {f : FD} (h : DI M W X e f) : PE X e (canD M W f) := by
  obtain ⟨t, p, h⟩ := h
  exact ⟨fun pins s σ H Q I ⟨c, F, δ, ok, post⟩ => p.run pins s σ H Q I (h c F H σ δ Q ok post)⟩
theorem DT.can {f : FT} (h : DT M W X e f) : PT X e (canT M W f) := by
  obtain ⟨t, p, h⟩ := h
  exact ⟨fun pins s σ H Q I ⟨c, F, δ, ok, post⟩ => p.run pins s σ H Q I (h c F H σ δ Q ok post)⟩
def wipeD (δ : Sl) : List Nat → Sl
  | [] => δ
  | v :: vs => (wipeD δ vs).set v none
theorem Ok.clr (ok : Ok c F H σ δ) (i : Nat) : Ok c F H (σ.set i none) (δ.set i none) where
  same := ok.same
  grow := ok.grow
  nofz := ok.nofz
  kept := ok.kept
  ioh := ok.ioh
  tb := ok.tb
  len := by simp [ok.len]
  slot := fun j r e => by
    rcases getElem?_set_some e with ⟨_, z, _⟩ | ⟨hn, e⟩
    · cases z
    · rw [List.getElem?_set_ne hn]; exact ok.slot j r e
  dist := fun j k r1 r2 w hjk e1 e2 m1 m2 s1 s2 => by
    rcases getElem?_set_some e1 with ⟨_, z, _⟩ | ⟨hn, e1⟩
    · cases z
    · rcases getElem?_set_some e2 with ⟨_, z, _⟩ | ⟨hn2, e2⟩
      · cases z
      · rw [List.getElem?_set_ne hn] at s1
        rw [List.getElem?_set_ne hn2] at s2
        exact ok.dist j k r1 r2 w hjk e1 e2 m1 m2 s1 s2
theorem Ok.wipe (ok : Ok c F H σ δ) : ∀ vs : List Nat, Ok c F H (L2.wipe σ vs) (wipeD δ vs)
  | [] => ok
  | v :: vs => (Ok.wipe ok vs).clr v
theorem Ok.unwipe {vs : List Nat} (ok : Ok c F H (L2.wipe σ vs) δ) : Ok c F H σ δ where
  same := ok.same
  grow := ok.grow
  nofz := ok.nofz
  kept := ok.kept
  ioh := ok.ioh
  tb := ok.tb
  len := by rw [← ok.len, wipe_length]
  slot := fun j r e => by
    obtain ⟨v, e1, e2⟩ := ok.slot j r e
    exact ⟨v, (wipe_some e1).1, e2⟩
  dist := fun j k r1 r2 w hjk e1 e2 m1 m2 s1 s2 => by
    obtain ⟨v, k1, _⟩ := ok.slot j r1 e1
    obtain ⟨v', k2, _⟩ := ok.slot k r2 e2
    have z1 := (wipe_some k1).1
    have z2 := (wipe_some k2).1
    rw [s1] at z1; cases z1
    rw [s2] at z2; cases z2
    exact ok.dist j k r1 r2 w hjk e1 e2 m1 m2 k1 k2
theorem Ok.poke (ok : Ok c F H σ δ) {p : Addr} {o : HO} (hp : ∀ u, H p = some u → NT u) (hF : F p = none) (h0 : c.H0 p = none) (hns : ∀ (i : Nat) (r : R), δ[i]? = some (some r) → r.mu = true → σ[i]? ≠ some (some (V.ref p))) : Ok c F (upd H p o) σ δ where
  same := fun b u e => by
    have : b ≠ p := fun z => by rw [z, hF] at e; cases e
    rw [upd_ne this]; exact ok.same b u e
  grow := ok.grow
  nofz := ok.nofz
  kept := fun b u e hi => by
    have : b ≠ p := fun z => by rw [z, h0] at e; cases e
    rw [upd_ne this]; exact ok.kept b u e hi
  ioh := fun a e => by
    have q : a ≠ p := fun z => c.iob a e (z ▸ h0)
    rw [upd_ne q]; exact ok.ioh a e
  tb := ok.tb.keep (fun b u e z => by rw [upd_ne (fun (y : b = p) => z (hp u (by rw [← y]; exact e)))]; exact e) (fun _ _ _ _ q => q) ok.tb.nt
  len := ok.len
  slot := fun i r e => by
    obtain ⟨v, e1, e2⟩ := ok.slot i r e
    refine ⟨v, e1, ?_⟩
    cases r with
    | imm d => exact e2
    | own ob =>
      obtain ⟨a, rfl, h1, h2, h3⟩ := e2
      have : a ≠ p := fun z => hns i _ e rfl (by rw [e1, z])
      exact ⟨a, rfl, h1, h2, obAt_mono (Same.refl _) (upd_ne this) h3⟩
    | brw ob =>
      obtain ⟨a, rfl, h1, h2, h3⟩ := e2
      have : a ≠ p := fun z => hns i _ e rfl (by rw [e1, z])
      exact ⟨a, rfl, h1, h2, obAt_mono (Same.refl _) (upd_ne this) h3⟩
    | nst tp ps => exact e2
  dist := ok.dist
theorem f0_none (ok : Ok c F H σ δ) {a : Addr} (h : F a = none) : c.F0 a = none := by
  cases z : c.F0 a with
  | none => rfl
  | some q => rw [ok.grow a q z] at h; cases h
def noX {α : Type} (r : Res α) : Res α := match r with
  | .exc _ _ => .bad
  | r => r
def lcL (setT : D → Sl → Option Sl) (vs : List Nat) (ft : FT) (fe : FD) : List D → List D → Sl → Res (List D)
  | [], acc, δ => .ok acc δ
  | d :: ds, acc, δ => match setT d δ with
    | none => .bad
    | some δ0 => (noX (ft δ0)).bind fun b δ1 => if b then (noX (fe δ1)).bind fun y δ2 => if acc.length < 16777216 then lcL setT vs ft fe ds (acc ++ [y]) (wipeD δ2 vs) else .bad else lcL setT vs ft fe ds acc (wipeD δ1 vs)
def freeS (δ : Sl) (i : Nat) : Bool := match δ[i]? with
  | some none => true
  | some (some (.imm _)) => true
  | _ => false
def restD (δ1 : Sl) : List Nat → Sl → Sl
  | [], δ => δ
  | v :: vs, δ => restD δ1 vs (δ.set v ((δ1[v]?).join))
def fLc (setT : D → Sl → Option Sl) (vs : List Nat) (fi : FA) (ft : FT) (fe : FD) : FE := fun δ => (fi δ).bind fun ds δ1 => if vs.all (freeS δ1) then
    (lcL setT vs ft fe ds [] (wipeD δ1 vs)).bind fun acc δ2 => .ok (.own (.l acc)) (restD δ1 vs δ2) else .bad
def SetT (M : Gm) (vs : List Nat) (g : TG) (setT : D → Sl → Option Sl) : Prop := ∀ (c : Cn M) (F H : Hp) (σ : St) (δ δ' : Sl) (x : V) (d : D) (k : St → Hp → Prop), Ok c F H σ δ → rep M F d x → setT d δ = some δ' → L2.wipe σ vs = σ →
  (∀ σ2, Ok c F H σ2 δ' → L2.wipe σ2 vs = σ → k σ2 H) → g x σ H k
theorem restD_ok {δ1 : Sl} (ok1 : Ok c F1 H1 σ δ1) (g : Same F1 F) : ∀ (vs : List Nat) {δ : Sl}, vs.all (freeS δ1) = true → Ok c F H σ δ → Ok c F H σ (restD δ1 vs δ) ∧ (∀ (i : Nat) (r : R), (restD δ1 vs δ)[i]? = some (some r) → r.mu = true → ∃ r0, δ[i]? = some (some r0) ∧ r0.mu = true)
  | [], δ, _, ok => ⟨ok, fun i r e m => ⟨r, e, m⟩⟩
  | v :: vs, δ, hf, ok => by
    rw [List.all_cons, Bool.and_eq_true] at hf
    have key : Ok c F H σ (δ.set v ((δ1[v]?).join)) ∧ (∀ (i : Nat) (r : R), (δ.set v ((δ1[v]?).join))[i]? = some (some r) → r.mu = true → ∃ r0, δ[i]? = some (some r0) ∧ r0.mu = true) := by
      have h := hf.1
      unfold freeS at h
      split at h
      · rename_i q
        rw [q]
        refine ⟨ok.drop v, fun i r e m => ?_⟩
        rcases getElem?_set_some e with ⟨_, z, _⟩ | ⟨_, e⟩
        · cases z
        · exact ⟨r, e, m⟩
      · rename_i d q
        rw [q]
        obtain ⟨w, e1, e2⟩ := ok1.slot v _ q
        refine ⟨ok.setSame e1 (rep_mono g _ _ e2), fun i r e m => ?_⟩
        rcases getElem?_set_some e with ⟨_, z, _⟩ | ⟨_, e⟩
        · have z' : (R.imm d) = r := by simpa using z
          subst z'; cases m
        · exact ⟨r, e, m⟩
      · cases h
    obtain ⟨k1, k2⟩ := restD_ok ok1 g vs hf.2 key.1
    refine ⟨k1, fun i r e m => ?_⟩
    obtain ⟨r0, e0, m0⟩ := k2 i r e m
    exact key.2 i r0 e0 m0
theorem wipe_idem (σ : St) : ∀ vs : List Nat, L2.wipe (L2.wipe σ vs) vs = L2.wipe σ vs := fun vs => by
  apply List.ext_getElem?
  intro j
  by_cases hj : j ∈ vs
  · have key : ∀ (τ : St) (us : List Nat), j ∈ us → (L2.wipe τ us)[j]? = if j < τ.length then some none else none := by
      intro τ us
      induction us with
      | nil => intro h; cases h
      | cons u us ih =>
        intro h
        unfold L2.wipe
        by_cases e : u = j
        · subst e
          by_cases hl : u < τ.length
          · rw [List.getElem?_set_self (by rw [wipe_length]; exact hl), if_pos hl]
          · rw [if_neg hl, List.getElem?_eq_none (by rw [List.length_set, wipe_length]; omega)]
        · rw [List.getElem?_set_ne e]
          rcases List.mem_cons.mp h with z | z
          · exact absurd z.symm e
          · exact ih z
    rw [key _ _ hj, key _ _ hj, wipe_length]
  · rw [wipe_out hj]
theorem lc_read {wi : TI} {g : TG} {fi : FA} {ft : FT} {fe : FD} {setT : D → Sl → Option Sl} {vs : List Nat} (hi : ∀ (c : Cn M) F H σ δ (Q : It → Hp → Prop), Ok c F H σ δ → Post c W F σ (ρI M) (fi δ) Q → wi σ H Q) (hg : SetT M vs g setT) :
    RE M W (tLc wi g (canT M W0 ft) (canD M W0 fe) vs) (fLc setT vs fi ft fe) := fun c F H σ δ Q ok post => by
  refine hi c F H σ δ _ ok (Post.bind post fun ds δ1 J F1 H1 _ s1 ok1 wk post => fun D hD => ?_)
  split at post
  · rename_i hfree
    have okA : Ok c F1 (upd H1 D (.lst [])) σ δ1 := ok1.alloc hD
    have okW : Ok c F1 (upd H1 D (.lst [])) (L2.wipe σ vs) (wipeD δ1 vs) := okA.wipe vs
    have h0 : c.H0 D = none := ok1.h0 hD
    refine ⟨fun k m H => k ≤ ds.length ∧ m = ds.length - k ∧ ∃ F' δ' acc as, Same F1 F' ∧ Ok c F' H (L2.wipe σ vs) δ' ∧ F' D = none ∧ H D = some (.lst as) ∧ reps M F' acc as ∧
        (∀ (i : Nat) (r : R), δ'[i]? = some (some r) → r.mu = true → (L2.wipe σ vs)[i]? ≠ some (some (V.ref D))) ∧
        Post c W F' σ (ρR c σ) ((lcL setT vs ft fe (ds.drop k) acc δ').bind fun acc δ2 => .ok (.own (.l acc)) (restD δ1 vs δ2)) Q,
      ⟨ds.length, Nat.zero_le _, rfl, F1, wipeD δ1 vs, [], [], Same.refl _, okW, ok1.f hD, upd_same, reps_nil, ?_, post⟩, ?_⟩
    · intro i r e m z
      obtain ⟨v, k1, k2⟩ := okW.slot i r e
      rw [k1] at z; cases z
      have k3 := (wipe_some k1).1
      -- the slot's object stood before D
      cases r with
      | imm d => cases m
      | own o =>
        obtain ⟨a, ea, q1, q2, q3⟩ := k2
        cases ea
        have ok1w := (ok1.wipe vs).slot i _ e
        obtain ⟨v', z1, a', ea', w1, w2, w3⟩ := ok1w
        rw [k1] at z1; cases z1; cases ea'
        obtain ⟨u, hu⟩ := obAt_some w3
        rw [hD] at hu; cases hu
      | brw o =>
        obtain ⟨a, ea, q1, q2, q3⟩ := k2
        cases ea
        have ok1w := (ok1.wipe vs).slot i _ e
        obtain ⟨v', z1, a', ea', w1, w2, w3⟩ := ok1w
        rw [k1] at z1; cases z1; cases ea'
        obtain ⟨u, hu⟩ := obAt_some w3
        rw [hD] at hu; cases hu
      | nst tp ps => cases m
    rintro k m H2 ⟨hk, rfl, F2, δ2, acc, as, g2, ok2, f2, d2, r2, n2, post⟩
    by_cases hl : k < ds.length
    · right
      have hd : ds[k]? = some ds[k] := List.getElem?_eq_getElem hl
      -- the list is held aside while the item comes and while the block runs
      have okg := ok2.guard f2 h0 d2 rfl n2
      obtain ⟨k1, k2⟩ := Walks.turn wk g2 okg hd
      rw [List.drop_eq_getElem_cons hl] at post
      unfold lcL at post
      refine ⟨k1, fun H' => ∃ F' δ' acc as, Same F1 F' ∧ Ok c F' H' (L2.wipe σ vs) δ' ∧ F' D = none ∧ H' D = some (.lst as) ∧ reps M F' acc as ∧
        (∀ (i : Nat) (r : R), δ'[i]? = some (some r) → r.mu = true → (L2.wipe σ vs)[i]? ≠ some (some (V.ref D))) ∧
        Post c W F' σ (ρR c σ) ((lcL setT vs ft fe (ds.drop (k + 1)) acc δ').bind fun acc δ2 => .ok (.own (.l acc)) (restD δ1 vs δ2)) Q, fun H' h => ⟨ds.length - (k + 1), by omega, by omega, rfl, h⟩, fun x H' y => ?_⟩
      obtain ⟨F3, g3, ok3, r3⟩ := k2 x H' y
      split at post
      · exact post.elim
      · rename_i δ0 e0
        refine hg (c.guard D (.lst as) rfl) F3 H' (L2.wipe σ vs) δ2 δ0 x ds[k] _ ok3 r3 e0 (wipe_idem σ vs) fun σ2 okS hw => ⟨hw, ?_⟩
        refine ⟨c.guard D (.lst as) rfl, F3, δ0, okS, ?_⟩
        cases q : ft δ0 with
        | bad => rw [q] at post; exact post.elim
        | exc x δ => rw [q] at post; exact post.elim
        | ok b δ4 =>
          rw [q] at post
          intro b' F4 H4 g4 ok4 eb
          cases (show b = b' from eb)
          have post : Post c W F2 σ (ρR c σ) ((if b then (noX (fe δ4)).bind fun y δ2 => if acc.length < 16777216 then lcL setT vs ft fe (ds.drop (k + 1)) (acc ++ [y]) (wipeD δ2 vs) else .bad else lcL setT vs ft fe (ds.drop (k + 1)) acc (wipeD δ4 vs)).bind fun acc δ2 => .ok (.own (.l acc)) (restD δ1 vs δ2)) Q := post
          cases b with
          | false =>
            obtain ⟨q1, q2, q3, q4⟩ := ok4.unguard h0
            have qw := q1.wipe vs
            rw [hw] at qw
            refine ⟨F4, wipeD δ4 vs, acc, as, (g2.trans g3).trans g4, qw, q2 (f0_none ok2 f2), q3, reps_mono (g3.trans g4) _ _ r2, fun i r e m z => ?_, Post.shift post (g3.trans g4)⟩
            obtain ⟨v, z1, z2⟩ := qw.slot i r e
            rw [z1] at z; cases z
            rw [← hw] at z1
            have z3 := (wipe_some z1)
            have e' : δ4[i]? = some (some r) := by
              have key : ∀ (us : List Nat), i ∉ us → (wipeD δ4 us)[i]? = δ4[i]? := by
                intro us
                induction us with
                | nil => intro _; rfl
                | cons u us ih =>
                  intro h
                  simp only [List.mem_cons, not_or] at h
                  unfold wipeD
                  rw [List.getElem?_set_ne (Ne.symm h.1)]
                  exact ih h.2
              rw [key vs z3.2] at e
              exact e
            exact q4 i r e' m z3.1
          | true =>
            refine ⟨c.guard D (.lst as) rfl, F4, δ4, ok4, ?_⟩
            cases q5 : fe δ4 with
            | bad => rw [q5] at post; exact post.elim
            | exc x δ => rw [q5] at post; exact post.elim
            | ok yd δ5 =>
              rw [q5] at post
              intro y F5 H5 g5 ok5 ry
              have post : Post c W F2 σ (ρR c σ) ((if acc.length < 16777216 then lcL setT vs ft fe (ds.drop (k + 1)) (acc ++ [yd]) (wipeD δ5 vs) else .bad).bind fun acc δ2 => .ok (.own (.l acc)) (restD δ1 vs δ2)) Q := post
              obtain ⟨q1, q2, q3, q4⟩ := ok5.unguard h0
              split at post
              · rename_i hlen
                have r5 : reps M F5 acc as := reps_mono ((g3.trans g4).trans g5) _ _ r2
                have f5 := q2 (f0_none ok2 f2)
                refine ⟨as, q3, by rw [reps_length r5, sizeLine_eq]; exact hlen, ?_⟩
                have qp : Ok c F5 (upd H5 D (.lst (as ++ [y]))) σ2 δ5 := q1.poke (fun u e => by rw [q3] at e; cases e; rfl) f5 h0 q4
                have qw := qp.wipe vs
                rw [hw] at qw
                refine ⟨F5, wipeD δ5 vs, acc ++ [yd], as ++ [y], ((g2.trans g3).trans g4).trans g5, qw, f5, upd_same, reps_append r5 (reps_cons ry reps_nil), fun i r e m z => ?_, Post.shift post ((g3.trans g4).trans g5)⟩
                obtain ⟨v, z1, z2⟩ := qw.slot i r e
                rw [z1] at z; cases z
                rw [← hw] at z1
                have z3 := (wipe_some z1)
                have e' : δ5[i]? = some (some r) := by
                  have key : ∀ (us : List Nat), i ∉ us → (wipeD δ5 us)[i]? = δ5[i]? := by
                    intro us
                    induction us with
                    | nil => intro _; rfl
                    | cons u us ih =>
                      intro h
                      simp only [List.mem_cons, not_or] at h
                      unfold wipeD
                      rw [List.getElem?_set_ne (Ne.symm h.1)]
                      exact ih h.2
                  rw [key vs z3.2] at e
                  exact e
                exact q4 i r e' m z3.1
              · exact post.elim
    · left
      have hk' : k = ds.length := by omega
      subst hk'
      refine ⟨(wk _ H2 (g2.trans ok2.same)).2 (List.getElem?_eq_none (Nat.le_refl _)), ?_⟩
      rw [List.drop_length] at post
      unfold lcL at post
      simp only [Res.bind_ok] at post
      have ok3 : Ok c F2 H2 σ δ2 := ok2.unwipe
      obtain ⟨ok4, m4⟩ := restD_ok ok1 g2 vs hfree ok3
      refine post.ok ok4 ⟨D, rfl, f2, h0, ⟨as, d2, r2⟩, fun i r e m z => ?_⟩
      obtain ⟨r0, e0, m0⟩ := m4 i r e m
      obtain ⟨v, z1, z2⟩ := ok2.slot i r0 e0
      have z3 := (wipe_some z1).1
      rw [z] at z3; cases z3
      exact n2 i r0 e0 m0 z1
  · exact post.elim
def stName (i : Nat) : D → Sl → Option Sl := fun d δ => some (δ.set i (some (.imm d)))
theorem st_name (i : Nat) : SetT M [i] (gName i) (stName i) := fun c F H σ δ δ' x d k ok r e hw q => by
  cases e
  refine q _ (ok.setI i r) ?_
  show (σ.set i (some x)).set i none = σ
  rw [List.set_set]
  exact hw
abbrev blkX (X : Cx) (scope : Scope) : Shared → Hp → Addr → List (Str × Addr) → List Addr → Cx := fun s H C cl fp => X.blk s H scope (compEnvC scope cl C X.env) fp
theorem de_lc {elt iter : Expr} {ifs : List Expr} {scope : Scope} {own : List (Str × Nat)} {pos : Pos} {g : TG} {fi : FA} {ft : FT} {fe : FD} {setT : D → Sl → Option Sl} {vs : List Nat} (hvs : own.map (·.2) = vs) (hc : X.calm = true) (hN : X.N.Nodup) (hi : DIt M W X tg iter fi) (ok : BlkOk X.N X.env.scope scope own)
    (hS : SetT M vs g setT) (hg : ∀ s H C cl fp, PG (blkX X scope s H C cl fp) tg g) (ht : ∀ s H C cl fp, PTs (blkX X scope s H C cl fp) ifs (canT M W0 ft)) (he : ∀ s H C cl fp, DI M W0 (blkX X scope s H C cl fp) elt fe) (hs : ∀ x, foldedSetIterable iter X.env x = pure x := by intro _; rfl) :
    DE M W X (.ListComp elt [⟨tg, iter, ifs, 0⟩] scope pos) (fLc setT vs fi ft fe) := by
  obtain ⟨wi, pi, hi⟩ := hi
  subst hvs
  exact ⟨_, pe_lc hc hN pi ok hg ht (fun s H C cl fp => (he s H C cl fp).can) hs, lc_read hi hS⟩
def tTrue : FT := fun δ => .ok true δ
theorem pts_no {X : Cx} : PTs X [] (canT M W0 tTrue) := ⟨fun pins s σ H Q I ⟨c, F, δ, ok, post⟩ => pts_nil.run pins s σ H Q I (post.ok ok rfl)⟩
def ioN : Option OB → Nat
  | none => 0
  | some _ => 1
def ioS : Option OB → Sl
  | none => []
  | some o => [some (R.brw o)]
def ini (n : Nat) (io : Option OB) (ds : List D) : Sl := ioS io ++ ds.map (fun d => some (R.imm d)) ++ List.replicate (n - (ioN io + ds.length)) none
def ioOut (io : Option OB) (δ : Sl) : Option (Option OB) := match io with
  | none => some none
  | some _ => match δ[0]? with
    | some (some (R.brw o)) => some (some o)
    | _ => none
def outR (io : Option OB) : SR → FR
  | .rt r δ => (match ioOut io δ with
    | some io' => .ok r io'
    | none => .bad)
  | .nx δ => (match ioOut io δ with
    | some io' => .ok (.imm .non) io'
    | none => .bad)
  | .exc x δ => (match ioOut io δ with
    | some io' => .exc x io'
    | none => .bad)
  | _ => .bad
def mir (n np : Nat) (g : FS) : Fm := fun io ds => if ioN io + ds.length = np ∧ np ≤ n then outR io (g (ini n io ds)) else .bad
end
end
end TS

namespace TS
open PySem L2
noncomputable section
section
variable {M : Gm} {P : Program} {w : World} {mg : Str → Option Value} {base : Heap}
theorem ini_get_none {n : Nat} {ds : List D} {i : Nat} {r : R} (h : (ini n none ds)[i]? = some (some r)) : ∃ d, ds[i]? = some d ∧ r = .imm d := by
  unfold ini ioS at h
  simp only [List.nil_append] at h
  by_cases hl : i < ds.length
  · rw [List.getElem?_append_left (by simpa using hl), List.getElem?_map, List.getElem?_eq_getElem hl] at h
    simp only [Option.map_some, Option.some.injEq] at h
    exact ⟨ds[i], List.getElem?_eq_getElem hl, h.symm⟩
  · rw [List.getElem?_append_right (by simpa using hl)] at h
    rw [List.getElem?_replicate] at h
    split at h
    · cases h
    · cases h
theorem ini_get_some {n : Nat} {o : OB} {ds : List D} {i : Nat} {r : R} (h : (ini n (some o) ds)[i]? = some (some r)) : (i = 0 ∧ r = .brw o) ∨ ∃ j d, i = j + 1 ∧ ds[j]? = some d ∧ r = .imm d := by
  unfold ini ioS at h
  cases i with
  | zero =>
    simp only [List.cons_append, List.getElem?_cons_zero, Option.some.injEq] at h
    exact .inl ⟨rfl, h.symm⟩
  | succ j =>
    simp only [List.cons_append, List.nil_append, List.getElem?_cons_succ] at h
    right
    by_cases hl : j < ds.length
    · rw [List.getElem?_append_left (by simpa using hl), List.getElem?_map, List.getElem?_eq_getElem hl] at h
      simp only [Option.map_some, Option.some.injEq] at h
      exact ⟨j, ds[j], rfl, List.getElem?_eq_getElem hl, h.symm⟩
    · rw [List.getElem?_append_right (by simpa using hl), List.getElem?_replicate] at h
      split at h
      · cases h
      · cases h
theorem ini_len {n : Nat} {io : Option OB} {ds : List D} (h : ioN io + ds.length ≤ n) : (ini n io ds).length = n := by
  unfold ini
  cases io with
  | none => simp [ioS, ioN] at h ⊢; omega
  | some o => simp [ioS, ioN] at h ⊢; omega
theorem mir_ok {n np : Nat} {g : FS} {vs : List V} {H : Hp} {Q : VK} {E : XK} (h : spD M (mir n np g) vs H Q E) : vs.length = np := by
  obtain ⟨F, io, a, ws, ds, rfl, s, tb, rs, ia, h⟩ := h
  unfold mir at h
  by_cases hn : ioN io + ds.length = np ∧ np ≤ n
  · rw [List.length_append, reps_length rs]
    cases io <;> simp [ioV, ioN] at hn ⊢ <;> omega
  · rw [if_neg hn] at h
    exact h.elim
def cnOf (F H : Hp) (io : Option OB) (a : Addr) (ha : ∀ b, (io.map fun _ => a) = some b → ∃ u, H b = some u ∧ NT u) : Cn M := ⟨F, str0 H, io.map fun _ => a, fun b e z => by
  obtain ⟨u, h1, h2⟩ := ha b e
  exact str0_none z u h1 h2, fun _ _ h => (str0_nt h).2, none, fun _ z => nomatch z⟩
theorem body_ok {N : List Str} {np : Nat} {g : FS} {t : TS} {vs : List V} {H : Hp} {Q : VK} {E : XK} (hN : np ≤ N.length) (h : spD M (mir N.length np g) vs H Q E)
    (ht : ∀ (c : Cn M) F H σ δ D, Ok c F H σ δ → PostS c (fun cls d _ H => E cls d H) F (g δ) D → t D σ H) : t { nx := fun _ H' => Q .non H', rt := Q } (start N vs) H := by
  have hv := mir_ok h
  obtain ⟨F, io, a, ws, ds, rfl, s, tb, rs, ia, h⟩ := h
  have hio : ∀ b, (io.map fun _ => a) = some b → ∃ u, H b = some u ∧ NT u := fun b e => by
    cases io with
    | none => cases e
    | some o =>
      cases e
      exact obAt_nt ia.2
  unfold mir at h
  have hcond : ioN io + ds.length = np ∧ np ≤ N.length := by
    refine ⟨?_, hN⟩
    rw [List.length_append, reps_length rs] at hv
    cases io <;> simp [ioV, ioN] at hv ⊢ <;> omega
  rw [if_pos hcond] at h
  have hle : ioN io + ds.length ≤ N.length := by rw [hcond.1]; exact hcond.2
  have ok : Ok (cnOf (M := M) F H io a hio) F H (start N (ioV io a ++ ws)) (ini N.length io ds) := by
    refine ⟨s, Same.refl _, fun _ _ z => z, fun _ _ z _ => (str0_nt z).1, hio, tb, ?_, fun i r e => ?_, fun i j r r' v hij e1 e2 m1 m2 _ _ => ?_⟩
    · rw [ini_len hle]
      unfold L2.start
      rw [List.length_append, List.length_map, List.length_replicate]
      rw [hv]; omega
    · cases io with
      | none =>
        obtain ⟨d, hd, rfl⟩ := ini_get_none e
        obtain ⟨v, e1, e2⟩ := reps_get rs hd
        refine ⟨v, ?_, e2⟩
        unfold L2.start
        have hl : i < ws.length := (List.getElem?_eq_some_iff.mp e1).1
        simp only [ioV, List.nil_append]
        rw [List.getElem?_append_left (by simpa using hl), List.getElem?_map, e1]; rfl
      | some o =>
        rcases ini_get_some e with ⟨rfl, rfl⟩ | ⟨j, d, rfl, hd, rfl⟩
        · exact ⟨.ref a, rfl, a, rfl, ia.1, rfl, ia.2⟩
        · obtain ⟨v, e1, e2⟩ := reps_get rs hd
          refine ⟨v, ?_, e2⟩
          unfold L2.start
          have hl : j < ws.length := (List.getElem?_eq_some_iff.mp e1).1
          simp only [ioV, List.cons_append, List.nil_append, List.map_cons, List.getElem?_cons_succ]
          rw [List.getElem?_append_left (by simpa using hl), List.getElem?_map, e1]; rfl
    · cases io with
      | none => obtain ⟨d, _, rfl⟩ := ini_get_none e1; cases m1
      | some o =>
        rcases ini_get_some e1 with ⟨rfl, rfl⟩ | ⟨j1, d, rfl, hd, rfl⟩
        · rcases ini_get_some e2 with ⟨rfl, rfl⟩ | ⟨j1, d, rfl, hd, rfl⟩
          · exact hij rfl
          · cases m2
        · cases m1
  have stp : ∀ {F' H' : Hp} {σ' : St} {δ' : Sl}, Ok (cnOf (M := M) F H io a hio) F' H' σ' δ' → Stp M F H F' H' (io.map fun _ => a) := fun o => ⟨o.grow, fun b u e n z => o.nofz b (by show str0 H b ≠ none; rw [str0_of e n]; exact fun z => by cases z) z, fun b u e n i => o.kept b u (str0_of e n) i, o.same, o.tb⟩
  have iout : ∀ {F' H' : Hp} {σ' : St} {δ' : Sl} {io' : Option OB}, Ok (cnOf (M := M) F H io a hio) F' H' σ' δ' → ioOut io δ' = some io' → ioAt M F' H' io' a := fun {F' H' σ' δ' io'} o e => by
    unfold ioOut at e
    cases io with
    | none => cases e; trivial
    | some ob =>
      simp only at e
      split at e
      · rename_i o' q
        cases e
        obtain ⟨v, k1, b, rfl, k2, k3, k4⟩ := o.slot 0 _ q
        have : a = b := Option.some.inj k3
        subst this
        exact ⟨k2, k4⟩
      · cases e
  refine ht _ F H _ _ _ ok ?_
  cases q : g (ini N.length io ds) with
  | bad => rw [q] at h; exact h.elim
  | bk δ => rw [q] at h; exact h.elim
  | ct δ => rw [q] at h; exact h.elim
  | nx δ =>
    rw [q] at h
    unfold outR at h
    intro F' H' σ' g' ok'
    cases e : ioOut io δ with
    | none => simp only [e] at h
    | some io' =>
      simp only [e] at h
      exact h .non F' H' (stp ok') (rep_non' (M := M) (F := F')) (iout ok' e)
  | rt r δ =>
    rw [q] at h
    unfold outR at h
    intro v F' H' σ' g' ok' rr
    cases e : ioOut io δ with
    | none => simp only [e] at h
    | some io' =>
      simp only [e] at h
      refine h v F' H' (stp ok') ?_ (iout ok' e)
      cases r with
      | imm d => exact rr
      | own o =>
        obtain ⟨b, rfl, k1, k2, k3, _⟩ := rr
        exact ⟨b, rfl, k1, str0_none k2, k3⟩
      | brw o => exact rr
      | nst tp ps =>
        obtain ⟨b, vs', h1, h2, h3⟩ := rr
        exact ⟨b, vs', h1, h2, fun b hb => ⟨(h3 b hb).1, str0_none (h3 b hb).2.1⟩⟩
  | exc x δ =>
    rw [q] at h
    unfold outR at h
    intro cls d F' H' σ' g' ok' xa
    cases e : ioOut io δ with
    | none => simp only [e] at h
    | some io' =>
      simp only [e] at h
      exact h cls d F' H' (stp ok') xa (iout ok' e)
theorem funD_mir {x qual : Str} {params : Arguments} {body : List Stmt} {scope : Scope} {dvs : List V} {kws : List (Str × V)} {f : Addr} {fd : FuncData} {N ps : List Str} {k : Nat} {g : FS} (F : FunD M.K x qual params body scope dvs kws f fd) (S : FnScope N ps scope) (hN : ps.length ≤ N.length)
    (hb : ∀ (cdv : Value) (A : Around) (outer : List Env) (s : Shared) (H : Hp) (E : XK), Room k (A.deeper (PyProof.Rows.envOfC qual scope s.heap.objs.size f cdv)) →
      Takes (cxOf (L2.CX P w) P w M.K mg base N qual scope f cdv A outer s H E) (fun cls d _ H => E cls d H) →
      PassesOwn (model P w) (A.deeper (PyProof.Rows.envOfC qual scope s.heap.objs.size f cdv)) (PyProof.Rows.envOfC qual scope s.heap.objs.size f cdv) (cxOf (L2.CX P w) P w M.K mg base N qual scope f cdv A outer s H E).xe →
      DSs M (fun cls d _ H => E cls d H) (cxOf (L2.CX P w) P w M.K mg base N qual scope f cdv A outer s H E) body g) :
    FnOk P w M.K mg base (L2.CX P w) (k + 1) f fd ps (spD M (mir N.length ps.length g)) := by
  refine FnOk.of F S (fun vs H Q E h => mir_ok h) (fun cdv A outer s H vs Q E hr h => ?_)
  obtain ⟨t, p, ht⟩ := hb cdv A outer s H E hr (takes_of rfl rfl rfl rfl) (passes_of rfl)
  exact ⟨t, p, body_ok hN h ht⟩
theorem funD_mirC {x qual : Str} {params : Arguments} {body : List Stmt} {scope : Scope} {dvs : List V} {kws : List (Str × V)} {f : Addr} {fd : FuncData} {N ps : List Str} {k : Nat} {g : FS} (F : FunD M.K x qual params body scope dvs kws f fd) (S : FnScope N ps scope) (hN : ps.length ≤ N.length)
    (hb : ∀ (cdv : Value), CodeAt M.K f x qual params body scope cdv → ∀ (A : Around) (outer : List Env) (s : Shared) (H : Hp) (E : XK), Room k (A.deeper (PyProof.Rows.envOfC qual scope s.heap.objs.size f cdv)) →
      Takes (cxOf (L2.CX P w) P w M.K mg base N qual scope f cdv A outer s H E) (fun cls d _ H => E cls d H) →
      PassesOwn (model P w) (A.deeper (PyProof.Rows.envOfC qual scope s.heap.objs.size f cdv)) (PyProof.Rows.envOfC qual scope s.heap.objs.size f cdv) (cxOf (L2.CX P w) P w M.K mg base N qual scope f cdv A outer s H E).xe →
      DSs M (fun cls d _ H => E cls d H) (cxOf (L2.CX P w) P w M.K mg base N qual scope f cdv A outer s H E) body g) :
    FnOk P w M.K mg base (L2.CX P w) (k + 1) f fd ps (spD M (mir N.length ps.length g)) := by
  refine FnOk.ofC F S (fun vs H Q E h => mir_ok h) (fun cdv hcd A outer s H vs Q E hr h => ?_)
  obtain ⟨t, p, ht⟩ := hb cdv hcd A outer s H E hr (takes_of rfl rfl rfl rfl) (passes_of rfl)
  exact ⟨t, p, body_ok hN h ht⟩
end
end
end TS

namespace TS
open PySem L2
noncomputable section
structure DefE where
  at_ : PySem.W.Frag → Addr
  name : Str
  qual : Str
  params : Arguments
  body : List Stmt
  scope : Scope
  dfl : List He.Dv := []
  sup : Bool := false
def fnE (sup : Bool) (K : PySem.W.Frag) (a : Addr) : He.FnW := match K.lookup a with
  | some ⟨_, _, .func fd, _⟩ => some (fd.name, fd.qualname, fd.params, fd.body, fd.scope, fd.globals, if sup then [] else fd.closure, fd.builtins)
  | _ => none
def DefE.val (d : DefE) : He.FnW := some (d.name, d.qual, d.params, .stmts d.body, d.scope, mainGlobals, [], builtinsNs)
def DefE.dvs (K : PySem.W.Frag) (d : DefE) : List V := d.dfl.map (He.Dv.v K)
def DefE.ok (K : PySem.W.Frag) (d : DefE) : Bool := PySem.W.keepIn K (.ref (d.at_ K)) && (match K.lookup (d.at_ K) with
  | some ⟨_, _, .func fd, _⟩ => PySem.W.codeIn K fd.code d.qual && He.dflB K fd.defaults (d.dvs K)
  | _ => false)
theorem DefE.funD {K : PySem.W.Frag} {d : DefE} (e : fnE false K (d.at_ K) = d.val) (c : d.ok K = true) : ∃ fd, FunD K d.name d.qual d.params d.body d.scope (d.dvs K) [] (d.at_ K) fd := by
  obtain ⟨kp, c2⟩ := He.ba c
  unfold fnE at e
  cases q : K.lookup (d.at_ K) with
  | none =>
    rw [q] at c2
    cases c2
  | some o =>
    obtain ⟨oc, od, dt, osl⟩ := o
    rw [q] at c2 e
    cases dt with
    | func fd =>
      obtain ⟨n1, n2, n3, n4, n5, n6, n7, n8, n9, n10, n11, n12, n13, n14, n15⟩ := fd
      have e2 : (some (n1, n2, n3, n4, n5, n6, n7, n15) : He.FnW) = some (d.name, d.qual, d.params, .stmts d.body, d.scope, mainGlobals, [], builtinsNs) := e
      simp only [Option.some.injEq, Prod.mk.injEq] at e2
      obtain ⟨h1, h2, h3, h4, h5, h6, h7, h8⟩ := e2
      subst h1 h2 h3 h4 h5 h6 h7 h8
      have c3 : (PySem.W.codeIn K n13 d.qual && He.dflB K n8 (d.dvs K)) = true := c2
      obtain ⟨k1, k3⟩ := He.ba c3
      exact ⟨_, ⟨oc, od, n8, n9, n10, n11, n12, n13, n14, osl, rfl, q, k1, He.dflB_ok k3, .inl rfl⟩, kp⟩
    | _ => cases c2
abbrev gA (x : Str) : PySem.W.Frag → Addr := fun K => He.ga K x
abbrev mA (x m : Str) : PySem.W.Frag → Addr := fun K => He.ma K (He.ga K x) m
def dA (x m : Str) : PySem.W.Frag → Addr := fun K => He.ma K (He.ga K x) m
def uA (T : String) (x m : Str) : PySem.W.Frag → Addr := fun K => match PySem.W.recIn K (dA x m K) T with
  | some (.ref g :: _) => g
  | _ => 0
def refOf : Value → Addr
  | .ref c => c
  | _ => 0
def isRef : Value → Bool
  | .ref _ => true
  | _ => false
def cdA (f : PySem.W.Frag → Addr) (K : PySem.W.Frag) : Addr := match K.lookup (f K) with
  | some ⟨_, _, .func fd, _⟩ => refOf fd.code
  | _ => 0
def fnRef (f : PySem.W.Frag → Addr) (K : PySem.W.Frag) : Bool := match K.lookup (f K) with
  | some ⟨_, _, .func fd, _⟩ => isRef fd.code
  | _ => false
def clO (f : PySem.W.Frag → Addr) (K : PySem.W.Frag) : Option Addr := match K.lookup (f K) with
  | some ⟨_, _, .func fd, _⟩ => (match fd.closure with
    | [(x, cc)] => if x = ("__class__" : Str) then some cc else none
    | _ => none)
  | _ => none
def clA (f : PySem.W.Frag → Addr) (K : PySem.W.Frag) : Addr := (clO f K).getD 0
def cellOf (o : Option Obj) (d : Addr) : Bool := match o with
  | some ⟨_, _, .cell (some (.ref e)), _⟩ => decide (e = d)
  | _ => false
def fileOf (o : Option Obj) (z : Str) : Bool := match o with
  | some ⟨_, _, .fields vs, _⟩ => (match (vs[2]? : Option Value) with
    | some (Value.str y _) => decide (y = z)
    | _ => false)
  | _ => false
inductive Fx where
  | he (f : He.Fa)
  | prop (x f : Str)
  | cmet (x m : Str)
  | cread (x : Str)
  | cint (x f : Str) (i : Int)
  | kit (x y : Str) (b : Bool)
  | kitT (t : String) (y : Str) (b : Bool)
  | kitC (x : Str) (t : String) (b : Bool)
  | ity (x : Str)
  | neb (x : Str)
  | nfT (x : Str) (t : String)
  | nfC (x y : Str)
  | sfx (x : Str)
  | exc (x : Str) (B : String)
  | exc0 (x : Str) (B : String)
  | exm (x y : Str) (b : Bool)
  | smd
  | dgt
  | gtup (x : Str) (ns : List Int)
  | sup (x y : Str) (z : Str)
  | same (x y m : Str)
  | kwd (x : Str) (ks : List (Str × He.Dv))
def intOf : Value → Option Int
  | .int i _ => some i
  | _ => none
def bmOf : String → List Value := fun B => [.type B, .type "Exception", .type "BaseException", .type "object"]
def headRef : Option (List Value) → Addr → Bool
  | some (.ref g :: _), a => decide (g = a)
  | _, _ => false
def tyT : Value := .type "type"
def Fx.ok (K : PySem.W.Frag) : Fx → Bool
  | .he f => f.ok K
  | .prop x f => He.eqO (PySem.W.findIn K (.ref (He.ga K x)) f) (some (some (.ref (dA x f K)))) && (He.eqO (PySem.W.specialIn K (.ref (dA x f K)) "__get__") (some (some (.builtin "property.__get__"))) && (decide (PySem.W.takesIn K (.ref (dA x f K)) = some true) && headRef (PySem.W.recIn K (dA x f K) "property") (uA "property" x f K)))
  | .cmet x m => (match PySem.W.findCls K (.ref (He.ga K x)) tyT m with
    | some (.get (.builtin b) (.ref p) .none (.ref C)) => decide (b = "classmethod.__get__") && (decide (p = dA x m K) && decide (C = He.ga K x))
    | _ => false) && (headRef (PySem.W.recIn K (dA x m K) "classmethod") (uA "classmethod" x m K) && PySem.W.fnIn K (uA "classmethod" x m K))
  | .cread x => PySem.W.readsIn K (He.ga K x) tyT && He.eqO (PySem.W.specialIn K (.ref (He.ga K x)) "__getattribute__") (some (some (.builtin "type.__getattribute__")))
  | .cint x f i => (match PySem.W.findCls K (.ref (He.ga K x)) tyT f with
    | some (.val (.int j _)) => decide (j = i)
    | _ => false)
  | .kit x y b => decide (PySem.W.kitOne K (.ref (He.ga K x)) (.ref (He.ga K y)) = some b)
  | .kitT t y b => decide (PySem.W.kitOne K (.type t) (.ref (He.ga K y)) = some b)
  | .kitC x t b => decide (PySem.W.kitOne K (.ref (He.ga K x)) (.type t) = some b)
  | .ity x => He.eqO (PySem.W.findIn K (.ref (He.ga K x)) "__class__") (some (some (.builtin "object.__class__"))) && (He.eqO (PySem.W.specialIn K (.builtin "object.__class__") "__get__") (some (some (.builtin "getset_descriptor.__get__"))) && (decide (PySem.W.takesIn K (.builtin "object.__class__") = some true) && decide (PySem.W.mroIn K (He.ga K x) (.type "object") = some true)))
  | .neb x => He.eqO (PySem.W.findIn K (.ref (He.ga K x)) "__ne__") (some (some (.builtin "object.__ne__")))
  | .nfT x t => PySem.W.notFirst K (He.ga K x) (.type t)
  | .nfC x y => PySem.W.notFirst K (He.ga K x) (.ref (He.ga K y))
  | .sfx x => PySem.W.selfFirst K (He.ga K x)
  | .exc x B => PySem.W.excInitIn K (He.ga K x) (bmOf B) (B ++ ".__new__") && (PySem.W.excOver K (He.ga K x) (bmOf B) && (PySem.W.hasDictIn K (He.ga K x) && (He.eqO (PySem.W.findIn K (.ref (He.ga K x)) "__setattr__") (some (some (.builtin "object.__setattr__"))) && (decide (PySem.W.subIn K (.ref (He.ga K x)) (.type "BaseException") = some true) && (decide (PySem.W.typeIn K (.ref (He.ga K x)) = some (.type "type")) && (PySem.W.keepIn K (.ref (He.ga K x)) &&
    (He.eqO (PySem.W.findIn K (.ref (He.ga K x)) "__init__") (some (some (.ref (He.ma K (He.ga K x) "__init__")))) && (decide (PySem.W.typeIn K (.ref (He.ma K (He.ga K x) "__init__")) = some (.type "function")) && (He.eqO (PySem.W.findIn K (.ref (He.ga K x)) "__getattribute__") (some (some (.builtin "BaseException.__getattribute__"))) && (He.eqO (PySem.W.findIn K (.ref (He.ga K x)) "__getattr__") (some none) &&
    (He.eqO (PySem.W.findIn K (.ref (He.ga K x)) "__class__") (some (some (.builtin "object.__class__"))) && (He.eqO (PySem.W.specialIn K (.builtin "object.__class__") "__get__") (some (some (.builtin "getset_descriptor.__get__"))) && (decide (PySem.W.takesIn K (.builtin "object.__class__") = some true) && decide (PySem.W.mroIn K (He.ga K x) (.type "object") = some true))))))))))))))
  | .exc0 x B => PySem.W.excInitIn K (He.ga K x) (bmOf B) (B ++ ".__new__") && (PySem.W.excOver K (He.ga K x) (bmOf B) && (PySem.W.hasDictIn K (He.ga K x) && (He.eqO (PySem.W.findIn K (.ref (He.ga K x)) "__setattr__") (some (some (.builtin "object.__setattr__"))) && (decide (PySem.W.subIn K (.ref (He.ga K x)) (.type "BaseException") = some true) && (decide (PySem.W.typeIn K (.ref (He.ga K x)) = some (.type "type")) && (PySem.W.keepIn K (.ref (He.ga K x)) &&
    (He.eqO (PySem.W.findIn K (.ref (He.ga K x)) "__init__") (some (some (.builtin (B ++ ".__init__")))) && (He.eqO (PySem.W.findIn K (.ref (He.ga K x)) "__getattribute__") (some (some (.builtin "BaseException.__getattribute__"))) && (He.eqO (PySem.W.findIn K (.ref (He.ga K x)) "__getattr__") (some none) &&
    (He.eqO (PySem.W.findIn K (.ref (He.ga K x)) "__class__") (some (some (.builtin "object.__class__"))) && (He.eqO (PySem.W.specialIn K (.builtin "object.__class__") "__get__") (some (some (.builtin "getset_descriptor.__get__"))) && (decide (PySem.W.takesIn K (.builtin "object.__class__") = some true) && decide (PySem.W.mroIn K (He.ga K x) (.type "object") = some true)))))))))))))
  | .sup x y z => (clO (mA x "__init__") K).isSome && (fnRef (mA x "__init__") K && (cellOf (K.lookup (clA (mA x "__init__") K)) (He.ga K x) && (fileOf (K.lookup (cdA (mA x "__init__") K)) z && ((PySem.W.clsIn K (He.ga K x)).isSome && (decide (PySem.W.mroIn K (He.ga K x) (.ref (He.ga K x)) = some true) && (He.eqO (PySem.W.ks_superIn K (He.ga K x) (He.ga K x) "__init__") (some (some (.ref (He.ma K (He.ga K y) "__init__")))) && (decide (PySem.W.typeIn K (.ref (He.ma K (He.ga K y) "__init__")) = some (.type "function")) && (PySem.W.fnIn K (He.ma K (He.ga K y) "__init__") && He.eqO (PySem.W.nsIn K cStatics "thirdparty.any") (some none)))))))))
  | .same x y m => decide (He.ma K (He.ga K x) m = He.ma K (He.ga K y) m)
  | .kwd x ks => (match K.lookup (He.ga K x) with
    | some ⟨_, _, .func fd, _⟩ => He.kwdB K fd.kwdefaults (ks.map fun q => (q.1, q.2.v K))
    | _ => false)
  | .dgt => PySem.W.nsOkIn K cStatics && He.eqO (PySem.W.nsIn K cStatics "sys.int_max_str_digits") (some none)
  | .smd => (match K.lookup sysModules with
    | some ⟨.type c, _, _, _⟩ => decide (c = "dict")
    | _ => false)
  | .exm x y b => decide (PySem.W.exmOne K (.ref (He.ga K x)) (.ref (He.ga K y)) = some b)
  | .gtup x ns => (match K.lookup (He.ga K x) with
    | some ⟨.type c, none, .seq its _, _⟩ => decide (c = "tuple") && (decide (its.size ≤ 100) && decide (its.toList.map intOf = ns.map some))
    | _ => false)
section
variable {K : PySem.W.Frag}
theorem kit_ok {x y : Str} {b : Bool} (c : (Fx.kit x y b).ok K = true) : PySem.W.kitOne K (.ref (He.ga K x)) (.ref (He.ga K y)) = some b := of_decide_eq_true c
theorem kitC_ok {x : Str} {t : String} {b : Bool} (c : (Fx.kitC x t b).ok K = true) : PySem.W.kitOne K (.ref (He.ga K x)) (.type t) = some b := of_decide_eq_true c
end
def obsS (fa : List Fx) (fn : List DefE) (K : PySem.W.Frag) : He.AlD := ((fa.all fun f => f.ok K) && fn.all fun d => d.ok K, fn.map fun d => fnE d.sup K (d.at_ K))
def valS (fn : List DefE) : He.AlD := (true, fn.map DefE.val)
def SaysS (fa : List Fx) (fn : List DefE) (K : PySem.W.Frag) : Prop := obsS fa fn K = valS fn
section
variable {fa : List Fx} {fn : List DefE} {K : PySem.W.Frag}
theorem SaysS.fact (c : SaysS fa fn K) (i : Nat) {f : Fx} (h : fa[i]? = some f := by rfl) : f.ok K = true := by
  have c1 := (He.ba (show ((fa.all fun f => f.ok K) && fn.all fun d => d.ok K) = true from congrArg (fun z : He.AlD => z.1) c)).1
  exact List.all_eq_true.mp c1 f (List.mem_of_getElem? h)
theorem SaysS.def_ (c : SaysS fa fn K) (i : Nat) {d : DefE} (h : fn[i]? = some d := by rfl) (hs : d.sup = false := by rfl) : ∃ fd, FunD K d.name d.qual d.params d.body d.scope (d.dvs K) [] (d.at_ K) fd := by
  have c2 := (He.ba (show ((fa.all fun f => f.ok K) && fn.all fun d => d.ok K) = true from congrArg (fun z : He.AlD => z.1) c)).2
  have e : fn.map (fun d => fnE d.sup K (d.at_ K)) = fn.map DefE.val := congrArg (fun z : He.AlD => z.2) c
  have e2 : (fn.map fun d => fnE d.sup K (d.at_ K))[i]? = (fn.map DefE.val)[i]? := by rw [e]
  rw [List.getElem?_map, List.getElem?_map, h] at e2
  have e3 : fnE d.sup K (d.at_ K) = d.val := Option.some.inj e2
  rw [hs] at e3
  exact DefE.funD e3 (List.all_eq_true.mp c2 d (List.mem_of_getElem? h))
end
def tbA (f : PySem.W.Frag → Addr) (K : PySem.W.Frag) : Addr := match K.lookup (cdA f K) with
  | some ⟨_, _, .fields vs, _⟩ => refOf (vs.getD 11 .none)
  | _ => 0
def isTab : Option Obj → Bool
  | some ⟨.none, .none, .fields vs, sl⟩ => vs.isEmpty && sl.isEmpty
  | _ => false
theorem isTab_ok {o : Option Obj} (h : isTab o = true) : o = some (PySem.W.tabObj #[]) := by
  unfold isTab at h
  split at h
  · rename_i vs sl
    rw [Bool.and_eq_true] at h
    obtain ⟨h1, h2⟩ := h
    rw [Array.isEmpty_iff] at h1 h2
    subst h1 h2
    rfl
  · cases h
abbrev Mk2 := (PySem.W.Frag → Addr) × Str
def mkOk (g : Addr → Option Obj) (K : PySem.W.Frag) (x : Mk2) : Bool := fnRef x.1 K && (PySem.W.codeHdIn K (cdA x.1 K) (tbA x.1 K) && (isTab (g (tbA x.1 K)) && (K.lookup (tbA x.1 K)).isNone))
def uqOk (tn : List Mk2) (K : PySem.W.Frag) : Bool := tn.all fun x => tn.all fun y => !decide (tbA x.1 K = tbA y.1 K) || decide (x.2 = y.2)
def asT (g : Addr → Option Obj) (n : Nat) : List Addr := (List.range n).filter fun a => !isTab (g a)
def obsT (n : Nat) (fa : List Fx) (fn : List DefE) (tn : List Mk2) (g : Addr → Option Obj) : He.AlD :=
  let K := He.frG g (asT g n)
  ((fa.all fun f => f.ok K) && ((fn.all fun d => d.ok K) && (tn.all (mkOk g K) && uqOk tn K)), fn.map fun d => fnE d.sup K (d.at_ K))
structure SaysT (fa : List Fx) (fn : List DefE) (tn : List Mk2) (K : PySem.W.Frag) (h : Heap) : Prop where
  s : SaysS fa fn K
  m : ∀ x ∈ tn, fnRef x.1 K = true ∧ PySem.W.codeHdIn K (cdA x.1 K) (tbA x.1 K) = true ∧ h.get? (tbA x.1 K) = some (PySem.W.tabObj #[]) ∧ K.lookup (tbA x.1 K) = none
  u : ∀ x ∈ tn, ∀ y ∈ tn, tbA x.1 K = tbA y.1 K → x.2 = y.2
theorem saysT_of {n : Nat} {fa : List Fx} {fn : List DefE} {tn : List Mk2} {h : Heap} (e : obsT n fa fn tn h.get? = valS fn) : ∃ K : PySem.W.Frag, K.In h ∧ SaysT fa fn tn K h := by
  refine ⟨He.frG h.get? (asT h.get? n), He.frG_in, ?_⟩
  unfold obsT valS at e
  dsimp only at e
  generalize He.frG h.get? (asT h.get? n) = K at e
  obtain ⟨e1, e2⟩ := Prod.mk.inj e
  obtain ⟨k1, k⟩ := He.ba e1
  obtain ⟨k2, k⟩ := He.ba k
  obtain ⟨k3, k4⟩ := He.ba k
  refine ⟨?_, fun x hx => ?_, fun x hx y hy z => ?_⟩
  · unfold SaysS obsS valS
    rw [k1, k2, e2]; rfl
  · have q := List.all_eq_true.mp k3 x hx
    obtain ⟨q1, q⟩ := He.ba q
    obtain ⟨q2, q⟩ := He.ba q
    obtain ⟨q3, q4⟩ := He.ba q
    exact ⟨q1, q2, isTab_ok q3, by simpa using q4⟩
  · have q := List.all_eq_true.mp (List.all_eq_true.mp k4 x hx) y hy
    simp [z] at q
    exact q
def hookT (n : Nat) (fa : List Fx) (fn : List DefE) (tn : List Mk2) : PySem.W.Hook where
  α := He.AlD
  obs := fun s => obsT n fa fn tn s.heap.get?
  val := fun _ => valS fn
  says := fun _ h => ∃ K : PySem.W.Frag, K.In h ∧ SaysT fa fn tn K h
  of := fun _ _ e => saysT_of e
  keeps := fun _ _ _ ⟨K, hK, c⟩ k => ⟨K, PySem.W.Frag.In.keeps hK k, c.s, fun x hx => ⟨(c.m x hx).1, (c.m x hx).2.1, k _ _ (c.m x hx).2.2.1, (c.m x hx).2.2.2⟩, c.u⟩
theorem obsT_eq {n : Nat} {fa : List Fx} {fn : List DefE} {tn : List Mk2} {g : Addr → Option Obj} {s : Shared} (h : ∀ a, g a = s.heap.get? a) : obsT n fa fn tn g = (hookT n fa fn tn).obs s := by
  have e : g = s.heap.get? := funext h
  rw [e] <;> rfl
theorem code_of {f : PySem.W.Frag → Addr} {K : PySem.W.Frag} {name qual : Str} {params : Arguments} {body : List Stmt} {scope : Scope} {cdv : Value} (h : fnRef f K = true) (lk : CodeAt K (f K) name qual params body scope cdv) : cdv = .ref (cdA f K) := by
  obtain ⟨oc, od, dV, kV, doc, pm, ct, an, osl, lk⟩ := lk
  unfold fnRef at h
  unfold cdA
  rw [lk] at h ⊢
  change isRef cdv = true at h
  change cdv = .ref (refOf cdv)
  cases cdv <;> first | rfl | cases h
def csOf (tn : List Mk2) (K : PySem.W.Frag) : List (Addr × Addr) := tn.map fun x => (cdA x.1 K, tbA x.1 K)
def tsOf (tn : List Mk2) (K : PySem.W.Frag) : List (Addr × Str) := tn.map fun x => (tbA x.1 K, x.2)
theorem mk_of {tn : List Mk2} {K : PySem.W.Frag} {mg : Str → Option Value} {base : Heap} (t : ∀ p ∈ csOf tn K, LamX.TabB base mg p.1 p.2) (u : ∀ x ∈ tn, ∀ y ∈ tn, tbA x.1 K = tbA y.1 K → x.2 = y.2) {i : Nat} {x : Mk2} (h : tn[i]? = some x) :
    LamX.TabB base mg (cdA x.1 K) (tbA x.1 K) ∧ (tbA x.1 K, x.2) ∈ tsOf tn K ∧ ∀ p ∈ tsOf tn K, p.1 = tbA x.1 K → p.2 = x.2 := by
  have hx := List.mem_of_getElem? h
  refine ⟨t _ (List.mem_map.mpr ⟨x, hx, rfl⟩), List.mem_map.mpr ⟨x, hx, rfl⟩, fun p hp e => ?_⟩
  obtain ⟨y, hy, rfl⟩ := List.mem_map.mp hp
  exact u y hy x hx e
section
variable {fa : List Fx} {fn : List DefE} {tn : List Mk2} {K : PySem.W.Frag} {h : Heap}
theorem cs_tab (c : SaysT fa fn tn K h) : ∀ p ∈ csOf tn K, h.get? p.2 = some (PySem.W.tabObj #[]) := fun p hp => by
  obtain ⟨x, hx, rfl⟩ := List.mem_map.mp hp
  exact (c.m x hx).2.2.1
theorem cs_no (c : SaysT fa fn tn K h) : ∀ p ∈ csOf tn K, K.lookup p.2 = none := fun p hp => by
  obtain ⟨x, hx, rfl⟩ := List.mem_map.mp hp
  exact (c.m x hx).2.2.2
theorem cs_code (X : K.In h) (c : SaysT fa fn tn K h) : ∀ p ∈ csOf tn K, PySem.W.CodeHd h p.1 p.2 := fun p hp => by
  obtain ⟨x, hx, rfl⟩ := List.mem_map.mp hp
  exact PySem.W.codeHd_of_K X (c.m x hx).2.1
end
end
end TS

set_option maxHeartbeats 0
namespace K10
open PySem L2 TS
def top (i : Nat) : Stmt := PySem.Challenge.pw_threeswaps_k10_errors_made.main.body.getD i (.Pass ⟨0, 0, 0, 0⟩)
def dE (p : PySem.W.Frag → Addr) (nm q : Str) (s : Stmt) (dfl : List He.Dv) : DefE := ⟨p, nm, q, defArgs s, defBody s, defScope s, dfl, false⟩
def d__law_draw : DefE := dE (gA "_law_draw") "_law_draw" "_law_draw" (top 24) []
def d__law_choice : DefE := dE (gA "_law_choice") "_law_choice" "_law_choice" (top 25) []
def d__law_parts : DefE := dE (gA "_law_parts") "_law_parts" "_law_parts" (top 26) []
def d_InvalidRatio___init__ : DefE := dE (mA "InvalidRatio" "__init__") "__init__" "InvalidRatio.__init__" (inClass (top 3) 0) []
def d_InvalidInteger___init__ : DefE := dE (mA "InvalidInteger" "__init__") "__init__" "InvalidInteger.__init__" (inClass (top 2) 0) []
def d_InvalidValue___init__ : DefE := dE (mA "InvalidValue" "__init__") "__init__" "InvalidValue.__init__" (inClass (top 9) 0) []
def d_InvalidAddress___init__ : DefE := dE (mA "InvalidAddress" "__init__") "__init__" "InvalidAddress.__init__" (inClass (top 6) 0) []
def d_InvalidLine___init__ : DefE := dE (mA "InvalidLine" "__init__") "__init__" "InvalidLine.__init__" (inClass (top 11) 0) []
def d_InvalidName___init__ : DefE := dE (mA "InvalidName" "__init__") "__init__" "InvalidName.__init__" (inClass (top 10) 0) []
def d_InvalidTable___init__ : DefE := dE (mA "InvalidTable" "__init__") "__init__" "InvalidTable.__init__" (inClass (top 4) 0) []
def d_InvalidFormula___init__ : DefE := dE (mA "InvalidFormula" "__init__") "__init__" "InvalidFormula.__init__" (inClass (top 8) 0) []
def d_InvalidPair___init__ : DefE := dE (mA "InvalidPair" "__init__") "__init__" "InvalidPair.__init__" (inClass (top 5) 0) []
def d_InvalidProfile___init__ : DefE := dE (mA "InvalidProfile" "__init__") "__init__" "InvalidProfile.__init__" (inClass (top 7) 0) []
def d__law_first : DefE := dE (gA "_law_first") "_law_first" "_law_first" (top 27) []
def d_NoRoot___init__ : DefE := dE (mA "NoRoot" "__init__") "__init__" "NoRoot.__init__" (inClass (top 15) 0) []
def d_NoTrack___init__ : DefE := dE (mA "NoTrack" "__init__") "__init__" "NoTrack.__init__" (inClass (top 13) 0) []
def d_NoRenaming___init__ : DefE := dE (mA "NoRenaming" "__init__") "__init__" "NoRenaming.__init__" (inClass (top 14) 0) []
def d_UnknownName___init__ : DefE := dE (mA "UnknownName" "__init__") "__init__" "UnknownName.__init__" (inClass (top 17) 0) []
def d_NoFactors___init__ : DefE := dE (mA "NoFactors" "__init__") "__init__" "NoFactors.__init__" (inClass (top 16) 0) []
def d_TooMany___init__ : DefE := dE (mA "TooMany" "__init__") "__init__" "TooMany.__init__" (inClass (top 21) 0) []
def d_TooLong___init__ : DefE := dE (mA "TooLong" "__init__") "__init__" "TooLong.__init__" (inClass (top 20) 0) []
def d__law_second : DefE := dE (gA "_law_second") "_law_second" "_law_second" (top 28) []
def d__law_above_right : DefE := dE (gA "_law_above_right") "_law_above_right" "_law_above_right" (top 30) []
def d__law_marks : DefE := dE (gA "_law_marks") "_law_marks" "_law_marks" (top 29) []
def d__law_caught : DefE := dE (gA "_law_caught") "_law_caught" "_law_caught" (top 33) []
def d__law_raised : DefE := dE (gA "_law_raised") "_law_raised" "_law_raised" (top 34) []
def d__law_second_right : DefE := dE (gA "_law_second_right") "_law_second_right" "_law_second_right" (top 32) []
def d__law_first_right : DefE := dE (gA "_law_first_right") "_law_first_right" "_law_first_right" (top 31) []
def d__law_right : DefE := dE (gA "_law_right") "_law_right" "_law_right" (top 35) []
def d__law_pot : DefE := dE (gA "_law_pot") "_law_pot" "_law_pot" (top 23) []
def d_law : DefE := dE (gA "law") "law" "law" (top 36) []
def fn : List DefE := ([d__law_draw, d__law_choice, d__law_parts, d_InvalidRatio___init__, d_InvalidInteger___init__, d_InvalidValue___init__, d_InvalidAddress___init__, d_InvalidLine___init__, d_InvalidName___init__, d_InvalidTable___init__, d_InvalidFormula___init__, d_InvalidPair___init__, d_InvalidProfile___init__, d__law_first, d_NoRoot___init__, d_NoTrack___init__, d_NoRenaming___init__, d_UnknownName___init__, d_NoFactors___init__, d_TooMany___init__, d_TooLong___init__, d__law_second, d__law_above_right, d__law_marks, d__law_caught, d__law_raised, d__law_second_right, d__law_first_right, d__law_right, d__law_pot, d_law] : List DefE)
def fa : List Fx := ([.he (.free "len"), .he (.free "min"), .he (.free "max"), .he (.free "range"), .he (.free "divmod"), .he (.free "int"), .he (.glo "_law_draw"), .he (.glo "_law_choice"), .he (.glo "_law_parts"), .exc "InvalidRatio" "ValueError", .he (.noat "InvalidRatio" "value"), .he (.glo "InvalidRatio"), .exc "InvalidInteger" "ValueError", .he (.noat "InvalidInteger" "value"), .he (.glo "InvalidInteger"), .exc "InvalidValue" "ValueError", .he (.noat "InvalidValue" "value"), .he (.glo "InvalidValue"), .exc "InvalidAddress" "ValueError", .he (.noat "InvalidAddress" "value"), .he (.glo "InvalidAddress"), .exc "InvalidLine" "ValueError", .he (.noat "InvalidLine" "value"), .he (.glo "InvalidLine"), .exc "InvalidName" "ValueError", .he (.noat "InvalidName" "value"), .he (.glo "InvalidName"), .exc "InvalidTable" "ValueError", .he (.noat "InvalidTable" "problem"), .he (.noat "InvalidTable" "position"), .he (.noat "InvalidTable" "earlier"), .he (.glo "InvalidTable"), .exc "InvalidFormula" "ValueError", .he (.noat "InvalidFormula" "position"), .he (.glo "InvalidFormula"), .exc "InvalidPair" "ValueError", .he (.noat "InvalidPair" "position"), .he (.glo "InvalidPair"), .exc "InvalidProfile" "ValueError", .he (.noat "InvalidProfile" "problem"), .he (.glo "InvalidProfile"), .he (.glo "_law_first"), .exc "NoRoot" "LookupError", .he (.noat "NoRoot" "key"), .he (.noat "NoRoot" "many"), .he (.glo "NoRoot"), .exc "NoTrack" "LookupError", .he (.noat "NoTrack" "key"), .he (.noat "NoTrack" "number"), .he (.glo "NoTrack"), .exc "NoRenaming" "LookupError", .he (.noat "NoRenaming" "found"), .he (.glo "NoRenaming"), .exc0 "NothingToUndo" "LookupError", .he (.glo "NothingToUndo"), .exc "UnknownName" "LookupError", .he (.noat "UnknownName" "name"), .he (.glo "UnknownName"), .exc "NoFactors" "LookupError", .he (.noat "NoFactors" "excess"), .he (.glo "NoFactors"), .exc "TooMany" "ArithmeticError", .he (.noat "TooMany" "many"), .he (.glo "TooMany"), .exc "TooLong" "ArithmeticError", .he (.noat "TooLong" "multiple"), .he (.glo "TooLong"), .he (.glo "_law_second"), .he (.free "enumerate"), .kit "InvalidInteger" "LimitError" false, .kit "InvalidRatio" "LimitError" false, .kit "InvalidTable" "LimitError" false, .kit "InvalidPair" "LimitError" false, .kit "InvalidAddress" "LimitError" false, .kit "InvalidProfile" "LimitError" false, .kit "InvalidValue" "LimitError" false, .kit "InvalidFormula" "LimitError" false, .kit "InvalidName" "LimitError" false, .kit "InvalidLine" "LimitError" false, .kit "NoTrack" "LimitError" false, .kit "NoRoot" "LimitError" false, .kit "NoRenaming" "LimitError" false, .kit "NoFactors" "LimitError" false, .kit "UnknownName" "LimitError" false, .kit "TooLong" "LimitError" true, .kit "TooMany" "LimitError" true, .kit "NothingToUndo" "LimitError" false, .he (.glo "LimitError"), .he (.free "isinstance"), .kit "InvalidInteger" "AbsentError" false, .kit "InvalidRatio" "AbsentError" false, .kit "InvalidTable" "AbsentError" false, .kit "InvalidPair" "AbsentError" false, .kit "InvalidAddress" "AbsentError" false, .kit "InvalidProfile" "AbsentError" false, .kit "InvalidValue" "AbsentError" false, .kit "InvalidFormula" "AbsentError" false, .kit "InvalidName" "AbsentError" false, .kit "InvalidLine" "AbsentError" false, .kit "NoTrack" "AbsentError" true, .kit "NoRoot" "AbsentError" true, .kit "NoRenaming" "AbsentError" true, .kit "NoFactors" "AbsentError" true, .kit "UnknownName" "AbsentError" true, .kit "TooLong" "AbsentError" false, .kit "TooMany" "AbsentError" false, .kit "NothingToUndo" "AbsentError" true, .he (.glo "AbsentError"), .kit "InvalidInteger" "ThreeswapsError" true, .kit "InvalidRatio" "ThreeswapsError" true, .kit "InvalidTable" "ThreeswapsError" true, .kit "InvalidPair" "ThreeswapsError" true, .kit "InvalidAddress" "ThreeswapsError" true, .kit "InvalidProfile" "ThreeswapsError" true, .kit "InvalidValue" "ThreeswapsError" true, .kit "InvalidFormula" "ThreeswapsError" true, .kit "InvalidName" "ThreeswapsError" true, .kit "InvalidLine" "ThreeswapsError" true, .kit "NoTrack" "ThreeswapsError" false, .kit "NoRoot" "ThreeswapsError" false, .kit "NoRenaming" "ThreeswapsError" false, .kit "NoFactors" "ThreeswapsError" false, .kit "UnknownName" "ThreeswapsError" false, .kit "TooLong" "ThreeswapsError" false, .kit "TooMany" "ThreeswapsError" false, .kit "NothingToUndo" "ThreeswapsError" false, .he (.glo "ThreeswapsError"), .kitC "InvalidInteger" "ArithmeticError" false, .kitC "InvalidRatio" "ArithmeticError" false, .kitC "InvalidTable" "ArithmeticError" false, .kitC "InvalidPair" "ArithmeticError" false, .kitC "InvalidAddress" "ArithmeticError" false, .kitC "InvalidProfile" "ArithmeticError" false, .kitC "InvalidValue" "ArithmeticError" false, .kitC "InvalidFormula" "ArithmeticError" false, .kitC "InvalidName" "ArithmeticError" false, .kitC "InvalidLine" "ArithmeticError" false, .kitC "NoTrack" "ArithmeticError" false, .kitC "NoRoot" "ArithmeticError" false, .kitC "NoRenaming" "ArithmeticError" false, .kitC "NoFactors" "ArithmeticError" false, .kitC "UnknownName" "ArithmeticError" false, .kitC "TooLong" "ArithmeticError" true, .kitC "TooMany" "ArithmeticError" true, .kitC "NothingToUndo" "ArithmeticError" false, .he (.free "ArithmeticError"), .kitC "InvalidInteger" "LookupError" false, .kitC "InvalidRatio" "LookupError" false, .kitC "InvalidTable" "LookupError" false, .kitC "InvalidPair" "LookupError" false, .kitC "InvalidAddress" "LookupError" false, .kitC "InvalidProfile" "LookupError" false, .kitC "InvalidValue" "LookupError" false, .kitC "InvalidFormula" "LookupError" false, .kitC "InvalidName" "LookupError" false, .kitC "InvalidLine" "LookupError" false, .kitC "NoTrack" "LookupError" true, .kitC "NoRoot" "LookupError" true, .kitC "NoRenaming" "LookupError" true, .kitC "NoFactors" "LookupError" true, .kitC "UnknownName" "LookupError" true, .kitC "TooLong" "LookupError" false, .kitC "TooMany" "LookupError" false, .kitC "NothingToUndo" "LookupError" true, .he (.free "LookupError"), .kitC "InvalidInteger" "ValueError" true, .kitC "InvalidRatio" "ValueError" true, .kitC "InvalidTable" "ValueError" true, .kitC "InvalidPair" "ValueError" true, .kitC "InvalidAddress" "ValueError" true, .kitC "InvalidProfile" "ValueError" true, .kitC "InvalidValue" "ValueError" true, .kitC "InvalidFormula" "ValueError" true, .kitC "InvalidName" "ValueError" true, .kitC "InvalidLine" "ValueError" true, .kitC "NoTrack" "ValueError" false, .kitC "NoRoot" "ValueError" false, .kitC "NoRenaming" "ValueError" false, .kitC "NoFactors" "ValueError" false, .kitC "UnknownName" "ValueError" false, .kitC "TooLong" "ValueError" false, .kitC "TooMany" "ValueError" false, .kitC "NothingToUndo" "ValueError" false, .he (.free "ValueError"), .he (.glo "_law_above_right"), .kit "InvalidInteger" "InvalidAddress" false, .kit "InvalidRatio" "InvalidAddress" false, .kit "InvalidTable" "InvalidAddress" false, .kit "InvalidPair" "InvalidAddress" false, .kit "InvalidAddress" "InvalidAddress" true, .kit "InvalidProfile" "InvalidAddress" false, .kit "InvalidValue" "InvalidAddress" false, .kit "InvalidFormula" "InvalidAddress" false, .kit "InvalidName" "InvalidAddress" false, .kit "InvalidLine" "InvalidAddress" false, .kit "NoTrack" "InvalidAddress" false, .kit "NoRoot" "InvalidAddress" false, .kit "NoRenaming" "InvalidAddress" false, .kit "NoFactors" "InvalidAddress" false, .kit "UnknownName" "InvalidAddress" false, .kit "TooLong" "InvalidAddress" false, .kit "TooMany" "InvalidAddress" false, .kit "NothingToUndo" "InvalidAddress" false, .kit "InvalidInteger" "InvalidRatio" false, .kit "InvalidRatio" "InvalidRatio" true, .kit "InvalidTable" "InvalidRatio" false, .kit "InvalidPair" "InvalidRatio" false, .kit "InvalidAddress" "InvalidRatio" false, .kit "InvalidProfile" "InvalidRatio" false, .kit "InvalidValue" "InvalidRatio" false, .kit "InvalidFormula" "InvalidRatio" false, .kit "InvalidName" "InvalidRatio" false, .kit "InvalidLine" "InvalidRatio" false, .kit "NoTrack" "InvalidRatio" false, .kit "NoRoot" "InvalidRatio" false, .kit "NoRenaming" "InvalidRatio" false, .kit "NoFactors" "InvalidRatio" false, .kit "UnknownName" "InvalidRatio" false, .kit "TooLong" "InvalidRatio" false, .kit "TooMany" "InvalidRatio" false, .kit "NothingToUndo" "InvalidRatio" false, .kit "InvalidInteger" "InvalidInteger" true, .kit "InvalidRatio" "InvalidInteger" false, .kit "InvalidTable" "InvalidInteger" false, .kit "InvalidPair" "InvalidInteger" false, .kit "InvalidAddress" "InvalidInteger" false, .kit "InvalidProfile" "InvalidInteger" false, .kit "InvalidValue" "InvalidInteger" false, .kit "InvalidFormula" "InvalidInteger" false, .kit "InvalidName" "InvalidInteger" false, .kit "InvalidLine" "InvalidInteger" false, .kit "NoTrack" "InvalidInteger" false, .kit "NoRoot" "InvalidInteger" false, .kit "NoRenaming" "InvalidInteger" false, .kit "NoFactors" "InvalidInteger" false, .kit "UnknownName" "InvalidInteger" false, .kit "TooLong" "InvalidInteger" false, .kit "TooMany" "InvalidInteger" false, .kit "NothingToUndo" "InvalidInteger" false, .kit "InvalidInteger" "InvalidLine" false, .kit "InvalidRatio" "InvalidLine" false, .kit "InvalidTable" "InvalidLine" false, .kit "InvalidPair" "InvalidLine" false, .kit "InvalidAddress" "InvalidLine" false, .kit "InvalidProfile" "InvalidLine" false, .kit "InvalidValue" "InvalidLine" false, .kit "InvalidFormula" "InvalidLine" false, .kit "InvalidName" "InvalidLine" false, .kit "InvalidLine" "InvalidLine" true, .kit "NoTrack" "InvalidLine" false, .kit "NoRoot" "InvalidLine" false, .kit "NoRenaming" "InvalidLine" false, .kit "NoFactors" "InvalidLine" false, .kit "UnknownName" "InvalidLine" false, .kit "TooLong" "InvalidLine" false, .kit "TooMany" "InvalidLine" false, .kit "NothingToUndo" "InvalidLine" false, .kit "InvalidInteger" "InvalidName" false, .kit "InvalidRatio" "InvalidName" false, .kit "InvalidTable" "InvalidName" false, .kit "InvalidPair" "InvalidName" false, .kit "InvalidAddress" "InvalidName" false, .kit "InvalidProfile" "InvalidName" false, .kit "InvalidValue" "InvalidName" false, .kit "InvalidFormula" "InvalidName" false, .kit "InvalidName" "InvalidName" true, .kit "InvalidLine" "InvalidName" false, .kit "NoTrack" "InvalidName" false, .kit "NoRoot" "InvalidName" false, .kit "NoRenaming" "InvalidName" false, .kit "NoFactors" "InvalidName" false, .kit "UnknownName" "InvalidName" false, .kit "TooLong" "InvalidName" false, .kit "TooMany" "InvalidName" false, .kit "NothingToUndo" "InvalidName" false, .kit "InvalidInteger" "InvalidValue" false, .kit "InvalidRatio" "InvalidValue" false, .kit "InvalidTable" "InvalidValue" false, .kit "InvalidPair" "InvalidValue" false, .kit "InvalidAddress" "InvalidValue" false, .kit "InvalidProfile" "InvalidValue" false, .kit "InvalidValue" "InvalidValue" true, .kit "InvalidFormula" "InvalidValue" false, .kit "InvalidName" "InvalidValue" false, .kit "InvalidLine" "InvalidValue" false, .kit "NoTrack" "InvalidValue" false, .kit "NoRoot" "InvalidValue" false, .kit "NoRenaming" "InvalidValue" false, .kit "NoFactors" "InvalidValue" false, .kit "UnknownName" "InvalidValue" false, .kit "TooLong" "InvalidValue" false, .kit "TooMany" "InvalidValue" false, .kit "NothingToUndo" "InvalidValue" false, .kit "InvalidInteger" "InvalidFormula" false, .kit "InvalidRatio" "InvalidFormula" false, .kit "InvalidTable" "InvalidFormula" false, .kit "InvalidPair" "InvalidFormula" false, .kit "InvalidAddress" "InvalidFormula" false, .kit "InvalidProfile" "InvalidFormula" false, .kit "InvalidValue" "InvalidFormula" false, .kit "InvalidFormula" "InvalidFormula" true, .kit "InvalidName" "InvalidFormula" false, .kit "InvalidLine" "InvalidFormula" false, .kit "NoTrack" "InvalidFormula" false, .kit "NoRoot" "InvalidFormula" false, .kit "NoRenaming" "InvalidFormula" false, .kit "NoFactors" "InvalidFormula" false, .kit "UnknownName" "InvalidFormula" false, .kit "TooLong" "InvalidFormula" false, .kit "TooMany" "InvalidFormula" false, .kit "NothingToUndo" "InvalidFormula" false, .kit "InvalidInteger" "InvalidPair" false, .kit "InvalidRatio" "InvalidPair" false, .kit "InvalidTable" "InvalidPair" false, .kit "InvalidPair" "InvalidPair" true, .kit "InvalidAddress" "InvalidPair" false, .kit "InvalidProfile" "InvalidPair" false, .kit "InvalidValue" "InvalidPair" false, .kit "InvalidFormula" "InvalidPair" false, .kit "InvalidName" "InvalidPair" false, .kit "InvalidLine" "InvalidPair" false, .kit "NoTrack" "InvalidPair" false, .kit "NoRoot" "InvalidPair" false, .kit "NoRenaming" "InvalidPair" false, .kit "NoFactors" "InvalidPair" false, .kit "UnknownName" "InvalidPair" false, .kit "TooLong" "InvalidPair" false, .kit "TooMany" "InvalidPair" false, .kit "NothingToUndo" "InvalidPair" false, .kit "InvalidInteger" "InvalidTable" false, .kit "InvalidRatio" "InvalidTable" false, .kit "InvalidTable" "InvalidTable" true, .kit "InvalidPair" "InvalidTable" false, .kit "InvalidAddress" "InvalidTable" false, .kit "InvalidProfile" "InvalidTable" false, .kit "InvalidValue" "InvalidTable" false, .kit "InvalidFormula" "InvalidTable" false, .kit "InvalidName" "InvalidTable" false, .kit "InvalidLine" "InvalidTable" false, .kit "NoTrack" "InvalidTable" false, .kit "NoRoot" "InvalidTable" false, .kit "NoRenaming" "InvalidTable" false, .kit "NoFactors" "InvalidTable" false, .kit "UnknownName" "InvalidTable" false, .kit "TooLong" "InvalidTable" false, .kit "TooMany" "InvalidTable" false, .kit "NothingToUndo" "InvalidTable" false, .kit "InvalidInteger" "NoRoot" false, .kit "InvalidRatio" "NoRoot" false, .kit "InvalidTable" "NoRoot" false, .kit "InvalidPair" "NoRoot" false, .kit "InvalidAddress" "NoRoot" false, .kit "InvalidProfile" "NoRoot" false, .kit "InvalidValue" "NoRoot" false, .kit "InvalidFormula" "NoRoot" false, .kit "InvalidName" "NoRoot" false, .kit "InvalidLine" "NoRoot" false, .kit "NoTrack" "NoRoot" false, .kit "NoRoot" "NoRoot" true, .kit "NoRenaming" "NoRoot" false, .kit "NoFactors" "NoRoot" false, .kit "UnknownName" "NoRoot" false, .kit "TooLong" "NoRoot" false, .kit "TooMany" "NoRoot" false, .kit "NothingToUndo" "NoRoot" false, .kit "InvalidInteger" "NoTrack" false, .kit "InvalidRatio" "NoTrack" false, .kit "InvalidTable" "NoTrack" false, .kit "InvalidPair" "NoTrack" false, .kit "InvalidAddress" "NoTrack" false, .kit "InvalidProfile" "NoTrack" false, .kit "InvalidValue" "NoTrack" false, .kit "InvalidFormula" "NoTrack" false, .kit "InvalidName" "NoTrack" false, .kit "InvalidLine" "NoTrack" false, .kit "NoTrack" "NoTrack" true, .kit "NoRoot" "NoTrack" false, .kit "NoRenaming" "NoTrack" false, .kit "NoFactors" "NoTrack" false, .kit "UnknownName" "NoTrack" false, .kit "TooLong" "NoTrack" false, .kit "TooMany" "NoTrack" false, .kit "NothingToUndo" "NoTrack" false, .kit "InvalidInteger" "InvalidProfile" false, .kit "InvalidRatio" "InvalidProfile" false, .kit "InvalidTable" "InvalidProfile" false, .kit "InvalidPair" "InvalidProfile" false, .kit "InvalidAddress" "InvalidProfile" false, .kit "InvalidProfile" "InvalidProfile" true, .kit "InvalidValue" "InvalidProfile" false, .kit "InvalidFormula" "InvalidProfile" false, .kit "InvalidName" "InvalidProfile" false, .kit "InvalidLine" "InvalidProfile" false, .kit "NoTrack" "InvalidProfile" false, .kit "NoRoot" "InvalidProfile" false, .kit "NoRenaming" "InvalidProfile" false, .kit "NoFactors" "InvalidProfile" false, .kit "UnknownName" "InvalidProfile" false, .kit "TooLong" "InvalidProfile" false, .kit "TooMany" "InvalidProfile" false, .kit "NothingToUndo" "InvalidProfile" false, .kit "InvalidInteger" "UnknownName" false, .kit "InvalidRatio" "UnknownName" false, .kit "InvalidTable" "UnknownName" false, .kit "InvalidPair" "UnknownName" false, .kit "InvalidAddress" "UnknownName" false, .kit "InvalidProfile" "UnknownName" false, .kit "InvalidValue" "UnknownName" false, .kit "InvalidFormula" "UnknownName" false, .kit "InvalidName" "UnknownName" false, .kit "InvalidLine" "UnknownName" false, .kit "NoTrack" "UnknownName" false, .kit "NoRoot" "UnknownName" false, .kit "NoRenaming" "UnknownName" false, .kit "NoFactors" "UnknownName" false, .kit "UnknownName" "UnknownName" true, .kit "TooLong" "UnknownName" false, .kit "TooMany" "UnknownName" false, .kit "NothingToUndo" "UnknownName" false, .kit "InvalidInteger" "NoFactors" false, .kit "InvalidRatio" "NoFactors" false, .kit "InvalidTable" "NoFactors" false, .kit "InvalidPair" "NoFactors" false, .kit "InvalidAddress" "NoFactors" false, .kit "InvalidProfile" "NoFactors" false, .kit "InvalidValue" "NoFactors" false, .kit "InvalidFormula" "NoFactors" false, .kit "InvalidName" "NoFactors" false, .kit "InvalidLine" "NoFactors" false, .kit "NoTrack" "NoFactors" false, .kit "NoRoot" "NoFactors" false, .kit "NoRenaming" "NoFactors" false, .kit "NoFactors" "NoFactors" true, .kit "UnknownName" "NoFactors" false, .kit "TooLong" "NoFactors" false, .kit "TooMany" "NoFactors" false, .kit "NothingToUndo" "NoFactors" false, .kit "InvalidInteger" "NoRenaming" false, .kit "InvalidRatio" "NoRenaming" false, .kit "InvalidTable" "NoRenaming" false, .kit "InvalidPair" "NoRenaming" false, .kit "InvalidAddress" "NoRenaming" false, .kit "InvalidProfile" "NoRenaming" false, .kit "InvalidValue" "NoRenaming" false, .kit "InvalidFormula" "NoRenaming" false, .kit "InvalidName" "NoRenaming" false, .kit "InvalidLine" "NoRenaming" false, .kit "NoTrack" "NoRenaming" false, .kit "NoRoot" "NoRenaming" false, .kit "NoRenaming" "NoRenaming" true, .kit "NoFactors" "NoRenaming" false, .kit "UnknownName" "NoRenaming" false, .kit "TooLong" "NoRenaming" false, .kit "TooMany" "NoRenaming" false, .kit "NothingToUndo" "NoRenaming" false, .kit "InvalidInteger" "TooMany" false, .kit "InvalidRatio" "TooMany" false, .kit "InvalidTable" "TooMany" false, .kit "InvalidPair" "TooMany" false, .kit "InvalidAddress" "TooMany" false, .kit "InvalidProfile" "TooMany" false, .kit "InvalidValue" "TooMany" false, .kit "InvalidFormula" "TooMany" false, .kit "InvalidName" "TooMany" false, .kit "InvalidLine" "TooMany" false, .kit "NoTrack" "TooMany" false, .kit "NoRoot" "TooMany" false, .kit "NoRenaming" "TooMany" false, .kit "NoFactors" "TooMany" false, .kit "UnknownName" "TooMany" false, .kit "TooLong" "TooMany" false, .kit "TooMany" "TooMany" true, .kit "NothingToUndo" "TooMany" false, .kit "InvalidInteger" "TooLong" false, .kit "InvalidRatio" "TooLong" false, .kit "InvalidTable" "TooLong" false, .kit "InvalidPair" "TooLong" false, .kit "InvalidAddress" "TooLong" false, .kit "InvalidProfile" "TooLong" false, .kit "InvalidValue" "TooLong" false, .kit "InvalidFormula" "TooLong" false, .kit "InvalidName" "TooLong" false, .kit "InvalidLine" "TooLong" false, .kit "NoTrack" "TooLong" false, .kit "NoRoot" "TooLong" false, .kit "NoRenaming" "TooLong" false, .kit "NoFactors" "TooLong" false, .kit "UnknownName" "TooLong" false, .kit "TooLong" "TooLong" true, .kit "TooMany" "TooLong" false, .kit "NothingToUndo" "TooLong" false, .kit "InvalidInteger" "NothingToUndo" false, .kit "InvalidRatio" "NothingToUndo" false, .kit "InvalidTable" "NothingToUndo" false, .kit "InvalidPair" "NothingToUndo" false, .kit "InvalidAddress" "NothingToUndo" false, .kit "InvalidProfile" "NothingToUndo" false, .kit "InvalidValue" "NothingToUndo" false, .kit "InvalidFormula" "NothingToUndo" false, .kit "InvalidName" "NothingToUndo" false, .kit "InvalidLine" "NothingToUndo" false, .kit "NoTrack" "NothingToUndo" false, .kit "NoRoot" "NothingToUndo" false, .kit "NoRenaming" "NothingToUndo" false, .kit "NoFactors" "NothingToUndo" false, .kit "UnknownName" "NothingToUndo" false, .kit "TooLong" "NothingToUndo" false, .kit "TooMany" "NothingToUndo" false, .kit "NothingToUndo" "NothingToUndo" true, .he (.glo "_law_marks"), .exm "InvalidInteger" "LimitError" false, .exm "InvalidRatio" "LimitError" false, .exm "InvalidTable" "LimitError" false, .exm "InvalidPair" "LimitError" false, .exm "InvalidAddress" "LimitError" false, .exm "InvalidProfile" "LimitError" false, .exm "InvalidValue" "LimitError" false, .exm "InvalidFormula" "LimitError" false, .exm "InvalidName" "LimitError" false, .exm "InvalidLine" "LimitError" false, .exm "NoTrack" "LimitError" false, .exm "NoRoot" "LimitError" false, .exm "NoRenaming" "LimitError" false, .exm "NoFactors" "LimitError" false, .exm "UnknownName" "LimitError" false, .exm "TooLong" "LimitError" true, .exm "TooMany" "LimitError" true, .exm "NothingToUndo" "LimitError" false, .exm "InvalidInteger" "AbsentError" false, .exm "InvalidRatio" "AbsentError" false, .exm "InvalidTable" "AbsentError" false, .exm "InvalidPair" "AbsentError" false, .exm "InvalidAddress" "AbsentError" false, .exm "InvalidProfile" "AbsentError" false, .exm "InvalidValue" "AbsentError" false, .exm "InvalidFormula" "AbsentError" false, .exm "InvalidName" "AbsentError" false, .exm "InvalidLine" "AbsentError" false, .exm "NoTrack" "AbsentError" true, .exm "NoRoot" "AbsentError" true, .exm "NoRenaming" "AbsentError" true, .exm "NoFactors" "AbsentError" true, .exm "UnknownName" "AbsentError" true, .exm "TooLong" "AbsentError" false, .exm "TooMany" "AbsentError" false, .exm "NothingToUndo" "AbsentError" true, .exm "InvalidInteger" "ThreeswapsError" true, .exm "InvalidRatio" "ThreeswapsError" true, .exm "InvalidTable" "ThreeswapsError" true, .exm "InvalidPair" "ThreeswapsError" true, .exm "InvalidAddress" "ThreeswapsError" true, .exm "InvalidProfile" "ThreeswapsError" true, .exm "InvalidValue" "ThreeswapsError" true, .exm "InvalidFormula" "ThreeswapsError" true, .exm "InvalidName" "ThreeswapsError" true, .exm "InvalidLine" "ThreeswapsError" true, .exm "NoTrack" "ThreeswapsError" false, .exm "NoRoot" "ThreeswapsError" false, .exm "NoRenaming" "ThreeswapsError" false, .exm "NoFactors" "ThreeswapsError" false, .exm "UnknownName" "ThreeswapsError" false, .exm "TooLong" "ThreeswapsError" false, .exm "TooMany" "ThreeswapsError" false, .exm "NothingToUndo" "ThreeswapsError" false, .he (.glo "_law_raised"), .he (.glo "_law_caught"), .smd, .he (.free "repr"), .he (.free "all"), .he (.glo "_law_second_right"), .he (.free "list"), .he (.glo "_law_first_right"), .he (.glo "_law_right"), .he (.free "abs"), .he (.glo "_law_pot"), .he (.glo "law")] : List Fx)
def tn : List Mk2 := [((gA "_law_right"), "_law_right.<locals>.<lambda>")]
abbrev R : PySem.W.OpenRow := PySem.W.OpenLaw.row PySem.Challenge.rw_threeswaps_k10_errors_made
abbrev hk : PySem.W.Hook := hookT 2000 fa fn tn
def ob (s : PySem.W.SharedT) : He.AlD := obsT 2000 fa fn tn (HandSHeadRun.getT s)
theorem ob_eq (s : PySem.W.SharedT) : ob s = hk.obs s.abs := obsT_eq (HandSHeadRun.getT_eq s)
def loose : List PySem.Str := (["__name__", "ThreeswapsError", "InvalidInteger", "InvalidRatio", "InvalidTable", "InvalidPair", "InvalidAddress", "InvalidProfile", "InvalidFormula", "InvalidValue", "InvalidName", "InvalidLine"] : List PySem.Str) ++ ((["AbsentError", "NoTrack", "NoRenaming", "NoRoot", "NoFactors", "UnknownName", "NothingToUndo", "LimitError", "TooLong", "TooMany", "_law_pot", "_law_draw"] : List PySem.Str) ++ ((["_law_choice", "_law_parts", "_law_first", "_law_second", "_law_marks", "_law_above_right", "_law_first_right", "_law_second_right", "_law_caught", "_law_raised", "_law_right"] : List PySem.Str)))
end K10

set_option maxHeartbeats 0
namespace K10
open PySem L2 TS
def obK (s : PySem.W.SharedT) : PySem.W.Frag := He.frG (HandSHeadRun.getT s) (asT (HandSHeadRun.getT s) 2000)
theorem map3 {α β γ δ : Type} {x : Option α} {f : α → β} {g : α → γ} {c : α → δ} {a : β} {b : γ} {d : δ} (h1 : x.map f = some a) (h2 : x.map g = some b) (h3 : x.map c = some d) : x.map (fun s => (f s, g s, c s)) = some (a, b, d) := by
  cases x with
  | none => cases h1
  | some s =>
    have h1 := Option.some.inj h1
    have h2 := Option.some.inj h2
    have h3 := Option.some.inj h3
    show some (f s, g s, c s) = _
    rw [h1, h2, h3]
theorem run_a (w : World) : ∀ os : OsState, (HandSHeadRun.endF (HandSHeadRun.stepQ (HandSHeadRun.denQ HandSHeadRun.tabQ) R.prog w) 6000 R.prog w os).map (fun s => HandSHeadRun.looksF R.prog (PySem.W.boot_heap w.params) s.abs) = some (true) := by
  intro os
  kernel_rfl
theorem run_b (w : World) : ∀ os : OsState, (HandSHeadRun.endF (HandSHeadRun.stepQ (HandSHeadRun.denQ HandSHeadRun.tabQ) R.prog w) 6000 R.prog w os).map (fun s => HandSHeadRun.seenQ (PySem.W.view R.prog [36]) loose (importedModules R.prog.main.body) (fun s => PySem.W.xlAt (PySem.W.view R.prog [36]) [] s && PySem.W.recOk R.toRowW.records s) s.abs) = some (PySem.W.openGood (PySem.W.view R.prog [36]) loose) := by
  intro os
  kernel_rfl
theorem run_c1 (w : World) : ∀ os : OsState, (HandSHeadRun.endF (HandSHeadRun.stepQ (HandSHeadRun.denQ HandSHeadRun.tabQ) R.prog w) 6000 R.prog w os).map (fun s => (fa.take 80).all fun f => f.ok (obK s)) = some (true) := by
  intro os
  kernel_rfl
theorem run_c2 (w : World) : ∀ os : OsState, (HandSHeadRun.endF (HandSHeadRun.stepQ (HandSHeadRun.denQ HandSHeadRun.tabQ) R.prog w) 6000 R.prog w os).map (fun s => (fa.drop 80).all fun f => f.ok (obK s)) = some (true) := by
  intro os
  kernel_rfl
theorem run_c3 (w : World) : ∀ os : OsState, (HandSHeadRun.endF (HandSHeadRun.stepQ (HandSHeadRun.denQ HandSHeadRun.tabQ) R.prog w) 6000 R.prog w os).map (fun s => (fn.take 40).all fun d => d.ok (obK s)) = some (true) := by
  intro os
  kernel_rfl
theorem run_c5 (w : World) : ∀ os : OsState, (HandSHeadRun.endF (HandSHeadRun.stepQ (HandSHeadRun.denQ HandSHeadRun.tabQ) R.prog w) 6000 R.prog w os).map (fun s => ((fn.drop 40).all fun d => d.ok (obK s)) && (tn.all (mkOk (HandSHeadRun.getT s) (obK s)) && uqOk tn (obK s))) = some (true) := by
  intro os
  kernel_rfl
theorem run_c4 (w : World) : ∀ os : OsState, (HandSHeadRun.endF (HandSHeadRun.stepQ (HandSHeadRun.denQ HandSHeadRun.tabQ) R.prog w) 6000 R.prog w os).map (fun s => (ob s).2) = some (fn.map DefE.val) := by
  intro os
  kernel_rfl
theorem all_cut {α : Type} (xs : List α) (p : α → Bool) (n : Nat) (h1 : (xs.take n).all p = true) (h2 : (xs.drop n).all p = true) : xs.all p = true := by
  rw [← List.take_append_drop n xs, List.all_append, h1, h2]
  rfl
theorem and_cut {a b : Bool} (h : (a && b) = true) : a = true ∧ b = true := by
  cases a with
  | false => cases h
  | true => exact ⟨rfl, h⟩
theorem ob_cut {s : PySem.W.SharedT} {v : List He.FnW} (h1 : ((fa.take 80).all fun f => f.ok (obK s)) = true) (h2 : ((fa.drop 80).all fun f => f.ok (obK s)) = true) (h3 : ((fn.take 40).all fun d => d.ok (obK s)) = true) (h5 : (((fn.drop 40).all fun d => d.ok (obK s)) && (tn.all (mkOk (HandSHeadRun.getT s) (obK s)) && uqOk tn (obK s))) = true) (h4 : (ob s).2 = v) : ob s = (true, v) := by
  have e : (ob s).1 = ((fa.all fun f => f.ok (obK s)) && ((fn.all fun d => d.ok (obK s)) && (tn.all (mkOk (HandSHeadRun.getT s) (obK s)) && uqOk tn (obK s)))) := rfl
  obtain ⟨h6, h7⟩ := and_cut h5
  rw [all_cut fa (fun f => f.ok (obK s)) 80 h1 h2, all_cut fn (fun d => d.ok (obK s)) 40 h3 h6, h7] at e
  exact Prod.ext e h4
theorem run_c (w : World) (os : OsState) : (HandSHeadRun.endF (HandSHeadRun.stepQ (HandSHeadRun.denQ HandSHeadRun.tabQ) R.prog w) 6000 R.prog w os).map (fun s => ob s) = some (hk.val w) := by
  have h1 := run_c1 w os
  have h2 := run_c2 w os
  have h3 := run_c3 w os
  have h4 := run_c4 w os
  have h5 := run_c5 w os
  generalize HandSHeadRun.endF (HandSHeadRun.stepQ (HandSHeadRun.denQ HandSHeadRun.tabQ) R.prog w) 6000 R.prog w os = x at *
  cases x with
  | none => cases h1
  | some s => exact congrArg some (ob_cut (Option.some.inj h1) (Option.some.inj h2) (Option.some.inj h3) (Option.some.inj h5) (Option.some.inj h4))
theorem run (w : World) : HandSHeadRun.RunEq R (PySem.W.view R.prog [36]) hk ob 6000 loose w := by
  intro os
  exact map3 (run_a w os) (run_b w os) (run_c w os)
end K10

namespace PySem.W
section
variable {prog : Program} {w : World} {A : Around} {E : Value → Shared → Prop} {s : Shared} {K : Frag} {x C L f : Addr} {h₀ : Heap} {m : Str → Option Value} {ox : Obj} {od : Option Obj} {name : Str} {b tb : Value}
end
end PySem.W
namespace TS
open PySem L2
noncomputable section
abbrev Tg := String ⊕ Nat
def tagD : D → Option Tg
  | .non => some (.inl "NoneType")
  | .bl _ => some (.inl "bool")
  | .int _ => some (.inl "int")
  | .str _ => some (.inl "str")
  | .lst _ => some (.inl "list")
  | .tup _ => some (.inl "tuple")
  | .ktp _ => some (.inl "tuple")
  | .dK _ _ => some (.inl "dict")
  | .dT _ _ => none
  | .obj n _ => some (.inr n)
  | _ => none
section
variable {M : Gm} {F H : Hp}
end
def fIsi (tab : Tg → Option Bool) (fe : FD) : FD := fun δ => (fe δ).bind fun d δ => match tagD d with
  | some t => (match tab t with
    | some b => .ok (.bl b) δ
    | none => .bad)
  | none => .bad
section
variable {M : Gm} {c : Cn M} {W : WX} {X : Cx} {a c1 : Expr} {tab : Tg → Option Bool} {fe : FD} {p pos : Pos}
end
end
end TS

namespace TS
open PySem L2
noncomputable section
def OpDI (M : Gm) (r : R2) (g : D → D → Option R) : Prop := ∀ (c : Cn M) (F H : Hp) (σ : St) (δ : Sl) (x y : V) (dx dy : D) (z : R) (Q : VK), Ok c F H σ δ → rep M F dx x → rep M F dy y → g dx dy = some z →
  (∀ v F' H', Same F F' → Ok c F' H' σ δ → repR c F' H' σ δ z v → Q v H') → r x y H Q
section
variable {M : Gm} {c : Cn M} {W : WX} {X : Cx} {a b : Expr} {pos : Pos} {fa fb : FD} {r r' : R2} {g g' : D → D → Option R}
theorem OpD.I (h : OpD M r g) : OpDI M r g := fun c F H σ δ x y dx dy z Q ok px py e q => h c F H σ δ x y dx dy z Q ok (.inl px) (.inl py) e q
theorem OpDI.or (h : OpDI M r g) (h' : OpDI M r' g') : OpDI M (fun x y H Q => r x y H Q ∨ r' x y H Q) (gOr g g') := by
  intro c F H σ δ x y dx dy z Q ok px py e q
  unfold gOr at e
  cases e1 : g dx dy with
  | some w => rw [e1] at e; cases e; exact .inl (h c F H σ δ x y dx dy _ Q ok px py e1 q)
  | none => rw [e1] at e; exact .inr (h' c F H σ δ x y dx dy z Q ok px py e q)
end
section
variable {X : Cx} {pins : List (Addr × Obj)} {σ : St} {H : Hp} {s : Shared}
theorem takes0 : Takes X W0 := fun u s' ⟨a, B, sI, pins, σ, H, cls, d, e, I, nb, up, sky, na, os, ag, w⟩ => w.elim
end
def fUnI (g : Int → Int) (fe : FD) : FD := fun δ => (fe δ).bind fun d δ => match d with
  | .int i => .ok (.int (g i)) δ
  | _ => .bad
section
variable {M : Gm} {c : Cn M} {W : WX} {X : Cx} {a b : Expr} {pos : Pos} {fa fb : FD}
theorem di_neg (ha : DI M W X a fa) : DI M W X (.UnaryOp .USub a pos) (fUnI (fun i => -i) fa) := by
  obtain ⟨t, p, h⟩ := ha
  refine ⟨_, pe_un un_neg p, fun c F H σ δ Q ok post => h c F H σ δ _ ok (Post.bind post fun d δ1 v F1 H1 _ s1 ok1 r post => ?_)⟩
  split at post
  · rename_i i _
    have ev : v = .int i := by unfold ρD rep at r; exact r
    exact ⟨i, ev, post.ok ok1 (rep_int' _)⟩
  · exact post.elim
theorem de_dnew : DE M W X (.Dict [] [] pos) (fun δ => .ok (.own (.dK [] [])) δ) :=
  ⟨_, pe_dnewK, fun c F H σ δ Q ok post => fun p hp => post.ok (ok.alloc hp) (ok.made hp ⟨[], upd_same, rfl, reps_nil⟩)⟩
end
def setF (vs : List D) (j : Nat) (d : D) : Option (List D) := if vs.length = j then some (vs ++ [d]) else if j < vs.length then some (vs.set j d) else none
def sFldS (i : Nat) (ix : Nat → Option Nat) (fe : FD) : FS := fun δ => (fe δ).bindS fun d δ1 => match δ1[i]? with
  | some (some (.own (.o n vs))) => (match ix n with
    | some j => (match setF vs j d with
      | some vs' => .nx (δ1.set i (some (.own (.o n vs'))))
      | none => .bad)
    | none => .bad)
  | some (some (.brw (.o n vs))) => (match ix n with
    | some j => (match setF vs j d with
      | some vs' => .nx (δ1.set i (some (.brw (.o n vs'))))
      | none => .bad)
    | none => .bad)
  | _ => .bad
section
variable {M : Gm} {c : Cn M} {W : WX} {X : Cx}
end
section
variable {M : Gm} {P : Program} {w : World} {mg : Str → Option Value} {base : Heap} {k : Nat} {f : Addr} {fm : Fm}
theorem fnR_raw {fd : FuncData} {ps : List Str} (F : FnOk P w M.K mg base (L2.CX P w) k f fd ps (spD M fm)) (hb : Binds M.K fd ps []) : FnR P w M.K mg base (L2.CX P w) k f (spD M fm) :=
  (F.raw (dvs := []) hb .nil).imp fun vs H Q E h => by rw [List.append_nil]; exact h
end
end
end TS

namespace TS
open PySem L2
noncomputable section
def FnK (P : Program) (w : World) (K : PySem.W.Frag) (mg : Str → Option Value) (base : Heap) (CX : CXT) (k : Nat) (f : Addr) (n : Nat) (ks : List Str) (sp : Sp) : Prop :=
  ∀ (A : Around) (outer : List Env) (s : Shared) (H : Hp) (us ws : List Value) (vs zs : List V) (Q : VK) (E : XK), Room k A → Env0 P w K mg base A outer s H → vs.length = n → zs.length = ks.length → Vals vs us → Vals zs ws → sp (vs ++ zs) H Q E →
    codeAny (model P w) A (.call (.ref f) ⟨us, ks.zip ws⟩) (CR CX outer P w H s Q E) s
section
variable {P : Program} {w : World} {K : PySem.W.Frag} {mg : Str → Option Value} {base : Heap} {CX : CXT} {j k n : Nat} {ks : List Str} {f : Addr} {sp sp' : Sp}
theorem FnK.mono (F : FnK P w K mg base CX j f n ks sp) (h : j ≤ k) : FnK P w K mg base CX k f n ks sp := fun A outer s H us ws vs zs Q E hr => F A outer s H us ws vs zs Q E (hr.mono h)
theorem FnOk.kw {fd : FuncData} {ps : List Str} {g : List Value → List Value → List Value} {gV : List V → List V → List V} (F : FnOk P w K mg base CX k f fd ps sp) (hb : KBn K fd ps n ks g gV)
    (hi : ∀ vs zs H Q E, vs.length = n → zs.length = ks.length → sp' (vs ++ zs) H Q E → sp (gV vs zs) H Q E) : FnK P w K mg base CX k f n ks sp' := by
  intro A outer s H us ws vs zs Q E hr e0 l1 l2 r rz h
  exact F.run A outer s H ⟨us, ks.zip ws⟩ (g us ws) (gV vs zs) Q E hr e0 (hb.to s us ws (e0.mod.kin.keeps fun b o e => (e0.bs b o e).1) (r.length.symm.trans l1) (rz.length.symm.trans l2)) (hb.rel r rz) (hi vs zs H Q E l1 l2 h)
end
section
variable {M : Gm} {P : Program} {w : World} {mg : Str → Option Value} {base : Heap} {k n : Nat} {ks : List Str} {f : Addr} {fm : Fm}
end
section
variable {X : Cx} {W : WX} {pins : List (Addr × Obj)} {σ : St} {H : Hp} {s : Shared}
end
section
variable {X : Cx} {W : WX} {k n : Nat} {ks : List Str} {kws : List Keyword} {f C : Addr} {sp : Sp} {x m : Str} {e o : Expr} {es : List Expr} {ta : TE} {t tkw : TA} {p pos apos : Pos}
end
def DKw (M : Gm) (W : WX) (X : Cx) (kws : List Keyword) (f : FA) : Prop := ∃ t, PK X kws t ∧ ∀ (c : Cn M) F H σ δ Q, Ok c F H σ δ → Post c W F σ (ρA c) (f δ) Q → t σ H Q
def fOwnK (f : Fm) (n m : Nat) (fa fk : FA) : FE := fun δ => (fa δ).bind fun ds δ1 => (fk δ1).bind fun es δ2 => if ds.length = n ∧ es.length = m then outE (f none (ds ++ es)) δ2 else .bad
section
variable {M : Gm} {c : Cn M} {W : WX} {X : Cx} {e : Expr} {es : List Expr} {kws : List Keyword} {fa fk : FA} {f : Fm} {n m : Nat}
theorem dk_nil : DKw M W X [] aNil := ⟨_, pk_nil, fun c F H σ δ Q ok post => post.ok ok reps_nil⟩
theorem dk_cons {fe : FD} {nm : Option Str} {kpos : Pos} (he : DI M W X e fe) (hr : DKw M W X kws fk) : DKw M W X (⟨nm, e, kpos⟩ :: kws) (aCons fe fk) := by
  obtain ⟨t, p, h⟩ := he
  obtain ⟨t', p', h'⟩ := hr
  refine ⟨_, pk_cons p p', fun c F H σ δ Q ok post => h c F H σ δ _ ok (Post.bind post fun d δ1 v F1 H1 _ s1 ok1 r post => h' c F1 H1 σ δ1 _ ok1 (Post.bind post fun ds δ2 vs F2 H2 _ s2 ok2 rs post => ?_))⟩
  exact post.ok ok2 (reps_cons (rep_mono s2 _ _ r) rs)
end
end
end TS

namespace TS
open PySem L2
noncomputable section
def gAdd : D → D → Option R := gOr (gI (fun _ _ => true) fun i j => i + j) (gOr gCat gCatS)
def gMul : D → D → Option R := gOr (gI CMulB fun i j => i * j) gRep
abbrev gSub : D → D → Option R := gI (fun _ _ => true) fun i j => i - j
def gFdiv : D → D → Option R := gOr (gI CDivB fun i j => i / j) (gI CDivNB fun i j => i.fdiv j)
abbrev gMod : D → D → Option R := gI CModB fun i j => i % j
abbrev gPow : D → D → Option R := gI CPowB fun i j => i ^ j.toNat
abbrev gLt : D → D → Option R := gB fun i j => decide (i < j)
abbrev gLe : D → D → Option R := gB fun i j => decide (i ≤ j)
abbrev gGt : D → D → Option R := gB fun i j => decide (j < i)
abbrev gGe : D → D → Option R := gB fun i j => decide (j ≤ i)
def rAddAll : R2 := fun x y H Q => rI0 (fun i j => .int (i + j)) x y H Q ∨ (rCat x y H Q ∨ (∃ i j, x = .str i ∧ y = .str j ∧ i.length + j.length ≤ sizeLine ∧ Q (.str (i ++ j)) H))
def rMulAll : R2 := fun x y H Q => rI CMulW (fun i j => .int (i * j)) x y H Q ∨ rRep x y H Q
section
variable {M : Gm} {c : Cn M} {W : WX} {X : Cx} {a b : Expr} {pos p : Pos} {fa fb : FD} {i : Nat}
theorem op_addAll : OpR X (binaryOp .Add) rAddAll := OpR.or op_add (OpR.or op_cat op_add_str)
theorem op_mulAll : OpR X (binaryOp .Mult) rMulAll := OpR.or op_mulW op_rep
theorem od_addAll : OpD M rAddAll gAdd := OpD.or od_I0 (OpD.or od_cat od_catS)
theorem od_mulAll : OpD M rMulAll gMul := OpD.or od_mul od_rep
theorem x_add (ha : DI M W X a fa) (hb : DP M W X b fb) : DE M W X (.BinOp a .Add b pos) (fBin gAdd fa fb) := d_op (fun h h' => pe_op op_addAll h h') od_addAll ha hb
theorem x_mul (ha : DI M W X a fa) (hb : DP M W X b fb) : DE M W X (.BinOp a .Mult b pos) (fBin gMul fa fb) := d_op (fun h h' => pe_op op_mulAll h h') od_mulAll ha hb
theorem x_sub (ha : DI M W X a fa) (hb : DP M W X b fb) : DE M W X (.BinOp a .Sub b pos) (fBin gSub fa fb) := d_op (fun h h' => pe_op op_sub h h') od_sub ha hb
theorem op_fdivNeg : OpR X (binaryOp .FloorDiv) (rI (fun _ j => j < 0 ∧ j.natAbs.log2 < 9000) fun i j => .int (i.fdiv j)) := opI fun i j _ _ _ _ _ hc q => PyProof.Rows.floordiv_int (by have := hc.1; omega) q (.inl (PyProof.noPylong_of_log2 hc.2))
theorem x_fdiv (ha : DI M W X a fa) (hb : DP M W X b fb) : DE M W X (.BinOp a .FloorDiv b pos) (fBin gFdiv fa fb) := d_op (fun h h' => pe_op (OpR.or op_fdivW op_fdivNeg) h h') (OpD.or od_fdiv od_fdivN) ha hb
theorem x_mod (ha : DI M W X a fa) (hb : DP M W X b fb) : DE M W X (.BinOp a .Mod b pos) (fBin gMod fa fb) := d_op (fun h h' => pe_op op_mod h h') od_mod ha hb
theorem x_pow (ha : DI M W X a fa) (hb : DP M W X b fb) : DE M W X (.BinOp a .Pow b pos) (fBin gPow fa fb) := d_op (fun h h' => pe_op op_pow h h') od_pow ha hb
theorem x_gt (ha : DI M W X a fa) (hb : DP M W X b fb) : DE M W X (.Compare a [.Gt] [b] pos) (fBin gGt fa fb) := d_op (fun h h' => pe_cmpR op_gt h h' (nomark _)) od_B ha hb
theorem t_lt (ha : DI M W X a fa) (hb : DP M W X b fb) : DT M W X (.Compare a [.Lt] [b] pos) (fTst (fBin gLt fa fb)) := dt_op (fun h h' => pt_cmpR op_lt h h' (nomark _)) od_B ha hb
theorem t_gt (ha : DI M W X a fa) (hb : DP M W X b fb) : DT M W X (.Compare a [.Gt] [b] pos) (fTst (fBin gGt fa fb)) := dt_op (fun h h' => pt_cmpR op_gt h h' (nomark _)) od_B ha hb
theorem op_eqM {k : Nat} (hK : X.K = M.K) (hr : Room k X.A) : OpR X (compareOp .Eq) (rEqD M.K) := by rw [← hK]; exact op_eqD hr.units
theorem op_neM {k : Nat} (hK : X.K = M.K) (hr : Room k X.A) : OpR X (compareOp .NotEq) (rNeD M.K) := by rw [← hK]; exact op_neD hr.units
theorem x_eq {k : Nat} (hr : Room k X.A) (ha : DI M W X a fa) (hb : DP M W X b fb) (hK : X.K = M.K := by rfl) : DE M W X (.Compare a [.Eq] [b] pos) (fBin gEq fa fb) := d_op (fun h h' => pe_cmpR (op_eqM hK hr) h h' (nomark _)) od_eq ha hb
theorem t_eq {k : Nat} (hr : Room k X.A) (ha : DI M W X a fa) (hb : DP M W X b fb) (hK : X.K = M.K := by rfl) : DT M W X (.Compare a [.Eq] [b] pos) (fTst (fBin gEq fa fb)) := dt_op (fun h h' => pt_cmpR (op_eqM hK hr) h h' (nomark _)) od_eq ha hb
theorem t_ne {k : Nat} (hr : Room k X.A) (ha : DI M W X a fa) (hb : DP M W X b fb) (hK : X.K = M.K := by rfl) : DT M W X (.Compare a [.NotEq] [b] pos) (fTst (fBin gNe fa fb)) := dt_op (fun h h' => pt_cmpR (op_neM hK hr) h h' (nomark _)) od_ne ha hb
theorem t_neV {k : Nat} (hr : Room k X.A) (ha : PE X a (tVar i)) (hb : DP M W X b fb) (hK : X.K = M.K := by rfl) : DT M W X (.Compare a [.NotEq] [b] pos) (fTst (fBinV gNe i fb)) := dt_opV (fun h h' => pt_cmpR (op_neM hK hr) h h' (nomark _)) od_ne ha hb
theorem x_in {k : Nat} (hr : Room k X.A) (ha : DI M W X a fa) (hb : DP M W X b fb) (hm : behindInMarks .In b = false := by rfl) (hK : X.K = M.K := by rfl) : DE M W X (.Compare a [.In] [b] pos) (fBin gIn fa fb) := d_op (fun h h' => pe_cmpR (op_inAll hK (hu_of hr)) h h' hm) (od_in false rfl) ha hb
theorem x_ix {k : Nat} (hr : Room k X.A) (ha : DI M W X a fa) (hb : DP M W X b fb) (hs : PlainIx b := by intro _ _; rfl) (hK : X.K = M.K := by rfl) : DE M W X (.Subscript a b pos) (fBin gIx fa fb) := d_op (fun h h' => pe_ix (ix_all hK (hu_of hr)) h h' hs) od_ix ha hb
theorem x_ixV {k : Nat} (hr : Room k X.A) (ha : PE X a (tVar i)) (hb : DP M W X b fb) (hs : PlainIx b := by intro _ _; rfl) (hK : X.K = M.K := by rfl) : DE M W X (.Subscript a b pos) (fBinV gIx i fb) := d_opV (fun h h' => pe_ix (ix_all hK (hu_of hr)) h h' hs) od_ix ha hb
end
section
variable {M : Gm} {c : Cn M} {W : WX} {X : Cx} {e a : Expr} {es : List Expr} {pos p : Pos} {fa : FA} {x : Str}
theorem e_b {id : String} {r : RC} {g : List D → Option R} (hc : CallR X (.builtin id) r) (hd : CallD M r g) (hv : bootBuiltins x = some (.builtin id)) (hg : Gl X x) (hm : X.mg x = none) (ha : DB M W X (e :: es) fa) (hn : x ≠ "__name__" := by decide) (hdb : (x == ("__debug__" : Str)) = false := by decide)
    (he : starEach (e :: es) X.env = (false, eval e X.env) :: starEach es X.env := by rfl) (hpl : (backTo pos (starEach es X.env)).any (·.1) = false := by rfl) : DE M W X (.Call (.Name x p) (e :: es) [] pos) (fCal g fa) := d_call (fun h => pe_callB hc hg hm hv h hn hdb he hpl) hd ha
theorem e_t {T : String} {r : RC} {g : List D → Option R} (hc : CallR X (.type T) r) (hd : CallD M r g) (hv : bootBuiltins x = some (.type T)) (hg : Gl X x) (hm : X.mg x = none) (ha : DB M W X (e :: es) fa) (hn : x ≠ "__name__" := by decide) (hdb : (x == ("__debug__" : Str)) = false := by decide)
    (he : starEach (e :: es) X.env = (false, eval e X.env) :: starEach es X.env := by rfl) (hpl : (backTo pos (starEach es X.env)).any (·.1) = false := by rfl) : DE M W X (.Call (.Name x p) (e :: es) [] pos) (fCal g fa) := d_call (fun h => pe_callTy hc hg hm hv h hn hdb he hpl) hd ha
theorem bt_len : bootBuiltins "len" = some (.builtin "len") := by decide +kernel
theorem bt_abs : bootBuiltins "abs" = some (.builtin "abs") := by decide +kernel
theorem bt_max : bootBuiltins "max" = some (.builtin "max") := by decide +kernel
theorem bt_min : bootBuiltins "min" = some (.builtin "min") := by decide +kernel
theorem bt_all : bootBuiltins "all" = some (.builtin "all") := by decide +kernel
theorem bt_divmod : bootBuiltins "divmod" = some (.builtin "divmod") := by decide +kernel
theorem bt_repr : bootBuiltins "repr" = some (.builtin "repr") := by decide +kernel
theorem bt_isinstance : bootBuiltins "isinstance" = some (.builtin "isinstance") := by decide +kernel
theorem bt_int : bootBuiltins "int" = some (.type "int") := by decide +kernel
theorem bt_list : bootBuiltins "list" = some (.type "list") := by decide +kernel
variable (hg : Gl X x) (hm : X.mg x = none)
def gMax : List D → Option R := gcOr gMax2 gMaxL
def gMin : List D → Option R := gcOr gMin2 gMinL
theorem b_len (hg : Gl X "len") (hm : X.mg "len" = none) (ha : DB M W X [e] fa) (hK : X.K = M.K := by rfl) (he : starEach (e :: []) X.env = (false, eval e X.env) :: starEach [] X.env := by rfl) (hpl : (backTo pos (starEach [] X.env)).any (·.1) = false := by rfl) : DE M W X (.Call (.Name "len" p) [e] [] pos) (fCal gLen fa) := e_b (call_lenAll hK) cd_len bt_len hg hm ha (by decide) (by decide) he hpl
theorem b_abs (hg : Gl X "abs") (hm : X.mg "abs" = none) (ha : DB M W X [e] fa) (he : starEach (e :: []) X.env = (false, eval e X.env) :: starEach [] X.env := by rfl) (hpl : (backTo pos (starEach [] X.env)).any (·.1) = false := by rfl) : DE M W X (.Call (.Name "abs" p) [e] [] pos) (fCal gAbs fa) := e_b call_abs cd_abs bt_abs hg hm ha (by decide) (by decide) he hpl
theorem b_max (hc : X.calm = true) (hg : Gl X "max") (hm : X.mg "max" = none) (ha : DB M W X (e :: es) fa) (he : starEach (e :: es) X.env = (false, eval e X.env) :: starEach es X.env := by rfl) (hpl : (backTo pos (starEach es X.env)).any (·.1) = false := by rfl) : DE M W X (.Call (.Name "max" p) (e :: es) [] pos) (fCal gMax fa) := e_b (CallR.or (call_max2 hc) (cr_max hc)) (CallD.or cd_max2 cd_maxL) bt_max hg hm ha (by decide) (by decide) he hpl
theorem b_min (hc : X.calm = true) (hg : Gl X "min") (hm : X.mg "min" = none) (ha : DB M W X (e :: es) fa) (he : starEach (e :: es) X.env = (false, eval e X.env) :: starEach es X.env := by rfl) (hpl : (backTo pos (starEach es X.env)).any (·.1) = false := by rfl) : DE M W X (.Call (.Name "min" p) (e :: es) [] pos) (fCal gMin fa) := e_b (CallR.or (call_min2 hc) (cr_min hc)) (CallD.or cd_min2 cd_minL) bt_min hg hm ha (by decide) (by decide) he hpl
theorem b_all (hc : X.calm = true) (hg : Gl X "all") (hm : X.mg "all" = none) (ha : DB M W X [e] fa) (he : starEach (e :: []) X.env = (false, eval e X.env) :: starEach [] X.env := by rfl) (hpl : (backTo pos (starEach [] X.env)).any (·.1) = false := by rfl) : DE M W X (.Call (.Name "all" p) [e] [] pos) (fCal gAll fa) := e_b (cr_all hc) cd_all bt_all hg hm ha (by decide) (by decide) he hpl
theorem b_divmod (hg : Gl X "divmod") (hm : X.mg "divmod" = none) (ha : DB M W X (e :: es) fa) (he : starEach (e :: es) X.env = (false, eval e X.env) :: starEach es X.env := by rfl) (hpl : (backTo pos (starEach es X.env)).any (·.1) = false := by rfl) : DE M W X (.Call (.Name "divmod" p) (e :: es) [] pos) (fCal gDivmod fa) := e_b call_divmodP cd_divmod bt_divmod hg hm ha (by decide) (by decide) he hpl
theorem b_int (hg : Gl X "int") (hm : X.mg "int" = none) (ha : DB M W X [e] fa) (he : starEach (e :: []) X.env = (false, eval e X.env) :: starEach [] X.env := by rfl) (hpl : (backTo pos (starEach [] X.env)).any (·.1) = false := by rfl) : DE M W X (.Call (.Name "int" p) [e] [] pos) (fCal gInt fa) := e_t call_int1 cd_int bt_int hg hm ha (by decide) (by decide) he hpl
theorem b_list (hg : Gl X "list") (hm : X.mg "list" = none) (ha : DB M W X [e] fa) (hK : X.K = M.K := by rfl) (he : starEach (e :: []) X.env = (false, eval e X.env) :: starEach [] X.env := by rfl) (hpl : (backTo pos (starEach [] X.env)).any (·.1) = false := by rfl) : DE M W X (.Call (.Name "list" p) [e] [] pos) (fCal gList fa) := e_t call_list_of (cd_list hK) bt_list hg hm ha (by decide) (by decide) he hpl
theorem k_ty {T : String} (hv : bootBuiltins x = some (.type T)) (hg : Gl X x) (hm : X.mg x = none) (hn : x ≠ "__name__" := by decide) (hdb : (x == ("__debug__" : Str)) = false := by decide) : PE X (.Name x pos) (tC (.ty T)) :=
  ⟨fun pins s σ H Q I h => ld_blt I hg hm hv ⟨.ty T, H, I, rfl, h⟩ hn hdb⟩
end
section
variable {M : Gm} {c : Cn M} {W : WX} {X : Cx} {o e : Expr} {es : List Expr} {apos cpos : Pos} {fa : FA} {i : Nat}
theorem m_append (ho : PE X o (tVar i)) (ha : DA M W X (e :: es) fa) (hb : attributeBase o "append" X.env (eval o X.env) = eval o X.env := by rfl) (hfew : ((backTo cpos (starEach (e :: es) X.env)).all (fun x => !x.1) && (backToKw cpos (keywordEach [] X.env)).all (fun x => x.1.isSome) && decide ((e :: es).length + ([] : List Keyword).length + (if ([] : List Keyword).isEmpty then 0 else 1) < 30)) = true := by rfl) (hl : (apos.endLine == cpos.line) = true := by rfl)
    (he : starEach (e :: es) X.env = (false, eval e X.env) :: starEach es X.env := by rfl) (hpl : (backTo cpos (starEach es X.env)).any (·.1) = false := by rfl) : DI M W X (.Call (.Attribute o "append" apos) (e :: es) [] cpos) (fMut i mAppend fa) :=
  d_mut (o := o) (fun h => pe_bm PySem.F.plainAttrs_list PySem.F.slot_list_append PySem.F.type_list_append mt_append ho h hb hfew hl he hpl) md_append ha
end
section
variable {M : Gm} {c : Cn M} {W : WX} {X : Cx} {e o : Expr} {f : Fm}
def fOwnK0 (f : Fm) (m : Nat) (fk : FA) : FE := fun δ => (fk δ).bind fun es δ2 => if es.length = m then outE (f none es) δ2 else .bad
theorem reps_ints {M : Gm} {F : Hp} : ∀ (ns : List Int), reps M F (ns.map D.int) (ns.map V.int)
  | [] => reps_nil
  | n :: ns => reps_cons (rep_int' _) (reps_ints ns)
end
end
end TS

namespace TS
open PySem L2
noncomputable section
def shOk (p : PyData) : Bool := gd (p.showable = true ∧ p.hasDict = false ∧ p.depth ≤ 32 ∧ p.shown.length ≤ sizeLine)
section
variable {X : Cx} {M : Gm} {W : WX} {e : Expr} {es : List Expr} {fa : FA} {p pos : Pos}
end
end
end TS

namespace TS
open PySem L2
noncomputable section
def tLst (n : Nat) (hs : List D → Sl → SR) : R → Sl → SR := fun r δ => match r with
  | .imm (.lst ds) => if ds.length = n then hs ds δ else .bad
  | .own (.l ds) => if ds.length = n then hs ds δ else .bad
  | _ => .bad
section
variable {M : Gm} {W : WX} {X : Cx}
end
section
variable {X : Cx} {W : WX} {k n : Nat} {ks : List Str} {m : Str} {o e : Expr} {es : List Expr} {kws : List Keyword} {ta : TE} {t tkw : TA} {pos apos : Pos}
end
section
variable {M : Gm} {W : WX} {X : Cx} {e o : Expr} {es : List Expr} {kws : List Keyword} {fa fk : FA} {n l : Nat}
def fMethK (tab : Nat → Option Fm) (n l : Nat) (fo : FD) (fa fk : FA) : FE := fun δ => (fo δ).bind fun d δ1 => match d with
  | .obj c vs => (match tab c with
    | some f => (fa δ1).bind fun ds δ2 => (fk δ2).bind fun es δ3 => if ds.length = n ∧ es.length = l then outE (f none (.obj c vs :: (ds ++ es))) δ3 else .bad
    | none => .bad)
  | _ => .bad
end
end
end TS

namespace TS
open PySem L2
noncomputable section
section
variable {X : Cx} {W : WX} {k : Nat} {a b : Expr} {ta tb : TE} {pos : Pos}
end
def outO (r : FR) (δ : Sl) : Res R := match r with
  | .ok (.own o) _ => .ok (.own o) δ
  | .exc x _ => .exc x δ
  | _ => .bad
def fBinO (tab : Nat → Option Fm) (fa fb : FD) : FE := fun δ => (fa δ).bind fun x δ1 => (fb δ1).bind fun y δ2 => match x, y with
  | .obj n vs, .obj m ws => if n = m then (match tab n with
    | some f => outO (f none [.obj n vs, .obj m ws]) δ2
    | none => .bad) else .bad
  | _, _ => .bad
section
variable {M : Gm} {W : WX} {X : Cx} {a b e : Expr} {fa fb : FD}
end
def sPar3 (i j l : Nat) (fa : FA) : FS := fun δ => (fa δ).bindS fun ds δ1 => match ds with
  | [a, b, c] => .nx (((δ1.set i (some (.imm a))).set j (some (.imm b))).set l (some (.imm c)))
  | _ => .bad
section
variable {M : Gm} {W : WX} {X : Cx} {fa : FA}
end
end
end TS

namespace TS
open PySem L2
noncomputable section
def flatR : R → Bool
  | .imm .non => true
  | .imm (.bl _) => true
  | .imm (.int _) => true
  | .imm (.str _) => true
  | _ => false
def outP (r : FR) (δ : Sl) : Res R := match r with
  | .ok r _ => if flatR r then .ok r δ else .bad
  | _ => .bad
def fOwnP (f : Fm) (fa : FA) : FE := fun δ => (fa δ).bind fun ds δ1 => if ds.any D.dic then .bad else outP (f none ds) δ1
section
variable {M : Gm} {c : Cn M} {F H : Hp} {σ : St} {δ : Sl}
end
section
variable {M : Gm} {W : WX} {X : Cx} {e : Expr} {es : List Expr} {fa : FA} {f : Fm}
end
end
end TS

namespace TS
open PySem L2
noncomputable section
section
variable {M : Gm} {W : WX} {X : Cx} {e : Expr} {es : List Expr} {fa : FA} {p pos : Pos}
end
def pick {α : Type} (n : Nat) (ix : List Nat) (d : α) (us ws : List α) : List α := us ++ ix.map fun j => ws.getD j d
section
variable {M : Gm} {F H : Hp}
theorem vals_getD {zs : List V} {ws : List Value} (h : Vals zs ws) (j : Nat) : RelV (zs.getD j .non) (ws.getD j .none) := by
  induction h generalizing j with
  | nil => exact rfl
  | cons h1 h2 ih =>
    cases j with
    | zero => exact h1
    | succ j => exact ih j
theorem vals_ix {zs : List V} {ws : List Value} (h : Vals zs ws) : ∀ ix : List Nat, Vals (ix.map fun j => zs.getD j .non) (ix.map fun j => ws.getD j .none)
  | [] => .nil
  | j :: ix => .cons (vals_getD h j) (vals_ix h ix)
theorem reps_getD : ∀ {ds : List D} {vs : List V}, reps M F ds vs → ∀ j : Nat, rep M F (ds.getD j .non) (vs.getD j .non)
  | [], vs, h, j => by unfold reps at h; subst h; simp [rep]
  | d :: ds, vs, h, j => by
    unfold reps at h
    obtain ⟨v, r, rfl, h1, h2⟩ := h
    cases j with
    | zero => exact h1
    | succ j => exact reps_getD h2 j
end
section
variable {M : Gm} {P : Program} {w : World} {mg : Str → Option Value} {base : Heap} {k n : Nat} {ks ps : List Str} {f : Addr} {fm : Fm} {fd : FuncData} {ix : List Nat}
end
end
end TS

namespace TS
open PySem PySem.Spec L2
noncomputable section
section
variable {X : Cx} {tg : Expr}
end
section
variable {M : Gm} {W : WX} {X : Cx} {tg e : Expr}
end
end
end TS

namespace TS
open PySem L2 PyProof.Rows
open AutoSeq1 (wpAny_loadPart')
noncomputable section
section
variable {M : Gm} {c : Cn M} {W : WX} {X : Cx} {tg e : Expr} {F F1 H H1 : Hp} {σ : L2.St} {δ : Sl}
end
end
end TS

namespace TS
open PySem L2 PySem.W PySem.Calls PyProof.Rows
noncomputable section
inductive Bas : String → Prop
  | ve : Bas "ValueError"
  | ar : Bas "ArithmeticError"
  | lk : Bas "LookupError"
theorem Bas.base {B : String} (b : Bas B) : ExcBaseFacts B (B ++ ".__new__") (B ++ ".__init__") (bmOf B) := by
  cases b
  · exact F.excBase_ValueError
  · exact F.excBase_ArithmeticError
  · exact F.excBase_LookupError
theorem Bas.store {B : String} (b : Bas B) : StoreFacts B (bmOf B) "object.__setattr__" "object" := by
  cases b
  · exact F.store_ValueError
  · exact F.store_ArithmeticError
  · exact F.store_LookupError
structure OxC (K : PySem.W.Frag) (C : Addr) : Prop where
  bas : ∃ B, Bas B ∧ excInitIn K C (bmOf B) (B ++ ".__new__") = true ∧ excOver K C (bmOf B) = true
  hd : ∃ cd, clsIn K C = some cd ∧ cd.hasDict = true
  sa : findIn K (.ref C) "__setattr__" = some (some (.builtin "object.__setattr__"))
  exC : subIn K (.ref C) (.type "BaseException") = some true
  tyC : typeIn K (.ref C) = some (.type "type")
  kC : keepIn K (.ref C) = true
section
open Builtin Builtin.ObjectAttr
variable {prog : Program} {w : World} {A : Around} {R : Result → Shared → Prop} {hp : Heap} {g : Array GenState} {d : Drawn} {t : Nat} {os : OsState} {K : PySem.W.Frag} {name : Str} {tk : Tok} {v : Value} {x C dx : Addr} {fv : Array Value}
theorem ox_new (T : OxC K C) (X : K.In hp) (hx : hp.get? x = some { cls := .ref C, data := .fields fv }) (ha : findIn K (.ref C) name = some none)
    (hq : ∀ h2 tk2 dx, (∀ b o, b ≠ x → hp.get? b = some o → h2.get? b = some o) → hp.objs.size ≤ dx → dx ≠ x → h2.get? x = some { cls := .ref C, dict := some dx, data := .fields fv } →
      h2.Ns1 dx (fun y => if y = name then some v else none) → R (.ok (.ret .none)) ⟨h2, g, d, tk2, os⟩) :
    codeAny (model prog w) A (.call (.builtin "object.__setattr__") ⟨[.ref x, .str name tk, v], []⟩) R ⟨hp, g, d, t, os⟩ := by
  obtain ⟨B, hB, _, ov⟩ := T.bas
  obtain ⟨cd, hcd, hh⟩ := T.hd
  have J : InstAt hp x { cls := .ref C, data := .fields fv } C none := ⟨hx, rfl, rfl, trivial⟩
  have hxs : x ≠ hp.objs.size := Nat.ne_of_lt (Heap.lt_size hx)
  have hcls : Looks (model prog w) hp (classData C) cd := looks_clsIn X hcd
  refine osa_openX (s := ⟨hp, g, d, t, os⟩) hB.store X J ov (r := none) (by unfold takerIn; rw [ha]; rfl) fun bb => ?_
  show wpAny _ _ (storeInOwnDict (.ref x) (.ref C) (.str name tk) name v bb) _ _ _
  obtain ⟨nm, bs, mro, ns, qn, hd, sn, sb, ab, col, del⟩ := cd
  dsimp only at hh
  subst hh
  unfold storeInOwnDict ownDictForStores
  repeat (first | with_reducible refine HandSPX.store_in_new ?_ ?_ | with_reducible refine wpAny_loadPart_at hx ?_ | with_reducible refine hcls.at ?_ | wp_step)
  · exact ⟨_, #[], _, (Heap.get?_update_ne _ _ _ _ hxs.symm).trans (Heap.get?_push_at rfl rfl), rfl, fun e he => absurd he (by simp), fun _ => rfl⟩
  · intro h2 tk2 hn2 hs
    have hx2 : (hp.push { cls := .type "dict", data := .dict #[] }).get? x = some { cls := .ref C, data := .fields fv } := Heap.get?_push_of_some _ hx
    refine hq h2 tk2 hp.objs.size (fun b o hb ho => ?_) (Nat.le_refl _) hxs.symm ?_ hn2
    · exact (hs.2 b (Nat.ne_of_lt (Heap.lt_size ho))).trans ((Heap.get?_update_ne _ _ _ _ hb).trans (Heap.get?_push_of_some _ ho))
    · exact (hs.2 x hxs).trans (Heap.get?_update_self _ hx2 rfl)
theorem ox_old {m0 : Str → Option Value} {nl : List Str} (T : OxC K C) (X : K.In hp) (hx : hp.get? x = some { cls := .ref C, dict := some dx, data := .fields fv }) (hns : hp.Ns1 dx m0) (hw : Within m0 nl) (hz : nl.length ≤ 1000) (ha : findIn K (.ref C) name = some none)
    (hq : ∀ h2 tk2, (∀ b o, b ≠ dx → hp.get? b = some o → h2.get? b = some o) → h2.Ns1 dx (fun y => if y = name then some v else m0 y) → R (.ok (.ret .none)) ⟨h2, g, d, tk2, os⟩) :
    codeAny (model prog w) A (.call (.builtin "object.__setattr__") ⟨[.ref x, .str name tk, v], []⟩) R ⟨hp, g, d, t, os⟩ := by
  obtain ⟨B, hB, _, ov⟩ := T.bas
  obtain ⟨cd, hcd, hh⟩ := T.hd
  obtain ⟨oD, esD, epD, hoD, hdD, _⟩ := hns.count hw
  have J : InstAt hp x { cls := .ref C, dict := some dx, data := .fields fv } C (some oD) := ⟨hx, rfl, rfl, hoD⟩
  have hcls : Looks (model prog w) hp (classData C) cd := looks_clsIn X hcd
  refine osa_openX (s := ⟨hp, g, d, t, os⟩) hB.store X J ov (r := none) (by unfold takerIn; rw [ha]; rfl) fun bb => ?_
  show wpAny _ _ (storeInOwnDict (.ref x) (.ref C) (.str name tk) name v bb) _ _ _
  obtain ⟨nm, bs, mro, ns, qn, hd, sn, sb, ab, col, del⟩ := cd
  dsimp only at hh
  subst hh
  unfold storeInOwnDict ownDictForStores
  repeat (first | with_reducible refine OEX.store_in_old hns hw hz ?_ | with_reducible refine wpAny_loadPart_at hx ?_ | with_reducible refine hcls.at ?_ | wp_step)
  intro h2 tk2 hn2 hs
  exact hq h2 tk2 (fun b o hb ho => (hs.2 b hb).trans ho) hn2
end
section
variable {X : Cx} {pins : List (Addr × Obj)} {σ : L2.St} {H : Hp} {s : Shared} {a C dx : Addr} {f : Str} {y : V} {u : Value} {fs : List (Str × V)} {Q : Unit → Shared → Prop} {E : Value → Shared → Prop} {A : Around}
theorem gst_new (T : OxC X.K C) (I : Inv X pins σ H s) (ea : H a = some (exo a C none)) (hno : findIn X.K (.ref C) f = some none) (ry : RelV y u)
    (h : ∀ dx s2, H dx = none → dx ≠ a → Inv X pins σ (upd (upd H dx (exd dx [(f, y)])) a (exo a C (some dx))) s2 → Q () s2) : wpAny (model X.prog X.w) A (setAttr (.ref a) f u) Q E s := by
  obtain ⟨t1, ho⟩ := exo_at I.hok ea
  obtain ⟨hp, g, d, t, os⟩ := s
  refine set_plain I.kIn (ox := { cls := .ref C, dict := none, data := .fields #[.ref t1, .none, .none, .none, .bool false, .none] }) (od := none) ⟨ho, rfl, rfl, trivial⟩ T.sa ?_
  refine ox_new T I.kIn ho hno (fun h2 tk2 dx k dn dne hx hn => ?_)
  have fr : H dx = none := I.hok.fresh dn
  have nd : ∀ {b : Addr} {o : Obj}, hp.get? b = some o → b ≠ dx := fun {b o} q => Nat.ne_of_lt (Nat.lt_of_lt_of_le (Heap.lt_size q) dn)
  have na : ∀ {b : Addr}, H b = none → b ≠ a := fun {b} n z => by
    rw [z, ea] at n
    cases n
  have U : Un X.fs [] H (upd (upd H dx (exd dx [(f, y)])) a (exo a C (some dx))) hp h2 :=
    { keep := fun b o q n _ _ => k b o (na n) q
      slot := fun b o q n _ _ => ⟨o.slots, k b o (na n) q⟩
      free := fun b o q n _ => (upd_ne (na n)).trans ((upd_ne (nd q)).trans n)
      there := fun b o q _ => by
        by_cases hb : b = a
        · exact ⟨_, by rw [hb]; exact hx⟩
        · exact ⟨o, k b o hb q⟩
      tups := fun b xs q => (upd_ne (at_ne ea q exo_tup)).trans ((upd_ne (ne_of_none q fr)).trans q)
      frzs := fun b o v q => (upd_ne (at_ne ea q exo_frz)).trans ((upd_ne (ne_of_none q fr)).trans q)
      tbls := fun b ps q => ⟨#[], ((upd_ne (at_ne ea q exo_tbl)).trans ((upd_ne (ne_of_none q fr)).trans q)).trans (by simp)⟩ }
  refine h dx _ fr dne (I.un (t' := tk2) U fun b o q => ?_)
  by_cases hb : b = a
  · subst hb
    rw [upd_same] at q
    cases q
    exact exo_ok hx
  · rw [upd_ne hb] at q
    by_cases hd : b = dx
    · subst hd
      rw [upd_same] at q
      cases q
      exact exd_ok hn (relO_put (fs := []) ry fun g => True.intro)
    · rw [upd_ne hd] at q
      refine (I.hok b o q).stay (fun c v hc z => k c v ?_ z) (fun c hc => ?_) (fun c xs hc => ?_)
      · rcases hc with hc | hc
        · rw [hc]; exact hb
        · exact at_ne ea hc exo_own
      · exact (upd_ne (at_ne ea hc exo_own)).trans ((upd_ne (ne_of_none hc fr)).trans hc)
      · exact (upd_ne (at_ne ea hc exo_tup)).trans ((upd_ne (ne_of_none hc fr)).trans hc)
theorem gst_old (T : OxC X.K C) (I : Inv X pins σ H s) (ea : H a = some (exo a C (some dx))) (ed : H dx = some (exd dx fs)) (hl : fs.length ≤ 900) (hno : findIn X.K (.ref C) f = some none) (ry : RelV y u)
    (h : ∀ s2, Inv X pins σ (upd H dx (exd dx ((f, y) :: fs))) s2 → Q () s2) : wpAny (model X.prog X.w) A (setAttr (.ref a) f u) Q E s := by
  obtain ⟨t1, ho⟩ := exo_at I.hok ea
  obtain ⟨mA, hns, rel⟩ := exd_at I.hok ed
  have hw := within_of rel
  obtain ⟨hp, g, d, t, os⟩ := s
  obtain ⟨oD, _, _, hoD, _, _⟩ := hns.count hw
  refine set_plain I.kIn (ox := { cls := .ref C, dict := some dx, data := .fields #[.ref t1, .none, .none, .none, .bool false, .none] }) (od := some oD) ⟨ho, rfl, rfl, hoD⟩ T.sa ?_
  refine ox_old T I.kIn ho hns hw (by rw [List.length_map]; omega) hno (fun h2 tk2 k hn => ?_)
  have hd : ∃ o, h2.get? dx = some o := let ⟨o, _, _, e, _⟩ := hn; ⟨o, e⟩
  exact h _ (I.write (t' := tk2) (x := dx) (e := dx) (o := exd dx ((f, y) :: fs)) (by rw [ed]; exact True.intro) (.inl rfl) k hd (exd_ok hn (relO_put ry rel)))
end
def tGst (K : PySem.W.Frag) (f : Str) (to te : TE) : TS := fun D σ H => te σ H fun y H1 => to σ H1 fun x H2 => ∃ a C : Addr, x = .ref a ∧ OxC K C ∧ findIn K (.ref C) f = some none ∧
  ((H2 a = some (exo a C none) ∧ ∀ dx, H2 dx = none → dx ≠ a → D.nx σ (upd (upd H2 dx (exd dx [(f, y)])) a (exo a C (some dx)))) ∨
    ∃ (dx : Addr) (fs : List (Str × V)), H2 a = some (exo a C (some dx)) ∧ H2 dx = some (exd dx fs) ∧ fs.length ≤ 900 ∧ D.nx σ (upd H2 dx (exd dx ((f, y) :: fs))))
section
variable {X : Cx} {o e : Expr} {es : List Expr} {to te : TE} {ta : TA} {f : Str} {p p' p1 p2 pos : Pos}
theorem ps_gst (ho : PE X o to) (he : PE X e te) (hs : swapsWith e (some (.Attribute o f p')) pos.line X.env = pure false := by rfl) : PS X (.Assign [.Attribute o f p'] e pos) (tGst X.K f to te) := by
  refine ⟨fun pins s σ H D I h => plainObj_wpAny_Assign_Attribute (thn (he.run pins s σ H _ I h) fun v s1 ⟨y, H1, I1, r1, q1⟩ => thn (ho.run pins s1 σ H1 _ I1 q1) fun u s2 ⟨x, H2, I2, r2, a, C, ex, T, hno, q⟩ => ?_) hs⟩
  subst ex
  obtain rfl : u = Value.ref a := r2
  rcases q with ⟨ea, q⟩ | ⟨dx, fs, ea, ed, hl, q⟩
  · exact gst_new T I2 ea hno r1 fun dx s3 n ne J => ⟨σ, _, J, q dx n ne⟩
  · exact gst_old T I2 ea ed hl hno r1 fun s3 J => ⟨σ, _, J, q⟩
theorem pmk_gx {CX : CXT} {x : Str} {C fI : Addr} {k : Nat} {fd : FuncData} {ps : List Str} {sp : Sp} (T : OxC X.K C) (iC : findIn X.K (.ref C) "__init__" = some (some (.ref fI))) (tI : typeIn X.K (.ref fI) = some (.type "function"))
    (F1 : TS.FnOk X.prog X.w X.K X.mg X.base CX k fI fd ps sp) (hr : TS.Room (k + 1) X.A) (hb : Binds X.K fd ps []) (hx : Passes CX X (fun _ _ _ => False)) (hg : Gl X x) (hm : X.mg x = some (.ref C)) (ha : PA X (e :: es) ta)
    (hdb : (x == ("__debug__" : Str)) = false := by decide) (he : starEach (e :: es) X.env = (false, eval e X.env) :: starEach es X.env := by rfl) (hpl : (backTo pos (starEach es X.env)).any (·.1) = false := by rfl) :
    PMk X (.Call (.Name x p) (e :: es) [] pos) (tMkO C sp [] ta) := by
  intro pins s σ H Q I h
  obtain ⟨B, hB, ini, _⟩ := T.bas
  refine wpAny_Call_Name_kw (ld_glob I hg hm ?_ hdb)
  refine callWith_K (h₀ := X.base) I.ok.mod.kin T.kC (thn (ha.run pos pins s σ H _ I h) fun us s1 ⟨vs, H1, I1, r1, hz, q1⟩ => ⟨I1.kIn, ?_⟩) he hpl
  show wpAny _ _ (call (.ref C) us) _ _ _
  obtain ⟨hp, g, dr, tk, os⟩ := s1
  obtain ⟨nm, N, qn, bs, bm, hdct, sn, sub, ab, col, dd, k0, k1, k2, k3, k5, hC, hT⟩ := excInit_of I1.kIn ini
  have hsz : hp.objs.size ≤ hp.objs.size + 1 := Nat.le_succ _
  have hn : H1 (hp.objs.size + 1) = none := I1.hok.fresh hsz
  have hq := q1 (hp.objs.size + 1) hn
  rw [List.append_nil] at hq
  have kk : ∀ b o, hp.get? b = some o → ((hp.push (kdv_tup us)).push (HandSPX.excO C hp.objs.size)).get? b = some o := fun b o z => Heap.get?_push_of_some _ (Heap.get?_push_of_some _ z)
  have hget : ((hp.push (kdv_tup us)).push (HandSPX.excO C hp.objs.size)).get? (hp.objs.size + 1) = some (HandSPX.excO C hp.objs.size) := by heap_get
  have I2 : Inv X pins σ (upd H1 (hp.objs.size + 1) (exo (hp.objs.size + 1) C none)) ⟨(hp.push (kdv_tup us)).push (HandSPX.excO C hp.objs.size), g, dr, tk, os⟩ :=
    I1.laid (t' := tk) (a := hp.objs.size + 1) (o := exo (hp.objs.size + 1) C none) (h' := (hp.push (kdv_tup us)).push (HandSPX.excO C hp.objs.size)) kk hsz (exo_ok hget)
  have r2 : Vals (V.ref (hp.objs.size + 1) :: vs) (Value.ref (hp.objs.size + 1) :: us) := .cons rfl r1
  have hl : (Value.ref (hp.objs.size + 1) :: us ++ []).length = ps.length := by
    rw [List.append_nil]
    exact (r2.length.symm.trans (F1.len _ _ _ _ hq))
  have hus : us.length ≤ sizeLine := by
    rw [← Paired.length r1, sizeLine_eq]
    omega
  refine wpAny_call (HandSPX.call_own hB.base hT hC (looks_findIn I1.kIn iC) (fun self => bind_fn I1.kIn self tI) hus
    (codeAny_mono (F1.run _ X.stack _ _ ⟨Value.ref (hp.objs.size + 1) :: us, []⟩ (Value.ref (hp.objs.size + 1) :: us) _ _ (fun _ _ _ => False) (hr.make C us []) (I2.env0.make C us []) (by
      have := hb _ (Value.ref (hp.objs.size + 1) :: us) I2.kIn hl
      rwa [List.append_nil] at this) r2 hq) fun r s2 hq2 => ?_))
  cases r with
  | error er => exact hx pins σ _ _ er s2 I2 hq2
  | ok fl =>
    cases fl with
    | ret u =>
      obtain ⟨v, H2, os2, bare2, un2, hok2, rv, ev, d, fs, ea, ed, hd1, q2⟩ := hq2
      subst ev
      obtain ⟨h2, g2, d2, t2, os3⟩ := s2
      exact ⟨rv, mk_end (raises_own T.exC T.tyC) I1 hsz kk un2 hok2 os2 bare2 ea ed hd1 q2⟩
    | next => exact False.elim hq2
    | brk => exact False.elim hq2
    | cont => exact False.elim hq2
end
def spX (C : Addr) (ns : List Str) : Sp := fun vs H Q _ => ∃ (a : Addr) (ws : List V), vs = .ref a :: ws ∧ ws.length = ns.length ∧ H a = some (exo a C none) ∧
  ∀ (dx : Addr) (H' : Hp), H dx = none → dx ≠ a → H' a = some (exo a C (some dx)) → H' dx = some (exd dx (ns.zip ws).reverse) → (∀ b, b ≠ a → b ≠ dx → H' b = H b) → Q .non H'
def IniS (X : Cx) (C : Addr) (ns : List Str) (ss : List Stmt) (j : Nat) : Prop := ∃ t, PSs X ss t ∧ ∀ (D : Ends) (a dx : Addr) (ws : List V) (σ : L2.St) (H0 H : Hp), σ[0]? = some (some (.ref a)) → (∀ i w, ws[i]? = some w → σ[i + 1]? = some (some w)) → ws.length = ns.length → dx ≠ a →
  H a = some (exo a C (some dx)) → H dx = some (exd dx ((ns.zip ws).take j).reverse) → (∀ b, b ≠ a → b ≠ dx → H b = H0 b) →
  (∀ H', H' a = some (exo a C (some dx)) → H' dx = some (exd dx (ns.zip ws).reverse) → (∀ b, b ≠ a → b ≠ dx → H' b = H0 b) → D.nx σ H') → t D σ H
section
variable {X : Cx} {C : Addr} {ns : List Str} {ss : List Stmt} {j : Nat} {f : Str} {p p' p1 pos : Pos}
theorem inis_nil (h : j = ns.length) : IniS X C ns [] j := by
  refine ⟨_, pss_nil, fun D a dx ws σ H0 H h0 hw hl hne ea ed hb k => ?_⟩
  refine k H ea ?_ hb
  rw [h, List.take_of_length_le (by rw [List.length_zip]; omega)] at ed
  exact ed
theorem zip_take {ws : List V} {w : V} (hn : ns[j]? = some f) (hw : ws[j]? = some w) : (ns.zip ws).take (j + 1) = (ns.zip ws).take j ++ [(f, w)] := by
  rw [List.take_add_one]
  have : (ns.zip ws)[j]? = some (f, w) := by rw [List.getElem?_zip_eq_some]; exact ⟨hn, hw⟩
  rw [this]; rfl
theorem inis_cons (T : OxC X.K C) (hno : findIn X.K (.ref C) f = some none) (hn : ns[j]? = some f) (hs0 : PE X (.Name "self" p) (tVar 0)) (hs1 : PE X (.Name f p1) (tVar (j + 1))) (hj : ns.length ≤ 900) (r : IniS X C ns ss (j + 1))
    (hs : swapsWith (.Name f p1) (some (.Attribute (.Name "self" p) f p')) pos.line X.env = pure false := by rfl) : IniS X C ns (.Assign [.Attribute (.Name "self" p) f p'] (.Name f p1) pos :: ss) j := by
  obtain ⟨t, pt, ht⟩ := r
  refine ⟨_, pss_cons (ps_gst hs0 hs1 hs) pt, fun D a dx ws σ H0 H h0 hw hl hne ea ed hb k => ?_⟩
  have hjl : j < ns.length := (List.getElem?_eq_some_iff.mp hn).1
  have hwj : ws[j]? = some (ws[j]'(by omega)) := List.getElem?_eq_getElem _
  refine ⟨ws[j]'(by omega), hw j _ hwj, .ref a, h0, a, C, rfl, T, hno, .inr ⟨dx, _, ea, ed, by simp; omega, ?_⟩⟩
  refine ht D a dx ws σ H0 _ h0 hw hl hne ((upd_ne (Ne.symm hne)).trans ea) ?_ (fun b h1 h2 => (upd_ne h2).trans (hb b h1 h2)) k
  rw [upd_same, zip_take hn hwj, List.reverse_append]
  rfl
theorem init_body {N : List Str} {sp0 : Unit} (T : OxC X.K C) (hno : findIn X.K (.ref C) f = some none) (hn : ns[0]? = some f) (hs0 : PE X (.Name "self" p) (tVar 0)) (hs1 : PE X (.Name f p1) (tVar 1)) (r : IniS X C ns ss 1)
    (hs : swapsWith (.Name f p1) (some (.Attribute (.Name "self" p) f p')) pos.line X.env = pure false := by rfl) :
    ∃ t, PSs X (.Assign [.Attribute (.Name "self" p) f p'] (.Name f p1) pos :: ss) t ∧ ∀ (D : Ends) (a : Addr) (ws : List V) (σ : L2.St) (H : Hp), σ[0]? = some (some (.ref a)) → (∀ i w, ws[i]? = some w → σ[i + 1]? = some (some w)) → ws.length = ns.length → H a = some (exo a C none) →
      (∀ (dx : Addr) (H' : Hp), H dx = none → dx ≠ a → H' a = some (exo a C (some dx)) → H' dx = some (exd dx (ns.zip ws).reverse) → (∀ b, b ≠ a → b ≠ dx → H' b = H b) → D.nx σ H') → t D σ H := by
  obtain ⟨t, pt, ht⟩ := r
  refine ⟨_, pss_cons (ps_gst hs0 hs1 hs) pt, fun D a ws σ H h0 hw hl ea k => ?_⟩
  have hjl : 0 < ns.length := (List.getElem?_eq_some_iff.mp hn).1
  have hwj : ws[0]? = some (ws[0]'(by omega)) := List.getElem?_eq_getElem _
  refine ⟨ws[0]'(by omega), hw 0 _ hwj, .ref a, h0, a, C, rfl, T, hno, .inl ⟨ea, fun dx hd hne => ?_⟩⟩
  refine ht D a dx ws σ H _ h0 hw hl hne upd_same ?_ (fun b h1 h2 => (upd_ne h1).trans (upd_ne h2)) (fun H' k1 k2 k3 => k dx H' hd hne k1 k2 k3)
  rw [upd_ne hne, upd_same]
  have z := zip_take (j := 0) hn hwj
  rw [z]
  rfl
end
theorem start_get {N : List Str} {vs : List V} {i : Nat} {v : V} (h : vs[i]? = some v) : (L2.start N vs)[i]? = some (some v) := by
  unfold L2.start
  have hl : i < vs.length := (List.getElem?_eq_some_iff.mp h).1
  rw [List.getElem?_append_left (by simpa using hl), List.getElem?_map, h]; rfl
theorem funD_ini {P : Program} {w : World} {K : PySem.W.Frag} {mg : Str → Option Value} {base : Heap} {qual : Str} {params : Arguments} {body : List Stmt} {scope : Scope} {f C : Addr} {fd : FuncData} {N ps ns : List Str} (Fd : FunD K "__init__" qual params body scope [] [] f fd) (S : FnScope N ps scope) (hps : ps.length = ns.length + 1)
    (hb : ∀ (cdv : Value) (A : Around) (outer : List Env) (s : Shared) (H : Hp) (E : XK), ∃ t, PSs (cxOf (L2.CX P w) P w K mg base N qual scope f cdv A outer s H E) body t ∧ ∀ (D : Ends) (a : Addr) (ws : List V) (σ : L2.St) (H : Hp), σ[0]? = some (some (.ref a)) → (∀ i w, ws[i]? = some w → σ[i + 1]? = some (some w)) → ws.length = ns.length → H a = some (exo a C none) →
      (∀ (dx : Addr) (H' : Hp), H dx = none → dx ≠ a → H' a = some (exo a C (some dx)) → H' dx = some (exd dx (ns.zip ws).reverse) → (∀ b, b ≠ a → b ≠ dx → H' b = H b) → D.nx σ H') → t D σ H) :
    TS.FnOk P w K mg base (L2.CX P w) 1 f fd ps (spX C ns) := by
  refine FnOk.of (k := 0) Fd S (fun vs H Q E h => ?_) (fun cdv A outer s H vs Q E hr h => ?_)
  · obtain ⟨a, ws, rfl, hl, _⟩ := h
    rw [List.length_cons, hl, hps]
  · obtain ⟨t, pt, ht⟩ := hb cdv A outer s H E
    obtain ⟨a, ws, rfl, hl, ea, k⟩ := h
    exact ⟨t, pt, ht _ a ws _ H (start_get rfl) (fun i w hw => start_get (by simpa using hw)) hl ea k⟩
section
variable {M : Gm} {c : Cn M} {W : WX} {X : Cx} {F H : Hp} {σ : L2.St} {δ : Sl}
theorem reps_reverse : ∀ {ds : List D} {vs : List V}, reps M F ds vs → reps M F ds.reverse vs.reverse
  | [], vs, h => by unfold reps at h; subst h; exact reps_nil
  | d :: ds, vs, h => by
    unfold reps at h
    obtain ⟨v, r, rfl, h2, h3⟩ := h
    rw [List.reverse_cons, List.reverse_cons]
    exact reps_append (reps_reverse h3) (reps_cons h2 reps_nil)
theorem Ok.froze {F' : Hp} (ok : Ok c F H σ δ) (g : Same F F') (hs : Same F' H) (htb : Tb M F' H) (hn : ∀ b, c.H0 b ≠ none → F' b = F b) (ho : ∀ (i : Nat) (r : R) (a : Addr), δ[i]? = some (some r) → r.mu = true → σ[i]? = some (some (V.ref a)) → F' a = none) : Ok c F' H σ δ where
  same := hs
  grow := ok.grow.trans g
  nofz := fun b e1 e2 => by rw [hn b e1]; exact ok.nofz b e1 e2
  kept := ok.kept
  ioh := ok.ioh
  tb := htb
  len := ok.len
  slot := fun i r e => by
    obtain ⟨v, e1, e2⟩ := ok.slot i r e
    refine ⟨v, e1, ?_⟩
    cases r with
    | imm d => exact rep_mono g _ _ e2
    | own o =>
      obtain ⟨b, rfl, k1, k2, k3⟩ := e2
      exact ⟨b, rfl, ho i _ b e rfl e1, k2, obAt_mono g rfl k3⟩
    | brw o =>
      obtain ⟨b, rfl, k1, k2, k3⟩ := e2
      exact ⟨b, rfl, ho i _ b e rfl e1, k2, obAt_mono g rfl k3⟩
    | nst tp ps => exact slot_nst g e2
  dist := ok.dist
def sRaise (n k : Nat) (fa : FA) : FS := fun δ => (fa δ).bindS fun ds δ1 => if ds.length = k then .exc ⟨n, ds.reverse⟩ δ1 else .bad
theorem ds_raise {n k j : Nat} {C fI : Addr} {x : Str} {ns ps : List Str} {fd : FuncData} {e : Expr} {es : List Expr} {fa : FA} {p pos pos2 : Pos} (hG : M.G n = some C) (hnm : M.nm n = ns.reverse) (hk : ns.length = k) (T : OxC X.K C) (iC : findIn X.K (.ref C) "__init__" = some (some (.ref fI))) (tI : typeIn X.K (.ref fI) = some (.type "function"))
    (F1 : TS.FnOk X.prog X.w X.K X.mg X.base (L2.CX X.prog X.w) 1 fI fd ps (spX C ns)) (hr : TS.Room j X.A) (h2 : 2 ≤ j) (hk2 : k ≤ 100) (hb : Binds X.K fd ps []) (hc : X.calm = true) (tk : Takes X W) (hg : Gl X x) (hm : X.mg x = some (.ref C)) (ha : DA M W X (e :: es) fa)
    (hdb : (x == ("__debug__" : Str)) = false := by decide) (he : starEach (e :: es) X.env = (false, eval e X.env) :: starEach es X.env := by rfl) (hpl : (backTo pos (starEach es X.env)).any (·.1) = false := by rfl) :
    DS M W X (.Raise (some (.Call (.Name x p) (e :: es) [] pos)) none pos2) (sRaise n k fa) := by
  obtain ⟨ta, pa, ha⟩ := ha
  refine ⟨_, ps_raise hc tk (pmk_gx T iC tI F1 (hr.mono h2) hb (passes_call tk fun _ _ _ _ z => z.elim) hg hm pa hdb he hpl), fun c F H σ δ E ok post => ?_⟩
  refine ha c F H σ δ _ ok (PostS.ofE post fun ds δ1 vs F1 H1 _ s ok1 rr post => ?_)
  split at post
  · rename_i hl
    have hvl := reps_length rr
    refine ⟨by omega, fun a han => ?_⟩
    refine ⟨a, vs, by rw [List.append_nil], by omega, upd_same, fun dx H2 hd hne k1 k2 k3 => ⟨rfl, dx, _, k1, k2, ?_, ?_⟩⟩
    · rw [upd_ne hne] at hd; exact hd
    · rw [upd_ne hne] at hd
      have eG : upd (del H2 a) dx (.xd (ns.zip vs).reverse) = upd H1 dx (.xd (ns.zip vs).reverse) := by
        funext b
        by_cases hb : b = dx
        · rw [hb, upd_same, upd_same]
        · rw [upd_ne hb, upd_ne hb]
          by_cases hba : b = a
          · rw [hba, del_same, han]
          · rw [del_ne hba, k3 b hba hb, upd_ne hba]
      rw [eG]
      have hf1 : F1 dx = none := ok1.f hd
      have g1 : Same F1 (upd F1 dx (.xd (ns.zip vs).reverse)) := fun b o q => by rw [upd_ne (ne_of_none q hf1)]; exact q
      refine post (.ref C) (some dx) (upd F1 dx (.xd (ns.zip vs).reverse)) _ σ g1 ((ok1.alloc hd).froze g1 (fun b o q => ?_) ((ok1.tb.alloc hd).frz upd_same rfl) (fun b h0 => ?_) (fun i r a2 q1 q2 q3 => ?_)) ⟨C, hG, rfl, .inr ⟨dx, _, rfl, upd_same, ?_, ?_⟩⟩
      · by_cases hb : b = dx
        · subst hb; rw [upd_same] at q ⊢; exact q
        · rw [upd_ne hb] at q ⊢; exact ok1.same b o q
      · by_cases hb : b = dx
        · exact absurd (hb ▸ ok1.h0 hd) h0
        · exact upd_ne hb
      · obtain ⟨b, o, e1, e2, e3, _⟩ := (ok1.alloc hd (o := .xd (ns.zip vs).reverse)).mus q1 q2
        rw [q3] at e1
        cases e1
        have hb : a2 ≠ dx := fun z => ok1.fresh hd i r q1 q2 (by rw [q3, z])
        rw [upd_ne hb]; exact e2
      · rw [hnm, List.map_reverse, List.map_fst_zip (by omega)]
      · rw [List.map_reverse, List.map_snd_zip (by omega)]
        exact reps_mono g1 _ _ (reps_reverse rr)
  · exact post.elim
end
end
end TS

namespace TS
open PySem L2 PySem.W PySem.Calls PyProof.Rows
noncomputable section
structure Cau where
  i : Nat
  a : Addr
  cls : Value
  d : Option Addr
  x : XD
def Zx (M : Gm) (q : Cau) (F : Hp) (σ : L2.St) : Prop := σ[q.i]? = some (some (.ref q.a)) ∧ xAt M F q.x q.cls q.d F
theorem xAt_mono {M : Gm} {F F' H H' : Hp} {x : XD} {cls : Value} {d : Option Addr} (g : Same F F') (h : xAt M F x cls d H) : xAt M F' x cls d H' := by
  obtain ⟨C, h1, h2, h3⟩ := h
  refine ⟨C, h1, h2, ?_⟩
  rcases h3 with h3 | ⟨dd, fs, k1, k2, k3, k4⟩
  · exact .inl h3
  · exact .inr ⟨dd, fs, k1, g _ _ k2, k3, reps_mono g _ _ k4⟩
theorem Zx.mono {M : Gm} {q : Cau} {F F' : Hp} {σ : L2.St} (h : Zx M q F σ) (g : Same F F') : Zx M q F' σ := ⟨h.1, xAt_mono g h.2⟩
def DTz (M : Gm) (W : WX) (X : Cx) (q : Cau) (e : Expr) (f : FT) : Prop := ∃ t, PT X e t ∧ ∀ (c : Cn M) F H σ δ Q, Zx M q F σ → Ok c F H σ δ → Post c W F σ ρT (f δ) Q → t σ H Q
def DWz (M : Gm) (W : WX) (X : Cx) (q : Cau) (e : Expr) (f : FT) : Prop := ∃ t, PW X e t ∧ ∀ (c : Cn M) F H σ δ Q, Zx M q F σ → Ok c F H σ δ → Post c W F σ ρT (f δ) Q → t σ H Q
section
variable {M : Gm} {c : Cn M} {W : WX} {X : Cx} {q : Cau} {e a b : Expr} {es : List Expr} {pos p : Pos}
theorem DWz.pt {f : FT} (h : DWz M W X q e f) : DTz M W X q e f := let ⟨t, p, h⟩ := h; ⟨t, p.pt, h⟩
end
structure XqC (K : PySem.W.Frag) (C : Addr) : Prop where
  xf : XfC K C
  cl : (clsIn K C).isSome = true
  ha : findIn K (.ref C) "__class__" = some (some (.builtin "object.__class__"))
  hn : specialIn K (.builtin "object.__class__") "__get__" = some (some (.builtin "getset_descriptor.__get__"))
  ht : takesIn K (.builtin "object.__class__") = some true
  hm : mroIn K C (.type "object") = some true
section
variable {X : Cx} {a C : Addr} {oe : Obj} {pn : List (Addr × Obj)} {d : Option Addr}
end
section
variable {M : Gm} {W : WX} {X : Cx} {a : Addr} {oe : Obj} {pn : List (Addr × Obj)} {i : Nat} {cls : Value} {d : Option Addr} {x : XD} {e c1 : Expr} {pos p : Pos}
theorem reps_at {F : Hp} {ds : List D} {fs : List (Str × V)} {j : Nat} {dv : D} {n : Str} (r : reps M F ds (fs.map (·.2))) (h : ds[j]? = some dv) (hn : (fs.map (·.1))[j]? = some n) (hx : n ∉ (fs.map (·.1)).take j) : ∃ v, fs.lookup n = some v ∧ rep M F dv v := by
  induction fs generalizing ds j with
  | nil => simp at hn
  | cons p fs ih =>
    obtain ⟨m, v⟩ := p
    cases ds with
    | nil => simp at h
    | cons d ds =>
      rw [List.map_cons, reps_cons_iff] at r
      cases j with
      | zero =>
        simp at h hn
        subst h hn
        exact ⟨v, by simp [List.lookup], r.1⟩
      | succ j =>
        simp only [List.map_cons, List.getElem?_cons_succ, List.take_succ_cons, List.mem_cons, not_or] at h hn hx
        obtain ⟨w, e1, e2⟩ := ih r.2 h hn hx.2
        refine ⟨w, ?_, e2⟩
        rw [List.lookup_cons]
        have : (n == m) = false := by simpa using hx.1
        rw [this]
        exact e1
end
def PostZ (c : Cn M) (q : Cau) (F : Hp) (r : SR) (E : Ends) : Prop := match r with
  | .nx δ' => ∀ F' H' σ', Same F F' → Zx M q F' σ' → Ok c F' H' σ' δ' → E.nx σ' H'
  | .rt r δ' => ∀ v F' H' σ', Same F F' → Ok c F' H' σ' δ' → repR c F' H' σ' δ' r v → E.rt v H'
  | _ => False
abbrev WN : WX := fun _ _ _ _ => False
section
variable {M : Gm} {c : Cn M} {X : Cx} {q : Cau} {F F1 H : Hp} {σ : L2.St} {δ : Sl}
theorem PostZ.shift {r : SR} {E : Ends} (h : PostZ c q F r E) (g : Same F F1) : PostZ c q F1 r E := by
  cases r with
  | nx δ' => exact fun F' H' σ' s => h F' H' σ' (g.trans s)
  | rt r δ' => exact fun v F' H' σ' s => h v F' H' σ' (g.trans s)
  | bk δ' => exact h
  | ct δ' => exact h
  | exc x δ' => exact h
  | bad => exact h
end
section
variable {X : Cx} {n : Str} {i : Nat} {body : List Stmt} {h₀ : ExceptHandler} {hds : List ExceptHandler} {l : List (Value × (Addr → Value → Option Addr → TS))} {pos : Pos} {tb : WX → TS} {Wout : WX}
end
section
variable {M : Gm} {c : Cn M} {X : Cx} {q : Cau} {F H : Hp} {σ : L2.St} {δ : Sl}
theorem Ok.put (ok : Ok c F H σ δ) (i : Nat) (o : Option V) : Ok c F H (σ.set i o) (δ.set i none) where
  same := ok.same
  grow := ok.grow
  nofz := ok.nofz
  kept := ok.kept
  ioh := ok.ioh
  tb := ok.tb
  len := by simp [ok.len]
  slot := fun j r e => by
    rcases getElem?_set_some e with ⟨rfl, e1, _⟩ | ⟨hn, e1⟩
    · cases e1
    · rw [List.getElem?_set_ne hn]; exact ok.slot j r e1
  dist := fun j k r1 r2 w hjk e1 e2 m1 m2 s1 s2 => by
    rcases getElem?_set_some e1 with ⟨rfl, z, _⟩ | ⟨hn, q1⟩
    · cases z
    · rcases getElem?_set_some e2 with ⟨rfl, z, _⟩ | ⟨hn2, q2⟩
      · cases z
      · rw [List.getElem?_set_ne hn] at s1
        rw [List.getElem?_set_ne hn2] at s2
        exact ok.dist j k r1 r2 w hjk q1 q2 m1 m2 s1 s2
def hNil : XD → Option FS := fun _ => none
def hCons (tab : Nat → Option Bool) (g : XD → FS) (hs : XD → Option FS) : XD → Option FS := fun y => match tab y.c with
  | some true => some (g y)
  | some false => hs y
  | none => some fun _ => .bad
end
end
end TS

namespace TS
open PySem L2 PySem.W
noncomputable section
section
variable {K : PySem.W.Frag}
theorem exc_ok {x : Str} {B : String} (hB : Bas B) (c : (Fx.exc x B).ok K = true) : OxC K (He.ga K x) ∧ XqC K (He.ga K x) ∧ findIn K (.ref (He.ga K x)) "__init__" = some (some (.ref (He.ma K (He.ga K x) "__init__"))) ∧ typeIn K (.ref (He.ma K (He.ga K x) "__init__")) = some (.type "function") := by
  obtain ⟨c1, c⟩ := He.ba c
  obtain ⟨c2, c⟩ := He.ba c
  obtain ⟨c3, c⟩ := He.ba c
  obtain ⟨c4, c⟩ := He.ba c
  obtain ⟨c5, c⟩ := He.ba c
  obtain ⟨c6, c⟩ := He.ba c
  obtain ⟨c7, c⟩ := He.ba c
  obtain ⟨c8, c⟩ := He.ba c
  obtain ⟨c9, c⟩ := He.ba c
  obtain ⟨c10, c⟩ := He.ba c
  obtain ⟨c11, c⟩ := He.ba c
  obtain ⟨c12, c⟩ := He.ba c
  obtain ⟨c13, c⟩ := He.ba c
  obtain ⟨c14, c15⟩ := He.ba c
  obtain ⟨cd, k1, k2⟩ := any_some c3
  exact ⟨⟨⟨B, hB, c1, c2⟩, ⟨cd, k1, k2⟩, He.eqO_ok c4, of_decide_eq_true c5, of_decide_eq_true c6, c7⟩,
    ⟨⟨He.eqO_ok c10, He.eqO_ok c11, of_decide_eq_true c5, c3⟩, by rw [k1]; rfl, He.eqO_ok c12, He.eqO_ok c13, of_decide_eq_true c14, of_decide_eq_true c15⟩, He.eqO_ok c8, of_decide_eq_true c9⟩
theorem exc0_ok {x : Str} {B : String} (hB : Bas B) (c : (Fx.exc0 x B).ok K = true) : excInitIn K (He.ga K x) (bmOf B) (B ++ ".__new__") = true ∧ OxC K (He.ga K x) ∧ XqC K (He.ga K x) ∧ findIn K (.ref (He.ga K x)) "__init__" = some (some (.builtin (B ++ ".__init__"))) := by
  obtain ⟨c1, c⟩ := He.ba c
  obtain ⟨c2, c⟩ := He.ba c
  obtain ⟨c3, c⟩ := He.ba c
  obtain ⟨c4, c⟩ := He.ba c
  obtain ⟨c5, c⟩ := He.ba c
  obtain ⟨c6, c⟩ := He.ba c
  obtain ⟨c7, c⟩ := He.ba c
  obtain ⟨c8, c⟩ := He.ba c
  obtain ⟨c10, c⟩ := He.ba c
  obtain ⟨c11, c⟩ := He.ba c
  obtain ⟨c12, c⟩ := He.ba c
  obtain ⟨c13, c⟩ := He.ba c
  obtain ⟨c14, c15⟩ := He.ba c
  obtain ⟨cd, k1, k2⟩ := any_some c3
  exact ⟨c1, ⟨⟨B, hB, c1, c2⟩, ⟨cd, k1, k2⟩, He.eqO_ok c4, of_decide_eq_true c5, of_decide_eq_true c6, c7⟩,
    ⟨⟨He.eqO_ok c10, He.eqO_ok c11, of_decide_eq_true c5, c3⟩, by rw [k1]; rfl, He.eqO_ok c12, He.eqO_ok c13, of_decide_eq_true c14, of_decide_eq_true c15⟩, He.eqO_ok c8⟩
theorem exm_ok {x y : Str} {b : Bool} (c : (Fx.exm x y b).ok K = true) : exmOne K (.ref (He.ga K x)) (.ref (He.ga K y)) = some b := of_decide_eq_true c
end
theorem kb_ix0 {K : PySem.W.Frag} {x qual : Str} {params : Arguments} {body : List Stmt} {scope : Scope} {kws : List (Str × V)} {f : Addr} {fd : FuncData} {ps ks : List Str} {n : Nat} {ix : List Nat} (Fd : FunD K x qual params body scope [] kws f fd)
    (h : ∀ (kV doc pm : Value) (an : Option Addr) (cdv ct : Value) (us ws : List Value), us.length = n → ws.length = ks.length → bindArgs (PySem.W.fnOf x qual params body scope .none kV doc pm an cdv ct) ⟨us, ks.zip ws⟩ = pure (ps.zip (pick n ix .none us ws))) : KBn K fd ps n ks (pick n ix .none) (pick n ix .non) := by
  obtain ⟨oc, od, dV, kV, doc, pm, an, cdv, ct, osl, rfl, lk, hcd, hD, hK⟩ := Fd.ex
  rcases hD with ⟨_, rfl⟩ | ⟨e, _⟩
  · exact ⟨fun s us ws _ l1 l2 => .of_eq (h kV doc pm an cdv ct us ws l1 l2), fun r rz => r.append (vals_ix rz ix)⟩
  · exact absurd rfl e
end
end TS

namespace TS
open PySem PySem.Spec PyProof.Rows L2
noncomputable section
def fLenSet (f : FD) : FD := fun δ => (f δ).bind fun d δ => match d with
  | .lst ds => (match intsD ds with
    | some ns => if ns.length ≤ 4000 then .ok (.int (ns.eraseDups.length : Nat)) δ else .bad
    | none => .bad)
  | _ => .bad
end
end TS

namespace TS
open PySem L2
noncomputable section
abbrev FX := Sl → Res (List R)
def fxNil : FX := fun δ => .ok [] δ
def fxCons (f : FE) (g : FX) : FX := fun δ => (f δ).bind fun r δ1 => match r with
  | .brw _ => .bad
  | .nst _ _ => .bad
  | r => (g δ1).bind fun rs δ2 => .ok (r :: rs) δ2
section
variable {M : Gm} {c : Cn M} {W : WX} {X : Cx} {F H : Hp} {σ : St} {δ : Sl}
def sPar3E (i j l : Nat) (f : FX) : FS := fun δ => (f δ).bindS fun rs δ1 => match rs with
  | [a, b, c] => if i < δ1.length ∧ j < δ1.length then .nx (((δ1.set i (some a)).set j (some b)).set l (some c)) else .bad
  | _ => .bad
end
end
end TS

namespace TS
open PySem PySem.Spec PyProof.Rows L2
noncomputable section
section
variable {X : Cx} {pins : List (Addr × Obj)} {σ : L2.St} {H : Hp} {s : Shared} {a b : Addr} {u r : Value} {d : V} {k : List Key} {A : Around} {E : Value → Shared → Prop}
end
end
end TS
namespace TS
open PySem L2
noncomputable section
inductive Pth where
  | self | fld (j : Nat) | row (j e : Nat)
deriving DecidableEq
inductive NF where
  | d (d : D) | dk (ks : List Key) (ds : List D) | rk (L : List (Key × List D)) | rt (L : List (List Key × List D))
def NF.toD : NF → D
  | .d x => x
  | .dk ks ds => .dK ks ds
  | .rk L => .dK (L.map (·.1)) (L.map fun x => .lst x.2)
  | .rt L => .dT (L.map (·.1)) (L.map fun x => .lst x.2)
structure NS where
  δ : Sl
  n : Nat
  fs : List NF
  al : Option (Nat × Nat)
def immS (δ : Sl) : Bool := δ.all fun x => match x with
  | none => true
  | some (.imm _) => true
  | _ => false
abbrev Adr := Pth → Addr
abbrev Con := Pth → Option HO
def setC {α : Type} (f : Pth → α) (p : Pth) (a : α) : Pth → α := fun q => if q = p then a else f q
@[simp] theorem setC_same {α : Type} (f : Pth → α) (p : Pth) (a : α) : setC f p a p = a := if_pos rfl
theorem setC_ne {α : Type} {f : Pth → α} {p q : Pth} {a : α} (h : q ≠ p) : setC f p a q = f q := if_neg h
section
variable {M : Gm}
structure NBas (c : Cn M) (F H : Hp) : Prop where
  same : Same F H
  grow : Same c.F0 F
  nofz : ∀ b, c.H0 b ≠ none → c.F0 b = none → F b = none
  kept : ∀ b o, c.H0 b = some o → c.io ≠ some b → H b = some o
  ioh : ∀ a, c.io = some a → ∃ u, H a = some u ∧ NT u
  tb : Tb M F H
structure Cells (c : Cn M) (F H : Hp) (adr : Adr) (cont : Con) : Prop where
  at_ : ∀ p o, cont p = some o → H (adr p) = some o
  fr : ∀ p o, cont p = some o → F (adr p) = none
  h0 : ∀ p o, cont p = some o → p ≠ .self → c.H0 (adr p) = none
  inj : ∀ p q o o', cont p = some o → cont q = some o' → adr p = adr q → p = q
  io : c.io = some (adr .self)
  sf : ∃ o, cont .self = some o
  nt : ∀ p o, cont p = some o → NT o
variable {c : Cn M} {F F' H H' : Hp} {adr : Adr} {cont : Con}
theorem NBas.h0 (b : NBas c F H) {p : Addr} (hp : H p = none) : c.H0 p = none := by
  cases e : c.H0 p with
  | none => rfl
  | some o =>
    by_cases hi : c.io = some p
    · obtain ⟨u, e1, _⟩ := b.ioh p hi
      rw [hp] at e1; cases e1
    · rw [b.kept p o e hi] at hp; cases hp
theorem NBas.hn (b : NBas c F H) {p : Addr} (hp : c.H0 p ≠ none) : ∃ u, H p = some u ∧ NT u := by
  by_cases hi : c.io = some p
  · exact b.ioh p hi
  · cases e : c.H0 p with
    | none => exact absurd e hp
    | some o => exact ⟨o, b.kept p o e hi, c.nt p o e⟩
theorem NBas.f (b : NBas c F H) {p : Addr} (hp : H p = none) : F p = none := b.same.free hp
theorem NBas.stp (b : NBas c F H) (st : Stp M F H F' H' none) : NBas c F' H' := by
  have kp : ∀ b o, H b = some o → NT o → H' b = some o := fun b o e n => st.kept b o e n (fun z => by cases z)
  refine ⟨st.same, b.grow.trans st.grow, fun x e1 e2 => ?_, fun x o e1 e2 => kp x o (b.kept x o e1 e2) (c.nt x o e1), fun x e1 => ?_, st.tb⟩
  · obtain ⟨u, k1, k2⟩ := b.hn e1
    exact st.nofz x u k1 k2 (b.nofz x e1 e2)
  · obtain ⟨o, q1, q2⟩ := b.ioh x e1
    exact ⟨o, kp x o q1 q2, q2⟩
theorem Cells.stp (k : Cells c F H adr cont) (st : Stp M F H F' H' none) : Cells c F' H' adr cont := by
  have kp : ∀ b o, H b = some o → NT o → H' b = some o := fun b o e n => st.kept b o e n (fun z => by cases z)
  exact ⟨fun p o e => kp _ _ (k.at_ p o e) (k.nt p o e), fun p o e => st.nofz _ o (k.at_ p o e) (k.nt p o e) (k.fr p o e), k.h0, k.inj, k.io, k.sf, k.nt⟩
theorem Cells.put (k : Cells c F H adr cont) {p : Pth} {o o' : HO} (e : cont p = some o) (hn : NT o' := by rfl) : Cells c F (upd H (adr p) o') adr (setC cont p (some o')) := by
  have other : ∀ q u, q ≠ p → cont q = some u → adr q ≠ adr p := fun q u hq e' z => hq (k.inj q p u o e' e z)
  have back : ∀ q u, setC cont p (some o') q = some u → ∃ u', cont q = some u' := fun q u e' => by
    by_cases z : q = p
    · exact ⟨o, z ▸ e⟩
    · rw [setC_ne z] at e'; exact ⟨u, e'⟩
  refine ⟨fun q u e' => ?_, fun q u e' => ?_, fun q u e' hq => ?_, fun q q' u u' e1 e2 => ?_, k.io, ?_, fun q u e' => ?_⟩
  · by_cases z : q = p
    · subst z; rw [setC_same] at e'; cases e'; exact upd_same
    · rw [setC_ne z] at e'; rw [upd_ne (other q u z e')]; exact k.at_ q u e'
  · obtain ⟨u', z⟩ := back q u e'; exact k.fr q u' z
  · obtain ⟨u', z⟩ := back q u e'; exact k.h0 q u' z hq
  · obtain ⟨v, z⟩ := back q u e1
    obtain ⟨v', z'⟩ := back q' u' e2
    exact k.inj q q' v v' z z'
  · obtain ⟨u, hu⟩ := k.sf
    by_cases z : Pth.self = p
    · exact ⟨o', by rw [← z, setC_same]⟩
    · exact ⟨u, by rw [setC_ne z]; exact hu⟩
  · by_cases z : q = p
    · subst z; rw [setC_same] at e'; cases e'; exact hn
    · rw [setC_ne z] at e'; exact k.nt q u e'
theorem NBas.put (b : NBas c F H) (k : Cells c F H adr cont) {p : Pth} {o o' : HO} (e : cont p = some o) (hn : NT o' := by rfl) : NBas c F (upd H (adr p) o') := by
  refine ⟨fun x u h => ?_, b.grow, b.nofz, fun x u e1 e2 => ?_, fun x e1 => ?_, b.tb.write (k.at_ p o e) (k.nt p o e)⟩
  · have z : x ≠ adr p := fun z => by rw [z, k.fr p o e] at h; cases h
    rw [upd_ne z]; exact b.same x u h
  · have z : x ≠ adr p := fun z => by
      by_cases hs : p = .self
      · subst hs; exact e2 (by rw [z]; exact k.io)
      · rw [z, k.h0 p o e hs] at e1; cases e1
    rw [upd_ne z]; exact b.kept x u e1 e2
  · by_cases z : x = adr p
    · exact ⟨o', by rw [z, upd_same], hn⟩
    · rw [upd_ne z]; exact b.ioh x e1
theorem Cells.new (b : NBas c F H) (k : Cells c F H adr cont) {p : Pth} {a : Addr} {o : HO} (hs : p ≠ .self) (e : cont p = none) (ha : H a = none) (hn : NT o := by rfl) : Cells c F (upd H a o) (setC adr p a) (setC cont p (some o)) := by
  have other : ∀ q u, cont q = some u → adr q ≠ a := fun q u e' z => by rw [← z, k.at_ q u e'] at ha; cases ha
  have ne : ∀ q u, cont q = some u → q ≠ p := fun q u e' z => by rw [z, e] at e'; cases e'
  refine ⟨fun q u e' => ?_, fun q u e' => ?_, fun q u e' hq => ?_, fun q q' u u' e1 e2 h => ?_, ?_, ?_, fun q u e' => ?_⟩
  · by_cases z : q = p
    · subst z; rw [setC_same] at e' ⊢; cases e'; exact upd_same
    · rw [setC_ne z] at e' ⊢; rw [upd_ne (other q u e')]; exact k.at_ q u e'
  · by_cases z : q = p
    · subst z; rw [setC_same]; exact b.f ha
    · rw [setC_ne z] at e' ⊢; exact k.fr q u e'
  · by_cases z : q = p
    · subst z; rw [setC_same]; exact b.h0 ha
    · rw [setC_ne z] at e' ⊢; exact k.h0 q u e' hq
  · by_cases z : q = p
    · by_cases z' : q' = p
      · rw [z, z']
      · rw [z, setC_same, setC_ne z'] at h
        rw [setC_ne z'] at e2
        exact absurd h.symm (other q' u' e2)
    · rw [setC_ne z] at e1 h
      by_cases z' : q' = p
      · rw [z', setC_same] at h
        exact absurd h (other q u e1)
      · rw [setC_ne z'] at e2 h
        exact k.inj q q' u u' e1 e2 h
  · rw [setC_ne (Ne.symm hs)]; exact k.io
  · obtain ⟨u, hu⟩ := k.sf
    exact ⟨u, by rw [setC_ne (Ne.symm hs)]; exact hu⟩
  · by_cases z : q = p
    · subst z; rw [setC_same] at e'; cases e'; exact hn
    · rw [setC_ne z] at e'; exact k.nt q u e'
structure SlI (F : Hp) (σ : St) (δ : Sl) : Prop where
  len : σ.length = δ.length
  at_ : ∀ (i : Nat) (r : R), δ[i]? = some (some r) → ∃ d v, r = .imm d ∧ σ[i]? = some (some v) ∧ rep M F d v
end
def frm (M : Gm) (F H : Hp) : Cn M := ⟨F, str0 H, none, fun _ e => (nomatch e), fun _ _ h => (str0_nt h).2, none, fun _ z => nomatch z⟩
section
variable {M : Gm} {c : Cn M} {F F' H H' : Hp} {σ : St} {δ δ' : Sl} {W : WX} {X : Cx}
theorem SlI.mono (h : SlI (M := M) F σ δ) (g : Same F F') : SlI (M := M) F' σ δ := ⟨h.len, fun i r e => by
  obtain ⟨d, v, h1, h2, h3⟩ := h.at_ i r e
  exact ⟨d, v, h1, h2, rep_mono g _ _ h3⟩⟩
theorem SlI.ok (h : SlI (M := M) F σ δ) (s : Same F H) (t : Tb M F H) : Ok (frm M F H) F H σ δ where
  same := s
  grow := Same.refl _
  nofz := fun _ _ e => e
  kept := fun _ _ e _ => (str0_nt e).1
  ioh := fun _ e => (nomatch e)
  tb := t
  len := h.len
  slot := fun i r e => by
    obtain ⟨d, v, rfl, h2, h3⟩ := h.at_ i r e
    exact ⟨v, h2, h3⟩
  dist := fun i j r r' v _ e _ m => by
    obtain ⟨d, v, rfl, h2, h3⟩ := h.at_ i r e
    cases m
theorem immS_at (h : immS δ = true) {i : Nat} {r : R} (e : δ[i]? = some (some r)) : ∃ d, r = .imm d := by
  unfold immS at h
  rw [List.all_eq_true] at h
  have := h _ (List.mem_of_getElem? e)
  cases r with
  | imm d => exact ⟨d, rfl⟩
  | own o => cases this
  | brw o => cases this
  | nst _ _ => cases this
theorem SlI.back {F0 H0 : Hp} (ok : Ok (frm M F0 H0) F H σ δ) (hi : immS δ = true) : SlI (M := M) F σ δ := ⟨ok.len, fun i r e => by
  obtain ⟨d, rfl⟩ := immS_at hi e
  obtain ⟨v, h1, h2⟩ := ok.slot i _ e
  exact ⟨d, v, rfl, h1, h2⟩⟩
theorem stp_back {F0 H0 : Hp} (ok : Ok (frm M F0 H0) F H σ δ) : Stp M F0 H0 F H none := ⟨ok.grow, fun b o e1 n e2 => ok.nofz b (by show str0 H0 b ≠ none; rw [str0_of e1 n]; exact fun z => nomatch z) e2, fun b o e n _ => ok.kept b o (str0_of e n) (fun z => nomatch z), ok.same, ok.tb⟩
theorem SlI.setI (h : SlI (M := M) F σ δ) {d : D} {v : V} (i : Nat) (r : rep M F d v) : SlI (M := M) F (σ.set i (some v)) (δ.set i (some (.imm d))) := ⟨by simp [h.len], fun j r' e => by
  rcases getElem?_set_some e with ⟨rfl, e1, hl⟩ | ⟨hn, e1⟩
  · cases e1
    exact ⟨d, v, rfl, List.getElem?_set_self (by rw [h.len]; exact hl), r⟩
  · rw [List.getElem?_set_ne hn]
    exact h.at_ j r' e1⟩
end
end
end TS

namespace TS
open PySem L2
noncomputable section
section
variable {M : Gm}
def rowsOk (M : Gm) (F : Hp) (adr : Adr) (cont : Con) (j : Nat) {κ : Type} (mk : List (κ × V) → HO) (L : List (κ × List D)) (v : V) : Prop :=
  v = .ref (adr (.fld j)) ∧ (∃ kvs : List (κ × V), cont (.fld j) = some (mk kvs) ∧ kvs.map (·.1) = L.map (·.1) ∧ ∀ (e : Nat) (kv : κ × V), kvs[e]? = some kv → kv.2 = .ref (adr (.row j e))) ∧
  (∀ (e : Nat) (x : κ × List D), L[e]? = some x → ∃ vs, cont (.row j e) = some (.lst vs) ∧ reps M F x.2 vs) ∧ ∀ e, L.length ≤ e → cont (.row j e) = none
def fldOk (M : Gm) (F : Hp) (adr : Adr) (cont : Con) (j : Nat) : NF → V → Prop
  | .d x, v => rep M F x v
  | .dk ks ds, v => v = .ref (adr (.fld j)) ∧ ∃ kvs : List (Key × V), cont (.fld j) = some (.dK kvs) ∧ kvs.map (·.1) = ks ∧ reps M F ds (kvs.map (·.2))
  | .rk L, v => rowsOk M F adr cont j HO.dK L v
  | .rt L, v => rowsOk M F adr cont j HO.dT L v
structure NK (c : Cn M) (i0 ir : Nat) (F H : Hp) (σ : St) (s : NS) (adr : Adr) (cont : Con) (C dx : Addr) (fvs : List (Str × V)) : Prop where
  bas : NBas c F H
  cel : Cells c F H adr cont
  sl : SlI (M := M) F σ s.δ
  G : M.G s.n = some C
  sf : cont .self = some (.ins C dx fvs)
  nm : fvs.map (·.1) = (M.nm s.n).take s.fs.length
  ln : fvs.length = s.fs.length
  fl : ∀ (j : Nat) (f : NF) (p : Str × V), s.fs[j]? = some f → fvs[j]? = some p → fldOk M F adr cont j f p.2
  no : ∀ j, s.fs.length ≤ j → cont (.fld j) = none ∧ ∀ e, cont (.row j e) = none
  i0 : σ[i0]? = some (some (.ref (adr .self)))
  rn : (s.δ[ir]?).join = none
  al : ∀ j e, s.al = some (j, e) → σ[ir]? = some (some (.ref (adr (.row j e))))
variable {c : Cn M} {i0 ir : Nat} {F F' H H' : Hp} {σ σ' : St} {s : NS} {adr : Adr} {cont : Con} {C dx : Addr} {fvs : List (Str × V)}
theorem rowsOk.mono {κ : Type} {mk : List (κ × V) → HO} {j : Nat} {L : List (κ × List D)} {v : V} (h : rowsOk M F adr cont j mk L v) (g : Same F F') : rowsOk M F' adr cont j mk L v := by
  obtain ⟨h1, h2, h3, h4⟩ := h
  exact ⟨h1, h2, fun e x hx => by
    obtain ⟨vs, k1, k2⟩ := h3 e x hx
    exact ⟨vs, k1, reps_mono g _ _ k2⟩, h4⟩
theorem fldOk.mono {j : Nat} {f : NF} {v : V} (h : fldOk M F adr cont j f v) (g : Same F F') : fldOk M F' adr cont j f v := by
  cases f with
  | d x => exact rep_mono g _ _ h
  | dk ks ds =>
    obtain ⟨h1, kvs, h2, h3, h4⟩ := h
    exact ⟨h1, kvs, h2, h3, reps_mono g _ _ h4⟩
  | rk L => exact rowsOk.mono h g
  | rt L => exact rowsOk.mono h g
theorem NK.step (k : NK c i0 ir F H σ s adr cont C dx fvs) (st : Stp M F H F' H' none) {δ' : Sl} (sl : SlI (M := M) F' σ' δ') (h0 : σ'[i0]? = σ[i0]?) (hr : σ'[ir]? = σ[ir]?) (hn : (δ'[ir]?).join = none) : NK c i0 ir F' H' σ' { s with δ := δ' } adr cont C dx fvs :=
  ⟨k.bas.stp st, k.cel.stp st, sl, k.G, k.sf, k.nm, k.ln, fun j f p e1 e2 => (k.fl j f p e1 e2).mono st.grow, k.no, h0.trans k.i0, hn, fun j e h => hr.trans (k.al j e h)⟩
theorem rowsOk.put {κ : Type} {mk : List (κ × V) → HO} {j j' : Nat} {L : List (κ × List D)} {v : V} {o : Option HO} (h : rowsOk M F adr cont j' mk L v) (hj : j' ≠ j) : rowsOk M F adr (setC cont (.fld j) o) j' mk L v := by
  obtain ⟨h1, ⟨kvs, h2, h3⟩, h4, h5⟩ := h
  refine ⟨h1, ⟨kvs, ?_, h3⟩, fun e x hx => ?_, fun e he => ?_⟩
  · rw [setC_ne (by intro z; cases z; exact hj rfl)]; exact h2
  · obtain ⟨vs, k1, k2⟩ := h4 e x hx
    exact ⟨vs, by rw [setC_ne (by intro z; cases z)]; exact k1, k2⟩
  · rw [setC_ne (by intro z; cases z)]; exact h5 e he
theorem fldOk.put {j j' : Nat} {f : NF} {v : V} {o : Option HO} (h : fldOk M F adr cont j' f v) (hj : j' ≠ j) : fldOk M F adr (setC cont (.fld j) o) j' f v := by
  cases f with
  | d x => exact h
  | dk ks ds =>
    obtain ⟨h1, kvs, h2, h3, h4⟩ := h
    exact ⟨h1, kvs, by rw [setC_ne (by intro z; cases z; exact hj rfl)]; exact h2, h3, h4⟩
  | rk L => exact rowsOk.put h hj
  | rt L => exact rowsOk.put h hj
theorem getElem?_set_cases {α : Type} {l : List α} {i j : Nat} {x y : α} (h : (l.set i x)[j]? = some y) : (i = j ∧ x = y) ∨ (i ≠ j ∧ l[j]? = some y) := by
  rcases getElem?_set_some h with ⟨h1, h2, _⟩ | h
  · exact .inl ⟨h1, h2⟩
  · exact .inr h
theorem NK.putD (k : NK c i0 ir F H σ s adr cont C dx fvs) {j : Nat} {ks : List Key} {ds : List D} {kk : Key} {d : D} {v : V} (hj : s.fs[j]? = some (.dk ks ds)) (hd : rep M F d v) :
    ∃ kvs : List (Key × V), H (adr (.fld j)) = some (.dK kvs) ∧ kvs.length = ds.length ∧ NK c i0 ir F (upd H (adr (.fld j)) (.dK (putK kvs kk v))) σ { s with fs := s.fs.set j (.dk (TS.putD ks ds kk d).1 (TS.putD ks ds kk d).2) } adr (setC cont (.fld j) (some (.dK (putK kvs kk v)))) C dx fvs := by
  have hlt : j < s.fs.length := (List.getElem?_eq_some_iff.mp hj).1
  obtain ⟨p, hp⟩ : ∃ p, fvs[j]? = some p := ⟨fvs[j]'(by rw [k.ln]; exact hlt), List.getElem?_eq_getElem _⟩
  obtain ⟨h1, kvs, h2, h3, h4⟩ := k.fl j _ p hj hp
  obtain ⟨q1, q2⟩ := putD_v hd kk h4
  rw [h3] at q1 q2
  refine ⟨kvs, k.cel.at_ _ _ h2, by have := reps_length h4; simpa using this, k.bas.put k.cel h2, k.cel.put h2, k.sl, k.G, ?_, ?_, ?_, fun j' f p' e1 e2 => ?_, fun j' hj' => ?_, k.i0, k.rn, k.al⟩
  · rw [setC_ne (by intro z; cases z)]; exact k.sf
  · simp only [List.length_set]; exact k.nm
  · simp only [List.length_set]; exact k.ln
  · rcases getElem?_set_cases e1 with ⟨z, z2⟩ | ⟨z, e1⟩
    · subst z; subst z2
      rw [hp] at e2; cases e2
      exact ⟨h1, _, setC_same _ _ _, q1, q2⟩
    · exact (k.fl j' f p' e1 e2).put (Ne.symm z)
  · simp only [List.length_set] at hj'
    obtain ⟨n1, n2⟩ := k.no j' hj'
    refine ⟨?_, fun e => ?_⟩
    · rw [setC_ne (by intro z; cases z; omega)]; exact n1
    · rw [setC_ne (by intro z; cases z)]; exact n2 e
def rowOf (s : NS) : Option (List D) := s.al.bind fun p => (s.fs[p.1]?).bind fun f => match f with
  | .rk L => (L[p.2]?).map (·.2)
  | .rt L => (L[p.2]?).map (·.2)
  | _ => none
theorem NK.row (k : NK c i0 ir F H σ s adr cont C dx fvs) {row : List D} (h : rowOf s = some row) : ∃ j e vs, s.al = some (j, e) ∧ σ[ir]? = some (some (.ref (adr (.row j e)))) ∧ (s.δ[ir]?).join = none ∧ cont (.row j e) = some (.lst vs) ∧ reps M F row vs := by
  obtain ⟨⟨j, e⟩, ha, h⟩ := Option.bind_eq_some_iff.mp h
  obtain ⟨f, hf, h⟩ := Option.bind_eq_some_iff.mp h
  have a1 := k.al j e ha
  have a2 := k.rn
  have hlt : j < s.fs.length := (List.getElem?_eq_some_iff.mp hf).1
  obtain ⟨p, hp⟩ : ∃ p, fvs[j]? = some p := ⟨fvs[j]'(by rw [k.ln]; exact hlt), List.getElem?_eq_getElem _⟩
  have hk := k.fl j f p hf hp
  cases f with
  | d x => cases h
  | dk ks ds => cases h
  | rk L =>
    obtain ⟨x, hx, rfl⟩ := Option.map_eq_some_iff.mp h
    obtain ⟨vs, k1, k2⟩ := hk.2.2.1 e x hx
    exact ⟨j, e, vs, ha, a1, a2, k1, k2⟩
  | rt L =>
    obtain ⟨x, hx, rfl⟩ := Option.map_eq_some_iff.mp h
    obtain ⟨vs, k1, k2⟩ := hk.2.2.1 e x hx
    exact ⟨j, e, vs, ha, a1, a2, k1, k2⟩
end
end
end TS

namespace TS
open PySem L2
noncomputable section
section
variable {M : Gm} {W : WX} {X : Cx} {i0 ir : Nat}
theorem SlI.setSame {F : Hp} {σ : St} {δ : Sl} (h : SlI (M := M) F σ δ) {i : Nat} {d : D} {v : V} (e : σ[i]? = some (some v)) (r : rep M F d v) : SlI (M := M) F σ (δ.set i (some (.imm d))) := by
  have := h.setI i r
  have e2 : σ.set i (some v) = σ := by
    apply List.ext_getElem?
    intro j
    by_cases hj : i = j
    · subst hj
      rw [List.getElem?_set_self (List.getElem?_eq_some_iff.mp e).1, e]
    · rw [List.getElem?_set_ne hj]
  rwa [e2] at this
end
end
end TS

namespace TS
open PySem L2
noncomputable section
section
variable {M : Gm} {W : WX} {X : Cx} {i0 ir : Nat} {c : Cn M} {F F' H H' : Hp} {σ σ' : St} {s : NS} {adr adr' : Adr} {cont cont' : Con} {C dx : Addr} {fvs : List (Str × V)}
theorem rowsOk.congr {κ : Type} {mk : List (κ × V) → HO} {j : Nat} {L : List (κ × List D)} {v : V} (h : rowsOk M F adr cont j mk L v) (h1 : adr' (.fld j) = adr (.fld j)) (h2 : ∀ e, adr' (.row j e) = adr (.row j e)) (h3 : cont' (.fld j) = cont (.fld j)) (h4 : ∀ e, cont' (.row j e) = cont (.row j e)) : rowsOk M F adr' cont' j mk L v := by
  obtain ⟨k1, ⟨kvs, k2, k3, k4⟩, k5, k6⟩ := h
  refine ⟨by rw [h1]; exact k1, ⟨kvs, by rw [h3]; exact k2, k3, fun e kv he => by rw [h2]; exact k4 e kv he⟩, fun e x hx => ?_, fun e he => by rw [h4]; exact k6 e he⟩
  obtain ⟨vs, l1, l2⟩ := k5 e x hx
  exact ⟨vs, by rw [h4]; exact l1, l2⟩
theorem fldOk.congr {j : Nat} {f : NF} {v : V} (h : fldOk M F adr cont j f v) (h1 : adr' (.fld j) = adr (.fld j)) (h2 : ∀ e, adr' (.row j e) = adr (.row j e)) (h3 : cont' (.fld j) = cont (.fld j)) (h4 : ∀ e, cont' (.row j e) = cont (.row j e)) : fldOk M F adr' cont' j f v := by
  cases f with
  | d x => exact h
  | dk ks ds =>
    obtain ⟨k1, kvs, k2, k3, k4⟩ := h
    exact ⟨by rw [h1]; exact k1, kvs, by rw [h3]; exact k2, k3, k4⟩
  | rk L => exact rowsOk.congr h h1 h2 h3 h4
  | rt L => exact rowsOk.congr h h1 h2 h3 h4
theorem rowsOk.grow {κ : Type} {mk : List (κ × V) → HO} {j : Nat} {L : List (κ × List D)} {v : V} {k : κ} {p : Addr} {kvs : List (κ × V)} (h : rowsOk M F adr cont j mk L v) (hm : ∀ a b, mk a = mk b → a = b) (hc : cont (.fld j) = some (mk kvs)) :
    rowsOk M F (setC adr (.row j L.length) p) (setC (setC cont (.row j L.length) (some (.lst []))) (.fld j) (some (mk (kvs ++ [(k, .ref p)])))) j mk (L ++ [(k, [])]) v := by
  obtain ⟨k1, ⟨kvs', k2, k3, k4⟩, k5, k6⟩ := h
  rw [hc] at k2
  have := hm _ _ (Option.some.inj k2)
  subst this
  have hll : kvs.length = L.length := by have := congrArg List.length k3; simpa using this
  refine ⟨by rw [setC_ne (by intro z; cases z)]; exact k1, ⟨_, setC_same _ _ _, by simp [k3], fun e kv he => ?_⟩, fun e x hx => ?_, fun e he => ?_⟩
  · by_cases hlt : e < L.length
    · rw [List.getElem?_append_left (by omega)] at he
      rw [setC_ne (by intro z; cases z; omega)]; exact k4 e kv he
    · have : e = L.length := by
        have := (List.getElem?_eq_some_iff.mp he).1
        simp at this; omega
      subst this
      rw [List.getElem?_append_right (by omega)] at he
      simp [hll] at he
      subst he
      rw [setC_same]
  · by_cases hlt : e < L.length
    · rw [List.getElem?_append_left hlt] at hx
      obtain ⟨vs, l1, l2⟩ := k5 e x hx
      exact ⟨vs, by rw [setC_ne (by intro z; cases z), setC_ne (by intro z; cases z; omega)]; exact l1, l2⟩
    · have : e = L.length := by
        have := (List.getElem?_eq_some_iff.mp hx).1
        simp at this; omega
      subst this
      rw [List.getElem?_append_right (Nat.le_refl _)] at hx
      simp at hx
      subst hx
      exact ⟨[], by rw [setC_ne (by intro z; cases z)]; exact setC_same _ _ _, by simp [reps]⟩
  · simp at he
    rw [setC_ne (by intro z; cases z), setC_ne (by intro z; cases z; omega)]
    exact k6 e (by omega)
end
end
end TS

namespace TS
open PySem L2
noncomputable section
section
variable {M : Gm} {W : WX} {X : Cx} {i0 ir : Nat}
end
end
end TS

namespace TS
open PySem L2
noncomputable section
section
variable {M : Gm} {W : WX} {X : Cx} {i0 ir : Nat} {c : Cn M} {F F' H H' : Hp} {σ : St} {δ : Sl} {s : NS}
end
end
end TS

namespace TS
open PySem L2
noncomputable section
def fChain (g g' : D → D → Option R) (fa fb fc : FD) : FE := fun δ => (fa δ).bind fun x δ1 => (fb δ1).bind fun y δ2 => match g x y with
  | some (.imm (.bl true)) => (fc δ2).bind fun w δ3 => (match g' y w with
    | some z => .ok z δ3
    | none => .bad)
  | some (.imm (.bl false)) => .ok (.imm (.bl false)) δ2
  | _ => .bad
section
variable {M : Gm} {W : WX} {X : Cx} {a b c : Expr} {pos : Pos} {fa fb fc : FD} {r r' : R2} {g g' : D → D → Option R}
def gGet : D → D → D → Option D
  | .dK ks ds, k, x => (keyOf k).map fun k => (lookD ks ds k).getD x
  | .dT ks ds, .tup kds, x => (keysOf kds).map fun k => (lookD ks ds k).getD x
  | _, _, _ => none
def isDD : D → Bool
  | .dK _ _ => true
  | .dT _ _ => true
  | _ => false
def fGet (fo fk fx : FD) : FD := fun δ => (fo δ).bind fun d δ1 => if isDD d then (fk δ1).bind fun k δ2 => (fx δ2).bind fun x δ3 => (match gGet d k x with
  | some z => .ok z δ3
  | none => .bad) else .bad
end
end
end TS

namespace TS
open PySem L2
noncomputable section
section
variable {M : Gm} {c : Cn M} {W : WX} {X : Cx} {F H : Hp} {σ : St} {δ : Sl}
def sPar2E (i j : Nat) (f : FX) : FS := fun δ => (f δ).bindS fun rs δ1 => match rs with
  | [a, b] => if i < δ1.length then .nx ((δ1.set i (some a)).set j (some b)) else .bad
  | _ => .bad
end
end
end TS

namespace TS
open PySem L2 PySem.Spec PyProof.Rows
noncomputable section
mutual
def noLam : D → Bool
  | .lam => false
  | .lst ds => noLams ds
  | .tup ds => noLams ds
  | .scr ds => noLams ds
  | .dK _ ds => noLams ds
  | .dT _ ds => noLams ds
  | .obj _ ds => noLams ds
  | .ex _ ds => noLams ds
  | _ => true
def noLams : List D → Bool
  | [] => true
  | d :: ds => noLam d && noLams ds
end
section
variable {M : Gm} {L : Lm} {F F' H H' : Hp}
mutual
theorem rep_unl : ∀ (d : D) (v : V), noLam d = true → rep (M.wl L) F d v → rep M F d v
  | .non, v, _, h => by unfold rep at h ⊢; exact h
  | .bl _, v, _, h => by unfold rep at h ⊢; exact h
  | .int _, v, _, h => by unfold rep at h ⊢; exact h
  | .str _, v, _, h => by unfold rep at h ⊢; exact h
  | .lst ds, v, n, h => by
    unfold rep at h ⊢
    obtain ⟨a, vs, h1, h2, h3⟩ := h
    exact ⟨a, vs, h1, h2, reps_unl ds vs (by unfold noLam at n; exact n) h3⟩
  | .scr ds, v, n, h => by
    unfold rep at h ⊢
    obtain ⟨a, vs, h1, h2, h3⟩ := h
    exact ⟨a, vs, h1, h2, reps_unl ds vs (by unfold noLam at n; exact n) h3⟩
  | .tup ds, v, n, h => by
    unfold rep at h ⊢
    obtain ⟨a, vs, h1, h2, h3⟩ := h
    exact ⟨a, vs, h1, h2, reps_unl ds vs (by unfold noLam at n; exact n) h3⟩
  | .dK ks ds, v, n, h => by
    unfold rep at h ⊢
    obtain ⟨a, od, vs, h1, h2, h3, h4⟩ := h
    exact ⟨a, od, vs, h1, h2, h3, reps_unl ds _ (by unfold noLam at n; exact n) h4⟩
  | .dT ks ds, v, n, h => by
    unfold rep at h ⊢
    obtain ⟨a, od, vs, h1, h2, h3, h4⟩ := h
    exact ⟨a, od, vs, h1, h2, h3, reps_unl ds _ (by unfold noLam at n; exact n) h4⟩
  | .obj c ds, v, n, h => by
    unfold rep at h ⊢
    obtain ⟨a, C, dx, fs, h1, h2, h3, h4, h5⟩ := h
    exact ⟨a, C, dx, fs, h1, h2, h3, h4, reps_unl ds _ (by unfold noLam at n; exact n) h5⟩
  | .cls c, v, _, h => by unfold rep at h ⊢; exact h
  | .ktp ns, v, _, h => by unfold rep at h ⊢; exact h
  | .ex c ds, v, n, h => by
    unfold rep at h ⊢
    obtain ⟨a, C, fs, h1, h2, h3, h4, h5⟩ := h
    exact ⟨a, C, fs, h1, h2, h3, reps_unl ds _ (by unfold noLam at n; exact n) h4, h5⟩
  | .lam, v, n, h => by unfold noLam at n; cases n
theorem reps_unl : ∀ (ds : List D) (vs : List V), noLams ds = true → reps (M.wl L) F ds vs → reps M F ds vs
  | [], vs, _, h => by unfold reps at h ⊢; exact h
  | d :: ds, vs, n, h => by
    unfold noLams at n
    rw [Bool.and_eq_true] at n
    unfold reps at h ⊢
    obtain ⟨v, r, h1, h2, h3⟩ := h
    exact ⟨v, r, h1, rep_unl d v n.1 h2, reps_unl ds r n.2 h3⟩
end
mutual
theorem rep_lm (hM : M.lm = L0) : ∀ (d : D) (v : V), rep M F d v → rep (M.wl L) F d v
  | .non, v, h => by unfold rep at h ⊢; exact h
  | .bl _, v, h => by unfold rep at h ⊢; exact h
  | .int _, v, h => by unfold rep at h ⊢; exact h
  | .str _, v, h => by unfold rep at h ⊢; exact h
  | .lst ds, v, h => by
    unfold rep at h ⊢
    obtain ⟨a, vs, h1, h2, h3⟩ := h
    exact ⟨a, vs, h1, h2, reps_lm hM ds vs h3⟩
  | .scr ds, v, h => by
    unfold rep at h ⊢
    obtain ⟨a, vs, h1, h2, h3⟩ := h
    exact ⟨a, vs, h1, h2, reps_lm hM ds vs h3⟩
  | .tup ds, v, h => by
    unfold rep at h ⊢
    obtain ⟨a, vs, h1, h2, h3⟩ := h
    exact ⟨a, vs, h1, h2, reps_lm hM ds vs h3⟩
  | .dK ks ds, v, h => by
    unfold rep at h ⊢
    obtain ⟨a, od, vs, h1, h2, h3, h4⟩ := h
    exact ⟨a, od, vs, h1, h2, h3, reps_lm hM ds _ h4⟩
  | .dT ks ds, v, h => by
    unfold rep at h ⊢
    obtain ⟨a, od, vs, h1, h2, h3, h4⟩ := h
    exact ⟨a, od, vs, h1, h2, h3, reps_lm hM ds _ h4⟩
  | .obj c ds, v, h => by
    unfold rep at h ⊢
    obtain ⟨a, C, dx, fs, h1, h2, h3, h4, h5⟩ := h
    exact ⟨a, C, dx, fs, h1, h2, h3, h4, reps_lm hM ds _ h5⟩
  | .cls c, v, h => by unfold rep at h ⊢; exact h
  | .ktp ns, v, h => by unfold rep at h ⊢; exact h
  | .ex c ds, v, h => by
    unfold rep at h ⊢
    obtain ⟨a, C, fs, h1, h2, h3, h4, h5⟩ := h
    exact ⟨a, C, fs, h1, h2, h3, reps_lm hM ds _ h4, h5⟩
  | .lam, v, h => by
    unfold rep at h
    rw [hM] at h
    exact (show False from h).elim
theorem reps_lm (hM : M.lm = L0) : ∀ (ds : List D) (vs : List V), reps M F ds vs → reps (M.wl L) F ds vs
  | [], vs, h => by unfold reps at h ⊢; exact h
  | d :: ds, vs, h => by
    unfold reps at h ⊢
    obtain ⟨v, r, h1, h2, h3⟩ := h
    exact ⟨v, r, h1, rep_lm hM d v h2, reps_lm hM ds r h3⟩
end
theorem obAt_unl {o : OB} {a : Addr} (n : noLam o.toD = true) (h : obAt (M.wl L) F H o a) : obAt M F H o a := by
  cases o with
  | l ds => obtain ⟨vs, h1, h2⟩ := h; exact ⟨vs, h1, reps_unl _ _ (by unfold OB.toD noLam at n; exact n) h2⟩
  | dK ks ds => obtain ⟨vs, h1, h2, h3⟩ := h; exact ⟨vs, h1, h2, reps_unl _ _ (by unfold OB.toD noLam at n; exact n) h3⟩
  | dT ks ds => obtain ⟨vs, h1, h2, h3⟩ := h; exact ⟨vs, h1, h2, reps_unl _ _ (by unfold OB.toD noLam at n; exact n) h3⟩
  | o c ds => obtain ⟨C, dx, fs, h1, h2, h3, h4⟩ := h; exact ⟨C, dx, fs, h1, h2, h3, reps_unl _ _ (by unfold OB.toD noLam at n; exact n) h4⟩
theorem xAt_unl {x : XD} {cls : Value} {d : Option Addr} (n : noLams x.vs = true) (h : xAt (M.wl L) F x cls d H) : xAt M F x cls d H := by
  obtain ⟨C, h1, h2, h3⟩ := h
  refine ⟨C, h1, h2, ?_⟩
  rcases h3 with h3 | ⟨dd, fs, k1, k2, k3, k4⟩
  · exact .inl h3
  · exact .inr ⟨dd, fs, k1, k2, k3, reps_unl _ _ n k4⟩
theorem xAt_lm (hM : M.lm = L0) {x : XD} {cls : Value} {d : Option Addr} (h : xAt M F x cls d H) : xAt (M.wl L) F x cls d H := by
  obtain ⟨C, h1, h2, h3⟩ := h
  refine ⟨C, h1, h2, ?_⟩
  rcases h3 with h3 | ⟨dd, fs, k1, k2, k3, k4⟩
  · exact .inl h3
  · exact .inr ⟨dd, fs, k1, k2, k3, reps_lm hM _ _ k4⟩
end
def frz1 (i : Nat) (δ : Sl) : Sl := match δ[i]? with
  | some (some (.own o)) => δ.set i (some (.imm o.toD))
  | _ => δ
def frzS : List Nat → Sl → Sl
  | [], δ => δ
  | i :: is, δ => frzS is (frz1 i δ)
def immP (δ : Sl) : Sl := δ.map fun x => match x with
  | some (.imm d) => some (.imm d)
  | _ => none
def thk (fb : FE) (δ : Sl) : Res D := match frz fb (immP δ) with
  | .ok d _ => .ok d []
  | .exc x _ => .exc x []
  | .bad => .bad
def fRes (i : Nat) (res : Res D) : FE := fun δ => match δ[i]? with
  | some (some (.imm .lam)) => (match res with
    | .ok d _ => .ok (.imm d) δ
    | .exc x _ => .exc x δ
    | .bad => .bad)
  | _ => .bad
def outL (r : FR) (δ : Sl) : Res R := match r with
  | .ok (.imm d) _ => if noLam d then .ok (.imm d) δ else .bad
  | .ok (.own o) _ => if noLam o.toD then .ok (.own o) δ else .bad
  | .exc x _ => if noLams x.vs then .exc x δ else .bad
  | _ => .bad
def fLam (ixs : List Nat) (mt : Res D → Fm) (fb : FE) : FE := fun δ => outL (mt (thk fb (frzS ixs δ)) none [.lam]) (frzS ixs δ)
section
variable {M : Gm} {c : Cn M} {F F' H H' : Hp} {σ : L2.St} {δ : Sl}
theorem Ok.frz1 (ok : Ok c F H σ δ) (i : Nat) : LkS (fun H' => ∃ F', Same F F' ∧ Ok c F' H' σ (TS.frz1 i δ)) H := by
  unfold TS.frz1
  split
  · rename_i o q
    obtain ⟨v, e1, e2⟩ := ok.take q
    refine ((ok.drop i).freeze e2).mono fun H2 ⟨F', g, ok', r'⟩ => ?_
    have ok2 := ok'.setSame (i := i) e1 r'
    rw [List.set_set] at ok2
    exact ⟨F', g, ok2⟩
  · exact .now ⟨F, Same.refl _, ok⟩
theorem Ok.frzS : ∀ {F H : Hp} {δ : Sl} (is : List Nat), Ok c F H σ δ → LkS (fun H' => ∃ F', Same F F' ∧ Ok c F' H' σ (TS.frzS is δ)) H
  | F, _, _, [], ok => .now ⟨F, Same.refl _, ok⟩
  | F, _, _, i :: is, ok => (ok.frz1 i).bind fun _ ⟨F1, g1, ok1⟩ => (Ok.frzS is ok1).mono fun _ ⟨F2, g2, ok2⟩ => ⟨F2, g1.trans g2, ok2⟩
theorem Ok.immP (ok : Ok c F H σ δ) (g : Same F F') : SlI (M := M) F' σ (TS.immP δ) := ⟨by unfold TS.immP; simp [ok.len], fun i r e => by
  unfold TS.immP at e
  rw [List.getElem?_map] at e
  cases q : δ[i]? with
  | none => rw [q] at e; cases e
  | some x =>
    rw [q] at e
    cases x with
    | none => simp at e
    | some r0 =>
      cases r0 with
      | imm d =>
        simp at e
        subst e
        obtain ⟨v, e1, e2⟩ := ok.slot i _ q
        exact ⟨d, v, rfl, e1, rep_mono g _ _ e2⟩
      | own o => simp at e
      | brw o => simp at e
      | nst _ _ => simp at e⟩
end
structure LamOk (P : Program) (w : World) (M : Gm) (K : PySem.W.Frag) (mg : Str → Option Value) (base : Heap) (k : Nat) (x : Str) (g : Addr) (mt : Res D → Fm) (qg : Str) (pg : Arguments) (bg : List Stmt) (sg : Scope) (fd : FuncData) (a : Str) (Ng : List Str) (gg : Res D → FS) : Prop where
  fd_ : FunD K x qg pg bg sg [] [] g fd
  kp : PySem.W.keepIn K (.ref g) = true
  sc : FnScope Ng [a] sg
  bi : Binds K fd [a] []
  mt_ : ∀ r, mt r = mir Ng.length 1 (gg r)
  run : ∀ (L : Lm) (res : Res D) (cdv : Value) (A : Around) (outer : List Env) (s : Shared) (H : Hp) (E : XK), TS.Room k (A.deeper (PyProof.Rows.envOfC qg sg s.heap.objs.size g cdv)) →
    Takes (cxOf (L2.CX P w) P w K mg base Ng qg sg g cdv A outer s H E) (fun cls d _ H => E cls d H) →
    PassesOwn (model P w) (A.deeper (PyProof.Rows.envOfC qg sg s.heap.objs.size g cdv)) (PyProof.Rows.envOfC qg sg s.heap.objs.size g cdv) (cxOf (L2.CX P w) P w K mg base Ng qg sg g cdv A outer s H E).xe →
    (∀ (W : WX) (pn : List (Addr × Obj)) (xe : Value → Shared → Prop) (p1 p2 : Pos), Takes ((cxOf (L2.CX P w) P w K mg base Ng qg sg g cdv A outer s H E).tr pn xe) W → DE (M.wl L) W ((cxOf (L2.CX P w) P w K mg base Ng qg sg g cdv A outer s H E).tr pn xe) (.Call (.Name a p1) [] [] p2) (fRes 0 res)) →
    DSs (M.wl L) (fun cls d _ H => E cls d H) (cxOf (L2.CX P w) P w K mg base Ng qg sg g cdv A outer s H E) bg (gg res)
section
variable {X : Cx} {W : WX} {M : Gm}
def canE (M : Gm) (W : WX) (f : FE) : TE := fun σ H Q => ∃ (c : Cn M) (F : Hp) (δ : Sl), Ok c F H σ δ ∧ Post c W F σ (ρR c σ) (f δ) Q
theorem de_can {e : Expr} {f : FE} (p : PE X e (canE M W f)) : DE M W X e f := ⟨_, p, fun c F H σ δ Q ok post => ⟨c, F, δ, ok, post⟩⟩
theorem act_de {pins : List (Addr × Obj)} {s : Shared} {σ : L2.St} {H F0 F1 : Hp} {δ : Sl} {c : Cn M} {f c' g : Addr} {params : Arguments} {body : Expr} {scope : Scope} {pm ctv cdg : Value} {Ng : List Str} {qg : Str} {sg : Scope} {a : Str} {kb : Nat} {fb : FE} {EZ : XK} {L : Lm} {pn : List (Addr × Obj)} {xe : Value → Shared → Prop} {WZ : WX} {p1 p2 : Pos}
    (hM : M.lm = L0) (I : Inv X pins σ H s) (hS : LamX.LamS X.env.scope scope) (hf : s.heap.get? f = some (PySem.W.kla_obj "<lambda>" (X.env.qual ++ "<lambda>") params body scope (cloFrom X.env.cells scope.names []) pm c' ctv)) (hfn : H f = none) (hfr : f ∉ frs X.stack)
    (hbi : bindArgs (PySem.W.kla_fn "<lambda>" (X.env.qual ++ "<lambda>") params body scope (cloFrom X.env.cells scope.names []) pm (.ref c') ctv) ⟨[], []⟩ = pure [])
    (ok : Ok c F0 H σ δ) (g01 : Same F0 F1) (hc : F1 c' = some (LamX.CodeO c' (X.env.qual ++ "<lambda>"))) (hL : ∀ F v, L.p F v ↔ (v = V.ref f ∧ Same F1 F))
    (hr : TS.Room (kb + 1) (X.A.deeper (PyProof.Rows.envOfC qg sg s.heap.objs.size g cdg)))
    (tk : Takes ((cxOf (L2.CX X.prog X.w) X.prog X.w X.K X.mg X.base Ng qg sg g cdg X.A X.stack s H EZ).tr pn xe) WZ)
    (hbody : ∀ (A : Around) (outer : List Env) (s : Shared) (H : Hp) (E : XK), TS.Room kb (A.deeper (LamX.lamEnv X scope s.heap.objs.size f c')) → Takes (LamX.lamCx X A outer s H E scope f c') (fun cls d _ H => E cls d H) → DE M (fun cls d _ H => E cls d H) (LamX.lamCx X A outer s H E scope f c') body fb)
    (hN : Ng[0]? = some a) (hv : Vis sg a) (hd : (a == ("__debug__" : Str)) = false) (hcd : (a == ("__classdict__" : Str)) = false) :
    DE (M.wl L) WZ ((cxOf (L2.CX X.prog X.w) X.prog X.w X.K X.mg X.base Ng qg sg g cdg X.A X.stack s H EZ).tr pn xe) (.Call (.Name a p1) [] [] p2) (fRes 0 (thk fb δ)) := by
  refine de_can ⟨fun pinsZ sZ σZ HZ Q IZ ⟨cZ, FZ, δZ, okZ, post⟩ => ?_⟩
  unfold fRes at post
  split at post
  case h_2 => exact post.elim
  rename_i q0
  obtain ⟨v0, e0, r0⟩ := okZ.slot 0 _ q0
  have r0 : L.p FZ v0 := by
    have r0 : rep (M.wl L) FZ .lam v0 := r0
    unfold rep at r0
    exact r0
  obtain ⟨ev, gZ⟩ := (hL _ _).mp r0
  subst ev
  refine wpAny_Call_Name_kw (thn ((pe_var (pos := p1) (i := 0) hN hv hd hcd).run pinsZ sZ σZ HZ (fun v H1 => v = .ref f ∧ H1 = HZ) IZ ⟨.ref f, e0, rfl, rfl⟩) fun u s1 ⟨v, H1, I1, r1, q1, q2⟩ => ?_)
  subst q1 q2
  obtain rfl : u = Value.ref f := r1
  have fat := I1.base.keep f _ hf hfn hfr (fun z => nomatch (show f ∈ ([] : List Addr) from z))
  refine PySem.W.callWith_F0 ⟨_, _, _, _, fat⟩ ?_
  have un : Un (frs X.stack) [] H H1 s.heap s1.heap := I1.base
  have hcZ : H1 c' = some (LamX.CodeO c' (X.env.qual ++ "<lambda>")) := okZ.same _ _ (gZ _ _ hc)
  obtain ⟨⟨oc, vs, t, hoc, hdc, hvc⟩, _, _⟩ := I1.hok c' _ hcZ
  have rc : codeAny (model X.prog X.w) (X.A.deeper (PyProof.Rows.envOfC qg sg s.heap.objs.size g cdg)) (.call (.ref f) ⟨[], []⟩) (CR (L2.CX X.prog X.w) (PyProof.Rows.envOfC qg sg s.heap.objs.size g cdg :: X.stack) X.prog X.w H1 s1 Q (WE WZ σZ)) s1 := by
    refine PySem.W.kla_callFunE hr.depth fat rfl hS.co hS.gen rfl ⟨c', oc, vs, t, rfl, hoc, hdc, hvc⟩ ?_
    rw [hbi]
    refine wpAny_pure (wpAny_newFunctionEnv (fun y hy => (hS.own y hy).2) (fun y hy => absurd hy (by simp)) (fun h₁ hns hsb => ⟨I1.nolimit.fresh _ hsb, ?_⟩) hS.kind)
    have kp : ∀ b o, s1.heap.get? b = some o → h₁.get? b = some o := fun b o e => hsb.extBut b o (Nat.ne_of_lt (Heap.lt_size e)) (Heap.get?_push_of_some _ e)
    have J := LamX.lam_start2 (tk := s1.toks + ([] : List (Str × Value)).length) (E := WE WZ σZ) (f := f) (c' := c') I hS I1.env0 hr.hd un hns kp
    obtain ⟨tt, pt, ht⟩ := hbody _ _ s1 H1 (WE WZ σZ) (hr.deeper _) (takes_of rfl rfl rfl rfl)
    refine PySem.W.kla_codeExpr (wpAny_mono ((pe_lks pt).run [] _ _ H1 Q J (ht (frm M FZ H1) FZ H1 σ (immP δ) (fun v H' => LkS (Q v) H') ((ok.immP (g01.trans gZ)).ok okZ.same ⟨okZ.tb.tab, okZ.tb.fr, okZ.tb.nt⟩) ?_)) (fun v s' hq => ?_) fun e s' hq => hq)
    · unfold thk at post
      unfold frz at post
      cases qb : fb (immP δ) with
      | bad => rw [qb] at post; exact post.elim
      | exc x δ2 =>
        rw [qb] at post
        intro cls d F' H' g' ok' xa
        have st := stp_back ok'
        exact post cls d F' H' g' (okZ.stp ⟨st.grow, st.nofz, st.kept, st.same, st.tb.tab, st.tb.fr, st.tb.nt⟩) (xAt_lm hM xa)
      | ok r δ2 =>
        rw [qb] at post
        intro v F' H' g' ok' rr
        cases r with
        | brw o => exact (show False from rr).elim
        | nst _ _ => exact post.elim
        | imm d =>
          have st := stp_back ok'
          exact .now (post v F' H' g' (okZ.stp ⟨st.grow, st.nofz, st.kept, st.same, st.tb.tab, st.tb.fr, st.tb.nt⟩) (rep_lm hM d v rr))
        | own o =>
          refine (ok'.freeze rr).mono fun H2 ⟨F2, g2, ok2, r2⟩ => ?_
          have st := stp_back ok2
          exact post v F2 H2 (g'.trans g2) (okZ.stp ⟨st.grow, st.nofz, st.kept, st.same, st.tb.tab, st.tb.fr, st.tb.nt⟩) (rep_lm hM _ v r2)
    · obtain ⟨w', H', J', rv, q⟩ := hq
      exact ⟨w', H', J'.os, J'.bare, J'.base, J'.hok, rv, q⟩
  refine wpAny_call (codeAny_mono rc fun r s' hq => ?_)
  cases r with
  | error e => exact passAt tk σZ pinsZ H1 s1 e s' I1 hq
  | ok fl =>
    cases fl with
    | ret u => exact I1.after hq
    | next => exact False.elim hq
    | brk => exact False.elim hq
    | cont => exact False.elim hq
theorem d_lam {x : Str} {g cO PO : Addr} {j k kb : Nat} {mt : Res D → Fm} {qg : Str} {pg : Arguments} {bg : List Stmt} {sg : Scope} {fd : FuncData} {a : Str} {Ng : List Str} {gg : Res D → FS} {ixs : List Nat} {fb : FE} {params : Arguments} {body : Expr} {scope : Scope} {p lpos pos : Pos}
    (hL : LamOk X.prog X.w M X.K X.mg X.base k x g mt qg pg bg sg fd a Ng gg) (hM : M.lm = L0) (hg : Gl X x) (hmx : X.mg x = some (.ref g)) (tk : Takes X W) (hr : TS.Room j X.A) (h1 : k + 1 ≤ j) (h2 : kb + 2 ≤ j)
    (TB : LamX.TabB X.base X.mg cO PO) (hcode : X.env.code = .ref cO) (hmT : (PO, X.env.qual ++ "<lambda>") ∈ M.T) (hu : ∀ p ∈ M.T, p.1 = PO → p.2 = X.env.qual ++ "<lambda>") (hS : LamX.LamS X.env.scope scope)
    (hbody : ∀ (A : Around) (outer : List Env) (s : Shared) (H : Hp) (E : XK) (f c' : Addr), TS.Room kb (A.deeper (LamX.lamEnv X scope s.heap.objs.size f c')) → Takes (LamX.lamCx X A outer s H E scope f c') (fun cls d _ H => E cls d H) → DE M (fun cls d _ H => E cls d H) (LamX.lamCx X A outer s H E scope f c') body fb)
    (hN : Ng[0]? = some a := by rfl) (hv : Vis sg a := by first | exact Or.inl rfl | exact Or.inr (Or.inl rfl) | exact Or.inr (Or.inr rfl)) (hdef : defaultsOf params X.env = ([], []) := by rfl) (hbi : ∀ (q : Str) (cl : List (Str × Addr)) (pm cv ctv : Value), bindArgs (PySem.W.kla_fn "<lambda>" q params body scope cl pm cv ctv) ⟨[], []⟩ = pure [] := by exact fun _ _ _ _ _ => rfl)
    (hdb : (x == ("__debug__" : Str)) = false := by decide) (hd : (a == ("__debug__" : Str)) = false := by decide) (hcd : (a == ("__classdict__" : Str)) = false := by decide) :
    DE M W X (.Call (.Name x p) [.Lambda params body scope lpos] [] pos) (fLam ixs mt fb) := by
  refine de_can ⟨fun pins s σ H Q I ⟨c, F, δ, ok, post⟩ => ?_⟩
  obtain ⟨H, I, F0, g0, ok0⟩ := (ok.frzS ixs).inv I
  have post := Post.shift post g0
  unfold fLam at post
  rw [hL.mt_] at post
  generalize frzS ixs δ = δ1 at post ok0
  refine wpAny_Call_Name_kw (ld_glob I hg hmx ?_ hdb)
  refine PySem.W.callWith_K (h₀ := X.base) I.ok.mod.kin hL.kp ?_ (by rfl) (by rfl)
  refine Calls.spliced_cons (LamX.lam_make2 I TB hcode hmT hu ok0.tb.tab hdef (hS.has I.ok) fun f c' pm' ctv H1 s' I1 eN T1 hf hfn hfr hco => ?_)
  refine Calls.spliced_nil ⟨I1.kIn, ?_⟩
  have s0 : Same F0 H1 := fun b o e => eN b o (ok0.same b o e) (fun ps z => ok0.tb.nt b ps (z ▸ e))
  let F1 : Hp := fun b => if b = c' then some (LamX.CodeO c' (X.env.qual ++ "<lambda>")) else F0 b
  have F1c : F1 c' = some (LamX.CodeO c' (X.env.qual ++ "<lambda>")) := if_pos rfl
  have F1n : ∀ b, b ≠ c' → F1 b = F0 b := fun b h => if_neg h
  have g01 : Same F0 F1 := fun b o e => by
    by_cases z : b = c'
    · have := s0 b o e
      rw [z, hco] at this
      rw [z, F1c, this]
    · rw [F1n b z]; exact e
  have s1 : Same F1 H1 := fun b o e => by
    by_cases z : b = c'
    · rw [z, F1c] at e; cases e; rw [z]; exact hco
    · rw [F1n b z] at e; exact s0 b o e
  have tb1 : Tb M F1 H1 := ⟨T1, fun q hq => by
    obtain ⟨ps, e1, _⟩ := T1 q hq
    have z : q.1 ≠ c' := fun z => by rw [z, hco] at e1; cases e1
    rw [F1n _ z]; exact ok0.tb.fr q hq, fun b ps e => by
    by_cases z : b = c'
    · rw [z, F1c] at e; cases e
    · rw [F1n b z] at e; exact ok0.tb.nt b ps e⟩
  have nt1 : ∀ b o, H b = some o → NT o → H1 b = some o := fun b o e n => eN b o e (fun ps z => by rw [z] at n; cases n)
  let L : Lm := ⟨fun F v => v = V.ref f ∧ Same F1 F, fun {F F' v} g h => ⟨h.1, h.2.trans g⟩, fun h => ⟨f, h.1⟩⟩
  -- what the call gives back, seen from here
  have back : ∀ {F' H' : Hp}, Stp (M.wl L) F1 H1 F' H' none → Stp M F0 H F' H' none := fun {F' H'} st => by
    refine ⟨g01.trans st.grow, fun b o e n z => ?_, fun b o e n _ => st.kept b o (nt1 b o e n) n (fun z => nomatch z), st.same, ⟨st.tb.tab, st.tb.fr, st.tb.nt⟩⟩
    have k1 := nt1 b o e n
    have hb : b ≠ c' := fun z => by rw [z, hco] at k1; cases k1; cases n
    exact st.nofz b o k1 n (by rw [F1n b hb]; exact z)
  have rc : codeAny (model X.prog X.w) X.A (.call (.ref g) ⟨[.ref f], []⟩) (CR (L2.CX X.prog X.w) X.stack X.prog X.w H1 s' Q (WE W σ)) s' := by
    obtain ⟨oc, od, dV, kV, doc, pm, an, cdv, ct, osl, rfl, lk, hcg, _, _⟩ := hL.fd_.ex
    refine LamX.run_ofS (k := k) (N := Ng) (ps := [a]) (us := [.ref f]) (vs := [.ref f]) lk hcg hL.sc (L2.Room.mono hr.lo h1) I1.env0 (hL.bi s' [.ref f] I1.kIn rfl) (.cons rfl .nil) rfl fun _ => ?_
    have hr2 : TS.Room k (X.A.deeper (PyProof.Rows.envOfC qg sg s'.heap.objs.size g cdv)) := (hr.mono h1).deeper _
    obtain ⟨t, pt, ht⟩ := hL.run L (thk fb δ1) cdv X.A X.stack s' H1 (WE W σ) hr2 (takes_of rfl rfl rfl rfl) (passes_of rfl) fun WZ pn xe p1 p2 tkZ =>
      act_de (kb := kb) hM I1 hS hf hfn hfr (hbi _ _ _ _ _) (⟨s0, ok0.grow, ok0.nofz, fun b o e i => nt1 b o (ok0.kept b o e i) (c.nt b o e), fun b e => by
        obtain ⟨u, q1, q2⟩ := ok0.ioh b e
        exact ⟨u, nt1 b u q1 q2, q2⟩, ⟨T1, ok0.tb.fr, ok0.tb.nt⟩, ok0.len, fun i r e => by
        obtain ⟨v, q1, q2⟩ := ok0.slot i r e
        refine ⟨v, q1, ?_⟩
        cases r with
        | imm d => exact q2
        | own o =>
          obtain ⟨b, rfl, k1, k2, k3⟩ := q2
          obtain ⟨u, hu, hn⟩ := obAt_nt k3
          exact ⟨b, rfl, k1, k2, obAt_mono (Same.refl _) ((nt1 b u hu hn).trans hu.symm) k3⟩
        | brw o =>
          obtain ⟨b, rfl, k1, k2, k3⟩ := q2
          obtain ⟨u, hu, hn⟩ := obAt_nt k3
          exact ⟨b, rfl, k1, k2, obAt_mono (Same.refl _) ((nt1 b u hu hn).trans hu.symm) k3⟩
        | nst _ _ => exact q2, ok0.dist⟩ : Ok c F0 H1 σ δ1) g01 F1c (fun F v => Iff.rfl) (((hr.mono h2).deeper _)) tkZ (fun A outer s H E hr3 tk3 => hbody A outer s H E f c' hr3 tk3) hN hv hd hcd
    refine ⟨t, pt, body_ok (M := M.wl L) (np := 1) (g := gg (thk fb δ1)) ?_ ?_ ht⟩
    · have := List.getElem?_eq_some_iff.mp hN
      exact this.1
    · refine ⟨F1, none, 0, [.ref f], [.lam], rfl, s1, ⟨tb1.tab, tb1.fr, tb1.nt⟩, reps_cons (by unfold rep; exact ⟨rfl, Same.refl _⟩) reps_nil, trivial, ?_⟩
      unfold outL at post
      cases q : mir Ng.length 1 (gg (thk fb δ1)) none [.lam] with
      | bad => rw [q] at post; exact post.elim
      | exc y io =>
        rw [q] at post
        dsimp only at post
        split at post
        · rename_i hn
          intro cls d F' H' st xa _
          have st2 := back st
          exact post cls d F' H' st2.grow (ok0.stp st2) (xAt_unl hn xa)
        · exact post.elim
      | ok r io =>
        rw [q] at post
        cases r with
        | brw o => exact post.elim
        | nst _ _ => exact post.elim
        | imm d =>
          dsimp only at post
          split at post
          · rename_i hn
            intro v F' H' st ra _
            have st2 := back st
            exact post v F' H' st2.grow (ok0.stp st2) (rep_unl d v hn ra)
          · exact post.elim
        | own o =>
          dsimp only at post
          split at post
          · rename_i hn
            intro v F' H' st ra _
            have st2 := back st
            obtain ⟨b, rfl, k1, k2, k3⟩ := ra
            exact post _ F' H' st2.grow (ok0.stp st2) (ok0.resR st2 ⟨b, rfl, k1, fun u hu n => k2 u (nt1 b u hu n) n, obAt_unl hn k3⟩)
          · exact post.elim
  refine wpAny_call (codeAny_mono rc fun r s2 hq => ?_)
  cases r with
  | error e => exact passAt tk σ pins H1 s' e s2 I1 hq
  | ok fl =>
    cases fl with
    | ret u => exact I1.after hq
    | next => exact False.elim hq
    | brk => exact False.elim hq
    | cont => exact False.elim hq
end
end
end TS

namespace TS
open PySem L2
noncomputable section
def SmK (K : PySem.W.Frag) : Prop := ∃ o, K.lookup sysModules = some o ∧ o.cls = .type "dict"
theorem smd_ok {K : PySem.W.Frag} (h : (Fx.smd).ok K = true) : SmK K := by
  have h : (match K.lookup sysModules with | some ⟨.type c, _, _, _⟩ => decide (c = "dict") | _ => false) = true := h
  split at h
  · rename_i c od dd sl e
    have := of_decide_eq_true h
    subst this
    exact ⟨_, e, rfl⟩
  · cases h
def kP : Key → PyData
  | .inl i => .int i
  | .inr x => .str x
mutual
def toPd : D → Option PyData
  | .non => some .none
  | .bl b => some (.bool b)
  | .int i => some (.int i)
  | .str x => some (.str x)
  | .lst ds => (toPds ds).map PyData.list
  | .tup ds => (toPds ds).map PyData.tuple
  | .ktp ns => some (.tuple (ns.map PyData.int))
  | .dK ks ds => (toPds ds).map fun ps => PyData.dict ((ks.map kP).zip ps)
  | _ => none
def toPds : List D → Option (List PyData)
  | [] => some []
  | d :: ds => (toPd d).bind fun p => (toPds ds).map fun ps => p :: ps
end
section
variable {M : Gm} {F H : Hp} {X : Cx} {pins : List (Addr × Obj)} {σ : St} {s : Shared}
theorem pairs_keys {w : World} {P : Program} : ∀ {es : List DictEntry} {vs : List (Key × Value)}, Pairs (mixKind P w) es vs → ReadsAll s.heap (es.map (·.key)) ((vs.map (·.1)).map kP) []
  | _, _, .nil => .nil
  | _, _, .cons (e := e) (kv := kv) h _ t => by
    have r := pairs_keys t
    have h1 : ∃ as, Reads s.heap e.key (kP kv.1) as ∧ as = [] := by
      rcases keyIs_shape h with ⟨i, u, h1, h2⟩ | ⟨x, u, h1, h2⟩
      · rw [h1, h2]; exact ⟨_, .int i u, rfl⟩
      · rw [h1, h2]; exact ⟨_, .str x u, rfl⟩
    obtain ⟨as, h1, rfl⟩ := h1
    exact ReadsAll.cons h1 r
theorem pairs_vals {w : World} {P : Program} : ∀ {es : List DictEntry} {vs : List (Key × Value)}, Pairs (mixKind P w) es vs → es.map (·.val) = vs.map (·.2)
  | _, _, .nil => rfl
  | _, _, .cons _ h t => by rw [List.map_cons, List.map_cons, h, pairs_vals t]
theorem kv_vals : ∀ {kvs : List (Key × V)} {vs : List (Key × Value)}, KV kvs vs → Vals (kvs.map (·.2)) (vs.map (·.2)) ∧ kvs.map (·.1) = vs.map (·.1)
  | _, _, .nil => ⟨.nil, rfl⟩
  | _, _, .cons h t => by
    obtain ⟨h1, h2⟩ := kv_vals t
    exact ⟨.cons h.2 h1, by rw [List.map_cons, List.map_cons, h.1, h2]⟩
theorem toPds_len : ∀ {ds : List D} {ps : List PyData}, toPds ds = some ps → ps.length = ds.length
  | [], ps, h => by unfold toPds at h; cases h; rfl
  | d :: ds, ps, h => by
    unfold toPds at h
    obtain ⟨p, _, h⟩ := Option.bind_eq_some_iff.mp h
    obtain ⟨ps', h1, rfl⟩ := Option.map_eq_some_iff.mp h
    simp [toPds_len h1]
theorem ints_reads : ∀ (ns : List Int) (its : List Value), Vals (ns.map V.int) its → ∃ as, ReadsAll s.heap its (ns.map PyData.int) as ∧ sysModules ∉ as
  | [], _, r => by cases r; exact ⟨_, .nil, by simp⟩
  | n :: ns, _, r => by
    rw [List.map_cons] at r
    cases r with
    | cons r1 r2 =>
      obtain ⟨t, rfl⟩ := r1
      obtain ⟨as, k1, k2⟩ := ints_reads ns _ r2
      exact ⟨_, .cons (.int n t) k1, by simpa using k2⟩
mutual
theorem rep_reads (I : Inv X pins σ H s) (hs : Same F H) (hK : X.K = M.K) (sm : SmK X.K) : ∀ (d : D) (v : V) (u : Value) (p : PyData), rep M F d v → toPd d = some p → RelV v u → ∃ as, Reads s.heap u p as ∧ sysModules ∉ as
  | .non, v, u, p, h, e, r => by
    unfold rep at h; unfold toPd at e; cases e; subst h; cases r
    exact ⟨_, .none, by simp⟩
  | .bl b, v, u, p, h, e, r => by
    unfold rep at h; unfold toPd at e; cases e; subst h; cases r
    exact ⟨_, .bool b, by simp⟩
  | .int i, v, u, p, h, e, r => by
    unfold rep at h; unfold toPd at e; cases e; subst h; obtain ⟨t, rfl⟩ := r
    exact ⟨_, .int i t, by simp⟩
  | .str x, v, u, p, h, e, r => by
    unfold rep at h; unfold toPd at e; cases e; subst h; obtain ⟨t, rfl⟩ := r
    exact ⟨_, .str x t, by simp⟩
  | .lst ds, v, u, p, h, e, r => by
    unfold rep at h; unfold toPd at e
    obtain ⟨a, vs, rfl, h2, h3⟩ := h
    obtain ⟨ps, e1, rfl⟩ := Option.map_eq_some_iff.mp e
    cases r
    obtain ⟨its, rv, ⟨o, n, ho, hc, _, hd⟩, _⟩ := I.list (SqL.of (K := X.K) (hs _ _ h2))
    obtain ⟨as, k1, k2⟩ := reps_reads I hs hK sm ds vs its ps h3 e1 rv
    refine ⟨_, Reads.list ho hc hd k1, fun z => ?_⟩
    rcases List.mem_cons.mp z with z | z
    · obtain ⟨o2, q1, q2⟩ := sm
      have := I.kIn _ _ q1
      rw [z, ho] at this
      have e3 := Option.some.inj this
      rw [← e3, hc] at q2
      injection q2 with q3
      exact absurd q3 (by decide)
    · exact k2 z
  | .tup ds, v, u, p, h, e, r => by
    unfold rep at h; unfold toPd at e
    obtain ⟨a, vs, rfl, h2, h3⟩ := h
    obtain ⟨ps, e1, rfl⟩ := Option.map_eq_some_iff.mp e
    cases r
    obtain ⟨its, rv, ⟨o, ho, hc, n, hd⟩, _⟩ := I.tuple (SqT.of (K := X.K) (hs _ _ h2))
    obtain ⟨as, k1, k2⟩ := reps_reads I hs hK sm ds vs its ps h3 e1 rv
    exact ⟨_, Reads.tuple ho hc hd k1, k2⟩
  | .dK ks ds, v, u, p, h, e, r => by
    unfold rep at h; unfold toPd at e
    obtain ⟨a, od, kvs, rfl, h2, h3, h4⟩ := h
    obtain ⟨ps, e1, rfl⟩ := Option.map_eq_some_iff.mp e
    cases r
    obtain ⟨_, hsm, vs, kv, o, es, ep, ho, hx, hd, _, hp, _⟩ := dk_rd I.hok (.inr ⟨od, hs _ _ h2⟩)
    obtain ⟨rv, ek⟩ := kv_vals kv
    rw [← pairs_vals hp] at rv
    obtain ⟨as, k1, k2⟩ := reps_reads I hs hK sm ds _ _ ps h4 e1 rv
    have kk := pairs_keys (s := s) hp
    rw [← ek, h3] at kk
    have hl : ps.length = ks.length := by
      rw [toPds_len e1, ← reps_length h4, ← h3]; simp
    refine ⟨_, Reads.dict ho hx.1 hd (kvs := (ks.map kP).zip ps) (as := []) (bs := as) ?_ ?_, ?_⟩
    · rw [List.map_fst_zip (by simp [hl])]; exact kk
    · rw [List.map_snd_zip (by simp [hl])]; exact k1
    · intro z
      simp only [List.append_nil, List.cons_append, List.nil_append, List.mem_cons] at z
      rcases z with z | z
      · rw [← z] at hsm; simp at hsm
      · exact k2 z
  | .scr ds, v, u, p, h, e, r => by unfold toPd at e; cases e
  | .dT _ ds, v, u, p, h, e, r => by unfold toPd at e; cases e
  | .obj _ ds, v, u, p, h, e, r => by unfold toPd at e; cases e
  | .cls _, v, u, p, h, e, r => by unfold toPd at e; cases e
  | .lam, v, u, p, h, e, r => by unfold toPd at e; cases e
  | .ex _ _, v, u, p, h, e, r => by unfold toPd at e; cases e
  | .ktp ns, v, u, p, h, e, r => by
    unfold rep at h; unfold toPd at e; cases e
    obtain ⟨a, rfl, h2⟩ := h
    cases r
    obtain ⟨its, rv, ⟨o, ho, hc, n, hd⟩, _⟩ := I.tuple (a := a) (xs := ns.map V.int) (by rw [hK]; exact itup_sq hs h2)
    obtain ⟨as, k1, k2⟩ := ints_reads (s := s) ns its rv
    exact ⟨_, Reads.tuple ho hc hd k1, k2⟩
theorem reps_reads (I : Inv X pins σ H s) (hs : Same F H) (hK : X.K = M.K) (sm : SmK X.K) : ∀ (ds : List D) (vs : List V) (us : List Value) (ps : List PyData), reps M F ds vs → toPds ds = some ps → Vals vs us → ∃ as, ReadsAll s.heap us ps as ∧ sysModules ∉ as
  | [], vs, us, ps, h, e, r => by
    unfold reps at h; unfold toPds at e; cases e; subst h; cases r
    exact ⟨_, .nil, by simp⟩
  | d :: ds, vs, us, ps, h, e, r => by
    unfold reps at h; unfold toPds at e
    obtain ⟨v, vs', rfl, h1, h2⟩ := h
    obtain ⟨p, e1, e⟩ := Option.bind_eq_some_iff.mp e
    obtain ⟨ps', e2, rfl⟩ := Option.map_eq_some_iff.mp e
    cases r with
    | cons r1 r2 =>
      obtain ⟨as, k1, k2⟩ := rep_reads I hs hK sm d v _ p h1 e1 r1
      obtain ⟨bs, k3, k4⟩ := reps_reads I hs hK sm ds vs' _ ps' h2 e2 r2
      exact ⟨_, .cons k1 k3, by simp [k2, k4]⟩
end
end
def shOkD (p : PyData) : Bool := gd (p.showable = true ∧ p.depth ≤ 32 ∧ p.shown.length ≤ sizeLine)
def gReprD (d : D) : Option Str := match toPd d with
  | some p => if shOkD p then some p.shown else none
  | none => none
def fReprD (fa : FD) : FD := fun δ => (fa δ).bind fun d δ1 => match gReprD d with
  | some x => .ok (.str x) δ1
  | none => .bad
section
variable {X : Cx} {M : Gm} {W : WX} {e : Expr} {fa : FD} {p pos : Pos}
theorem call_reprX {k : Nat} (hr : Room k X.A) {F H : Hp} {d : D} {q : PyData} {x : V} (hs : Same F H) (hK : X.K = M.K) (sm : SmK X.K) (rx : rep M F d x) (hd : toPd d = some q) (ho : shOkD q = true) {pins : List (Addr × Obj)} {s : Shared} {σ : St} {u : Value} {Q : VK} (I : Inv X pins σ H s) (ru : RelV x u) (h : Q (.str q.shown) H) :
    wpAny (model X.prog X.w) X.A (call (.builtin "repr") [u]) (EP X pins σ Q) X.xe s := by
  obtain ⟨h1, h3, h4⟩ := of_gd ho
  obtain ⟨as, rd, na⟩ := rep_reads I hs hK sm d x u q rx hd ru
  have hu := hr.units
  have fin : ∀ (h' : Heap) (t : Tok) (tk : Nat), (∀ b o, s.heap.get? b = some o → h'.get? b = some o) → EP X pins σ Q (.str q.shown t) { s with heap := h', toks := tk } := fun h' t tk kp => ⟨.str _, H, I.kept kp, ⟨_, rfl⟩, h⟩
  cases rd with
  | none => exact PySem.P.repr_of_none ⟨.str _, H, I.tok _, ⟨_, rfl⟩, h⟩
  | bool b => exact PySem.P.repr_of_bool ⟨.str _, H, I.tok _, ⟨_, rfl⟩, h⟩
  | int i t => exact PySem.P.repr_of_int (of_decide_eq_true h1) ⟨.str _, H, I.tok _, ⟨_, rfl⟩, h⟩
  | str y t => exact PySem.P.repr_of_str ⟨.str _, H, I.tok _, ⟨_, rfl⟩, h⟩ h4
  | list a1 a2 a3 a4 => exact repr_of_reads' (.list a1 a2 a3 a4) h1 (fun _ => na) hr.gu (by omega) (fun _ _ e => e) (fun h' u tk kp => fin h' u tk kp) h4
  | tuple a1 a2 a3 a4 => exact repr_of_reads' (.tuple a1 a2 a3 a4) h1 (fun _ => na) hr.gu (by omega) (fun _ _ e => e) (fun h' u tk kp => fin h' u tk kp) h4
  | dict a1 a2 a3 a4 a5 => exact repr_of_reads' (.dict a1 a2 a3 a4 a5) h1 (fun _ => na) hr.gu (by omega) (fun _ _ e => e) (fun h' u tk kp => fin h' u tk kp) h4
theorem b_reprX {k : Nat} (sm : SmK X.K) (hr : Room k X.A) (hg : Gl X "repr") (hm : X.mg "repr" = none) (ha : DI M W X e fa) (hK : X.K = M.K := by rfl) (he : starEach (e :: []) X.env = (false, eval e X.env) :: starEach [] X.env := by rfl) (hpl : (backTo pos (starEach [] X.env)).any (·.1) = false := by rfl) : DI M W X (.Call (.Name "repr" p) [e] [] pos) (fReprD fa) := by
  obtain ⟨t, pt, ha⟩ := ha
  let r : List V → Hp → VK → Prop := fun xs H Q => ∃ (F : Hp) (d : D) (x : V) (q : PyData), xs = [x] ∧ Same F H ∧ rep M F d x ∧ toPd d = some q ∧ shOkD q = true ∧ Q (.str q.shown) H
  have cr : CallR X (.builtin "repr") r := by
    rintro pins s σ H xs us Q I rv ⟨F, d, x, q, rfl, hs, rx, hd, ho, h⟩
    obtain ⟨u, rfl, ru⟩ := vals1 rv
    exact call_reprX hr hs hK sm rx hd ho I ru h
  refine ⟨_, pe_callB cr hg hm bt_repr (pa_cons pt pa_nil he) (by decide) (by decide) he hpl, fun c F H σ δ Q ok post => ?_⟩
  refine ha c F H σ δ _ ok (Post.bind post fun d δ1 v F1 H1 _ s1 ok1 rr post => ?_)
  unfold gReprD at post
  split at post
  · rename_i x q
    split at q
    · rename_i p' hp'
      split at q
      · rename_i hsh
        cases q
        exact ⟨F1, d, v, p', rfl, ok1.same, rr, hp', hsh, post.ok ok1 (rep_str' _)⟩
      · cases q
    · cases q
  · exact post.elim
end
end
end TS

namespace TS
open PySem L2 PySem.W
noncomputable section
section
variable {X : Cx} {W : WX} {M : Gm} {pins : List (Addr × Obj)} {σ : L2.St} {H : Hp} {s : Shared}
end
section
variable {X : Cx} {W : WX} {M : Gm} {pins : List (Addr × Obj)} {σ : L2.St} {H : Hp} {s : Shared} {k : Nat} {C p g : Addr} {mc : Value} {sp : Sp} {o : Expr} {m : Str} {pos apos : Pos} {ta : TE} {tkw : TA} {kws : List Keyword} {ks : List Str}
def fCMethK (n : Nat) (f : Fm) (l : Nat) (fk : FA) : FE := fun δ => (fk δ).bind fun ds δ1 => if ds.length = l then outE (f none (.cls n :: ds)) δ1 else .bad
end
end
end TS

namespace TS
open PySem L2 PySem.W
noncomputable section
section
variable {M : Gm} {c : Cn M} {W : WX} {X : Cx} {q : Cau} {o e : Expr} {es : List Expr} {apos cpos pos : Pos} {fa : FA} {i : Nat}
end
section
open GQ PySem.SeqAt AutoSeq1 MeetsSeq MeetsSeq2 MeetsSeq3 SeqRoads2
variable {prog : Program} {w : World} {A : Around} {R : Result → Shared → Prop}
end
section
variable {M : Gm} {X : Cx} {pins : List (Addr × Obj)} {σ : L2.St} {H : Hp} {s : Shared}
end
end
end TS

namespace TS
open PySem L2 PySem.W
noncomputable section
section
variable {X : Cx} {M : Gm} {W : WX} {e : Expr} {fe : FD} {p pos : Pos}
end
section
variable {X : Cx} {M : Gm} {W : WX} {e v1 v2 o : Expr} {es rest : List Expr} {fe fo : FD} {p pos apos : Pos} {g : Str → Sl → Res Str}
end
end
end TS

namespace TS
open PySem L2 PySem.W
noncomputable section
section
variable {X : Cx} {M : Gm} {W : WX} {o e : Expr} {es : List Expr} {kws : List Keyword} {apos cpos pos p : Pos} {fa fk : FA} {i : Nat}
end
end
end TS

namespace TS
open PySem L2
noncomputable section
section
variable {P : Program} {w : World} {K : PySem.W.Frag} {mg : Str → Option Value} {base : Heap} {CX : CXT} {k n : Nat} {ks ps : List Str} {f : Addr} {sp : Sp}
theorem FnK.imp {sp' : Sp} (F : FnK P w K mg base CX k f n ks sp) (h : ∀ vs H Q E, sp' vs H Q E → sp vs H Q E) : FnK P w K mg base CX k f n ks sp' := fun A outer s H us ws vs zs Q E hr e0 l1 l2 r rz hs => F A outer s H us ws vs zs Q E hr e0 l1 l2 r rz (h _ _ _ _ hs)
end
section
variable {M : Gm} {P : Program} {w : World} {mg : Str → Option Value} {base : Heap} {k n : Nat} {ks : List Str} {f : Addr}
end
end
end TS

namespace HT
open PySem PySem.Spec PyProof.Rows
section
variable {prog : Program} {w : World} {A : Around} {E : Value → Shared → Prop} {s : Shared}
end
end HT

namespace TS
open PySem L2 PySem.Spec PyProof.Rows
noncomputable section
section
variable {X : Cx} {M : Gm} {W : WX} {e st : Expr} {te : TE} {ts : TO} {p2 pos : Pos} {fe fs : FD}
end
end
end TS

namespace TS
open PySem L2
noncomputable section
section
variable {M : Gm} {W : WX} {X : Cx} {i0 ir : Nat}
end
section
variable {M : Gm} {W : WX} {X : Cx} {e : Expr} {fe : FD} {p pos : Pos}
variable {q : Cau}
end
end
end TS

namespace TS
open PySem L2
noncomputable section
structure LkF (M : Gm) (i : Nat) (ds : List D) (c : Cn M) (F H : Hp) (σ : L2.St) : Prop where
  ex : ∃ a vs, σ[i]? = some (some (.ref a)) ∧ F a = none ∧ c.H0 a ≠ none ∧ c.io ≠ some a ∧ H a = some (.lst vs) ∧ reps M F ds vs
section
variable {M : Gm} {W : WX} {X : Cx} {e e0 : Expr} {es : List Expr} {fa : FA} {f : Fm} {i : Nat} {ds : List D} {pos pos' : Pos}
theorem LkF.go {c : Cn M} {F H F1 H1 : Hp} {σ σ1 : L2.St} {δ δ1 : Sl} (h : LkF M i ds c F H σ) (ok : Ok c F H σ δ) (s : Same F F1) (ok1 : Ok c F1 H1 σ1 δ1) : ∃ a vs, σ[i]? = some (some (.ref a)) ∧ F1 a = none ∧ H1 a = some (.lst vs) ∧ reps M F1 ds vs := by
  obtain ⟨a, vs, h1, h2, h3, h4, h5, h6⟩ := h.ex
  have f0 : c.F0 a = none := by
    cases e : c.F0 a with
    | none => rfl
    | some o => rw [ok.grow a o e] at h2; cases h2
  cases e : c.H0 a with
  | none => exact absurd e h3
  | some o =>
    have k1 := ok.kept a o e h4
    have k2 := ok1.kept a o e h4
    rw [h5] at k1
    cases k1
    exact ⟨a, vs, h1, ok1.nofz a h3 f0, k2, reps_mono s _ _ h6⟩
end
section
variable {M : Gm} {P : Program} {w : World} {mg : Str → Option Value} {base : Heap}
end
section
variable {M : Gm} {W : WX} {X : Cx} {e e0 : Expr} {i n : Nat} {g : List D → Option (List D)}
end
end
end TS

namespace TS
open PySem L2
noncomputable section
section
variable {X : Cx} {M : Gm} {W : WX} {o : Expr} {apos cpos : Pos} {fe : FE} {i : Nat}
end
end
end TS

namespace TS
open PySem L2
noncomputable section
section
variable {X : Cx} {M : Gm} {W : WX} {a b : Expr} {fa fb : FD} {pos : Pos}
end
end
end TS

namespace TS
open PySem L2
noncomputable section
section
variable {X : Cx} {M : Gm} {W : WX} {a b : Expr} {fa fb : FD} {pos : Pos}
end
end
end TS

namespace TS
open PySem L2
noncomputable section
section
open PySem.Spec PyProof.Rows
variable {P : Program} {w : World} {K : PySem.W.Frag} {tg : Expr} {d : Addr} {o : Obj} {es : Array DictEntry} {ep : Nat}
variable {X : Cx} {e : Expr} {td : TE} {apos cpos : Pos}
end
def keyD : Key → D
  | .inl i => .int i
  | .inr x => .str x
def keysD (ks : List Key) : D := .tup (ks.map keyD)
section
variable {M : Gm} {c : Cn M} {W : WX} {X : Cx} {tg e : Expr} {F F1 H H1 : Hp} {σ : L2.St} {δ : Sl}
theorem rep_key (k : Key) : rep M F (keyD k) (kV k) := by cases k <;> (unfold keyD rep; rfl)
theorem reps_keys : ∀ ks : List Key, reps M F (ks.map keyD) (ks.map kV)
  | [] => reps_nil
  | k :: ks => reps_cons (rep_key k) (reps_keys ks)
theorem Yl.key {k : List Key} {q : Addr} (s : Same F H) (hq : H q = some (.tup (k.map kV))) : Yl M F H (.ref q) H (keysD k) := by
  refine ⟨fun b => if b = q then some (.tup (k.map kV)) else none, fun b o e => ?_, Same.refl _, ?_⟩
  · dsimp only at e
    by_cases z : b = q
    · subst z; rw [if_pos rfl] at e; cases e; exact ⟨⟨_, rfl⟩, hq⟩
    · rw [if_neg z] at e; cases e
  · unfold keysD rep
    refine ⟨q, _, rfl, ?_, reps_keys k⟩
    unfold ovH
    cases z : F q with
    | none => simp
    | some o => have := s _ _ z; rw [hq] at this; cases this; rfl
end
end
end TS

namespace TS
open PySem L2
noncomputable section
section
variable {M : Gm} {c : Cn M} {W : WX} {X : Cx} {e : Expr} {F H : Hp} {σ : L2.St} {δ : Sl} {fa : FA} {p pos : Pos}
end
end
end TS

namespace TS
open PySem L2
noncomputable section
section
variable {M : Gm} {c : Cn M} {W : WX} {X : Cx}
end
end
end TS

namespace TS
open PySem L2
noncomputable section
section
variable {M : Gm} {c : Cn M} {W : WX} {X : Cx}
end
end
end TS

namespace TS
open PySem L2 PySem.Spec PyProof.Rows
noncomputable section
section
variable {prog : Program} {w : World} {A : Around} {E : Value → Shared → Prop} {s : Shared} {env : Env}
end
section
variable {X : Cx} {W : WX} {M : Gm}
end
end
end TS

namespace L2
open PySem PySem.Spec PyProof.Rows
section
variable {X : Cx}
end
end L2
namespace TS
open PySem L2
noncomputable section
section
variable {M : Gm} {W : WX} {X : Cx} {tg : Expr} {F F1 H H1 : Hp} {σ : St} {δ : Sl}
end
end
end TS

namespace TS
open PySem L2 PySem.Spec PyProof.Rows
noncomputable section
section
variable {prog : Program} {w : World} {o : Obj} {es : Array DictEntry} {ep : Nat}
end
section
variable {X : Cx} {e : Expr} {te : TE} {apos cpos : Pos}
end
section
variable {M : Gm} {W : WX} {X : Cx} {e a c1 : Expr} {fe : FD} {p p2 apos cpos pos : Pos} {tab : Tg → Option Bool}
section
variable {k : Nat} {x : Str} {ad : Addr} {ns : List Int} (hr : Room k X.A) (hg : Gl X x) (hm : X.mg x = some (.ref ad)) (hk : KTup M.K ad ns) (ha : DI M W X a fe) (hK : X.K = M.K := by rfl) (hdb : (x == ("__debug__" : Str)) = false := by decide)
include hr hg hm hk ha hK hdb
end
end
end
end TS

namespace TS
open PySem L2 PySem.Spec PyProof.Rows
noncomputable section
section
variable {prog : Program} {w : World} {K : Type} [DecidableEq K] {knd : HeapKind prog w K} {A : Around} {E : Value → Shared → Prop} {s : Shared}
inductive HitsH {K : Type} [DecidableEq K] (A : Around) (s : Shared) (kb : List (K × Addr × Value)) : List (K × Addr × Value) → Bool → Prop
  | nil : HitsH A s kb [] true
  | miss {x : K × Addr × Value} {r : List (K × Addr × Value)} : atKey kb x.1 = none → HitsH A s kb (x :: r) false
  | hit {x : K × Addr × Value} {y : Addr × Value} {r : List (K × Addr × Value)} {e b : Bool} : atKey kb x.1 = some y → SeqAt.EqAt A s x.2.2 y.2 e → HitsH A s kb r b → HitsH A s kb (x :: r) (e && b)
theorem HitsH.inv {kb : List (K × Addr × Value)} {x : K × Addr × Value} {r : List (K × Addr × Value)} {b : Bool} (h : HitsH A s kb (x :: r) b) :
    (atKey kb x.1 = none ∧ b = false) ∨ ∃ y e b', atKey kb x.1 = some y ∧ SeqAt.EqAt A s x.2.2 y.2 e ∧ HitsH A s kb r b' ∧ b = (e && b') := by
  cases h with
  | miss hn => exact .inl ⟨hn, rfl⟩
  | hit hy he hr => exact .inr ⟨_, _, _, hy, he, hr, rfl⟩
end
section
variable {X : Cx} {pins : List (Addr × Obj)} {σ : L2.St} {H : Hp} {s : Shared}
end
section
variable {M : Gm} {F H : Hp}
end
section
variable {M : Gm} {W : WX} {X : Cx} {a b : Expr} {pos : Pos} {fa fb : FD} {k : Nat}
end
end
end TS

namespace TS
open PySem L2
noncomputable section
section
variable {M : Gm} {c : Cn M} {W : WX} {X : Cx} {F H : Hp} {σ : L2.St} {δ : Sl}
end
end
end TS

namespace TS
open PySem L2
noncomputable section
section
variable {M : Gm} {c : Cn M} {W : WX} {X : Cx} {F H : Hp} {σ : L2.St} {δ : Sl}
end
end
end TS

namespace L2
open PySem PySem.Spec PyProof.Rows
section
variable {X : Cx}
end
end L2
namespace TS
open PySem L2
noncomputable section
section
variable {M : Gm} {W : WX} {X : Cx} {tg : Expr}
end
end
end TS

namespace TS
open PySem L2
noncomputable section
section
variable {X : Cx} {c : Code} {st : Stmt} {rest ss : List Stmt} {t u : L2.TS}
end
section
variable {X : Cx} {W : WX}
end
section
variable {M : Gm} {W : WX} {X : Cx} {c : Code} {st : Stmt} {ss rest : List Stmt} {f g : FS}
end
structure FunX (K : PySem.W.Frag) (x qual : Str) (params : Arguments) (body : List Stmt) (scope : Scope) (f cc c : Addr) (fd : FuncData) : Prop where
  ex : ∃ (oc : Value) (od : Option Addr) (kV doc pm : Value) (an : Option Addr) (ct : Value) (osl : Array (Option Value)),
    fd = PySem.W.fnX x qual params body scope [("__class__", cc)] .none kV doc pm an (.ref c) ct ∧ K.lookup f = some ⟨oc, od, .func fd, osl⟩ ∧ PySem.W.codeIn K (.ref c) qual = true
  kp : PySem.W.keepIn K (.ref f) = true
section
variable {M : Gm} {P : Program} {w : World} {mg : Str → Option Value} {base : Heap}
theorem FunX.bindsN {K : PySem.W.Frag} {x qual : Str} {params : Arguments} {body : List Stmt} {scope : Scope} {f cc c : Addr} {fd : FuncData} {ps : List Str} (F : FunX K x qual params body scope f cc c fd)
    (h : ∀ (kV doc pm : Value) (an : Option Addr) (ct : Value) (us : List Value), us.length = ps.length → bindArgs (PySem.W.fnX x qual params body scope [("__class__", cc)] .none kV doc pm an (.ref c) ct) ⟨us, []⟩ = pure (ps.zip us)) : Binds K fd ps [] := by
  obtain ⟨oc, od, kV, doc, pm, an, ct, osl, rfl, _⟩ := F.ex
  intro s us kin hl
  rw [List.append_nil] at hl ⊢
  exact BindsTo.of_eq (h kV doc pm an ct us hl)
end
section
variable {X : Cx} {W : WX} {M : Gm} {K : PySem.W.Frag}
end
end
end TS

namespace TS
open PySem L2
noncomputable section
section
variable {M : Gm} {W : WX} {X : Cx} {e : Expr} {es : List Expr} {p pos : Pos} {x : Str} {k : Nat} {f : Addr} {sp : Sp}
end
end
end TS

namespace TS
open PySem L2
noncomputable section
section
variable {M : Gm} {c : Cn M} {W : WX} {X : Cx} {e : Expr} {F H : Hp} {σ : L2.St} {δ : Sl} {fa : FA} {p pos : Pos}
end
end
end TS

namespace PySem.SeqAt
open AutoSeq1 (wpAny_loadPart')
open MeetsSeq MeetsSeq2 MeetsSeq3 SeqRoads2
section
variable {prog : Program} {w : World} {A : Around} {s : Shared}
end
end PySem.SeqAt
namespace TS
open PySem L2 PySem.Spec PyProof.Rows PySem.SeqAt
noncomputable section
section
variable {X : Cx} {pins : List (Addr × Obj)} {σ : L2.St} {H : Hp} {s : Shared}
end
section
variable {M : Gm} {F H : Hp}
end
section
variable {M : Gm} {W : WX} {X : Cx} {a b : Expr} {pos : Pos} {fa fb : FD} {k : Nat}
end
end
end TS

namespace TS
open PySem L2
end TS

namespace TS
open PySem L2 PySem.W
noncomputable section
def DgK (K : PySem.W.Frag) : Prop := nsOkIn K cStatics = true ∧ nsIn K cStatics "sys.int_max_str_digits" = some none
theorem DgK.no {K : PySem.W.Frag} {h : Heap} (d : DgK K) (X : K.In h) : h.NoDigits :=
  ⟨_, .of_isNs (isNs_of_in X d.1), ns_none_of X (.of_isNs (isNs_of_in X d.1)) d.2⟩
section
variable {prog : Program} {w : World} {A : Around} {E : Value → Shared → Prop} {s : Shared}
end
section
variable {X : Cx} {M : Gm} {W : WX} {e : Expr} {fa : FD} {p pos : Pos}
end
end
end TS

namespace TS
open PySem L2
noncomputable section
structure RoomG (g : List Code) (k : Nat) (A : Around) : Prop where
  lo : L2.Room k A
  gu : A.guards = some g
theorem RoomG.deeper {g : List Code} {k : Nat} {A : Around} (r : RoomG g (k + 1) A) (env : Env) : RoomG g k (A.deeper env) := ⟨L2.Room.deeper r.lo env, r.gu⟩
theorem RoomG.mono {g : List Code} {j k : Nat} {A : Around} (r : RoomG g k A) (h : j ≤ k) : RoomG g j A := ⟨L2.Room.mono r.lo h, r.gu⟩
def FnRG (P : Program) (w : World) (K : PySem.W.Frag) (mg : Str → Option Value) (base : Heap) (CX : CXT) (k : Nat) (f : Addr) (sp : List Code → Sp) : Prop :=
  ∀ (g : List Code) (A : Around) (outer : List Env) (s : Shared) (H : Hp) (us : List Value) (vs : List V) (Q : VK) (E : XK), RoomG g k A → Env0 P w K mg base A outer s H → Vals vs us → sp g vs H Q E → codeAny (model P w) A (.call (.ref f) ⟨us, []⟩) (CR CX outer P w H s Q E) s
theorem FnRG.mono {P : Program} {w : World} {K : PySem.W.Frag} {mg : Str → Option Value} {base : Heap} {CX : CXT} {j k : Nat} {f : Addr} {sp : List Code → Sp} (F : FnRG P w K mg base CX j f sp) (h : j ≤ k) : FnRG P w K mg base CX k f sp := fun g A outer s H us vs Q E hr e0 => F g A outer s H us vs Q E (hr.mono h) e0
section
variable {P : Program} {w : World} {K : PySem.W.Frag} {mg : Str → Option Value} {base : Heap} {CX : CXT} {j k : Nat} {f : Addr} {fd : FuncData} {ps : List Str} {sp : List Code → Sp}
end
def GOK (g : List Code) (F : Hp) : Prop := ∀ c ∈ g, ∃ id a rest kw vs b C dx fs, c = .builtin id ⟨.ref a :: rest, kw⟩ ∧ F a = some (.lst vs) ∧ V.ref b ∈ vs ∧ F b = some (.ins C dx fs)
theorem GOK.mono {g : List Code} {F F' : Hp} (h : GOK g F) (e : Same F F') : GOK g F' := fun c hc => by
  obtain ⟨id, a, rest, kw, vs, b, C, dx, fs, e1, e2, e3, e4⟩ := h c hc
  exact ⟨id, a, rest, kw, vs, b, C, dx, fs, e1, e _ _ e2, e3, e _ _ e4⟩
section
variable {X : Cx} {pins : List (Addr × Obj)} {σ : St} {F H : Hp} {s : Shared}
end
def spDP (PF : Hp → Prop) (M : Gm) (f : Fm) : Sp := fun vs H Q E => ∃ (F : Hp) (_ : PF F) (io : Option OB) (a : Addr) (ws : List V) (ds : List D),
  vs = ioV io a ++ ws ∧ Same F H ∧ Tb M F H ∧ reps M F ds ws ∧ ioAt M F H io a ∧
  match f io ds with
  | .ok r io' => ∀ v F' H', Stp M F H F' H' (io.map fun _ => a) → resAt M H F' H' r v → ioAt M F' H' io' a → Q v H'
  | .exc x io' => ∀ cls d F' H', Stp M F H F' H' (io.map fun _ => a) → xAt M F' x cls d H' → ioAt M F' H' io' a → E cls d H'
  | .bad => False
section
variable {M : Gm}
theorem spDP.un {PF : Hp → Prop} {f : Fm} {vs : List V} {H : Hp} {Q : VK} {E : XK} (h : spDP PF M f vs H Q E) : spD M f vs H Q E := by
  obtain ⟨F, _, h⟩ := h
  exact ⟨F, h⟩
end
section
variable {X : Cx} {M : Gm} {W : WX} {g : List Code} {e v1 v2 : Expr} {es rest : List Expr} {fe : FD} {pos : Pos} {j : Str → Sl → Res Str}
end
section
variable {M : Model} {A : Around} {E : Value → Shared → Prop} {s : Shared} {K : PySem.W.Frag} {x C f : Addr} {ox : Obj} {od : Option Obj} {name : Str}
end
section
open Builtin Builtin.List
variable {X : Cx} {M : Gm} {A : Around} {R : Result → Shared → Prop} {pins : List (Addr × Obj)} {σ : St} {F H : Hp}
end
def itD (d : D) : Option Str := match toP d with
  | some p => if shOk p then some p.shown else none
  | none => none
section
variable {X : Cx} {M : Gm} {pins : List (Addr × Obj)} {σ : St} {F H : Hp} {s : Shared}
end
end
end TS

namespace TS
open PySem PySem.Spec PyProof.Rows L2
noncomputable section
section
variable {prog : Program} {w : World} {A : Around} {E : Value → Shared → Prop}
end
section
variable {X : Cx}
abbrev PT (K : PySem.W.Frag) (H : Hp) (p : Addr) (x : List Key × Addr × V) : Prop := SqT K H p [.ref x.2.1, x.2.2] ∧ H x.2.1 = some (.tup (x.1.map kV))
end
section
variable {M : Gm} {c : Cn M} {W : WX} {X : Cx} {e : Expr} {F H : Hp} {σ : L2.St} {δ : Sl} {fa : FA} {p pos : Pos}
end
abbrev BodyOk (M : Gm) (P : Program) (w : World) (K : PySem.W.Frag) (mg : Str → Option Value) (base : Heap) (lv : Nat) (q : Str) (st : Stmt) (ad : Addr) (ns : List Str) (g : FS) : Prop :=
  ∀ (cdv : Value) (A : Around) (outer : List Env) (s : Shared) (H : Hp) (E : XK), TS.Room lv (A.deeper (PyProof.Rows.envOfC q (defScope st) s.heap.objs.size ad cdv)) → Takes (cxOf (L2.CX P w) P w K mg base ns q (defScope st) ad cdv A outer s H E) (fun cls d _ H => E cls d H) →
    PassesOwn (model P w) (A.deeper (PyProof.Rows.envOfC q (defScope st) s.heap.objs.size ad cdv)) (PyProof.Rows.envOfC q (defScope st) s.heap.objs.size ad cdv) (cxOf (L2.CX P w) P w K mg base ns q (defScope st) ad cdv A outer s H E).xe →
    DSs M (fun cls d _ H => E cls d H) (cxOf (L2.CX P w) P w K mg base ns q (defScope st) ad cdv A outer s H E) (defBody st) g
abbrev DefOk (M : Gm) (P : Program) (w : World) (K : PySem.W.Frag) (mg : Str → Option Value) (base : Heap) (n : Nat) (nm q : Str) (st : Stmt) (dv : List V) (ad : Addr) (ps : List Str) (m : Fm) : Prop :=
  ∃ fd, FunD K nm q (defArgs st) (defBody st) (defScope st) dv [] ad fd ∧ TS.FnOk P w K mg base (L2.CX P w) n ad fd ps (spD M m)
end
end TS

namespace TS
open PySem L2 PySem.Spec PyProof.Rows PySem.SeqAt
noncomputable section
section
variable {prog : Program} {w : World} {A : Around} {s : Shared}
end
section
variable {X : Cx}
end
section
variable {M : Gm} {W : WX} {X : Cx} {a b : Expr} {pos : Pos} {fa fb : FD} {k i : Nat}
end
end
end TS

namespace TS
open PySem L2
noncomputable section
def pD : D ⊕ OB → D
  | .inl d => d
  | .inr o => o.toD
def pL : D ⊕ OB → Bool
  | .inl _ => true
  | .inr o => !o.dic
def nstD (tp : Bool) (ps : List (D ⊕ OB)) : D := if tp then .tup (ps.map pD) else .lst (ps.map pD)
def seeR : R → Option R
  | .imm d => some (.imm d)
  | .own o => if o.dic then none else some (.imm o.toD)
  | .brw o => if o.dic then none else some (.imm o.toD)
  | .nst tp ps => if ps.all pL then some (.imm (nstD tp ps)) else none
def seeS (δ : Sl) : Sl := δ.map fun x => x.bind seeR
def flatO : OB → Bool
  | .l ds => ds.all flatD
  | _ => false
def flatQ : R → Bool
  | .imm d => flatD d
  | .own o => flatO o
  | _ => false
def fSee (f : FE) : FE := fun δ => match f (seeS δ) with
  | .ok r _ => if flatQ r then .ok r δ else .bad
  | _ => .bad
def tSee (f : FT) : FT := fun δ => match f (seeS δ) with
  | .ok b _ => .ok b δ
  | _ => .bad
section
variable {M : Gm} {c : Cn M} {W : WX} {X : Cx} {F H F' H' : Hp} {σ : L2.St} {δ : Sl}
def ndOf : List R → List (D ⊕ OB)
  | .imm d :: rs => .inl d :: ndOf rs
  | .own o :: rs => .inr o :: ndOf rs
  | _ :: rs => .inl .non :: ndOf rs
  | [] => []
def fNst (f : FX) : FE := fun δ => (f δ).bind fun rs δ1 => if (ndOf rs).length ≤ 16777216 then .ok (.nst false (ndOf rs)) δ1 else .bad
def fNstT (f : FX) : FE := fun δ => (f δ).bind fun rs δ1 => if (ndOf rs).length ≤ 16777216 then .ok (.nst true (ndOf rs)) δ1 else .bad
structure CLe (c c' : Cn M) : Prop where
  F0 : c'.F0 = c.F0
  io : c'.io = c.io
  H0 : ∀ b o, c.H0 b = some o → c'.H0 b = some o
theorem CLe.refl (c : Cn M) : CLe c c := ⟨rfl, rfl, fun _ _ e => e⟩
theorem CLe.none {c c' : Cn M} (l : CLe c c') {b : Addr} (h : c'.H0 b = none) : c.H0 b = none := by
  cases e : c.H0 b with
  | none => rfl
  | some o => rw [l.H0 b o e] at h; cases h
def kill1 : Option R → Option R
  | some (.nst _ _) => none
  | x => x
def killN (δ : Sl) : Sl := δ.map kill1
def SR.kill : SR → SR
  | .nx δ => .nx (killN δ)
  | .rt r δ => .rt r (killN δ)
  | .bk δ => .bk (killN δ)
  | .ct δ => .ct (killN δ)
  | .exc x δ => .exc x (killN δ)
  | .bad => .bad
def frzN (f : FE) : FD := fun δ => (f δ).bind fun r δ1 => match r with
  | .nst tp ps => if ps.all pL then .ok (nstD tp ps) δ1 else .bad
  | .imm d => .ok d δ1
  | .own o => .ok o.toD δ1
  | .brw _ => .bad
theorem freezeN (ok : Ok c F H σ δ) {tp : Bool} {ps : List (D ⊕ OB)} {v : V} (hp : ps.all pL = true) (r : repR c F H σ δ (.nst tp ps) v) : ∃ F', Same F F' ∧ Ok c F' H σ δ ∧ rep M F' (nstD tp ps) v := by
  obtain ⟨a, vs, rfl, n, hn⟩ := r
  let F' : Hp := fun b => match F b with
    | some o => some o
    | none => if b ∈ nOwn tp ps a vs then H b else none
  have g : Same F F' := fun b o e => by show (match F b with | some o => some o | none => if b ∈ nOwn tp ps a vs then H b else none) = _; rw [e]
  have ey : ∀ b, b ∈ nOwn tp ps a vs → F' b = H b := fun b hb => by
    show (match F b with | some o => some o | none => if b ∈ nOwn tp ps a vs then H b else none) = _
    rw [(hn b hb).1]; exact if_pos hb
  have en : ∀ b, b ∉ nOwn tp ps a vs → F b = none → F' b = none := fun b hb h => by
    show (match F b with | some o => some o | none => if b ∈ nOwn tp ps a vs then H b else none) = _
    rw [h]; exact if_neg hb
  have es : ∀ b, F' b = F b ∨ F' b = H b ∧ b ∈ nOwn tp ps a vs := fun b => by
    by_cases hb : b ∈ nOwn tp ps a vs
    · exact .inr ⟨ey b hb, hb⟩
    · cases h : F b with
      | none => exact .inl (en b hb h)
      | some o => exact .inl (g b o h)
  have n2 : NAt M F' F' tp ps a vs := n.mono g ey
  refine ⟨F', g, ⟨fun b o e => ?_, ok.grow.trans g, fun b e1 e2 => ?_, ok.kept, ok.ioh, ?_, ok.len, fun i r e => ?_, ok.dist⟩, ?_⟩
  · rcases es b with h | ⟨h, _⟩
    · rw [h] at e; exact ok.same b o e
    · rw [h] at e; exact e
  · exact en b (fun hb => e1 (hn b hb).2.1) (ok.nofz b e1 e2)
  · refine ok.tb.keep (fun _ _ e _ => e) (fun b o e z h => en b (fun hb => ?_) h) fun b ps' e => ?_
    · obtain ⟨u, h1, h2⟩ := n.nt hb
      rw [e] at h1; cases h1; exact z h2.tt
    · rcases es b with h | ⟨h, hb⟩
      · rw [h] at e; exact ok.tb.nt b ps' e
      · obtain ⟨u, h1, h2⟩ := n.nt hb
        rw [h, h1] at e; cases e; cases h2
  · obtain ⟨v, e1, e2⟩ := ok.slot i r e
    refine ⟨v, e1, ?_⟩
    cases r with
    | imm d => exact rep_mono g _ _ e2
    | own o =>
      obtain ⟨b, rfl, k1, k2, k3⟩ := e2
      exact ⟨b, rfl, en b (fun hb => (hn b hb).2.2 i _ e rfl e1) k1, k2, obAt_mono g rfl k3⟩
    | brw o =>
      obtain ⟨b, rfl, k1, k2, k3⟩ := e2
      exact ⟨b, rfl, en b (fun hb => (hn b hb).2.2 i _ e rfl e1) k1, k2, obAt_mono g rfl k3⟩
    | nst _ _ => exact slot_nst g e2
  · have key : ∀ {ps : List (D ⊕ OB)} {vs : List V}, ps.all pL = true → Paired (nAt M F' F') ps vs → reps M F' (ps.map pD) vs := fun {ps vs} hp h => by
      induction h with
      | nil => exact reps_nil
      | @cons p v ps vs h1 h2 ih =>
        simp only [List.all_cons, Bool.and_eq_true] at hp
        cases p with
        | inl d => exact reps_cons h1 (ih hp.2)
        | inr o =>
          obtain ⟨b, rfl, h1⟩ := h1
          have hd : o.dic = false := by have := hp.1; unfold pL at this; simpa using this
          exact reps_cons (obAt_rep hd h1) (ih hp.2)
    have r := key hp n2.pts
    have t := n2.top
    unfold nstD
    cases tp with
    | true => simp only [if_true] at t ⊢; unfold rep; exact ⟨a, vs, rfl, t, r⟩
    | false => simp only [Bool.false_eq_true, if_false] at t ⊢; unfold rep; exact ⟨a, vs, rfl, t, r⟩
theorem DE.frzN {e : Expr} {f : FE} (h : DE M W X e f) : DI M W X e (TS.frzN f) := by
  obtain ⟨t, p, h⟩ := h
  refine ⟨_, pe_lks p, fun c F H σ δ Q ok post => h c F H σ δ (fun v H' => LkS (Q v) H') ok (Post.bind post fun r δ1 v F1 H1 _ s ok1 rr post => ?_)⟩
  cases r with
  | imm d => exact .now (post.ok ok1 rr)
  | own o => exact (ok1.freeze rr).mono fun H2 ⟨F', g, ok', r'⟩ => post v F' H2 g ok' r'
  | brw o => exact post.elim
  | nst tp ps =>
    dsimp only at post
    split at post
    · rename_i hp
      obtain ⟨F', g, ok2, r2⟩ := freezeN ok1 hp rr
      exact .now (post v F' H1 g ok2 r2)
    · exact post.elim
end
end
end TS

namespace TS
open PySem L2
noncomputable section
section
variable {X : Cx} {M : Gm} {W : WX} {a b : Expr} {fa fb : FD} {pos : Pos} {k : Nat}
end
end
end TS

namespace TS
open PySem L2
noncomputable section
mutual
def toPt : D → Option PyData
  | .non => some .none
  | .bl b => some (.bool b)
  | .int i => some (.int i)
  | .str x => some (.str x)
  | .lst ds => (toPts ds).map PyData.list
  | .tup ds => (toPts ds).map PyData.tuple
  | .ktp ns => some (.tuple (ns.map PyData.int))
  | .dK ks ds => (toPts ds).map fun ps => PyData.dict ((ks.map kP).zip ps)
  | .dT ks ds => (toPts ds).map fun ps => PyData.dict ((ks.map fun k => PyData.tuple (k.map kP)).zip ps)
  | _ => none
def toPts : List D → Option (List PyData)
  | [] => some []
  | d :: ds => (toPt d).bind fun p => (toPts ds).map fun ps => p :: ps
end
section
variable {M : Gm} {F H : Hp} {X : Cx} {pins : List (Addr × Obj)} {σ : St} {s : Shared}
end
def gReprT (d : D) : Option Str := match toPt d with
  | some p => if shOkD p then some p.shown else none
  | none => none
def fReprT (fa : FD) : FD := fun δ => (fa δ).bind fun d δ1 => match gReprT d with
  | some x => .ok (.str x) δ1
  | none => .bad
section
variable {X : Cx} {M : Gm} {W : WX} {e : Expr} {fa : FD} {p pos : Pos}
end
end
end TS

namespace TS
open PySem PySem.Spec PyProof.Rows L2
noncomputable section
def zip3D : List D → List D → List D → List D
  | a :: as, b :: bs, c :: cs => .tup [a, b, c] :: zip3D as bs cs
  | _, _, _ => []
section
variable {M : Gm} {W : WX} {X : Cx} {F : Hp}
def itZip3 (f g h : FD) : FA := fun δ => (f δ).bind fun d δ => (g δ).bind fun d' δ => (h δ).bind fun d'' δ => match d, d', d'' with
  | .lst m, .lst n, .lst k => .ok (zip3D m n k) δ
  | _, _, _ => .bad
end
end
end TS

namespace TS
open PySem L2
noncomputable section
def nSlot : D ⊕ OB → R
  | .inl d => .imm d
  | .inr o => .own o
def tTup2N (i j : Nat) : R → Sl → SR := fun r δ => match r with
  | .nst true [x, y] => if i = j then .bad else .nx ((δ.set i (some (nSlot x))).set j (some (nSlot y)))
  | _ => .bad
section
variable {M : Gm} {W : WX} {X : Cx} {c : Cn M} {F H : Hp} {σ : St} {δ : Sl}
end
end
end TS

namespace TS
open PySem L2 PySem.Spec PyProof.Rows
noncomputable section
structure LamS1 (sc scope : Scope) (z : Str) : Prop where
  kind : scope.kind = .function
  co : scope.isCoroutine = false
  gen : scope.isGenerator = false
  par : scope.names.lookup z = some .local
  cel : ∀ y ∈ scope.names, y.2 ≠ .cell
  own : ∀ y : Str, scope.names.lookup y = some .local → y = z
  free : ∀ y ∈ scope.names, y.2 = .free → sc.names.lookup y.1 = some .cell ∨ sc.names.lookup y.1 = some .free
theorem LamS1.has {X : Cx} {scope : Scope} {z : Str} (L : LamS1 X.env.scope scope z) (ok : X.Ok) : ∀ y ∈ scope.names, y.2 = .free → ∃ c, X.env.cells.lookup y.1 = some c := fun y hy e => by
  rcases L.free y hy e with k | k
  · exact ok.has _ (.inl k)
  · exact ok.has _ (.inr k)
section
variable {X : Cx} {pins : List (Addr × Obj)} {σ : L2.St} {H HZ : Hp} {s s1 : Shared}
end
section
variable {X : Cx} {W : WX} {M : Gm}
end
end
end TS

namespace TS
open PySem L2
noncomputable section
section
variable {X : Cx} {M : Gm} {W : WX}
end
end
end TS

namespace TS
open PySem L2
noncomputable section
structure RoomQ (k : Nat) (A : Around) : Prop where
  dp : A.depth + 3 * k + 5 < recursionLimit
  un : A.units + 16 * k + 200 < cLine
  gu : A.guards = some []
theorem RoomQ.mono {j k : Nat} {A : Around} (r : RoomQ k A) (h : j ≤ k) : RoomQ j A := ⟨by have := r.dp; omega, by have := r.un; omega, r.gu⟩
theorem RoomQ.deeper {k : Nat} {A : Around} (r : RoomQ (k + 1) A) (env : Env) : RoomQ k (A.deeper env) :=
  ⟨by have := r.dp; show A.depth + 1 + 3 * k + 5 < _; omega, by have := r.un; show A.units + 3 + 16 * k + 200 < _; omega, r.gu⟩
theorem RoomQ.depth {k : Nat} {A : Around} (r : RoomQ k A) : A.depth < recursionLimit := by have := r.dp; omega
theorem RoomQ.of {k : Nat} {A A0 : Around} (r : Room k A0) (e0 : A.depth = A0.depth) (e1 : A.units = A0.units) (e2 : A.guards = A0.guards) : RoomQ k A := ⟨by rw [e0]; exact r.lo.dp, by rw [e1]; exact r.lo.un, by rw [e2]; exact r.gu⟩
def FnRQ (P : Program) (w : World) (K : PySem.W.Frag) (mg : Str → Option Value) (base : Heap) (CX : CXT) (k : Nat) (f : Addr) (sp : Sp) : Prop :=
  ∀ (A : Around) (outer : List Env) (s : Shared) (H : Hp) (us : List Value) (vs : List V) (Q : VK) (E : XK), RoomQ k A → Env0 P w K mg base A outer s H → Vals vs us → sp vs H Q E → codeAny (model P w) A (.call (.ref f) ⟨us, []⟩) (CR CX outer P w H s Q E) s
theorem FnRQ.mono {P : Program} {w : World} {K : PySem.W.Frag} {mg : Str → Option Value} {base : Heap} {CX : CXT} {j k : Nat} {f : Addr} {sp : Sp} (F : FnRQ P w K mg base CX j f sp) (h : j ≤ k) : FnRQ P w K mg base CX k f sp := fun A outer s H us vs Q E hr e0 => F A outer s H us vs Q E (hr.mono h) e0
section
variable {P : Program} {w : World} {K : PySem.W.Frag} {mg : Str → Option Value} {base : Heap} {CX : CXT} {j k : Nat} {f : Addr} {fd : FuncData} {ps : List Str} {sp : Sp}
end
section
variable {X : Cx} {M : Gm} {W : WX} {e : Expr} {fe : FD} {p pos : Pos}
variable {q : Cau}
end
end
end TS

namespace TS
open PySem L2 PySem.W PySem.Spec PyProof.Rows
noncomputable section
def EnSt (h : Heap) (e it l S : Addr) (i : Nat) : Prop :=
  h.IsListIter it l i ∧ e ≠ it ∧ ((∃ old, IsEnum h e it ((i : Nat) : Int) old) ∨ ∃ old T f oT, IsEnumHeld h e it ((i : Nat) : Int) old T f ∧ h.get? T = some oT ∧ T ≠ e ∧ T ≠ it ∧ T ≠ S)
theorem EnSt.keep {h h' : Heap} {e it l S : Addr} {i : Nat} (x : EnSt h e it l S i) (hk : ∀ b o, b ≠ S → h.get? b = some o → h'.get? b = some o) (hI : it ≠ S) (hE : e ≠ S) : EnSt h' e it l S i := by
  obtain ⟨h1, h2, h3⟩ := x
  refine ⟨h1.at fun o q => hk it o hI q, h2, ?_⟩
  rcases h3 with ⟨old, q⟩ | ⟨old, T, f, oT, q, a, b, c, d⟩
  · exact .inl ⟨old, hk _ _ hE q⟩
  · exact .inr ⟨old, T, f, oT, hk _ _ hE q, hk _ _ d a, b, c, d⟩
section
variable {prog : Program} {w : World} {A : Around} {E : Value → Shared → Prop} {s : Shared}
end
section
variable {prog : Program} {w : World} {A : Around} {s : Shared} {R : Result → Shared → Prop} {us : List Value}
end
section
variable {prog : Program} {w : World} {A : Around} {E : Value → Shared → Prop} {s : Shared} {us : List Value} {e it l : Addr}
end
section
variable {X : Cx} {a : Expr} {ta : TE} {p q2 pos pos2 : Pos}
variable {M : Gm} {W : WX}
def fLEnum (f : FD) : FE := fun δ => (f δ).bind fun d δ => match d with
  | .lst ds => .ok (.own (.l (enumD 0 ds))) δ
  | _ => .bad
end
end
end TS

namespace TS
open PySem L2
noncomputable section
section
variable {M : Gm} {c : Cn M} {W : WX} {X : Cx} {tg e : Expr} {F F1 H H1 : Hp} {σ σ2 : L2.St} {δ : Sl}
def Unal (σ : L2.St) (δ : Sl) (p : Addr) : Prop := ∀ (i : Nat) (r : R), δ[i]? = some (some r) → r.mu = true → σ[i]? ≠ some (some (V.ref p))
theorem wipeD_outN : ∀ {vs : List Nat} {i : Nat} {δ : Sl}, i ∉ vs → (wipeD δ vs)[i]? = δ[i]?
  | [], _, _, _ => rfl
  | v :: vs, i, δ, h => by
    simp only [List.mem_cons, not_or] at h
    unfold wipeD
    rw [List.getElem?_set_ne (Ne.symm h.1)]
    exact wipeD_outN h.2
theorem Unal.wipe {vs : List Nat} {p : Addr} (hw : L2.wipe σ2 vs = L2.wipe σ vs) (h : Unal σ2 δ p) : Unal (L2.wipe σ vs) (wipeD δ vs) p := fun i r e m z => by
  rw [← hw] at z
  obtain ⟨z1, z2⟩ := wipe_some z
  rw [wipeD_outN z2] at e
  exact h i r e m z1
end
section
variable {M : Gm} {W : WX} {X : Cx} {tg : Expr}
end
end
end TS

namespace TS
open PySem L2 PySem.W PySem.Spec PyProof.Rows
noncomputable section
section
variable {prog : Program} {w : World} {A : Around} {E : Value → Shared → Prop} {s : Shared} {r d : Addr} {es : Array DictEntry} {ep : Nat}
end
section
variable {X : Cx} {e : Expr} {td : TE} {p apos cpos pos : Pos}
variable {M : Gm} {W : WX}
def fLItems (f : FD) : FE := fun δ => (f δ).bind fun d δ => match d with
  | .dK ks ds => .ok (.own (.l (zipD (ks.map keyD) ds))) δ
  | .dT ks ds => .ok (.own (.l (zipD (ks.map keysD) ds))) δ
  | _ => .bad
end
end
end TS

namespace TS
open PySem L2 PySem.Spec PyProof.Rows
noncomputable section
section
variable {prog : Program} {w : World} {K : Type} [DecidableEq K] {knd : HeapKind prog w K}
end
section
variable {X : Cx} {pins : List (Addr × Obj)} {σ : L2.St} {H : Hp} {s : Shared} {a b : Addr} {kvs : List (List Key × V)} {k : List Key} {v : V}
end
section
variable {X : Cx} {o e : Expr} {apos cpos : Pos} {td ty : TE}
variable {M : Gm} {W : WX}
def dropD {κ : Type} [DecidableEq κ] (k : κ) : List κ → List D → List κ × List D
  | k' :: ks, d :: ds => if k' = k then dropD k ks ds else (k' :: (dropD k ks ds).1, d :: (dropD k ks ds).2)
  | _, _ => ([], [])
def popOB : OB → D → Option (D × OB)
  | .dK ks ds, k => (keyOf k).bind fun k => (lookD ks ds k).map fun d => (d, .dK (dropD k ks ds).1 (dropD k ks ds).2)
  | .dT ks ds, .tup kds => (keysOf kds).bind fun k => (lookD ks ds k).map fun d => (d, .dT (dropD k ks ds).1 (dropD k ks ds).2)
  | _, _ => none
def dicO : OB → Bool
  | .dK _ _ => true
  | .dT _ _ => true
  | _ => false
def dicR (δ : Sl) (x : Nat) : Bool := match δ[x]? with
  | some (some (.own o)) => dicO o
  | some (some (.brw o)) => dicO o
  | _ => false
def fPopD (x : Nat) (fi : FD) : FD := fun δ => if dicR δ x then (fi δ).bind fun i δ1 => match δ1[x]? with
  | some (some (.own o)) => (match popOB o i with
    | some (d, o') => .ok d (δ1.set x (some (.own o')))
    | none => .bad)
  | some (some (.brw o)) => (match popOB o i with
    | some (d, o') => .ok d (δ1.set x (some (.brw o')))
    | none => .bad)
  | _ => .bad else .bad
end
end
end TS

namespace TS
open PySem L2
noncomputable section
section
variable {M : Gm} {F : Hp}
end
section
variable {M : Gm} {P : Program} {w : World} {mg : Str → Option Value} {base : Heap} {k n : Nat} {ks ps : List Str} {f : Addr} {fm : Fm} {fd : FuncData} {ix : List Nat} {dd : List D} {mz : List V} {mv : List Value}
end
end
end TS

namespace TS
open PySem L2 PyProof.Rows
noncomputable section
section
variable {M : Gm} {F H : Hp}
end
section
variable {X : Cx} {a : Expr} {ta : TE}
end
section
variable {M : Gm} {c : Cn M}
end
section
variable {X : Cx} {o e : Expr} {apos cpos : Pos} {to te : TE}
end
section
variable {X : Cx} {W : WX} {M : Gm}
end
end
end TS

namespace TS
open PySem L2
noncomputable section
section
variable {M : Gm} {F H : Hp} {L : Lm}
end
section
variable {X : Cx} {W : WX} {M : Gm}
end
section
variable {M : Gm} {X : Cx}
end
end
end TS

namespace PySem
namespace ExV
open PySem.HandSPX
section
variable {prog : Program} {w : World} {A : Around} {E : Value → Shared → Prop} {R : Result → Shared → Prop} {h : Heap} {g : Array GenState} {d : Drawn} {t : Nat} {os : OsState}
variable {nm q : Str} {C N : Addr} {bs bm bmB : List Value} {hdct : Bool} {sn : List Str} {sub : List Value} {ab : Bool} {col : Option Bool} {dd : Option Addr} {k0 k1 k2 k3 k5 : Option Value} {B newId initId : String}
theorem check_newK {M : Model} (F : ExcBaseFacts B newId initId bmB) (hT : ∀ X : String, bm.contains (.type X) = bmB.contains (.type X)) {rest : List Value} {kw : List (Str × Value)} {Q : Unit → Shared → Prop}
    (hC : h.get? C = some (excClassObj nm q C N bs bm hdct sn sub ab col dd k0 k1 k2 k3 k5 newId)) (hq : Q () ⟨h, g, d, t, os⟩) : wpAny M A (checkBuiltinCall newId ⟨.ref C :: rest, kw⟩) Q E ⟨h, g, d, t, os⟩ := by
  have hcont : (Value.ref C :: bm).contains (.type B) = true := by rw [List.contains_cons, hT, F.hasB, Bool.or_true]
  have hstar := F.noStar
  simp only [checkBuiltinCall, F.newKind, F.newSplit, F.newRow]
  repeat (first | refine wpAny_loadPart_at hC ?_ | (refine wpAny_isSubtype_exc hC ?_; rw [hcont]) | refine wpAny_staticBase_exc hC ?_ | refine wpAny_madeBy_exc hC ?_ | simp only [bne_self_eq_false, Bool.false_eq_true, if_false] | wp_step)
  exact hq
theorem newK (F : ExcBaseFacts B newId initId bmB) (hT : ∀ X : String, bm.contains (.type X) = bmB.contains (.type X)) {rest : List Value} {kw : List (Str × Value)}
    (hC : h.get? C = some (excClassObj nm q C N bs bm hdct sn sub ab col dd k0 k1 k2 k3 k5 newId))
    (hq : R (.ok (.ret (.ref (h.objs.size + 1)))) ⟨(h.push { cls := .type "tuple", data := .seq rest.toArray }).push
      { cls := .ref C, data := .fields #[.ref h.objs.size, .none, .none, .none, .bool false, .none] }, g, d, t, os⟩) (hrest : rest.length ≤ sizeLine) :
    codeAny (model prog w) A (.builtin newId ⟨.ref C :: rest, kw⟩) R ⟨h, g, d, t, os⟩ := by
  have hends := F.ends
  have hcB : (Value.ref C :: bm).contains (.type B) = true := by rw [List.contains_cons, hT, F.hasB, Bool.or_true]
  have hcA : (Value.ref C :: bm).contains (.type "AttributeError") = false := by rw [List.contains_cons, hT, F.noAttr]; rfl
  have hcN : (Value.ref C :: bm).contains (.type "NameError") = false := by rw [List.contains_cons, hT, F.noName]; rfl
  refine codeAny_builtinAt F.entry ?_
  unfold Builtin.«BaseException.__new__»
  refine wpAt_bind ?_
  show wpAt _ _ _ (stack >>= _) _ _ _
  refine wpAt_bind (wpAt_stack fun p below => wpAt_of_wpAny ?_)
  wp_walk
  refine wpAt_of_wpAny ?_
  rw [F.owner]
  repeat (first | with_reducible refine wpAny_madeHere_exc F.canon hC ?_ | with_reducible refine wpAny_loadPart_at hC ?_ | (with_reducible refine wpAny_isSubtype_exc hC ?_; first | rw [hcB] | rw [hcA] | rw [hcN]) | wp_step)
  show R _ _
  rw [Heap.size_push]
  exact hq
theorem type_callK (F : ExcBaseFacts B newId initId bmB) (hT : ∀ X : String, bm.contains (.type X) = bmB.contains (.type X)) {rest : List Value} {kw : List (Str × Value)} {ini : Value} {Q : Fin → Shared → Prop}
    (hC : h.get? C = some (excClassObj nm q C N bs bm hdct sn sub ab col dd k0 k1 k2 k3 k5 newId))
    (hi : W.Looks (model prog w) h (typeLookup (.ref C) "__init__") (some ini)) (hb : ∀ self, W.Looks (model prog w) h (bindSpecial ini self) (ini, [self])) (hrest : rest.length ≤ sizeLine)
    (hq : codeAny (model prog w) A (.call ini ⟨.ref (h.objs.size + 1) :: rest, kw⟩)
      (fun r s' => match r with | .ok (.ret v) => v = .none ∧ Q (.done (.ret (.ref (h.objs.size + 1)))) s' | .ok _ => False | .error e => E e s')
      ⟨(h.push (W.kdv_tup rest)).push (excO C h.objs.size), g, d, t, os⟩) :
    wpAny (model prog w) A (Builtin.«type.__call__» ⟨.ref C :: rest, kw⟩) Q E ⟨h, g, d, t, os⟩ := by
  repeat (first | with_reducible refine wpAny_loadPart_at hC ?_ | with_reducible refine wpAny_madeBy_exc hC ?_ | wp_step)
  refine codeAny_call_builtin_code (Code.quiet_builtin _ F.quiet) (check_newK F hT hC ?_)
  refine newK F hT hC ?_ hrest
  show wpAny _ _ _ _ _ _
  have k : ∀ b o, h.get? b = some o → ((h.push (W.kdv_tup rest)).push (excO C h.objs.size)).get? b = some o := fun b o e => Heap.get?_push_of_some _ (Heap.get?_push_of_some _ e)
  have hC₁ := k _ _ hC
  have hget : ((h.push (W.kdv_tup rest)).push (excO C h.objs.size)).get? (h.objs.size + 1) = some (excO C h.objs.size) := by heap_get
  have hcC : (Value.ref C :: bm).contains (.ref C) = true := by simp
  have i1 := hi.keeps k
  have b1 := (hb (.ref (h.objs.size + 1))).keeps k
  unfold isInstance
  repeat (first | with_reducible refine wpAny_loadPart_at hget ?_ | (with_reducible refine wpAny_isSubtype_exc hC₁ ?_; rw [hcC]) | wp_step)
  show wpAny _ _ (typeLookup (.ref C) _) _ _ _
  refine i1.at ?_
  refine wpAny_holding (wpAny_bind (b1.at ?_))
  refine wpAny_bind (wpAny_call (codeAny_mono hq fun r s' z => ?_))
  rcases r with e | (v | _ | _ | _) <;> first | exact z | exact z.elim | skip
  obtain ⟨rfl, z⟩ := z
  first
    | exact wpAny_pure (wpAny_pure z)
    | (wp_walk; exact z)
theorem callK (F : ExcBaseFacts B newId initId bmB) (hT : ∀ X : String, bm.contains (.type X) = bmB.contains (.type X)) {rest : List Value} {kw : List (Str × Value)} {ini : Value}
    (hC : h.get? C = some (excClassObj nm q C N bs bm hdct sn sub ab col dd k0 k1 k2 k3 k5 newId))
    (hi : W.Looks (model prog w) h (typeLookup (.ref C) "__init__") (some ini)) (hb : ∀ self, W.Looks (model prog w) h (bindSpecial ini self) (ini, [self])) (hrest : rest.length ≤ sizeLine)
    (hq : codeAny (model prog w) (A.under (.builtin "type.__call__" ⟨.ref C :: rest, kw⟩)) (.call ini ⟨.ref (h.objs.size + 1) :: rest, kw⟩) (W.InitBack (h.objs.size + 1) R)
      ⟨(h.push (W.kdv_tup rest)).push (excO C h.objs.size), g, d, t, os⟩) :
    codeAny (model prog w) A (.call (.ref C) ⟨rest, kw⟩) R ⟨h, g, d, t, os⟩ := by
  have f1 := tc_lookup
  have f2 := tc_bind (.ref C)
  have hTy : (⟨h, g, d, t, os⟩ : Shared).TypeIs (.ref C) "type" := ⟨_, hC, rfl⟩
  refine codeAny_of_tree ?_
  show wpAny _ _ (callAny (.ref C) _) _ _ _
  repeat (any_goals (first | assumption | with_reducible refine wpAny_loadPart_at hC ?_ | wp_step))
  refine ⟨rfl, ?_⟩
  refine codeAny_call_builtin_at (Code.quiet_builtin _ (by decide +kernel)) entry_typeCall (wpAny_check_type_call_sub hC (type_callK F hT hC hi hb hrest ?_))
  refine codeAny_mono hq fun r s' z => ?_
  rcases r with e | (v | _ | _ | _) <;> exact z
end
end ExV
end PySem
namespace TS
open PySem L2 PySem.W PySem.Calls PyProof.Rows
noncomputable section
section
variable {X : Cx} {W : WX} {pins : List (Addr × Obj)} {σ : L2.St} {H : Hp} {s : Shared}
theorem run_mkx {k n : Nat} {ks : List Str} {f C : Addr} {sp : Sp} {Q : VK} {us ws : List Value} {vs zs : List V} (T : OxC X.K C) (iC : findIn X.K (.ref C) "__init__" = some (some (.ref f))) (tI : typeIn X.K (.ref f) = some (.type "function"))
    (F : FnK X.prog X.w X.K X.mg X.base (CXX X) k f (n + 1) ks sp) (hr : TS.Room (k + 1) X.A) (tk : Takes X W) (I : Inv X pins σ H s) (l1 : vs.length = n) (l2 : zs.length = ks.length) (hn : n ≤ 1000) (r : Vals vs us) (rz : Vals zs ws)
    (h : ∀ a, H a = none → sp (V.ref a :: (vs ++ zs)) (upd H a (exo a C none)) (fun v H2 => v = .non ∧ Q (.ref a) H2) (WE W σ)) :
    wpAny (model X.prog X.w) X.A (call (.ref C) us (ks.zip ws)) (EP X pins σ Q) X.xe s := by
  obtain ⟨B, hB, ini, _⟩ := T.bas
  obtain ⟨hp, g, dr, tk0, os⟩ := s
  obtain ⟨nm, N, qn, bs, bm, hdct, sn, sub, ab, col, dd, k0, k1, k2, k3, k5, hC, hT⟩ := excInit_of I.kIn ini
  have hsz : hp.objs.size ≤ hp.objs.size + 1 := Nat.le_succ _
  have hq := h (hp.objs.size + 1) (I.hok.fresh hsz)
  have kk : ∀ b o, hp.get? b = some o → ((hp.push (kdv_tup us)).push (HandSPX.excO C hp.objs.size)).get? b = some o := fun b o z => Heap.get?_push_of_some _ (Heap.get?_push_of_some _ z)
  have hget : ((hp.push (kdv_tup us)).push (HandSPX.excO C hp.objs.size)).get? (hp.objs.size + 1) = some (HandSPX.excO C hp.objs.size) := by heap_get
  have I2 : Inv X pins σ (upd H (hp.objs.size + 1) (exo (hp.objs.size + 1) C none)) ⟨(hp.push (kdv_tup us)).push (HandSPX.excO C hp.objs.size), g, dr, tk0, os⟩ :=
    I.laid (t' := tk0) (a := hp.objs.size + 1) (o := exo (hp.objs.size + 1) C none) (h' := (hp.push (kdv_tup us)).push (HandSPX.excO C hp.objs.size)) kk hsz (exo_ok hget)
  have r2 : Vals (V.ref (hp.objs.size + 1) :: vs) (Value.ref (hp.objs.size + 1) :: us) := .cons rfl r
  have hus : us.length ≤ sizeLine := by
    rw [← Paired.length r, sizeLine_eq]
    omega
  refine wpAny_call (PySem.ExV.callK hB.base hT hC (looks_findIn I.kIn iC) (fun self => bind_fn I.kIn self tI) hus
    (codeAny_mono (F _ X.stack _ _ (Value.ref (hp.objs.size + 1) :: us) ws (V.ref (hp.objs.size + 1) :: vs) zs _ (WE W σ) (hr.make C us (ks.zip ws)) (I2.env0.make C us (ks.zip ws)) (congrArg Nat.succ l1) l2 r2 rz hq) fun r s' hq' => ?_))
  cases r with
  | error e => exact passAt tk σ pins _ _ e s' I2 hq'
  | ok fl =>
    cases fl with
    | ret u =>
      obtain ⟨v, H', I3, rv, ev, q3⟩ := I2.after hq'
      subst ev
      exact ⟨rv, ⟨V.ref (hp.objs.size + 1), H', I3, rfl, q3⟩⟩
    | next => exact False.elim hq'
    | brk => exact False.elim hq'
    | cont => exact False.elim hq'
theorem lk_bind (self : Value) : bindSpecial (.builtin "LookupError.__init__") self = pure (.builtin "LookupError.__init__", [self]) := by
  have hop : withoutEnding? "LookupError.__init__" "#opaque" = none := by decide +kernel
  have hdat : withoutEnding? "LookupError.__init__" "#data" = none := by decide +kernel
  have hk : builtinKind "LookupError.__init__" = some .slot := by decide +kernel
  simp only [bindSpecial, typeOf, builtinType, hop, hdat, hk]; rfl
theorem run_mk0 {C : Addr} {Q : VK} (ini : excInitIn X.K C (bmOf "LookupError") "LookupError.__new__" = true) (iC : findIn X.K (.ref C) "__init__" = some (some (.builtin "LookupError.__init__"))) (I : Inv X pins σ H s)
    (h : ∀ a, H a = none → Q (.ref a) (upd H a (exo a C none))) : wpAny (model X.prog X.w) X.A (call (.ref C) [] []) (EP X pins σ Q) X.xe s := by
  obtain ⟨hp, g, dr, tk0, os⟩ := s
  obtain ⟨nm, N, qn, bs, bm, hdct, sn, sub, ab, col, dd, k0, k1, k2, k3, k5, hC, hT⟩ := excInit_of I.kIn ini
  have hsz : hp.objs.size ≤ hp.objs.size + 1 := Nat.le_succ _
  have hq := h (hp.objs.size + 1) (I.hok.fresh hsz)
  have kk : ∀ b o, hp.get? b = some o → ((hp.push (kdv_tup [])).push (HandSPX.excO C hp.objs.size)).get? b = some o := fun b o z => Heap.get?_push_of_some _ (Heap.get?_push_of_some _ z)
  have hget : ((hp.push (kdv_tup [])).push (HandSPX.excO C hp.objs.size)).get? (hp.objs.size + 1) = some (HandSPX.excO C hp.objs.size) := by heap_get
  have I2 : Inv X pins σ (upd H (hp.objs.size + 1) (exo (hp.objs.size + 1) C none)) ⟨(hp.push (kdv_tup [])).push (HandSPX.excO C hp.objs.size), g, dr, tk0, os⟩ :=
    I.laid (t' := tk0) (a := hp.objs.size + 1) (o := exo (hp.objs.size + 1) C none) (h' := (hp.push (kdv_tup [])).push (HandSPX.excO C hp.objs.size)) kk hsz (exo_ok hget)
  refine wpAny_call (PySem.ExV.callK F.excBase_LookupError hT hC (looks_findIn I.kIn iC) (fun self => by rw [lk_bind]; exact .now) (Nat.zero_le _)
    (HandSPX.init_base (rest := []) F.excBase_LookupError hT (kk _ _ hC) hget (Nat.zero_le _) fun h' t2 k hx => ?_))
  have J := I2.write (t' := tk0) (x := hp.objs.size + 1) (e := hp.objs.size + 1) (o := exo (hp.objs.size + 1) C none) (by rw [upd_same]; exact True.intro) (.inl rfl) k ⟨_, hx⟩ (exo_ok hx)
  have eu : upd (upd H (hp.objs.size + 1) (exo (hp.objs.size + 1) C none)) (hp.objs.size + 1) (exo (hp.objs.size + 1) C none) = upd H (hp.objs.size + 1) (exo (hp.objs.size + 1) C none) := by
    funext b
    by_cases hb : b = hp.objs.size + 1
    · rw [hb, upd_same, upd_same]
    · rw [upd_ne hb]
  rw [eu] at J
  exact ⟨rfl, ⟨V.ref (hp.objs.size + 1), _, J, rfl, hq⟩⟩
end
def tMkV (W : WX) (C : Addr) (n m : Nat) (sp : Sp) (t tk : TA) : TE := fun σ H Q => t σ H fun vs H0 => tk σ H0 fun zs H1 => vs.length = n ∧ zs.length = m ∧ n ≤ 1000 ∧ ∀ a, H1 a = none → sp (V.ref a :: (vs ++ zs)) (upd H1 a (exo a C none)) (fun v H2 => v = .non ∧ Q (.ref a) H2) (WE W σ)
section
variable {X : Cx} {W : WX} {k n : Nat} {ks : List Str} {kws : List Keyword} {f C : Addr} {sp : Sp} {x m : Str} {e o : Expr} {es : List Expr} {ta te : TE} {t tkw : TA} {p pos apos : Pos}
theorem pe_mkx (T : OxC X.K C) (iC : findIn X.K (.ref C) "__init__" = some (some (.ref f))) (tI : typeIn X.K (.ref f) = some (.type "function")) (F : FnK X.prog X.w X.K X.mg X.base (CXX X) k f (n + 1) [] sp) (hr : TS.Room (k + 1) X.A) (tk : Takes X W) (hg : Gl X x) (hm : X.mg x = some (.ref C)) (ha : PA X (e :: es) t)
    (hdb : (x == ("__debug__" : Str)) = false := by decide) (he : starEach (e :: es) X.env = (false, eval e X.env) :: starEach es X.env := by rfl) (hpl : (backTo pos (starEach es X.env)).any (·.1) = false := by rfl) :
    PE X (.Call (.Name x p) (e :: es) [] pos) (tMkV W C n 0 sp t tNil) := by
  refine ⟨fun pins s σ H Q I h => ?_⟩
  refine wpAny_Call_Name_kw (ld_glob I hg hm ?_ hdb)
  refine PySem.W.callWith_K (h₀ := X.base) I.ok.mod.kin T.kC (thn (ha.run pos pins s σ H _ I h) fun us s1 ⟨vs, H1, I1, r, q⟩ => ⟨I1.kIn, ?_⟩) he hpl
  obtain ⟨l1, l2, l3, q⟩ := q
  exact run_mkx (ks := []) (ws := []) (zs := []) T iC tI F hr tk I1 l1 rfl l3 r .nil q
theorem pe_mkxK (T : OxC X.K C) (iC : findIn X.K (.ref C) "__init__" = some (some (.ref f))) (tI : typeIn X.K (.ref f) = some (.type "function")) (F : FnK X.prog X.w X.K X.mg X.base (CXX X) k f 1 ks sp) (hr : TS.Room (k + 1) X.A) (tk : Takes X W) (hg : Gl X x) (hm : X.mg x = some (.ref C)) (hkw : PK X kws tkw)
    (hall : (backToKw pos (keywordEach kws X.env)).all (·.1.isSome) = true := by rfl) (hks : (backToKw pos (keywordEach kws X.env)).filterMap (·.1) = ks := by rfl)
    (hdb : (x == ("__debug__" : Str)) = false := by decide) (hpl : ((backTo pos (starEach [] X.env)).any (·.1) || (backToKw pos (keywordEach kws X.env)).any (·.1.isNone)) = false := by rfl) :
    PE X (.Call (.Name x p) [] kws pos) (tMkV W C 0 ks.length sp tNil tkw) := by
  refine ⟨fun pins s σ H Q I h => ?_⟩
  refine wpAny_Call_Name_kw (ld_glob I hg hm ?_ hdb)
  refine PySem.W.callWith_KW0 (h₀ := X.base) I.ok.mod.kin T.kC hall ?_ hpl
  refine thn (hkw.run pos pins s σ H _ I h) fun ws s2 ⟨zs, H2, I2, rz, l1, l2, l3, q2⟩ => ⟨I2.kIn, ?_⟩
  rw [hks]
  exact run_mkx (us := []) (vs := []) T iC tI F hr tk I2 rfl l2 l3 .nil rz q2
theorem pe_mkx0 (T : OxC X.K C) (ini : excInitIn X.K C (bmOf "LookupError") "LookupError.__new__" = true) (iC : findIn X.K (.ref C) "__init__" = some (some (.builtin "LookupError.__init__"))) (hg : Gl X x) (hm : X.mg x = some (.ref C))
    (hdb : (x == ("__debug__" : Str)) = false := by decide) : PE X (.Call (.Name x p) [] [] pos) (fun _ H Q => ∀ a, H a = none → Q (.ref a) (upd H a (exo a C none))) := by
  refine ⟨fun pins s σ H Q I h => ?_⟩
  refine wpAny_Call_Name_kw (ld_glob I hg hm ?_ hdb)
  exact PySem.W.callWith_K0 I.kIn T.kC (run_mk0 ini iC I h)
def tXa (K : PySem.W.Frag) (f : Str) (te : TE) : TE := fun σ H Q => te σ H fun x H1 => ∃ (a C dx : Addr) (fs : List (Str × V)) (v : V), x = .ref a ∧ H1 a = some (exo a C (some dx)) ∧ H1 dx = some (exd dx fs) ∧ XfC K C ∧ findIn K (.ref C) f = some none ∧ fs.lookup f = some v ∧ Q v H1
theorem pe_xa (he : PE X e te) (hb : attributeBase e m X.env (eval e X.env) = eval e X.env := by rfl) : PE X (.Attribute e m pos) (tXa X.K m te) := by
  refine ⟨fun pins s σ H Q I h => ?_⟩
  refine attr_of hb (thn (he.run pins s σ H _ I h) fun u s1 hh => ?_)
  obtain ⟨x, H1, I1, rx, a, C, dx, fs, v, ex, ea, ed, T, hno, l, q⟩ := hh
  subst ex
  obtain rfl : u = Value.ref a := rx
  obtain ⟨t1, ho⟩ := exo_at I1.hok ea
  obtain ⟨mA, hns, hr⟩ := exd_at I1.hok ed
  obtain ⟨od, hod, hl⟩ := lookIn_ns hns
  obtain ⟨u, hu, ru⟩ := RelO.some_of (v := v) (o := mA m) (by rw [← l]; exact hr m)
  have J : PySem.W.InstAt s1.heap a { cls := .ref C, dict := some dx, data := .fields #[.ref t1, .none, .none, .none, .bool false, .none] } C (some od) := ⟨ho, rfl, rfl, hod⟩
  exact HandSPX.exc_get I1.kIn J T.ga T.gg T.exC (PySem.W.findObj_own T.hdC hno rfl (by rw [hl, hu])) (handed_of ru) ⟨v, H1, I1.tok _, ru, q⟩
theorem call_xv : CallR X (.builtin "isinstance") (fun xs H Q => ∃ (a C : Addr) (d : Option Addr) (fs : List (Str × V)) (c : V) (cv : Value) (b : Bool), xs = [.ref a, c] ∧ H a = some (exo a C d) ∧ (∀ dx, d = some dx → H dx = some (exd dx fs)) ∧ XqC X.K C ∧ ClsV c cv ∧ kitOne X.K (.ref C) cv = some b ∧ Q (.bl b) H) := by
  intro pins s σ H xs us Q I r h
  obtain ⟨a, C, d, fs, c, cv, b, rfl, ea, ed, T, hcv, e, q⟩ := h
  obtain ⟨t1, ho⟩ := exo_at I.hok ea
  obtain ⟨u1, u2, rfl, r1, r2⟩ := vals2 r
  cases (show u1 = Value.ref a from r1)
  have ec := hcv.eq r2
  subst ec
  have Z := fun od gt hgt => kitx_exc (K := X.K) (C := C) (x := a) (ox := ({ cls := .ref C, dict := d, data := .fields #[.ref t1, .none, .none, .none, .bool false, .none] } : Obj)) (od := od) (gt := gt) T.cl T.xf.ga hgt T.xf.exC T.ha T.hn T.ht T.hm
  cases d with
  | none =>
    have J : PySem.W.InstAt s.heap a { cls := .ref C, dict := none, data := .fields #[.ref t1, .none, .none, .none, .bool false, .none] } C none := ⟨ho, rfl, rfl, trivial⟩
    exact kia_one (Z none _ T.xf.gg) I.kIn J e (fun z => nomatch z) fun tk => ⟨.bl b, H, I.tok tk, rfl, q⟩
  | some dx =>
    obtain ⟨mA, hns, hr⟩ := exd_at I.hok (ed dx rfl)
    obtain ⟨od, hod, hl⟩ := lookIn_ns hns
    have J : PySem.W.InstAt s.heap a { cls := .ref C, dict := some dx, data := .fields #[.ref t1, .none, .none, .none, .bool false, .none] } C (some od) := ⟨ho, rfl, rfl, hod⟩
    exact kia_one (Z (some od) _ T.xf.gg) I.kIn J e (fun z => nomatch z) fun tk => ⟨.bl b, H, I.tok tk, rfl, q⟩
end
section
variable {P : Program} {w : World} {K : PySem.W.Frag} {mg : Str → Option Value} {base : Heap} {CX : CXT} {k n : Nat} {f C : Addr} {fd : FuncData} {ps ks ns : List Str} {sp : Sp} {ix : List Nat}
theorem fnK_pos (F : TS.FnOk P w K mg base CX k f fd ps sp) (hb : Binds K fd ps []) (hn : ps.length = n) : FnK P w K mg base CX k f n [] sp := by
  intro A outer s H us ws vs zs Q E hr e0 l1 l2 r rz h
  have hz : zs = [] := by cases zs with | nil => rfl | cons _ _ => cases l2
  subst hz
  cases rz
  rw [List.append_nil] at h
  have hl : (us ++ []).length = ps.length := by rw [List.append_nil, ← Paired.length r, l1, hn]
  exact F.run A outer s H ⟨us, []⟩ us vs Q E hr e0 (by
    have := hb s us (e0.mod.kin.keeps fun b o e => (e0.bs b o e).1) hl
    rwa [List.append_nil] at this) r h
def spXp (C : Addr) (ns : List Str) (ix : List Nat) : Sp := fun xs H Q E => match xs with
  | a :: zs => spX C ns (a :: ix.map fun j => zs.getD j .non) H Q E
  | [] => False
theorem fnK_xp (F : TS.FnOk P w K mg base CX k f fd ps (spX C ns)) (hb : KBn K fd ps 1 ks (pick 1 ix .none) (pick 1 ix .non)) : FnK P w K mg base CX k f 1 ks (spXp C ns ix) :=
  FnOk.kw F hb fun vs zs H Q E l1 l2 h => by
    match vs, l1 with
    | [a], _ => exact h
end
def fMkX (n k : Nat) (fa : FA) : FD := fun δ => (fa δ).bind fun ds δ1 => if ds.length = k then .ok (.ex n ds.reverse) δ1 else .bad
def fMkXK (n k : Nat) (ix : List Nat) (fa : FA) : FD := fun δ => (fa δ).bind fun ds δ1 => if ds.length = k then .ok (.ex n (ix.map fun j => ds.getD j .non).reverse) δ1 else .bad
def fMkX0 (n : Nat) : FD := fun δ => .ok (.ex n []) δ
def fXa (tab : Nat → Option Nat) (fe : FD) : FD := fun δ => (fe δ).bind fun d δ1 => match d with
  | .ex n vs => (match tab n with
    | some j => (match vs[j]? with
      | some u => .ok u δ1
      | none => .bad)
    | none => .bad)
  | _ => .bad
def fXisi (tab : Nat → Option Bool) (fe : FD) : FD := fun δ => (fe δ).bind fun d δ1 => match d with
  | .ex n _ => (match tab n with
    | some b => .ok (.bl b) δ1
    | none => .bad)
  | _ => .bad
section
variable {M : Gm} {c : Cn M} {F H : Hp} {σ : L2.St} {δ : Sl}
theorem Tb.two {F' H' : Hp} (t : Tb M F H) (hH : ∀ b o, H b = some o → H' b = some o) (hF : ∀ b o, H b = some o → F b = none → F' b = none) (hn : ∀ b ps, F' b ≠ some (.tbl ps)) : Tb M F' H' :=
  t.keep (fun b o e _ => hH b o e) (fun b o e _ z => hF b o e z) hn
theorem Ok.lay2 (ok : Ok c F H σ δ) {a dx : Addr} {u1 u2 : HO} (ha : H a = none) (hd : H dx = none) (hne : dx ≠ a) (n1 : ∀ ps, u1 ≠ .tbl ps) (n2 : ∀ ps, u2 ≠ .tbl ps) :
    Same F (upd (upd F a u1) dx u2) ∧ Ok c (upd (upd F a u1) dx u2) (upd (upd H a u1) dx u2) σ δ := by
  have fa := ok.f ha
  have fd := ok.f hd
  have g : Same F (upd (upd F a u1) dx u2) := fun b o q => by
    rw [upd_ne (ne_of_none q fd), upd_ne (ne_of_none q fa)]; exact q
  have hd2 : upd H a u1 dx = none := by rw [upd_ne hne]; exact hd
  have ok2 : Ok c F (upd (upd H a u1) dx u2) σ δ := (ok.alloc ha).alloc hd2
  refine ⟨g, ok2.froze g (fun b o q => ?_) (ok.tb.two (fun b o e => ?_) (fun b o e z => ?_) fun b ps z => ?_) (fun b h0 => ?_) fun i r a2 q1 q2 q3 => ?_⟩
  · by_cases h1 : b = dx
    · subst h1; rw [upd_same] at q ⊢; exact q
    · rw [upd_ne h1] at q ⊢
      by_cases h2 : b = a
      · subst h2; rw [upd_same] at q ⊢; exact q
      · rw [upd_ne h2] at q ⊢; exact ok.same b o q
  · rw [upd_ne (ne_of_none e hd), upd_ne (ne_of_none e ha)]; exact e
  · rw [upd_ne (ne_of_none e hd), upd_ne (ne_of_none e ha)]; exact z
  · by_cases h1 : b = dx
    · subst h1; rw [upd_same] at z; exact n2 ps (Option.some.inj z)
    · rw [upd_ne h1] at z
      by_cases h2 : b = a
      · subst h2; rw [upd_same] at z; exact n1 ps (Option.some.inj z)
      · rw [upd_ne h2] at z; exact ok.tb.nt b ps z
  · rw [upd_ne (fun z => h0 (by rw [z]; exact ok.h0 hd)), upd_ne (fun z => h0 (by rw [z]; exact ok.h0 ha))]
  · obtain ⟨b, o, e1, e2, e3, _⟩ := ok.mus q1 q2
    rw [q3] at e1
    cases e1
    have h1 : a2 ≠ dx := fun z => ok.fresh hd i r q1 q2 (by rw [q3, z])
    have h2 : a2 ≠ a := fun z => ok.fresh ha i r q1 q2 (by rw [q3, z])
    rw [upd_ne h1, upd_ne h2]; exact e2
theorem Ok.lay1 (ok : Ok c F H σ δ) {a : Addr} {u1 : HO} (ha : H a = none) (n1 : ∀ ps, u1 ≠ .tbl ps) : Same F (upd F a u1) ∧ Ok c (upd F a u1) (upd H a u1) σ δ := by
  have fa := ok.f ha
  have g : Same F (upd F a u1) := fun b o q => by
    rw [upd_ne (ne_of_none q fa)]; exact q
  refine ⟨g, (ok.alloc ha).froze g (fun b o q => ?_) (ok.tb.two (fun b o e => ?_) (fun b o e z => ?_) fun b ps z => ?_) (fun b h0 => ?_) fun i r a2 q1 q2 q3 => ?_⟩
  · by_cases h2 : b = a
    · subst h2; rw [upd_same] at q ⊢; exact q
    · rw [upd_ne h2] at q ⊢; exact ok.same b o q
  · rw [upd_ne (ne_of_none e ha)]; exact e
  · rw [upd_ne (ne_of_none e ha)]; exact z
  · by_cases h2 : b = a
    · subst h2; rw [upd_same] at z; exact n1 ps (Option.some.inj z)
    · rw [upd_ne h2] at z; exact ok.tb.nt b ps z
  · rw [upd_ne (fun z => h0 (by rw [z]; exact ok.h0 ha))]
  · obtain ⟨b, o, e1, e2, e3, _⟩ := ok.mus q1 q2
    rw [q3] at e1
    cases e1
    have h2 : a2 ≠ a := fun z => ok.fresh ha i r q1 q2 (by rw [q3, z])
    rw [upd_ne h2]; exact e2
theorem mkx_of {n : Nat} {C : Addr} {ns : List Str} {ds : List D} {vs : List V} {Q : VK} {E : XK} (ok : Ok c F H σ δ) (hG : M.G n = some C) (hnm : M.nm n = ns.reverse) (rr : reps M F ds vs) (hl : ds.length = ns.length)
    (post : ∀ v F' H', Same F F' → Ok c F' H' σ δ → rep M F' (.ex n ds.reverse) v → Q v H') : ∀ a, H a = none → spX C ns (V.ref a :: vs) (upd H a (exo a C none)) (fun v H2 => v = .non ∧ Q (.ref a) H2) E := fun a han => by
  have hvl := reps_length rr
  refine ⟨a, vs, rfl, by omega, upd_same, fun dx H2 hd hne k1 k2 k3 => ⟨rfl, ?_⟩⟩
  rw [upd_ne hne] at hd
  have eG : H2 = upd (upd H a (exo a C (some dx))) dx (exd dx (ns.zip vs).reverse) := by
    funext b
    by_cases hb : b = dx
    · rw [hb, upd_same, k2]
    · rw [upd_ne hb]
      by_cases hba : b = a
      · rw [hba, upd_same, k1]
      · rw [upd_ne hba, k3 b hba hb, upd_ne hba]
  obtain ⟨g, ok2⟩ := ok.lay2 (u1 := exo a C (some dx)) (u2 := exd dx (ns.zip vs).reverse) han hd hne (fun ps => exo_tbl) (fun ps z => by
    have z' : HO.ext _ = HO.tbl ps := z
    cases z')
  rw [eG]
  refine post _ _ _ g ok2 ?_
  unfold rep
  refine ⟨a, C, _, rfl, hG, ?_, ?_, .inr ⟨dx, by rw [upd_ne (Ne.symm hne), upd_same], upd_same⟩⟩
  · rw [hnm, List.map_reverse, List.map_fst_zip (by omega)]
  · rw [List.map_reverse, List.map_snd_zip (by omega)]
    exact reps_mono g _ _ (reps_reverse rr)
theorem reps_pk {ds : List D} {vs : List V} (h : reps M F ds vs) : ∀ ix : List Nat, reps M F (ix.map fun j => ds.getD j .non) (ix.map fun j => vs.getD j .non)
  | [] => reps_nil
  | j :: ix => reps_cons (reps_getD h j) (reps_pk h ix)
end
section
variable {M : Gm} {c : Cn M} {W : WX} {X : Cx} {e : Expr} {es : List Expr} {kws : List Keyword} {fa fk : FA} {fe : FD} {n k : Nat} {C : Addr} {ns : List Str} {pos p : Pos}
theorem di_mkx (hG : M.G n = some C) (hnm : M.nm n = ns.reverse) (hk : ns.length = k) (hk2 : k ≤ 1000) (mk : ∀ {t : TA}, PA X es t → PE X e (tMkV W C k 0 (spX C ns) t tNil)) (ha : DA M W X es fa) : DI M W X e (fMkX n k fa) := by
  obtain ⟨ta, pa, ha⟩ := ha
  refine ⟨_, mk pa, fun c F H σ δ Q ok post => ha c F H σ δ _ ok (Post.bind post fun ds δ1 vs F1 H1 _ s ok1 rr post => ?_)⟩
  split at post
  · rename_i hl
    refine ⟨by rw [reps_length rr]; exact hl, rfl, hk2, fun a han => ?_⟩
    rw [List.append_nil]
    exact mkx_of ok1 hG hnm rr (by omega) (fun v F' H' g o r => post v F' H' g o r) a han
  · exact post.elim
theorem di_mkxK {m : Nat} {ix : List Nat} (hG : M.G n = some C) (hnm : M.nm n = ns.reverse) (hk : ix.length = ns.length) (mk : ∀ {t : TA}, PK X kws t → PE X e (tMkV W C 0 m (spXp C ns ix) tNil t)) (ha : DKw M W X kws fk) : DI M W X e (fMkXK n m ix fk) := by
  obtain ⟨ta, pa, ha⟩ := ha
  refine ⟨_, mk pa, fun c F H σ δ Q ok post => ha c F H σ δ _ ok (Post.bind post fun ds δ1 vs F1 H1 _ s ok1 rr post => ?_)⟩
  split at post
  · rename_i hl
    refine ⟨rfl, by rw [reps_length rr]; exact hl, Nat.zero_le _, fun a han => ?_⟩
    exact mkx_of (E := WE W σ) ok1 hG hnm (reps_pk rr ix) (by rw [List.length_map]; exact hk) (fun v F' H' g o r => post v F' H' g o r) a han
  · exact post.elim
theorem di_mkx0 (hG : M.G n = some C) (hnm : M.nm n = []) (mk : PE X e (fun _ H Q => ∀ a, H a = none → Q (.ref a) (upd H a (exo a C none)))) : DI M W X e (fMkX0 n) := by
  refine ⟨_, mk, fun c F H σ δ Q ok post a han => ?_⟩
  obtain ⟨g, ok2⟩ := ok.lay1 (u1 := exo a C none) han (fun ps => exo_tbl)
  refine post _ _ _ g ok2 ?_
  show rep M _ (.ex n []) _
  unfold rep
  exact ⟨a, C, [], rfl, hG, by rw [hnm]; rfl, reps_nil, .inl ⟨rfl, upd_same⟩⟩
theorem di_xa {m : Str} {tab : Nat → Option Nat} (hT : ∀ k j C, tab k = some j → M.G k = some C → XqC X.K C ∧ findIn X.K (.ref C) m = some none ∧ (M.nm k)[j]? = some m ∧ m ∉ (M.nm k).take j) (he : DI M W X e fe) (hb : attributeBase e m X.env (eval e X.env) = eval e X.env := by rfl) :
    DI M W X (.Attribute e m pos) (fXa tab fe) := by
  obtain ⟨t, pp, h⟩ := he
  refine ⟨_, pe_xa pp hb, fun c F H σ δ Q ok post => h c F H σ δ _ ok (Post.bind post fun d δ1 v F1 H1 _ s ok1 r post => ?_)⟩
  split at post
  · rename_i k vs _
    split at post
    · rename_i j ej
      split at post
      · rename_i u eu
        have r : rep M F1 (.ex k vs) v := r
        unfold rep at r
        obtain ⟨a, C, fs, rfl, hG, e3, e4, hc⟩ := r
        obtain ⟨T, hno, hn, hnt⟩ := hT _ _ _ ej hG
        obtain ⟨v, l1, l2⟩ := reps_at e4 eu (by rw [e3]; exact hn) (by rw [e3]; exact hnt)
        rcases hc with ⟨z, _⟩ | ⟨dx, h1, h2⟩
        · subst z; cases l1
        · exact ⟨a, C, dx, fs, v, rfl, ok1.same _ _ h1, ok1.same _ _ h2, T.xf, hno, l1, post.ok ok1 l2⟩
      · exact post.elim
    · exact post.elim
  · exact post.elim
theorem di_xisi {c1 : Expr} {tab : Nat → Option Bool} {v : V} {u : Value} (hT : ∀ k b C, tab k = some b → M.G k = some C → XqC X.K C ∧ kitOne X.K (.ref C) u = some b) (hg : Gl X "isinstance") (hm : X.mg "isinstance" = none) (he : DI M W X e fe) (hc : PE X c1 (tC v)) (hv : ClsV v u)
    (hs : starEach [e, c1] X.env = (false, eval e X.env) :: starEach [c1] X.env := by rfl) (hs2 : starEach [c1] X.env = (false, eval c1 X.env) :: starEach [] X.env := by rfl) (hpl : (backTo pos (starEach [c1] X.env)).any (·.1) = false := by rfl) :
    DI M W X (.Call (.Name "isinstance" p) [e, c1] [] pos) (fXisi tab fe) := by
  obtain ⟨t, pp, h⟩ := he
  refine ⟨_, pe_callB call_xv hg hm bt_isinstance (pa_cons pp (pa_cons hc pa_nil hs2) hs) (by decide) (by decide) hs hpl, fun c F H σ δ Q ok post => h c F H σ δ _ ok (Post.bind post fun d δ1 x F1 H1 _ s ok1 r post => ?_)⟩
  split at post
  · rename_i k vs _
    split at post
    · rename_i b eb
      have r : rep M F1 (.ex k vs) x := r
      unfold rep at r
      obtain ⟨a, C, fs, rfl, hG, e3, e4, hcc⟩ := r
      obtain ⟨T, hk⟩ := hT _ _ _ eb hG
      rcases hcc with ⟨z, h1⟩ | ⟨dx, h1, h2⟩
      · exact ⟨a, C, none, [], v, u, b, rfl, ok1.same _ _ h1, (fun _ z => nomatch z), T, hv, hk, post.ok ok1 (rep_bl' _)⟩
      · exact ⟨a, C, some dx, fs, v, u, b, rfl, ok1.same _ _ h1, (fun _ z => by cases z; exact ok1.same _ _ h2), T, hv, hk, post.ok ok1 (rep_bl' _)⟩
    · exact post.elim
  · exact post.elim
end
def sTryP (gb : FS) (hs : XD → Option FS) : FS := fun δ => match gb δ with
  | .exc x δ1 => (match hs x with
    | some g => (match g δ1 with
      | .exc _ _ => .bad
      | r => r)
    | none => .exc x δ1)
  | r => r
section
variable {M : Gm} {X : Cx}
inductive ClB (M : Gm) (X : Cx) : List ExceptHandler → (XD → Option FS) → Prop
  | nil : ClB M X [] hNil
  | cons {x : Str} {C0 : Value} {tab : Nat → Option Bool} {g : FS} {b₀ : Stmt} {suite : List Stmt} {np pos' : Pos} {hds : List ExceptHandler} {hs : XD → Option FS} (hc : Names X x C0) (hT : ∀ k b C, tab k = some b → M.G k = some C → exmOne X.K (.ref C) C0 = some b)
      (hsu : ∀ (a : Addr) (oe : Obj) (pn : List (Addr × Obj)), DSs M WN (X.suite a ((a, oe) :: pn)) (b₀ :: suite) g) (r : ClB M X hds hs) :
      ClB M X (.ExceptHandler (some (.Name x np)) none (b₀ :: suite) pos' :: hds) (hCons tab (fun _ => g) hs)
theorem clB_ok {hds : List ExceptHandler} {hs : XD → Option FS} (h : ClB M X hds hs) : ∃ l, HdsOk X hds l ∧ ∀ (c : Cn M) (Wout : WX) (D : Ends) (x : XD) (δ1 : Sl) (cls : Value) (d : Option Addr) (F H : Hp) (σ : L2.St), Ok c F H σ δ1 → xAt M F x cls d H →
    (match hs x with
      | some g => PostS c Wout F (match g δ1 with | .exc _ _ => .bad | r => r) D
      | none => Wout cls d σ H) → wMany X.K Wout D l cls d σ H := by
  induction h with
  | nil => exact ⟨[], .nil, fun c Wout D x δ1 cls d F H σ ok xa k => k⟩
  | @cons x C0 tab g b₀ suite np pos' hds hs hc hT hsu r ih =>
    obtain ⟨l, hl, ih⟩ := ih
    refine ⟨(C0, fun a cls d D σ H => ∀ oe pn, (hsu a oe pn).choose D σ H) :: l, .cons hc (fun a oe cls d pn hz hf => ⟨fun pins s σ H D I h => ?_⟩) hl, fun c Wout D y δ1 cls d F H σ ok xa k => ?_⟩
    · exact (hsu a oe pn).choose_spec.1.run pins s σ H D I (h oe pn)
    · obtain ⟨C, e1, e2, e3⟩ := id xa
      unfold hCons at k
      cases q : tab y.c with
      | none =>
        rw [q] at k
        exact k.elim
      | some b =>
        refine ⟨b, by rw [e2]; exact hT _ _ _ q e1, fun hb a ha oe pn => ?_, fun hb => ?_⟩
        · subst hb
          rw [q] at k
          refine (hsu a oe pn).choose_spec.2 c F H σ δ1 D ok ?_
          cases w : g δ1 with
          | nx δ2 => simp only [w] at k; exact k
          | rt r δ2 => simp only [w] at k; exact k
          | bk δ2 => simp only [w] at k; exact k
          | ct δ2 => simp only [w] at k; exact k
          | exc z δ2 => simp only [w] at k; exact k.elim
          | bad => simp only [w] at k; exact k.elim
        · subst hb
          rw [q] at k
          exact ih c Wout D y δ1 cls d F H σ ok xa k
theorem ds_tryP {W : WX} {body : List Stmt} {h₀ : ExceptHandler} {hds : List ExceptHandler} {pos : Pos} {gb : FS} {hs : XD → Option FS} (hst : X.stack = X.env :: X.outer) (hf : X.env.frame = some X.env.locals) (tk : Takes X W)
    (hb : ∀ (W : WX) (pn : List (Addr × Obj)) (xe : Value → Shared → Prop), Takes (X.tr pn xe) W → PassesOwn (model X.prog X.w) X.A X.env xe → DSs M W (X.tr pn xe) body gb) (hh : ClB M X (h₀ :: hds) hs) : DS M W X (.Try body (h₀ :: hds) [] [] pos) (sTryP gb hs) := by
  obtain ⟨l, hl, key⟩ := clB_ok hh
  refine ⟨_, ps_try_many (tb := fun W D σ H => ∀ pn xe (h1 : Takes (X.tr pn xe) W) (h2 : PassesOwn (model X.prog X.w) X.A X.env xe), (hb W pn xe h1 h2).choose D σ H) hst hf tk (fun W pn xe h1 h2 => ⟨fun pins s σ H D I h => ?_⟩) hl, fun c F H σ δ E ok post pn xe h1 h2 => ?_⟩
  · exact (hb W pn xe h1 h2).choose_spec.1.run pins s σ H D I (h pn xe h1 h2)
  · refine (hb _ pn xe h1 h2).choose_spec.2 c F H σ δ E ok ?_
    unfold sTryP at post
    cases w : gb δ with
    | nx δ1 => rw [w] at post; exact post
    | rt r δ1 => rw [w] at post; exact post
    | bk δ1 => rw [w] at post; exact post
    | ct δ1 => rw [w] at post; exact post
    | bad => rw [w] at post; exact post
    | exc x δ1 =>
      rw [w] at post
      intro cls d F' H' σ' s ok' xa
      refine key c W E x δ1 cls d F' H' σ' ok' xa ?_
      have post : PostS c W F (match hs x with | some g => (match g δ1 with | .exc _ _ => .bad | r => r) | none => .exc x δ1) E := post
      cases v : hs x with
      | none => rw [v] at post; exact post cls d F' H' σ' s ok' xa
      | some g =>
        rw [v] at post
        exact PostS.shift post s
end
end
end TS

namespace TS
open PySem L2
noncomputable section
section
variable {α β : Type} (δ : Sl)
@[simp] theorem Res.bind_bad (k : α → Sl → Res β) : (Res.bad : Res α).bind k = .bad := rfl
@[simp] theorem Res.bindS_bad (k : α → Sl → SR) : (Res.bad : Res α).bindS k = .bad := rfl
@[simp] theorem SR.bind_bk (k : Sl → SR) : (SR.bk δ).bind k = .bk δ := rfl
@[simp] theorem SR.bind_ct (k : Sl → SR) : (SR.ct δ).bind k = .ct δ := rfl
@[simp] theorem SR.bind_bad (k : Sl → SR) : (SR.bad).bind k = .bad := rfl
@[simp] theorem ap_kD (d : D) : kD d δ = .ok d δ := id rfl
@[simp] theorem ap_toE (f : FD) : toE f δ = (f δ).bind fun d δ => .ok (.imm d) δ := id rfl
@[simp] theorem ap_frz (f : FE) : frz f δ = (f δ).bind fun r δ => match r with | .imm d => .ok d δ | .own o => .ok o.toD δ | .brw _ => .bad | .nst _ _ => .bad := id rfl
@[simp] theorem ap_fBin (g : D → D → Option R) (fa fb : FD) : fBin g fa fb δ = (fa δ).bind fun x δ1 => (fb δ1).bind fun y δ2 => match g x y with | some z => .ok z δ2 | none => .bad := id rfl
@[simp] theorem ap_fBinV (g : D → D → Option R) (i : Nat) (fb : FD) : fBinV g i fb δ = if there δ i then (fb δ).bind fun y δ1 => (vP i δ1).bind fun x δ2 => match g x y with | some z => .ok z δ2 | none => .bad else .bad := id rfl
@[simp] theorem ap_aNil : aNil δ = .ok [] δ := id rfl
@[simp] theorem ap_aCons (f : FD) (g : FA) : aCons f g δ = (f δ).bind fun d δ1 => (g δ1).bind fun ds δ2 => .ok (d :: ds) δ2 := id rfl
@[simp] theorem ap_aOne (f : FD) : aOne f δ = (f δ).bind fun d δ1 => .ok [d] δ1 := id rfl
@[simp] theorem ap_fCal (g : List D → Option R) (fa : FA) : fCal g fa δ = (fa δ).bind fun ds δ1 => match g ds with | some z => .ok z δ1 | none => .bad := id rfl
@[simp] theorem ap_fTst (f : FE) : fTst f δ = (f δ).bind fun r δ => match r with | .imm (.bl b) => .ok b δ | _ => .bad := id rfl
@[simp] theorem ap_fNot (f : FT) : fNot f δ = (f δ).bind fun b δ => .ok (!b) δ := id rfl
@[simp] theorem ap_fAnd (f g : FT) : fAnd f g δ = (f δ).bind fun b δ => if b then g δ else .ok false δ := id rfl
@[simp] theorem ap_fOr (f g : FT) : fOr f g δ = (f δ).bind fun b δ => if b then .ok true δ else g δ := id rfl
@[simp] theorem ap_fAndV (f : FD) (g : FE) : fAndV f g δ = (f δ).bind fun d δ => match d with | .bl true => g δ | .bl false => .ok (.imm (.bl false)) δ | _ => .bad := id rfl
@[simp] theorem ap_fOrV (f : FD) (g : FE) : fOrV f g δ = (f δ).bind fun d δ => match d with | .bl true => .ok (.imm (.bl true)) δ | .bl false => g δ | _ => .bad := id rfl
@[simp] theorem ap_fNotV (f : FD) : fNotV f δ = (f δ).bind fun d δ => match d with | .bl b => .ok (.bl (!b)) δ | _ => .bad := id rfl
@[simp] theorem ap_fIfE (f : FT) (g h : FE) : fIfE f g h δ = (f δ).bind fun b δ => if b then g δ else h δ := id rfl
@[simp] theorem ap_fLst (fa : FA) : fLst fa δ = (fa δ).bind fun ds δ => if ds.length ≤ 16777216 then .ok (.own (.l ds)) δ else .bad := id rfl
@[simp] theorem ap_fTup (fa : FA) : fTup fa δ = (fa δ).bind fun ds δ => if ds.length ≤ 16777216 then .ok (.tup ds) δ else .bad := id rfl
@[simp] theorem ap_fSl (fe : FD) (fl fh : FO) : fSl fe fl fh δ = (fe δ).bind fun d δ => (fl δ).bind fun lo δ => (fh δ).bind fun hi δ => match gSl d lo hi with | some r => .ok r δ | none => .bad := id rfl
@[simp] theorem ap_oNone : oNone δ = .ok none δ := id rfl
@[simp] theorem ap_oSome (f : FD) : oSome f δ = (f δ).bind fun d δ => match d with | .int i => .ok (some i) δ | _ => .bad := id rfl
@[simp] theorem ap_fUnI (g : Int → Int) (fe : FD) : fUnI g fe δ = (fe δ).bind fun d δ => match d with | .int i => .ok (.int (g i)) δ | _ => .bad := id rfl
@[simp] theorem ap_fOwn (f : Fm) (fa : FA) : fOwn f fa δ = (fa δ).bind fun ds δ1 => outE (f none ds) δ1 := id rfl
@[simp] theorem outE_ok (r : R) (io : Option OB) : outE (.ok r io) δ = .ok r δ := rfl
@[simp] theorem ap_sSeq (f g : FS) : sSeq f g δ = (f δ).bind g := id rfl
@[simp] theorem ap_sNil : sNil δ = .nx δ := id rfl
@[simp] theorem ap_sRet (f : FE) : sRet f δ = (f δ).bindS fun r δ1 => .rt r δ1 := id rfl
@[simp] theorem ap_sExpr (f : FE) : sExpr f δ = (f δ).bindS fun _ δ1 => .nx δ1 := id rfl
@[simp] theorem ap_sIf (t : FT) (f g : FS) : sIf t f g δ = (t δ).bindS fun b δ1 => if b then f δ1 else g δ1 := id rfl
@[simp] theorem ap_sAsg (f : FE) (h : R → Sl → SR) : sAsg f h δ = (f δ).bindS h := id rfl
@[simp] theorem ap_tNameI (i : Nat) (d : D) : tName i (.imm d) δ = .nx (δ.set i (some (.imm d))) := id rfl
@[simp] theorem ap_tNameO (i : Nat) (d : OB) : tName i (.own d) δ = .nx (δ.set i (some (.own d))) := id rfl
@[simp] theorem ap_tsNil : tsNil [] δ = .nx δ := id rfl
@[simp] theorem ap_tsCons (h : R → Sl → SR) (hs : List D → Sl → SR) (d : D) (ds : List D) : tsCons h hs (d :: ds) δ = (h (.imm d) δ).bind (hs ds) := id rfl
@[simp] theorem ap_tTup (n : Nat) (hs : List D → Sl → SR) (ds : List D) : tTup n hs (.imm (.tup ds)) δ = if ds.length = n then hs ds δ else .bad := id rfl
@[simp] theorem ap_sFor (fi : FA) (tg : R → Sl → SR) (body : FS) : sFor fi tg body δ = (fi δ).bindS fun ds δ1 => forL tg body ds δ1 := id rfl
@[simp] theorem ap_itSeq (f : FD) : itSeq f δ = (f δ).bind fun d δ => match d with | .lst ds => .ok ds δ | _ => .bad := id rfl
@[simp] theorem ap_itTup (f : FD) : itTup f δ = (f δ).bind fun d δ => match d with | .tup ds => .ok ds δ | .ktp ns => .ok (ns.map D.int) δ | _ => .bad := id rfl
@[simp] theorem ap_itEnum (f : FD) : itEnum f δ = (f δ).bind fun d δ => match d with | .lst ds => .ok (enumD 0 ds) δ | _ => .bad := id rfl
@[simp] theorem ap_sPar (i j : Nat) (f g : FE) : sPar i j f g δ = (f δ).bindS fun r δ1 => match r with | .brw _ => .bad | .nst _ _ => .bad | r => (g δ1).bindS fun r' δ2 => match r' with | .brw _ => .bad | .nst _ _ => .bad | r' => .nx ((δ2.set i (some r)).set j (some r')) := id rfl
@[simp] theorem ap_fFld (ix : Nat → Option Nat) (fo : FD) : fFld ix fo δ = (fo δ).bind fun d δ1 => match d with | .obj n vs => (match ix n with | some j => (match vs[j]? with | some d => .ok d δ1 | none => .bad) | none => .bad) | _ => .bad := id rfl
@[simp] theorem ap_fMeth (tab : Nat → Option Fm) (fo : FD) (fa : FA) : fMeth tab fo fa δ = (fo δ).bind fun d δ1 => match d with | .obj n vs => (match tab n with | some f => (fa δ1).bind fun ds δ2 => outE (f none (.obj n vs :: ds)) δ2 | none => .bad) | _ => .bad := id rfl
@[simp] theorem ap_fIsi (tab : Tg → Option Bool) (fe : FD) : fIsi tab fe δ = (fe δ).bind fun d δ => match tagD d with | some t => (match tab t with | some b => .ok (.bl b) δ | none => .bad) | none => .bad := id rfl
@[simp] theorem ap_vI (i : Nat) : vI i δ = match δ[i]? with | some (some (.imm d)) => .ok d δ | some (some (.own o)) => .ok o.toD (δ.set i (some (.imm o.toD))) | _ => .bad := id rfl
@[simp] theorem ap_vP (i : Nat) : vP i δ = match δ[i]? with | some (some (.imm d)) => .ok d δ | some (some (.own o)) => .ok o.toD δ | some (some (.brw o)) => .ok o.toD δ | _ => .bad := id rfl
@[simp] theorem ap_vR (i : Nat) : vR i δ = match δ[i]? with | some (some (.imm d)) => .ok (.imm d) δ | some (some (.own o)) => .ok (.own o) (δ.set i none) | _ => .bad := id rfl
@[simp] theorem ap_there (i : Nat) : there δ i = match δ[i]? with | some (some _) => true | _ => false := id rfl
@[simp] theorem ap_tSub (x : Nat) (fi : FD) (d : D) : tSub x fi (.imm d) δ = match δ[x]? with | some (some r0) => if r0.mu then (fi δ).bindS fun i δ1 => match δ1[x]? with | some (some (.own o)) => (match setOB o i d with | some o' => .nx (δ1.set x (some (.own o'))) | none => .bad) | some (some (.brw o)) => (match setOB o i d with | some o' => .nx (δ1.set x (some (.brw o'))) | none => .bad) | _ => .bad else .bad | _ => .bad := id rfl
end
@[simp] theorem ap_tLstI (n : Nat) (hs : List D → Sl → SR) (ds : List D) (δ : Sl) : tLst n hs (.imm (.lst ds)) δ = if ds.length = n then hs ds δ else .bad := id rfl
@[simp] theorem ap_tLstO (n : Nat) (hs : List D → Sl → SR) (ds : List D) (δ : Sl) : tLst n hs (.own (.l ds)) δ = if ds.length = n then hs ds δ else .bad := id rfl
@[simp] theorem ap_fMethK (tab : Nat → Option Fm) (n l : Nat) (fo : FD) (fa fk : FA) (δ : Sl) : fMethK tab n l fo fa fk δ = (fo δ).bind fun d δ1 => match d with
  | .obj c vs => (match tab c with
    | some f => (fa δ1).bind fun ds δ2 => (fk δ2).bind fun es δ3 => if ds.length = n ∧ es.length = l then outE (f none (.obj c vs :: (ds ++ es))) δ3 else .bad
    | none => .bad)
  | _ => .bad := id rfl
@[simp] theorem ap_fBinO (tab : Nat → Option Fm) (fa fb : FD) (δ : Sl) : fBinO tab fa fb δ = (fa δ).bind fun x δ1 => (fb δ1).bind fun y δ2 => match x, y with
  | .obj n vs, .obj m ws => if n = m then (match tab n with
    | some f => outO (f none [.obj n vs, .obj m ws]) δ2
    | none => .bad) else .bad
  | _, _ => .bad := id rfl
@[simp] theorem outO_own (o : OB) (io : Option OB) (δ : Sl) : outO (.ok (.own o) io) δ = .ok (.own o) δ := rfl
@[simp] theorem ap_sPar3 (i j l : Nat) (fa : FA) (δ : Sl) : sPar3 i j l fa δ = (fa δ).bindS fun ds δ1 => match ds with | [a, b, c] => .nx (((δ1.set i (some (.imm a))).set j (some (.imm b))).set l (some (.imm c))) | _ => .bad := id rfl
@[simp] theorem ap_fOwnP (f : Fm) (fa : FA) (δ : Sl) : fOwnP f fa δ = (fa δ).bind fun ds δ1 => if ds.any D.dic then .bad else outP (f none ds) δ1 := id rfl
@[simp] theorem dic_lst (xs : List D) : D.dic (.lst xs) = false := rfl
@[simp] theorem dic_tup (xs : List D) : D.dic (.tup xs) = false := rfl
@[simp] theorem dic_scr (xs : List D) : D.dic (.scr xs) = false := rfl
@[simp] theorem dic_int (x : Int) : D.dic (.int x) = false := rfl
@[simp] theorem dic_str (x : Str) : D.dic (.str x) = false := rfl
@[simp] theorem dic_bl (x : Bool) : D.dic (.bl x) = false := rfl
@[simp] theorem dic_non : D.dic .non = false := rfl
@[simp] theorem dic_obj (c : Nat) (xs : List D) : D.dic (.obj c xs) = false := rfl
@[simp] theorem dic_cls (c : Nat) : D.dic (.cls c) = false := rfl
@[simp] theorem dic_dK (ks : List Key) (ds : List D) : D.dic (.dK ks ds) = true := rfl
@[simp] theorem dic_dT (ks : List (List Key)) (ds : List D) : D.dic (.dT ks ds) = true := rfl
@[simp] theorem outP_ok (r : R) (io : Option OB) (δ : Sl) : outP (.ok r io) δ = if flatR r then .ok r δ else .bad := rfl
@[simp] theorem flat_bl (b : Bool) : flatR (.imm (.bl b)) = true := rfl
@[simp] theorem flat_int (b : Int) : flatR (.imm (.int b)) = true := rfl
@[simp] theorem flat_non : flatR (.imm .non) = true := rfl
@[simp] theorem flat_str (x : Str) : flatR (.imm (.str x)) = true := rfl
@[simp] theorem mu_own (o : OB) : (R.own o).mu = true := rfl
@[simp] theorem mu_brw (o : OB) : (R.brw o).mu = true := rfl
@[simp] theorem mu_imm (d : D) : (R.imm d).mu = false := rfl
@[simp] theorem toD_l (xs : List D) : (OB.l xs).toD = .lst xs := rfl
@[simp] theorem toD_o (n : Nat) (xs : List D) : (OB.o n xs).toD = .obj n xs := rfl
@[simp] theorem gAdd_i (i j : Int) : gAdd (.int i) (.int j) = some (.imm (.int (i + j))) := rfl
@[simp] theorem gSub_i (i j : Int) : gSub (.int i) (.int j) = some (.imm (.int (i - j))) := rfl
@[simp] theorem gLt_i (i j : Int) : gLt (.int i) (.int j) = some (.imm (.bl (decide (i < j)))) := rfl
@[simp] theorem gLe_i (i j : Int) : gLe (.int i) (.int j) = some (.imm (.bl (decide (i ≤ j)))) := rfl
@[simp] theorem gGt_i (i j : Int) : gGt (.int i) (.int j) = some (.imm (.bl (decide (j < i)))) := rfl
@[simp] theorem gGe_i (i j : Int) : gGe (.int i) (.int j) = some (.imm (.bl (decide (j ≤ i)))) := rfl
theorem eqvI (i j : Int) : PyData.eqv (.int i) (.int j) = decide (i = j) := by
  by_cases h : i = j
  · subst h; simp [PyData.eqv]
  · simp [PyData.eqv, h]
theorem shapedI (i : Int) : SeqAt.shaped (.int i) = true := by
  first | rfl | (unfold SeqAt.shaped; simp [PyData.canLay0, PyData.depth])
@[simp] theorem gEq_i (i j : Int) : gEq (.int i) (.int j) = some (.imm (.bl (decide (i = j)))) := by
  simp [gEq, toP, eqvI, shapedI]
@[simp] theorem gNe_i (i j : Int) : gNe (.int i) (.int j) = some (.imm (.bl (!decide (i = j)))) := by
  simp [gNe, toP, eqvI, shapedI]
theorem gMod_i {i j : Int} (h : 0 < j) : gMod (.int i) (.int j) = some (.imm (.int (i % j))) := by
  simp [gI, CModB, h]
theorem log2_lt {n k : Nat} (h : n < 2 ^ k) (hk : 0 < k) : n.log2 < k := by
  by_cases h0 : n = 0
  · subst h0; simpa using hk
  · exact (Nat.log2_lt h0).mpr h
theorem gFdiv_i {i j : Int} (h : 0 < j) (h2 : j.natAbs < 2 ^ 255) : gFdiv (.int i) (.int j) = some (.imm (.int (i / j))) := by
  have := log2_lt h2 (by decide)
  have e : CDivB i j = true := gd_true ⟨h, by omega⟩
  simp [gFdiv, gOr, gI, e]
theorem gMul_i {i j : Int} (h : i.natAbs < 2 ^ 255) (h2 : j.natAbs < 2 ^ 255) : gMul (.int i) (.int j) = some (.imm (.int (i * j))) := by
  have h1 := log2_lt h (by decide)
  have h3 := log2_lt h2 (by decide)
  have e : CMulB i j = true := gd_true (by omega)
  simp [gMul, gOr, gI, e]
theorem gPow_i {i j : Int} (h : 0 ≤ j) (h2 : j ≤ 1000000) (h3 : i.natAbs < 18446744073709551616) : gPow (.int i) (.int j) = some (.imm (.int (i ^ j.toNat))) := by
  have e : CPowB i j = true := gd_true ⟨h, h2, h3⟩
  simp [gI, e]
@[simp] theorem gInt_i (i : Int) : gInt [.int i] = some (.imm (.int i)) := rfl
@[simp] theorem gAbs_i (i : Int) : gAbs [.int i] = some (.imm (.int (if i < 0 then -i else i))) := rfl
@[simp] theorem gLen_l (xs : List D) : gLen [.lst xs] = some (.imm (.int xs.length)) := rfl
@[simp] theorem gLen_s (xs : List D) : gLen [.scr xs] = some (.imm (.int xs.length)) := rfl
theorem gDivmod_i {i j : Int} (h : 0 < j) (h2 : j.natAbs < 2 ^ 255) : gDivmod [.int i, .int j] = some (.imm (.tup [.int (i / j), .int (i % j)])) := by
  have := log2_lt h2 (by decide)
  have e : decide (0 < j ∧ j.natAbs.log2 < 9000) = true := decide_eq_true ⟨h, by omega⟩
  simp only [gDivmod, e, if_true]
@[simp] theorem gIx_l (xs : List D) (i : Int) : gIx (.lst xs) (.int i) = (atI xs i).map .imm := rfl
section
open PySem.Spec PyProof.Rows
variable {P : Program} {w : World} {K : PySem.W.Frag} {mg mb : Str → Option Value} {CX : CXT} {k : Nat} {fa a : Addr} {fd : FuncData} {x : Str} {sp : Sp} {s1 : Shared} {vs : List Value} {ns : List Int}
end
theorem noCX {P : Program} {w : World} {H : Hp} {s : Shared} {e : Value} {s' : Shared} (h : L2.CX P w [] H s (fun _ _ _ => False) e s') : False := by
  obtain ⟨_, _, _, _, _, _, _, _, _, _, _, _, z⟩ := h
  exact z
end
end TS

namespace TS
open PySem L2
noncomputable section
section
open PySem.Spec PyProof.Rows
variable {P : Program} {w : World} {K : PySem.W.Frag} {mg mb : Str → Option Value} {CX : CXT} {k : Nat} {fa a : Addr} {cs : List (Addr × Addr)} {fd : FuncData} {x : Str} {sp : Sp} {s1 : Shared} {vs : List Value} {ns : List Int}
theorem law_coreT (KX : K.In s1.heap) (hns : s1.heap.Ns mainGlobals mg) (hb : s1.heap.Ns builtinsNs mb) (hbb : ∀ y : Str, y ≠ "__name__" → mb y = bootBuiltins y) (hlim : s1.heap.NoLimit) (hg : s1.gens = #[])
    (hT : ∀ p ∈ cs, s1.heap.get? p.2 = some (PySem.W.tabObj #[])) (nT : ∀ p ∈ cs, K.lookup p.2 = none) (C : ∀ p ∈ cs, PySem.W.CodeHd s1.heap p.1 p.2)
    (hbm : ∃ (bm : Addr) (ob : Obj), mg "__builtins__" = some (.ref bm) ∧ bm ≠ builtinsNs ∧ s1.heap.get? bm = some ob ∧ ob.cls = .type "module" ∧ ob.dict = some builtinsNs ∧ ob.data = .plain)
    (ha : s1.heap.get? a = some { cls := .type "list", data := .seq vs.toArray }) (hr : Room k callerA) (F : ∀ base : Heap, K.In base → base.Ns mainGlobals mg → (∀ p ∈ cs, LamX.TabB base mg p.1 p.2) → FnOk P w K mg base CX k fa fd [x] sp)
    (hbind : ∀ (s : Shared) (u : Value), BindsTo s fd ⟨[u], []⟩ [(x, u)]) (hCX : ∀ H e s', CX [] H s1 (fun _ _ _ => False) e s' → False)
    {H : Hp} (hH : ∀ p ∈ cs, H p.2 = some (.tbl #[])) (hO : ∀ b, H b = none ∨ (∃ p ∈ cs, p.2 = b) ∨ ∃ o xs, H b = some (.frz o (.lst xs))) (hsp : sp [.ref a] H (fun v _ => v = .bl true) fun _ _ _ => False) (hok : HOk P w H s1.heap) (hA : ∀ b, H b ≠ none → b = a ∨ ∃ p ∈ cs, p.2 = b) (hK : H a ≠ none → K.lookup a = none) :
    codeAny (model P w) callerA (.call (.ref fa) ⟨[.ref a], []⟩) (fun r s' => r = .ok (.ret (.bool true)) ∧ OldK s1.heap s'.heap ∧ s'.os = s1.os ∧ AllBare s'.gens) s1 := by
  -- neither the script nor a table
  have off : ∀ {b : Addr} {o : Obj}, s1.heap.get? b = some o → (∀ us n, o.data ≠ .seq us n) → o.data ≠ .fields #[] → H b = none := by
    intro b o e d1 d2
    rcases Option.eq_none_or_eq_some (H b) with q | ⟨u, q⟩
    · exact q
    · rcases hA b (by rw [q]; exact fun z => nomatch z) with z | ⟨p, hp, z⟩
      · subst z; rw [ha] at e; cases e; exact (d1 _ _ rfl).elim
      · subst z; rw [hT p hp] at e; cases e; exact (d2 rfl).elim
  have dictN : ∀ {b : Addr} {o : Obj} {es : Array DictEntry} {ep : Nat}, s1.heap.get? b = some o → o.data = .dict es ep → H b = none := fun e d => off e (fun us n z => by rw [d] at z; cases z) (fun z => by rw [d] at z; cases z)
  have nsH : ∀ {b : Addr} {m : Str → Option Value}, s1.heap.Ns b m → (hidT s1.heap H).Ns b m := by
    rintro b m ⟨o, es, ep, e, d, r⟩
    exact ⟨o, es, ep, hidT_get e (dictN e d), d, r⟩
  have kinH : K.In (hidT s1.heap H) := by
    intro b o e
    refine hidT_get (KX b o e) ?_
    rcases Option.eq_none_or_eq_some (H b) with q | ⟨u, q⟩
    · exact q
    · rcases hA b (by rw [q]; exact fun z => nomatch z) with z | ⟨p, hp, z⟩
      · subst z
        rw [hK (by rw [q]; exact fun z => nomatch z)] at e
        cases e
      · subst z; rw [nT p hp] at e; cases e
  obtain ⟨mc, c1, c2⟩ := hlim
  have hmod : Mod K mg (hidT s1.heap H) := ⟨kinH, nsH hns, ⟨mb, nsH hb, hbb⟩, ⟨mc, nsH c1, c2⟩⟩
  have tabs : ∀ p ∈ cs, LamX.TabB (hidT s1.heap H) mg p.1 p.2 := by
    intro p hp
    obtain ⟨o, us, fl, tf, fg, tg, iF, tx, tt, e1, r1, r2, r3, rr⟩ := C p hp
    obtain ⟨bm, ob, b1, b2, b3, b4, b5, b6⟩ := hbm
    have hTp := hT p hp
    refine ⟨⟨o, us, fl, tf, fg, tg, iF, tx, tt, hidT_get e1 (off e1 (fun vs n z => ?_) fun z => ?_), r1, r2, r3, rr⟩, ⟨bm, ob, b1, b2, fun z => ?_, fun z => ?_, hidT_get b3 (off b3 (fun vs n z => ?_) fun z => ?_), b4, b5, b6⟩, fun z => ?_⟩
    · rw [r2] at z; cases z
    · rw [r2] at z; cases z; simp at r3
    · obtain ⟨o2, es, ep, e, hd, _⟩ := hns
      rw [z, e] at b3; cases b3
      rw [hd] at b6; cases b6
    · rw [z, hTp] at b3; cases b3; cases b6
    · rw [b6] at z; cases z
    · rw [b6] at z; cases z
    · obtain ⟨o2, es, ep, e, hd, _⟩ := hns
      rw [z, hTp] at e; cases e; cases hd
  have env : Env0 P w K mg (hidT s1.heap H) callerA [] s1 H := ⟨rfl, hmod, fun _ _ e => of_hidT e, Nat.le_of_eq (hidT_size _ _), trivial, fun b z => absurd z (List.not_mem_nil (a := b)), hok, .of_eq hg⟩
  have run := (F _ kinH (nsH hns) tabs).run callerA [] s1 H ⟨[.ref a], []⟩ [.ref a] [.ref a] _ _ hr env (hbind s1 (.ref a)) (.cons rfl .nil) hsp
  refine codeAny_mono run ?_
  rintro (e | fl) s' z
  · exact (hCX H e s' z).elim
  · cases fl with
    | next => exact z.elim
    | brk => exact z.elim
    | cont => exact z.elim
    | ret u =>
      obtain ⟨v, H2, hos, hbare, un, hok2, rv, ev⟩ := z
      have ev : v = .bl true := ev
      rw [ev] at rv
      cases (show u = Value.bool true from rv)
      have more : ∀ p ∈ cs, ∃ ps : Array Value, s'.heap.get? p.2 = some (PySem.W.tabObj ps) := fun p hp => by
        obtain ⟨ps, q⟩ := un.tbls p.2 #[] (hH p hp)
        exact ⟨_, hok2 p.2 _ q⟩
      have same : ∀ b o, (¬ ∃ p ∈ cs, p.2 = b) → s1.heap.get? b = some o → s'.heap.get? b = some o := fun b o nb e => by
        rcases Option.eq_none_or_eq_some (H b) with q | ⟨u, q⟩
        · exact un.keep b o e q (fun z => absurd z (List.not_mem_nil (a := b))) (fun z => by simp at z)
        · rcases hO b with z | z | ⟨ob, xs, z⟩
          · rw [q] at z; cases z
          · exact absurd z nb
          · have t1 := (hok b _ z).1
            have t2 := (hok2 b _ (un.frzs b ob _ z)).1
            rw [e] at t1
            cases t1
            exact t2
      refine ⟨rfl, ⟨fun b o e => ?_, fun b o e => ?_⟩, hos, hbare⟩
      · by_cases hb : ∃ p ∈ cs, p.2 = b
        · obtain ⟨p, hp, z⟩ := hb
          subst z
          obtain ⟨ps, q⟩ := more p hp
          rw [hT p hp] at e
          cases e
          exact .inr (.inl ⟨((C p hp).tab (hT p hp)).isCodeTable, rfl, #[], ps, rfl, by rw [Array.empty_append]; exact q⟩)
        · exact .inl (same b o hb e)
      · by_cases hb : ∃ p ∈ cs, p.2 = b
        · obtain ⟨p, hp, z⟩ := hb
          subst z
          obtain ⟨ps, q⟩ := more p hp
          exact ⟨_, q⟩
        · exact ⟨o, same b o hb e⟩
open Classical in
theorem law_runT (KX : K.In s1.heap) (hns : s1.heap.Ns mainGlobals mg) (hb : s1.heap.Ns builtinsNs mb) (hbb : ∀ y : Str, y ≠ "__name__" → mb y = bootBuiltins y) (hlim : s1.heap.NoLimit) (hg : s1.gens = #[])
    (hT : ∀ p ∈ cs, s1.heap.get? p.2 = some (PySem.W.tabObj #[])) (nT : ∀ p ∈ cs, K.lookup p.2 = none) (C : ∀ p ∈ cs, PySem.W.CodeHd s1.heap p.1 p.2)
    (hbm : ∃ (bm : Addr) (ob : Obj), mg "__builtins__" = some (.ref bm) ∧ bm ≠ builtinsNs ∧ s1.heap.get? bm = some ob ∧ ob.cls = .type "module" ∧ ob.dict = some builtinsNs ∧ ob.data = .plain)
    (ha : s1.heap.get? a = some { cls := .type "list", data := .seq vs.toArray }) (hi : IntsAre vs ns) (hl : ns.length ≤ sizeLine) (hr : Room k callerA) (F : ∀ base : Heap, K.In base → base.Ns mainGlobals mg → (∀ p ∈ cs, LamX.TabB base mg p.1 p.2) → FnOk P w K mg base CX k fa fd [x] sp)
    (hbind : ∀ (s : Shared) (u : Value), BindsTo s fd ⟨[u], []⟩ [(x, u)])
    (hsp : ∀ H : Hp, (∀ p ∈ cs, H p.2 = some (.tbl #[])) → SqL K H a (ns.map V.int) → sp [.ref a] H (fun v _ => v = .bl true) fun _ _ _ => False) (hCX : ∀ H e s', CX [] H s1 (fun _ _ _ => False) e s' → False) :
    codeAny (model P w) callerA (.call (.ref fa) ⟨[.ref a], []⟩) (fun r s' => r = .ok (.ret (.bool true)) ∧ OldK s1.heap s'.heap ∧ s'.os = s1.os ∧ AllBare s'.gens) s1 := by
  have rv := vals_ints hi
  have lv := hi.length
  have nTa : ¬ ∃ p ∈ cs, p.2 = a := by
    rintro ⟨p, hp, z⟩
    have q := hT p hp
    rw [z, ha] at q
    cases (show Data.seq vs.toArray _ = Data.fields #[] from congrArg Obj.data (Option.some.inj q))
  let base : Hp := fun b => if ∃ p ∈ cs, p.2 = b then some (.tbl #[]) else none
  have bT : ∀ p ∈ cs, base p.2 = some (.tbl #[]) := fun p hp => if_pos ⟨p, hp, rfl⟩
  have bN : ∀ b, (¬ ∃ p ∈ cs, p.2 = b) → base b = none := fun b h => if_neg h
  have bO : ∀ b u, base b = some u → (∃ p ∈ cs, p.2 = b) ∧ u = .tbl #[] := fun b u e => by
    by_cases h : ∃ p ∈ cs, p.2 = b
    · rw [show base b = some (.tbl #[]) from if_pos h] at e
      exact ⟨h, (Option.some.inj e).symm⟩
    · rw [bN b h] at e; cases e
  have bok : ∀ b u, base b = some u → ObjOk P w base s1.heap b u := fun b u e => by
    obtain ⟨⟨p, hp, z⟩, rfl⟩ := bO b u e
    subst z
    exact hT p hp
  rcases Option.eq_none_or_eq_some (K.lookup a) with hk | ⟨o, hk⟩
  · let ho : HO := .frz { cls := .type "list", data := .seq vs.toArray } (.lst (ns.map V.int))
    have hH : (upd base a ho) a = some ho := upd_same
    have hn : ∀ b, b ≠ a → (upd base a ho) b = base b := fun b z => upd_ne z
    have hp2 : ∀ p ∈ cs, p.2 ≠ a := fun p hp z => nTa ⟨p, hp, z⟩
    refine law_coreT KX hns hb hbb hlim hg hT nT C hbm ha hr F hbind hCX (H := upd base a ho) (fun p hp => by rw [hn _ (hp2 p hp)]; exact bT p hp) (fun b => ?_) (hsp _ (fun p hp => by rw [hn _ (hp2 p hp)]; exact bT p hp) (.inl (.inr ⟨_, hH⟩))) ?_ (fun b z => ?_) fun _ => hk
    · by_cases z : b = a
      · exact .inr (.inr ⟨_, _, by rw [z]; exact hH⟩)
      · by_cases y : ∃ p ∈ cs, p.2 = b
        · exact .inr (.inl y)
        · exact .inl (by rw [hn b z]; exact bN b y)
    · intro b u z
      by_cases y : b = a
      · subst y
        rw [hH] at z
        cases z
        exact ⟨ha, by rw [List.length_map]; exact hl, vs, _, rv, ha⟩
      · rw [hn b y] at z
        obtain ⟨⟨p, hp, q⟩, rfl⟩ := bO b u z
        subst q
        exact hT p hp
    · by_cases y : b = a
      · exact .inl y
      · rw [hn b y] at z
        refine .inr (Classical.byContradiction fun q => z (bN b q))
  · have e := KX a o hk
    rw [ha] at e
    cases e
    have sq : SqL K base a (ns.map V.int) := .inr ⟨_, vs.toArray, _, hk, rfl, rfl, rfl, by rw [List.size_toArray, lv]; exact hl, by simpa using rv⟩
    refine law_coreT KX hns hb hbb hlim hg hT nT C hbm ha hr F hbind hCX (H := base) bT (fun b => ?_) (hsp _ bT sq) bok (fun b z => .inr (Classical.byContradiction fun q => z (bN b q))) fun z => absurd (bN a nTa) z
    by_cases y : ∃ p ∈ cs, p.2 = b
    · exact .inr (.inl y)
    · exact .inl (bN b y)
end
theorem walk_ofT {l : PySem.W.OpenLaw} {n k : Nat} {q : Program} {loose : List Str} {XP : (Str → Option Value) → Heap → Prop} {YP : World → Heap → Prop} {d : DefRec} {CX : World → CXT} {x : Str}
    (hn : l.most = some n) (hn2 : n ≤ sizeLine) (hdf : d.params.defaults = []) (hr : Room k callerA)
    (F : ∀ (w : World) (mg : Str → Option Value) (fa : Addr) (h : Heap), YP w h → h.Ns mainGlobals mg → mg d.name = some (.ref fa) →
      ∃ (K : PySem.W.Frag) (cs : List (Addr × Addr)) (fd : FuncData) (sp : Sp), K.In h ∧ (∀ p ∈ cs, h.get? p.2 = some (PySem.W.tabObj #[])) ∧ (∀ p ∈ cs, K.lookup p.2 = none) ∧ (∀ p ∈ cs, PySem.W.CodeHd h p.1 p.2) ∧ (∀ (s : Shared) (u : Value), BindsTo s fd ⟨[u], []⟩ [(x, u)]) ∧
        (∀ (H : Hp) (a : Addr) (ns : List Int), ns.length ≤ n → (∀ p ∈ cs, H p.2 = some (.tbl #[])) → SqL K H a (ns.map V.int) → sp [.ref a] H (fun v _ => v = .bl true) fun _ _ _ => False) ∧
        ∀ base : Heap, K.In base → base.Ns mainGlobals mg → (∀ p ∈ cs, LamX.TabB base mg p.1 p.2) → FnOk l.prog w K mg base (CX w) k fa fd [x] sp)
    (hCX : ∀ (w : World) (H : Hp) (s : Shared) (e : Value) (s' : Shared), CX w [] H s (fun _ _ _ => False) e s' → False) :
    PySem.W.WalkO q loose XP YP l.row.toRowW d [] (fun f vs => PySem.call f vs) := by
  refine Att.attach_call hn hdf fun w s₀ s₁ mg mb fa o pm cd doc a vs ns G Y ho hd hcd hmg hobj hints hlen hg => ?_
  obtain ⟨K, cs, fd, sp, KX, hT, nT, C, hb, hsp, hF⟩ := F w mg fa _ Y G.T.g hmg
  exact law_runT KX G.T.g G.T.b G.T.builtins G.T.nolimit hg hT nT C G.T.bmain hobj hints (Nat.le_trans hlen hn2) hr hF hb (fun H hH hS => hsp H a ns hlen hH hS) fun H e s' => hCX w H s₁ e s'
theorem entry {M : Gm} {H : Hp} {a : Addr} {ns : List Int} (hS : SqL M.K H a (ns.map V.int)) (hT : ∀ p ∈ M.T, H p.1 = some (.tbl #[])) : ∃ F, Same F H ∧ Tb M F H ∧ reps M F [.scr (ns.map D.int)] [.ref a] := by
  let F : Hp := fun b => match H b with
    | some (.tbl _) => none
    | x => x
  have hF : ∀ b o, F b = some o → H b = some o ∧ ∀ ps, o ≠ .tbl ps := fun b o e => by
    have e : (match H b with | some (.tbl _) => none | x => x) = some o := e
    split at e
    · cases e
    · rename_i q
      exact ⟨e, fun ps z => by subst z; exact q ps e⟩
  have hN : ∀ b o, H b = some o → (∀ ps, o ≠ .tbl ps) → F b = some o := fun b o e n => by
    show (match H b with | some (.tbl _) => none | x => x) = some o
    rw [e]
    cases o <;> first | rfl | exact absurd rfl (n _)
  refine ⟨F, fun b o e => (hF b o e).1, ⟨fun p hp => LamX.TabS.nil (hT p hp), fun p hp => ?_, fun b ps e => (hF b _ e).2 ps rfl⟩, reps_cons ?_ reps_nil⟩
  · show (match H p.1 with | some (.tbl _) => none | x => x) = none
    rw [hT p hp]
  · unfold rep
    refine ⟨a, _, rfl, ?_, reps_ints ns⟩
    rcases hS with (h | ⟨o, h⟩) | h
    · exact .inl (.inl (hN _ _ h fun ps z => nomatch z))
    · exact .inl (.inr ⟨o, hN _ _ h fun ps z => nomatch z⟩)
    · exact .inr h
end
end TS

namespace TS
open PySem L2
noncomputable section
def iL (xs : List Int) : List D := xs.map D.int
@[simp] theorem iL_len (xs : List Int) : (iL xs).length = xs.length := by simp [iL]
@[simp] theorem iL_nil : iL [] = [] := rfl
theorem iL_cons (x : Int) (xs : List Int) : iL (x :: xs) = .int x :: iL xs := rfl
theorem toPs_ints : ∀ xs : List Int, toPs (iL xs) = some (xs.map PyData.int)
  | [] => by simp [toPs]
  | x :: xs => by
    have := toPs_ints xs
    simp only [iL, List.map_cons] at this ⊢
    simp [toPs, toP, this]
theorem canLay_ints : ∀ xs : List Int, PyData.canLayAll0 (xs.map PyData.int) = true
  | [] => by simp [PyData.canLayAll0]
  | x :: xs => by simp [PyData.canLayAll0, PyData.canLay0, canLay_ints xs]
theorem depth_ints : ∀ xs : List Int, PyData.depthAll (xs.map PyData.int) ≤ 1
  | [] => by simp [PyData.depthAll]
  | x :: xs => by
    have := depth_ints xs
    simp only [List.map_cons, PyData.depthAll, PyData.depth]
    omega
theorem shaped_l (xs : List Int) : SeqAt.shaped (.list (xs.map PyData.int)) = true := by
  have := depth_ints xs
  unfold SeqAt.shaped
  rw [Bool.and_eq_true]
  refine ⟨by simp only [PyData.canLay0]; exact canLay_ints xs, decide_eq_true ?_⟩
  simp only [PyData.depth]
  omega
theorem eqvAll_ints : ∀ xs ys : List Int, PyData.eqvAll (xs.map PyData.int) (ys.map PyData.int) = decide (xs = ys)
  | [], [] => by simp [PyData.eqvAll]
  | [], y :: ys => by simp [PyData.eqvAll]
  | x :: xs, [] => by simp [PyData.eqvAll]
  | x :: xs, y :: ys => by
    simp only [List.map_cons, PyData.eqvAll, eqvAll_ints xs ys, eqvI]
    by_cases h : x = y
    · by_cases h2 : xs = ys <;> simp [h, h2]
    · simp [h]
theorem toP_l (xs : List Int) : toP (.lst (iL xs)) = some (.list (xs.map PyData.int)) := by
  unfold toP; rw [toPs_ints]; rfl
@[simp] theorem gEq_l (xs ys : List Int) : gEq (.lst (iL xs)) (.lst (iL ys)) = some (.imm (.bl (decide (xs = ys)))) := by
  simp only [gEq, toP_l, shaped_l, Bool.and_self, if_true, PyData.eqv, eqvAll_ints]
@[simp] theorem gNe_l (xs ys : List Int) : gNe (.lst (iL xs)) (.lst (iL ys)) = some (.imm (.bl (!decide (xs = ys)))) := by
  simp only [gNe, toP_l, shaped_l, Bool.and_self, if_true, PyData.eqv, eqvAll_ints]
@[simp] theorem gMax_2 (i j : Int) : gMax [.int i, .int j] = some (.imm (.int (if j > i then j else i))) := rfl
@[simp] theorem gMin_2 (i j : Int) : gMin [.int i, .int j] = some (.imm (.int (if j < i then j else i))) := rfl
theorem atI_ints (xs : List Int) (i : Int) : atI (iL xs) i = (atI xs i).map D.int := by
  unfold atI
  simp only [iL, List.length_map]
  cases ixN xs.length i with
  | none => rfl
  | some j => simp
theorem atI_in {α : Type} {xs : List α} {n : Nat} (h : n < xs.length) : atI xs (n : Int) = some xs[n] := by
  unfold atI ixN
  simp [h]
section
variable (δ : Sl)
@[simp] theorem ap_fOwnIo (f : Fm) (i : Nat) (fa : FA) : fOwnIo f i fa δ = match δ[i]? with
  | some (some r0) => if r0.mu then (fa δ).bind fun ds δ1 => match δ1[i]? with
      | some (some (.own o)) => (match f (some o) ds with
        | .ok r (some o') => .ok r (δ1.set i (some (.own o')))
        | .exc x (some o') => .exc x (δ1.set i (some (.own o')))
        | _ => .bad)
      | some (some (.brw o)) => (match f (some o) ds with
        | .ok r (some o') => .ok r (δ1.set i (some (.brw o')))
        | .exc x (some o') => .exc x (δ1.set i (some (.brw o')))
        | _ => .bad)
      | _ => .bad
    else .bad
  | _ => .bad := id rfl
@[simp] theorem ap_fMut (i : Nat) (m : List D → List D → Option (D × List D)) (fa : FA) : fMut i m fa δ = match getL δ i with
  | none => .bad
  | some _ => (fa δ).bind fun as δ1 => match getL δ1 i with
    | none => .bad
    | some ds => match m ds as with
      | none => .bad
      | some (z, ds') => .ok z (match δ1[i]? with
        | some (some (.own _)) => δ1.set i (some (.own (.l ds')))
        | _ => δ1.set i (some (.brw (.l ds')))) := id rfl
@[simp] theorem ap_getL (i : Nat) : getL δ i = match δ[i]? with | some (some (.own (.l ds))) => some ds | some (some (.brw (.l ds))) => some ds | _ => none := id rfl
end
theorem rg1_nat {k : Nat} (h : k ≤ 16777216) : gd (-4611686018427387904 ≤ (k : Int) ∧ (k : Int) < 4611686018427387904) = true := by
  refine gd_true ?_
  refine ⟨?_, ?_⟩ <;> omega
def nats (i k : Nat) : List Int := (List.range' i k).map fun z : Nat => (z : Int)
theorem rgD_nats (k : Nat) : rgD 0 (k : Int) = iL (nats 0 k) := by simp [rgD, iL, nats, List.range_eq_range']
theorem nats_len (i k : Nat) : (nats i k).length = k := by simp [nats]
theorem itRg1_ok {f : FD} {δ : Sl} {k : Nat} (h : k ≤ 16777216) (e : f δ = .ok (.int (k : Int)) δ) : itRg1 f δ = .ok (iL (nats 0 k)) δ := by
  unfold itRg1
  rw [e, Res.bind_ok]
  show (if gd (-4611686018427387904 ≤ (k : Int) ∧ (k : Int) < 4611686018427387904) = true then Res.ok (rgD 0 (k : Int)) δ else .bad) = _
  rw [if_pos (rg1_nat h), rgD_nats]
end
end TS

namespace TS
def act (t : List Int) (x : Int) : Int := t.getD (x % (t.length : Int)).toNat 0
def PerF (f : Int → Int) (p : Int) : Prop := ∀ x, f (x + p) = f x
theorem PerF.neg {f : Int → Int} {p : Int} (h : PerF f p) : PerF f (-p) := fun x => by
  have := h (x + -p)
  rw [← this]; congr 1; omega
theorem PerF.add {f : Int → Int} {p q : Int} (h : PerF f p) (h' : PerF f q) : PerF f (p + q) := fun x => by
  rw [← Int.add_assoc, h' (x + p), h x]
theorem PerF.zero {f : Int → Int} : PerF f 0 := fun x => by rw [Int.add_zero]
theorem PerF.mulN {f : Int → Int} {p : Int} (h : PerF f p) : ∀ n : Nat, PerF f (n * p)
  | 0 => by simpa using PerF.zero
  | n + 1 => by
    have := (PerF.mulN h n).add h
    have e : ((n + 1 : Nat) : Int) * p = n * p + p := by push_cast; rw [Int.add_mul, Int.one_mul]
    rw [e]; exact this
theorem PerF.mul {f : Int → Int} {p : Int} (h : PerF f p) (k : Int) : PerF f (k * p) := by
  rcases Int.le_total 0 k with hk | hk
  · obtain ⟨n, rfl⟩ := Int.eq_ofNat_of_zero_le hk
    exact h.mulN n
  · obtain ⟨n, e⟩ := Int.eq_ofNat_of_zero_le (show 0 ≤ -k by omega)
    have := (h.mulN n).neg
    have e2 : -((n : Int) * p) = k * p := by
      have : k = -(n : Int) := by omega
      rw [this, Int.neg_mul]
    rw [← e2]; exact this
theorem PerF.gcd {f : Int → Int} (p q : Nat) : PerF f p → PerF f q → PerF f (Nat.gcd p q : Nat) := by
  refine Nat.gcd.induction (P := fun p q => PerF f (p : Int) → PerF f (q : Int) → PerF f ((Nat.gcd p q : Nat) : Int)) p q (fun n _ h => ?_) fun m n hm ih h1 h2 => ?_
  · rw [Nat.gcd_zero_left]; exact h
  · rw [Nat.gcd_rec]
    refine ih ?_ h1
    have e : ((n % m : Nat) : Int) = n + (-((n / m : Nat) : Int)) * m := by
      have := Nat.div_add_mod n m
      have h3 : (n : Int) = (m : Int) * ((n / m : Nat) : Int) + ((n % m : Nat) : Int) := by exact_mod_cast this.symm
      rw [Int.neg_mul, Int.mul_comm]; omega
    rw [e]
    exact h2.add (h1.mul _)
theorem act_per (t : List Int) : PerF (act t) t.length := fun x => by
  unfold act
  rw [Int.add_emod_right]
end TS

namespace TS
theorem rep_get (s : List Int) : ∀ (k i : Nat), i < k * s.length → (List.replicate k s).flatten.getD i 0 = s.getD (i % s.length) 0
  | 0, i, h => by simp at h
  | k + 1, i, h => by
    rw [List.replicate_succ, List.flatten_cons, List.getD_eq_getElem?_getD]
    by_cases hi : i < s.length
    · rw [List.getElem?_append_left hi, Nat.mod_eq_of_lt hi, List.getD_eq_getElem?_getD]
    · have hs : i - s.length < k * s.length := by rw [Nat.succ_mul] at h; omega
      rw [List.getElem?_append_right (by omega), ← List.getD_eq_getElem?_getD, rep_get s k _ hs, Nat.mod_eq_sub_mod (by omega : s.length ≤ i)]
def repOf (p : Nat) (t : List Int) : List Int := (List.replicate (t.length / p) (t.take p)).flatten
def isPer (t : List Int) (p : Nat) : Bool := decide (t.length % p = 0) && decide (repOf p t = t)
theorem repOf_length {p : Nat} {t : List Int} (hp : 0 < p) (hd : p ∣ t.length) (h0 : 0 < t.length) : (repOf p t).length = t.length := by
  have hle : p ≤ t.length := Nat.le_of_dvd h0 hd
  unfold repOf
  have e : ∀ k : Nat, ((List.replicate k (t.take p)).flatten).length = k * p := fun k => by
    induction k with
    | zero => simp
    | succ k ih => rw [List.replicate_succ, List.flatten_cons, List.length_append, ih, List.length_take, Nat.min_eq_left hle, Nat.succ_mul, Nat.add_comm]
  rw [e]
  exact Nat.div_mul_cancel hd
theorem getD_ext {a b : List Int} (hl : a.length = b.length) (h : ∀ i, i < b.length → a.getD i 0 = b.getD i 0) : a = b := by
  apply List.ext_getElem hl
  intro i h1 h2
  have := h i h2
  rw [List.getD_eq_getElem?_getD, List.getD_eq_getElem?_getD, List.getElem?_eq_getElem h1, List.getElem?_eq_getElem h2] at this
  exact this
theorem act_nat {t : List Int} {i : Nat} (h : i < t.length) : act t i = t.getD i 0 := by
  unfold act
  rw [Int.emod_eq_of_lt (by omega) (by omega)]
  rfl
theorem act_mod (t : List Int) (x : Int) : act t (x % t.length) = act t x := by
  unfold act
  rw [Int.emod_emod_of_dvd _ (Int.dvd_refl _)]
theorem per_mod {f : Int → Int} {p : Int} (h : PerF f p) (x : Int) : f (x % p) = f x := by
  have := h.mul (-(x / p)) x
  rw [← this]
  congr 1
  have := Int.emod_add_mul_ediv x p
  rw [Int.neg_mul, Int.mul_comm]; omega
theorem isPer_iff {t : List Int} {p : Nat} (hp : 0 < p) (h0 : 0 < t.length) (hd : p ∣ t.length) : repOf p t = t ↔ PerF (act t) p := by
  have hle : p ≤ t.length := Nat.le_of_dvd h0 hd
  have key : ∀ i, i < t.length → (repOf p t).getD i 0 = t.getD (i % p) 0 := fun i hi => by
    have hl : (t.take p).length = p := by rw [List.length_take, Nat.min_eq_left hle]
    unfold repOf
    rw [rep_get (t.take p) (t.length / p) i (by rw [hl, Nat.div_mul_cancel hd]; exact hi), hl, List.getD_eq_getElem?_getD, List.getElem?_take_of_lt (Nat.mod_lt _ hp), List.getD_eq_getElem?_getD]
  have hb : ∀ x : Int, 0 ≤ x % (t.length : Int) ∧ x % (t.length : Int) < t.length := fun x => ⟨Int.emod_nonneg _ (by omega), Int.emod_lt_of_pos _ (by omega)⟩
  constructor
  · intro e x
    have step : ∀ y : Int, act t y = act t (y % (p : Int)) := fun y => by
      obtain ⟨b1, b2⟩ := hb y
      obtain ⟨i, ei⟩ := Int.eq_ofNat_of_zero_le b1
      have hi : i < t.length := by omega
      have q := key i hi
      rw [e] at q
      have hm : i % p < t.length := Nat.lt_of_lt_of_le (Nat.mod_lt _ hp) hle
      rw [← act_mod t y, ei, act_nat hi, q, ← act_nat hm]
      have : y % (p : Int) = ((i % p : Nat) : Int) := by
        rw [← Int.emod_emod_of_dvd y (Int.natCast_dvd_natCast.mpr hd), ei]; rfl
      rw [this]
    rw [step (x + p), Int.add_emod_right, ← step x]
  · intro h
    refine getD_ext (repOf_length hp hd h0) fun i hi => ?_
    rw [key i hi]
    have hm : i % p < t.length := Nat.lt_of_lt_of_le (Nat.mod_lt _ hp) hle
    rw [← act_nat hi, ← act_nat hm, ← per_mod h i]
    rfl
end TS

namespace TS
def leastP (t : List Int) : Nat := ((List.range' 1 (t.length - 1)).find? (isPer t)).getD t.length
def least (t : List Int) : List Int := t.take (leastP t)
structure IsMin (f : Int → Int) (p : Nat) : Prop where
  pos : 0 < p
  per : PerF f p
  min : ∀ q : Nat, 0 < q → PerF f q → p ≤ q
theorem isPer_spec {t : List Int} {p : Nat} (hp : 0 < p) (h0 : 0 < t.length) : isPer t p = true ↔ p ∣ t.length ∧ PerF (act t) p := by
  unfold isPer
  rw [Bool.and_eq_true, decide_eq_true_eq, decide_eq_true_eq, ← Nat.dvd_iff_mod_eq_zero]
  exact ⟨fun h => ⟨h.1, (isPer_iff hp h0 h.1).mp h.2⟩, fun h => ⟨h.1, (isPer_iff hp h0 h.1).mpr h.2⟩⟩
theorem leastP_dvd {t : List Int} (h0 : 0 < t.length) : leastP t ∣ t.length ∧ 0 < leastP t ∧ PerF (act t) (leastP t) := by
  unfold leastP
  cases e : (List.range' 1 (t.length - 1)).find? (isPer t) with
  | none => exact ⟨Nat.dvd_refl _, h0, act_per t⟩
  | some p =>
    have h1 := List.find?_some e
    have h2 := List.mem_of_find?_eq_some e
    rw [List.mem_range'_1] at h2
    obtain ⟨k1, k2⟩ := (isPer_spec (by omega) h0).mp h1
    exact ⟨k1, by simp; omega, k2⟩
theorem leastP_le {t : List Int} (h0 : 0 < t.length) {p : Nat} (hp : 0 < p) (hd : p ∣ t.length) (h : PerF (act t) p) : leastP t ≤ p := by
  have hle := Nat.le_of_dvd h0 hd
  by_cases hn : p = t.length
  · subst hn
    exact Nat.le_of_dvd h0 (leastP_dvd h0).1
  · unfold leastP
    cases e : (List.range' 1 (t.length - 1)).find? (isPer t) with
    | none =>
      have := List.find?_eq_none.mp e p (by rw [List.mem_range'_1]; omega)
      exact absurd ((isPer_spec hp h0).mpr ⟨hd, h⟩) this
    | some q =>
      obtain ⟨as, bs, e1, e2⟩ := (List.find?_eq_some_iff_append.mp e).2
      show q ≤ p
      rcases Nat.lt_or_ge p q with hlt | hge
      · exfalso
        have hm : p ∈ as := by
          have hq : p ∈ List.range' 1 (t.length - 1) := by rw [List.mem_range'_1]; omega
          rw [e1] at hq
          have hs : (List.range' 1 (t.length - 1)).Pairwise (· < ·) := List.pairwise_lt_range'
          rw [e1] at hs
          rcases List.mem_append.mp hq with z | z
          · exact z
          · rcases List.mem_cons.mp z with z | z
            · omega
            · have := (List.pairwise_cons.mp (List.pairwise_append.mp hs).2.1).1 p z
              omega
        have := e2 p hm
        have k := (isPer_spec hp h0).mpr ⟨hd, h⟩
        simp [k] at this
      · exact hge
theorem leastP_min {t : List Int} (h0 : 0 < t.length) : IsMin (act t) (leastP t) := by
  obtain ⟨h1, h2, h3⟩ := leastP_dvd h0
  refine ⟨h2, h3, fun q hq hper => ?_⟩
  have hg := PerF.gcd q t.length hper (act_per t)
  have hgp : 0 < Nat.gcd q t.length := Nat.gcd_pos_of_pos_left _ hq
  exact Nat.le_trans (leastP_le h0 hgp (Nat.gcd_dvd_right _ _) hg) (Nat.le_of_dvd hq (Nat.gcd_dvd_left _ _))
theorem least_length {t : List Int} (h0 : 0 < t.length) : (least t).length = leastP t := by
  unfold least
  rw [List.length_take, Nat.min_eq_left (Nat.le_of_dvd h0 (leastP_dvd h0).1)]
theorem least_act {t : List Int} (h0 : 0 < t.length) : act (least t) = act t := by
  funext x
  obtain ⟨h1, h2, h3⟩ := leastP_dvd h0
  have hle := Nat.le_of_dvd h0 h1
  rw [← per_mod h3 x]
  have b1 := Int.emod_nonneg x (show (leastP t : Int) ≠ 0 by omega)
  have b2 := Int.emod_lt_of_pos x (show 0 < (leastP t : Int) by omega)
  obtain ⟨i, ei⟩ := Int.eq_ofNat_of_zero_le b1
  have hi : i < leastP t := by omega
  rw [← act_mod (least t) x, least_length h0, ei]
  rw [act_nat (by rw [least_length h0]; exact hi), act_nat (by omega)]
  unfold least
  rw [List.getD_eq_getElem?_getD, List.getElem?_take_of_lt hi, List.getD_eq_getElem?_getD]
theorem least_pos {t : List Int} (h0 : 0 < t.length) : 0 < (least t).length := by rw [least_length h0]; exact (leastP_dvd h0).2.1
theorem least_le {t : List Int} (h0 : 0 < t.length) : (least t).length ≤ t.length := by rw [least_length h0]; exact Nat.le_of_dvd h0 (leastP_dvd h0).1
end TS

namespace TS
open PySem L2
noncomputable section
section
variable (δ : Sl)
@[simp] theorem ap_fMake (n : Nat) (f : Fm) (fa : FA) : fMake n f fa δ = (fa δ).bind fun ds δ1 => match f (some (.o n [])) ds with
  | .ok (.imm .non) (some (.o n' vs)) => if n' = n then .ok (.own (.o n vs)) δ1 else .bad
  | .exc x _ => .exc x δ1
  | _ => .bad := id rfl
@[simp] theorem ap_fMakeL (n i : Nat) (f : Fm) (fa : FA) : fMakeL n i f fa δ = match δ[i]? with
  | some (some (.imm (.cls n'))) => if n' = n then fMake n f fa δ else .bad
  | _ => .bad := id rfl
@[simp] theorem ap_fCMeth (n : Nat) (f : Fm) (fa : FA) : fCMeth n f fa δ = (fa δ).bind fun ds δ1 => outE (f none (.cls n :: ds)) δ1 := id rfl
@[simp] theorem ap_sFldS (i : Nat) (ix : Nat → Option Nat) (fe : FD) : sFldS i ix fe δ = (fe δ).bindS fun d δ1 => match δ1[i]? with
  | some (some (.own (.o n vs))) => (match ix n with
    | some j => (match setF vs j d with
      | some vs' => .nx (δ1.set i (some (.own (.o n vs'))))
      | none => .bad)
    | none => .bad)
  | some (some (.brw (.o n vs))) => (match ix n with
    | some j => (match setF vs j d with
      | some vs' => .nx (δ1.set i (some (.brw (.o n vs'))))
      | none => .bad)
    | none => .bad)
  | _ => .bad := id rfl
@[simp] theorem ap_fOwnT (f : Fm) (fe : FE) : fOwnT f fe δ = (fe δ).bind fun r δ1 => match r with
  | .own o => outE (f (some o) []) δ1
  | _ => .bad := id rfl
@[simp] theorem ap_fProp (tab : Nat → Option Fm) (fo : FD) : fProp tab fo δ = (fo δ).bind fun d δ1 => match d with
  | .obj n vs => (match tab n with
    | some f => (match f none [.obj n vs] with
      | .ok (.imm d) _ => .ok d δ1
      | _ => .bad)
    | none => .bad)
  | _ => .bad := id rfl
@[simp] theorem ap_fOwnK0 (f : Fm) (m : Nat) (fk : FA) : fOwnK0 f m fk δ = (fk δ).bind fun es δ2 => if es.length = m then outE (f none es) δ2 else .bad := id rfl
@[simp] theorem ap_fOwnK (f : Fm) (n m : Nat) (fa fk : FA) : fOwnK f n m fa fk δ = (fa δ).bind fun ds δ1 => (fk δ1).bind fun es δ2 => if ds.length = n ∧ es.length = m then outE (f none (ds ++ es)) δ2 else .bad := id rfl
@[simp] theorem ap_tTrue : tTrue δ = .ok true δ := id rfl
@[simp] theorem ap_sNev : sNev δ = .bad := id rfl
@[simp] theorem ap_fSlV (i : Nat) (fl fh : FO) : fSlV i fl fh δ = if there δ i then (fl δ).bind fun lo δ => (fh δ).bind fun hi δ => (vP i δ).bind fun d δ => match gSl d lo hi with | some r => .ok r δ | none => .bad else .bad := id rfl
end
theorem pow_18 : gPow (.int 10) (.int 18) = some (.imm (.int 1000000000000000000)) := by rw [gPow_i (by decide) (by decide) (by decide)]; rfl
theorem set_get {α : Type} (l : List α) (i : Nat) (a : α) (h : l[i]? = some a) : l.set i a = l := by
  apply List.ext_getElem?
  intro j
  rw [List.getElem?_set]
  split
  · rename_i e; subst e; split
    · exact h.symm
    · rename_i z; rw [List.getElem?_eq_none (by omega)]
  · rfl
theorem lc_map {α : Type} {inj : α → D} (out : α → D) {i : Nat} {fi : FA} {fe : FD} {δ δ1 : Sl} {xs : List α} (h1 : fi δ = .ok (xs.map inj) δ1) (hfree : freeS δ1 i = true) (hlen : xs.length ≤ 16777216)
    (he : ∀ x ∈ xs, fe (δ1.set i (some (.imm (inj x)))) = .ok (out x) (δ1.set i (some (.imm (inj x))))) : fLc (stName i) [i] fi tTrue fe δ = .ok (.own (.l (xs.map out))) δ1 := by
  have key : ∀ (ys : List α) (acc : List D), (∀ y ∈ ys, y ∈ xs) → acc.length + ys.length ≤ 16777216 → lcL (stName i) [i] tTrue fe (ys.map inj) acc (δ1.set i none) = .ok (acc ++ ys.map out) (δ1.set i none) := by
    intro ys
    induction ys with
    | nil => intro acc _ _; simp [lcL]
    | cons y ys ih =>
      intro acc hm hl
      have e := he y (hm y (by simp))
      simp only [List.map_cons, lcL, stName, List.set_set, ap_tTrue, noX, Res.bind_ok, if_true, e]
      rw [if_pos (by simp at hl; omega)]
      show lcL (stName i) [i] tTrue fe (ys.map inj) (acc ++ [out y]) ((δ1.set i (some (.imm (inj y)))).set i none) = _
      rw [List.set_set, ih (acc ++ [out y]) (fun z hz => hm z (by simp [hz])) (by simp at hl ⊢; omega)]
      simp
  obtain ⟨o, ho⟩ : ∃ o, δ1[i]? = some o := by
    unfold freeS at hfree
    cases q : δ1[i]? with
    | none => rw [q] at hfree; cases hfree
    | some o => exact ⟨o, rfl⟩
  unfold fLc
  rw [h1, Res.bind_ok]
  simp only [List.all_cons, List.all_nil, Bool.and_true, hfree, if_true]
  show ((lcL (stName i) [i] tTrue fe (xs.map inj) [] (δ1.set i none)).bind fun acc δ2 => Res.ok (R.own (.l acc)) (restD δ1 [i] δ2)) = _
  rw [key xs [] (fun _ h => h) (by simpa using hlen), Res.bind_ok]
  simp only [List.nil_append, restD, ho, Option.join, List.set_set]
  rw [set_get _ _ _ (by rw [ho]; rfl)]
theorem lc_intsD {i : Nat} {fi : FA} {fe : FD} {δ δ1 : Sl} {xs : List Int} (f : Int → D) (h1 : fi δ = .ok (iL xs) δ1) (hfree : freeS δ1 i = true) (hlen : xs.length ≤ 16777216)
    (he : ∀ x ∈ xs, fe (δ1.set i (some (.imm (.int x)))) = .ok (f x) (δ1.set i (some (.imm (.int x))))) : fLc (stName i) [i] fi tTrue fe δ = .ok (.own (.l (xs.map f))) δ1 :=
  lc_map (xs := xs) (inj := D.int) f h1 hfree hlen he
end
end TS

namespace TS
theorem nodup_iff {α : Type} {l : List α} : l.Nodup ↔ ∀ i j, i < j → j < l.length → l[i]? ≠ l[j]? := by
  unfold List.Nodup
  rw [List.pairwise_iff_getElem]
  constructor
  · intro h i j hij hj e
    rw [List.getElem?_eq_getElem hj, List.getElem?_eq_getElem (by omega)] at e
    exact h i j (by omega) hj hij (Option.some.inj e)
  · intro h i j hi hj hij e
    exact h i j hij hj (by rw [List.getElem?_eq_getElem hj, List.getElem?_eq_getElem hi, e])
def mv (t : List Int) (x : Int) : Int := x + act t x
structure Good (t : List Int) : Prop where
  pos : 0 < t.length
  len : t.length ≤ 2520
  inj : ∀ x y, mv t x = mv t y → x = y
def rems (n : Int) : Nat → List Int → List Int
  | _, [] => []
  | i, x :: t => ((i : Int) + x) % n :: rems n (i + 1) t
theorem rems_len (n : Int) : ∀ (t : List Int) (i : Nat), (rems n i t).length = t.length
  | [], i => rfl
  | x :: t, i => by simp [rems, rems_len n t (i + 1)]
theorem rems_get (n : Int) : ∀ (t : List Int) (i j : Nat), (rems n i t)[j]? = (t[j]?).map fun x => (((i + j : Nat) : Int) + x) % n
  | [], i, j => by simp [rems]
  | x :: t, i, 0 => by simp [rems]
  | x :: t, i, j + 1 => by
    simp only [rems, List.getElem?_cons_succ, rems_get n t (i + 1) j]
    congr 1; funext z; congr 2; omega
theorem act_get {t : List Int} {i : Nat} {x : Int} (h : t[i]? = some x) : act t i = x := by
  obtain ⟨hl, e⟩ := List.getElem?_eq_some_iff.mp h
  rw [act_nat hl, List.getD_eq_getElem?_getD, h]; rfl
theorem act_get' {t : List Int} {i : Nat} (h : i < t.length) : t[i]? = some (act t i) := by
  rw [act_nat h, List.getD_eq_getElem?_getD, List.getElem?_eq_getElem h]; rfl
theorem mv_perk (t : List Int) (x k : Int) : mv t (x + k * t.length) = mv t x + k * t.length := by
  unfold mv; rw [(act_per t).mul k x]; omega
theorem Good.rems {t : List Int} (h : Good t) : (rems t.length 0 t).Nodup := by
  rw [nodup_iff]
  intro i j hij hj e
  rw [rems_len] at hj
  have hi : i < t.length := by omega
  rw [rems_get, rems_get, act_get' hi, act_get' hj] at e
  simp only [Option.map_some, Option.some.injEq, Nat.zero_add] at e
  have h0 : (t.length : Int) ≠ 0 := by omega
  -- mv i = mv j + k n
  have d : ∃ k : Int, mv t i = mv t j + k * t.length := by
    refine ⟨((i : Int) + act t i) / t.length - ((j : Int) + act t j) / t.length, ?_⟩
    have e1 := Int.emod_add_mul_ediv ((i : Int) + act t i) t.length
    have e2 := Int.emod_add_mul_ediv ((j : Int) + act t j) t.length
    unfold mv
    rw [Int.sub_mul, Int.mul_comm _ (t.length : Int), Int.mul_comm _ (t.length : Int)]
    omega
  obtain ⟨k, hk⟩ := d
  rw [← mv_perk] at hk
  have := h.inj _ _ hk
  -- i = j + k n with both in [0, n)
  have hk0 : k = 0 := by
    rcases Int.lt_trichotomy k 0 with hk | hk | hk
    · have : k * (t.length : Int) ≤ -1 * t.length := Int.mul_le_mul_of_nonneg_right (by omega) (by omega)
      omega
    · exact hk
    · have : 1 * (t.length : Int) ≤ k * t.length := Int.mul_le_mul_of_nonneg_right (by omega) (by omega)
      omega
  subst hk0
  omega
theorem Good.least {t : List Int} (h : Good t) : Good (least t) := by
  refine ⟨least_pos h.pos, Nat.le_trans (least_le h.pos) h.len, fun x y e => h.inj x y ?_⟩
  unfold mv at e ⊢
  rw [least_act h.pos] at e
  exact e
theorem mv_least {t : List Int} (h : Good t) : mv (least t) = mv t := by
  funext x; unfold mv; rw [least_act h.pos]
def tabOf (n : Nat) (f : Int → Int) : List Int := (List.range n).map fun i : Nat => f (i : Int)
theorem tabOf_len (n : Nat) (f : Int → Int) : (tabOf n f).length = n := by simp [tabOf]
theorem tabOf_self (t : List Int) : tabOf t.length (act t) = t := by
  apply getD_ext (tabOf_len _ _)
  intro i hi
  have : (tabOf t.length (act t))[i]? = some (act t i) := by simp [tabOf, hi]
  rw [List.getD_eq_getElem?_getD, this, Option.getD_some, act_nat hi]
end TS

namespace TS
open PySem L2
noncomputable section
theorem strOk_of (s : String) : PyData.strOk (Str.ofString s) = true := by
  unfold PyData.strOk
  rw [Str.ofString_eq_toList]
  rw [Array.all_eq_true']
  intro n hn
  simp at hn
  obtain ⟨c, _, rfl⟩ := hn
  have := c.valid
  simp only [decide_eq_true_eq]
  show c.val.toNat < 1114112
  rcases this with h | h
  · have : c.val.toNat < 55296 := h
    omega
  · exact h.2
theorem shaped_str {x : Str} (h : PyData.strOk x = true) : SeqAt.shaped (PyData.str x) = true := by unfold SeqAt.shaped; simp [PyData.canLay0, PyData.depth, h]
theorem gEq_str {x y : Str} (h : PyData.strOk x = true) (h' : PyData.strOk y = true) : gEq (.str x) (.str y) = some (.imm (.bl (decide (x = y)))) := by
  have : PyData.eqv (.str x) (.str y) = decide (x = y) := by
    by_cases e : x = y
    · subst e; simp [PyData.eqv]
    · simp [PyData.eqv, e]
  simp [gEq, toP, shaped_str h, shaped_str h', this]
theorem cells_ok (c : Int) (n : Nat) (hc : 0 ≤ c ∧ c < 100) : ∃ k : Nat, k < 100 ∧ (if 1 < (if (n : Int) < c then (n : Int) else c) then (if (n : Int) < c then (n : Int) else c) else 1) = (k : Int) := by
  by_cases h5 : (n : Int) < c
  · rw [if_pos h5]
    by_cases h1 : (1 : Int) < n
    · rw [if_pos h1]; exact ⟨n, by omega, rfl⟩
    · rw [if_neg h1]; exact ⟨1, by omega, rfl⟩
  · rw [if_neg h5]
    by_cases h1 : (1 : Int) < c
    · rw [if_pos h1]; exact ⟨c.toNat, by omega, by omega⟩
    · rw [if_neg h1]; exact ⟨1, by omega, rfl⟩
theorem blsOf_true : ∀ l : List Int, blsOf (l.map fun _ => D.bl true) = some (l.map fun _ => true)
  | [] => rfl
  | x :: l => by simp only [List.map_cons, blsOf, blsOf_true l, Option.map_some]
theorem gAll_true (l : List Int) : gAll [.lst (l.map fun _ => D.bl true)] = some (.imm (.bl true)) := by
  simp only [gAll, blsOf_true]
  simp
abbrev lawG (c : Int) (F : FD) : FS := sRet (fCal gAll (aOne (frz (fLc (stName 1) [1] (itRg1 (frz (fCal gMax (aCons (kD (.int 1)) (aCons (frz (fCal gMin (aCons (kD (.int c)) (aCons (frz (fCal gLen (aOne (vP 0)))) aNil)))) aNil))))) tTrue F))))
theorem law_of {c : Int} (hc : 0 ≤ c ∧ c < 100) {F : FD} (ns : List Int) (hF : ∀ a : Nat, a < 100 → F [some (.imm (.scr (ns.map D.int))), some (.imm (.int (a : Int)))] = .ok (.bl true) [some (.imm (.scr (ns.map D.int))), some (.imm (.int (a : Int)))]) : mir 2 1 (lawG c F) none [.scr (ns.map D.int)] = .ok (.imm (.bl true)) none := by
  obtain ⟨k, hk, ek⟩ := cells_ok c ns.length hc
  have ga := gAll_true (nats 0 k)
  have q : fLc (stName 1) [1] (itRg1 (frz (fCal gMax (aCons (kD (.int 1)) (aCons (frz (fCal gMin (aCons (kD (.int c)) (aCons (frz (fCal gLen (aOne (vP 0)))) aNil)))) aNil))))) tTrue F [some (.imm (.scr (ns.map D.int))), none] = .ok (.own (.l ((nats 0 k).map fun _ => D.bl true))) [some (.imm (.scr (ns.map D.int))), none] := by
    refine lc_intsD (xs := nats 0 k) (fun _ => .bl true) (itRg1_ok (by omega) (by simp [ek])) rfl (by rw [nats_len]; omega) (fun x hx => ?_)
    simp [nats] at hx
    obtain ⟨a, ha, rfl⟩ := hx
    exact hF a (by omega)
  generalize ((nats 0 k).map fun _ => D.bl true) = L at *
  have s4 : ∀ G : FS, mir 2 1 G none [.scr (ns.map D.int)] = outR none (G [some (.imm (.scr (ns.map D.int))), none]) := fun G => by simp [mir, ini, ioS, ioN]
  rw [s4]
  unfold lawG
  rw [ap_sRet, ap_fCal, ap_aOne, ap_frz, q]
  simp [ga, outR, ioOut]
end
end TS

namespace TS
def srcL (n : Nat) : Nat → List Int → List Int → List Int
  | _, [], acc => acc
  | i, x :: t, acc => srcL n (i + 1) t (acc.set (((i : Int) + x) % n).toNat i)
def srcs (t : List Int) : List Int := srcL t.length 0 t (List.replicate t.length 0)
theorem srcL_len (n : Nat) : ∀ (t : List Int) (i : Nat) (acc : List Int), (srcL n i t acc).length = acc.length
  | [], i, acc => rfl
  | x :: t, i, acc => by rw [srcL, srcL_len n t]; simp
theorem srcs_len (t : List Int) : (srcs t).length = t.length := by unfold srcs; rw [srcL_len]; simp
theorem srcL_stay (n : Nat) (hn : 0 < n) : ∀ (t : List Int) (i : Nat) (acc : List Int) (j : Nat), (∀ r ∈ rems n i t, r ≠ j) → (srcL n i t acc)[j]? = acc[j]?
  | [], i, acc, j, _ => rfl
  | x :: t, i, acc, j, h => by
    rw [srcL, srcL_stay n hn t (i + 1) _ j (fun r hr => h r (by simp [rems, hr]))]
    have h0 := h (((i : Int) + x) % n) (by simp [rems])
    have b := Int.emod_nonneg ((i : Int) + x) (show (n : Int) ≠ 0 by omega)
    rw [List.getElem?_set_ne (by omega)]
theorem srcL_at (n : Nat) (hn : 0 < n) : ∀ (t : List Int) (i : Nat) (acc : List Int) (k : Nat) (x : Int), acc.length = n → (rems n i t).Nodup → t[k]? = some x → (srcL n i t acc)[((((i + k : Nat) : Int) + x) % n).toNat]? = some ((i + k : Nat) : Int)
  | [], i, acc, k, x, _, _, h => by simp at h
  | y :: t, i, acc, 0, x, hl, hnd, h => by
    simp at h
    subst h
    have b0 := Int.emod_nonneg ((i : Int) + y) (show (n : Int) ≠ 0 by omega)
    have b1 := Int.emod_lt_of_pos ((i : Int) + y) (show 0 < (n : Int) by omega)
    rw [srcL]
    simp only [Nat.add_zero]
    have hnd' := List.nodup_cons.mp (show (((i : Int) + y) % n :: rems n (i + 1) t).Nodup from hnd)
    rw [srcL_stay n hn t (i + 1) _ _ (fun r hr e => hnd'.1 (by
      have : r = ((i : Int) + y) % n := by omega
      rw [← this]; exact hr))]
    rw [List.getElem?_set_self (by omega)]
  | y :: t, i, acc, k + 1, x, hl, hnd, h => by
    have hnd' := List.nodup_cons.mp (show (((i : Int) + y) % n :: rems n (i + 1) t).Nodup from hnd)
    have e := srcL_at n hn t (i + 1) (acc.set (((i : Int) + y) % n).toNat i) k x (by simp [hl]) hnd'.2 (by simpa using h)
    rw [srcL]
    have z : i + 1 + k = i + (k + 1) := by omega
    rw [z] at e
    exact e
theorem srcs_at {t : List Int} (h : Good t) {k : Nat} (hk : k < t.length) : (srcs t)[((((k : Nat) : Int) + act t k) % t.length).toNat]? = some (k : Int) := by
  have e := srcL_at t.length h.pos t 0 (List.replicate t.length 0) k (act t k) (by simp) h.rems (act_get' hk)
  rw [Nat.zero_add] at e
  exact e
theorem nd_le : ∀ (n : Nat) (l : List Nat), l.Nodup → (∀ x ∈ l, x < n) → l.length ≤ n
  | 0, l, _, h => by
    cases l with
    | nil => simp
    | cons a l => exact absurd (h a (by simp)) (by omega)
  | n + 1, l, hn, h => by
    by_cases hm : n ∈ l
    · have e := nd_le n (l.erase n) (hn.erase n) fun x hx => by
        have h1 := h x (List.mem_of_mem_erase hx)
        have h2 : x ≠ n := fun z => by
          subst z
          exact absurd hx (List.Nodup.not_mem_erase hn)
        omega
      rw [List.length_erase_of_mem hm] at e
      omega
    · have e := nd_le n l hn fun x hx => by
        have h1 := h x hx
        have h2 : x ≠ n := fun z => hm (z ▸ hx)
        omega
      omega
theorem nd_all (n : Nat) (l : List Nat) (hn : l.Nodup) (h : ∀ x ∈ l, x < n) (hl : l.length = n) (j : Nat) (hj : j < n) : j ∈ l := by
  refine Classical.byContradiction fun hm => ?_
  have := nd_le n (j :: l) (List.nodup_cons.mpr ⟨hm, hn⟩) (fun x hx => by
    rcases List.mem_cons.mp hx with rfl | hx
    · exact hj
    · exact h x hx)
  simp at this
  omega
theorem rems_bd {n : Nat} (hn : 0 < n) (t : List Int) (i : Nat) : ∀ r ∈ rems n i t, 0 ≤ r ∧ r < n := by
  intro r hr
  obtain ⟨j, hj, e⟩ := List.getElem_of_mem hr
  have := rems_get n t i j
  rw [List.getElem?_eq_getElem hj, e] at this
  obtain ⟨x, _, q⟩ := Option.map_eq_some_iff.mp this.symm
  rw [← q]
  exact ⟨Int.emod_nonneg _ (by omega), Int.emod_lt_of_pos _ (by omega)⟩
theorem src_ex {t : List Int} (h : Good t) {j : Nat} (hj : j < t.length) : ∃ k : Nat, k < t.length ∧ ((k : Int) + act t k) % t.length = j ∧ (srcs t)[j]? = some (k : Int) := by
  have hnd := h.rems
  have hb := rems_bd h.pos t 0
  have hm : j ∈ (rems t.length 0 t).map Int.toNat := by
    refine nd_all t.length _ ?_ ?_ ?_ j hj
    · unfold List.Nodup
      rw [List.pairwise_map]
      refine List.Pairwise.imp_of_mem ?_ hnd
      intro a b ha hb' hab e
      have := hb a ha
      have := hb b hb'
      omega
    · intro x hx
      obtain ⟨r, hr, rfl⟩ := List.mem_map.mp hx
      have := hb r hr
      omega
    · simp [rems_len]
  obtain ⟨r, hr, e⟩ := List.mem_map.mp hm
  obtain ⟨k, hk, ek⟩ := List.getElem_of_mem hr
  rw [rems_len] at hk
  have q := rems_get t.length t 0 k
  rw [List.getElem?_eq_getElem (by rw [rems_len]; exact hk), ek, act_get' hk, Option.map_some, Nat.zero_add] at q
  have q := Option.some.inj q
  have rb := hb r hr
  refine ⟨k, hk, by omega, ?_⟩
  have s := srcs_at h hk
  rw [← q, e] at s
  exact s
def inv (t : List Int) (x : Int) : Int := x - act t (act (srcs t) x)
theorem mv_inv {t : List Int} (h : Good t) (x : Int) : mv t (inv t x) = x := by
  have b0 := Int.emod_nonneg x (show (t.length : Int) ≠ 0 by have := h.pos; omega)
  have b1 := Int.emod_lt_of_pos x (show 0 < (t.length : Int) by have := h.pos; omega)
  obtain ⟨j, ej⟩ := Int.eq_ofNat_of_zero_le b0
  obtain ⟨k, hk, e1, e2⟩ := src_ex h (j := j) (by omega)
  have e3 : act (srcs t) x = k := by
    rw [← act_mod, srcs_len, ej]
    exact act_get e2
  unfold inv
  rw [e3]
  -- x = k + act t k + q n
  have d : ∃ q : Int, x - act t k = k + q * t.length := by
    have h1 := Int.emod_add_mul_ediv x t.length
    have h2 := Int.emod_add_mul_ediv ((k : Int) + act t k) t.length
    refine ⟨x / t.length - ((k : Int) + act t k) / t.length, ?_⟩
    rw [Int.sub_mul, Int.mul_comm _ (t.length : Int), Int.mul_comm _ (t.length : Int)]
    omega
  obtain ⟨q, hq⟩ := d
  rw [hq, mv_perk]
  unfold mv
  omega
end TS

namespace TS
def itr (f : Int → Int) : Nat → Int → Int
  | 0, x => x
  | k + 1, x => f (itr f k x)
def pwr (t : List Int) (n : Int) (x : Int) : Int := if 0 ≤ n then itr (mv t) n.toNat x else itr (inv t) (-n).toNat x
theorem pwr_zero (t : List Int) (x : Int) : pwr t 0 x = x := rfl
theorem pwr_succ {t : List Int} (h : Good t) (n : Int) (x : Int) : pwr t (n + 1) x = mv t (pwr t n x) := by
  unfold pwr
  by_cases h0 : 0 ≤ n
  · rw [if_pos h0, if_pos (by omega), show (n + 1).toNat = n.toNat + 1 by omega]; rfl
  · rw [if_neg h0]
    by_cases h1 : n = -1
    · subst h1
      rw [if_pos (by omega)]
      show x = mv t (inv t x)
      rw [mv_inv h]
    · rw [if_neg (by omega), show (-n).toNat = (-(n + 1)).toNat + 1 by omega]
      show _ = mv t (inv t _)
      rw [mv_inv h]
theorem pwr_uniq {t : List Int} (h : Good t) {x : Int} {g : Int → Int} (h0 : g 0 = x) (h1 : ∀ n, g (n + 1) = mv t (g n)) (n : Int) : g n = pwr t n x := by
  have up : ∀ k : Nat, g (k : Int) = pwr t k x := fun k => by
    induction k with
    | zero => rw [Int.natCast_zero, h0, pwr_zero]
    | succ k ih => rw [Int.natCast_succ, h1, ih, pwr_succ h]
  have dn : ∀ k : Nat, g (-(k : Int)) = pwr t (-(k : Int)) x := fun k => by
    induction k with
    | zero => simpa using up 0
    | succ k ih =>
      refine h.inj _ _ ?_
      rw [← h1, ← pwr_succ h]
      have : -((k + 1 : Nat) : Int) + 1 = -(k : Int) := by omega
      rw [this]; exact ih
  rcases Int.le_total 0 n with q | q
  · obtain ⟨k, rfl⟩ := Int.eq_ofNat_of_zero_le q
    exact up k
  · obtain ⟨k, e⟩ := Int.eq_ofNat_of_zero_le (show 0 ≤ -n by omega)
    have : n = -(k : Int) := by omega
    rw [this]; exact dn k
theorem pwr_add {t : List Int} (h : Good t) (m n x : Int) : pwr t (m + n) x = pwr t n (pwr t m x) :=
  pwr_uniq h (g := fun n => pwr t (m + n) x) (by show pwr t (m + 0) x = _; rw [Int.add_zero]) (fun n => by show pwr t (m + (n + 1)) x = _; rw [← Int.add_assoc, pwr_succ h]) n
theorem pwr_inj {t : List Int} (h : Good t) (n x y : Int) (e : pwr t n x = pwr t n y) : x = y := by
  have q : ∀ z, pwr t (-n) (pwr t n z) = z := fun z => by rw [← pwr_add h, Int.add_right_neg, pwr_zero]
  rw [← q x, e, q]
theorem pwr_perk {t : List Int} (h : Good t) (n x k : Int) : pwr t n (x + k * t.length) = pwr t n x + k * t.length :=
  (pwr_uniq h (g := fun n => pwr t n x + k * t.length) (by show pwr t 0 x + _ = _; rw [pwr_zero]) (fun n => by show pwr t (n + 1) x + _ = mv t (pwr t n x + _); rw [mv_perk, pwr_succ h]) n).symm
def nx (t : List Int) (j : Nat) : Nat := (((j : Int) + act t j) % t.length).toNat
end TS

namespace TS
open PySem L2
noncomputable section
def sm (f : Int → Int) : Nat → Int
  | 0 => 0
  | n + 1 => sm f n + f (n : Int)
theorem tabOf_sum (f : Int → Int) : ∀ n : Nat, (tabOf n f).sum = sm f n
  | 0 => rfl
  | n + 1 => by
    have e : tabOf (n + 1) f = tabOf n f ++ [f n] := by simp [tabOf, List.range_succ]
    rw [e, List.sum_append, tabOf_sum f n]
    simp [sm]
theorem sum_act (t : List Int) : t.sum = sm (act t) t.length := by
  conv => lhs; rw [← tabOf_self t]
  exact tabOf_sum _ _
theorem sm_congr {f g : Int → Int} : ∀ {n : Nat}, (∀ i : Nat, i < n → f i = g i) → sm f n = sm g n
  | 0, _ => rfl
  | n + 1, h => by
    simp only [sm]
    rw [sm_congr fun i hi => h i (by omega), h n (by omega)]
theorem sm_plus (f g : Int → Int) : ∀ n : Nat, sm (fun i => f i + g i) n = sm f n + sm g n
  | 0 => rfl
  | n + 1 => by simp only [sm]; rw [sm_plus f g n]; omega
theorem sm_minus (f g : Int → Int) : ∀ n : Nat, sm (fun i => f i - g i) n = sm f n - sm g n
  | 0 => rfl
  | n + 1 => by simp only [sm]; rw [sm_minus f g n]; omega
theorem sm_times (k : Int) (f : Int → Int) : ∀ n : Nat, sm (fun i => k * f i) n = k * sm f n
  | 0 => by simp [sm]
  | n + 1 => by simp only [sm]; rw [sm_times k f n, Int.mul_add]
theorem sm_const (k : Int) : ∀ n : Nat, sm (fun _ => k) n = n * k
  | 0 => by simp [sm]
  | n + 1 => by simp only [sm]; rw [sm_const k n, Int.natCast_succ, Int.add_mul, Int.one_mul]
theorem sm_add (f : Int → Int) (a : Nat) : ∀ b : Nat, sm f (a + b) = sm f a + sm (fun i => f (a + i)) b
  | 0 => by simp [sm]
  | b + 1 => by
    rw [← Nat.add_assoc]
    simp only [sm]
    rw [sm_add f a b, Int.natCast_add]
    omega
theorem sm_per {f : Int → Int} {p : Nat} (h : PerF f p) : ∀ k : Nat, sm f (k * p) = k * sm f p
  | 0 => by simp [sm]
  | k + 1 => by
    rw [Nat.succ_mul, sm_add, sm_per h k]
    have e : sm (fun i => f (((k * p : Nat) : Int) + i)) p = sm f p := sm_congr fun i hi => by
      rw [Int.natCast_mul, Int.add_comm]
      exact (h.mulN k) i
    rw [e, Int.natCast_succ, Int.add_mul, Int.one_mul]
theorem nd_len : ∀ (n : Nat) (l : List Int), l.Nodup → (∀ x ∈ l, 0 ≤ x ∧ x < n) → l.length ≤ n
  | 0, [], _, _ => Nat.le_refl _
  | 0, x :: l, _, h => by have := h x (by simp); omega
  | n + 1, l, hn, h => by
    have e : (l.erase (n : Int)).length ≤ n := nd_len n _ (hn.erase _) fun x hx => by
      have h1 := h x (List.mem_of_mem_erase hx)
      have h2 : x ≠ n := fun q => by subst q; exact (List.Nodup.not_mem_erase hn) hx
      omega
    have : l.length ≤ (l.erase (n : Int)).length + 1 := by
      rw [List.length_erase]; split <;> omega
    omega
theorem nd_perm : ∀ (n : Nat) (l : List Int), l.Nodup → (∀ x ∈ l, 0 ≤ x ∧ x < n) → l.length = n → l.Perm (nats 0 n)
  | 0, l, _, _, hl => by
    have : l = [] := List.length_eq_zero_iff.mp hl
    subst this
    exact List.Perm.refl _
  | n + 1, l, hn, h, hl => by
    have hm : (n : Int) ∈ l := by
      by_cases hm : (n : Int) ∈ l
      · exact hm
      · have := nd_len n l hn fun x hx => by
          have h1 := h x hx
          have h2 : x ≠ n := fun q => by subst q; exact hm hx
          omega
        omega
    have e := nd_perm n (l.erase (n : Int)) (hn.erase _) (fun x hx => by
      have h1 := h x (List.mem_of_mem_erase hx)
      have h2 : x ≠ n := fun q => by subst q; exact (List.Nodup.not_mem_erase hn) hx
      omega) (by rw [List.length_erase_of_mem hm]; omega)
    have e2 : nats 0 (n + 1) = nats 0 n ++ [(n : Int)] := by simp [nats, List.range'_concat]
    rw [e2]
    exact (List.perm_cons_erase hm).trans ((e.cons _).trans (List.perm_append_comm (l₁ := [(n : Int)])))
theorem perm_sum {a b : List Int} (h : a.Perm b) : a.sum = b.sum := by
  induction h with
  | nil => rfl
  | cons x _ ih => simp [ih]
  | swap x y l => simp; omega
  | trans _ _ h1 h2 => exact h1.trans h2
theorem tabOf_nodup {n : Nat} {g : Int → Int} (h : ∀ i j : Nat, i < n → j < n → g i = g j → i = j) : (tabOf n g).Nodup := by
  rw [nodup_iff]
  intro i j hij hj e
  rw [tabOf_len] at hj
  simp only [tabOf, List.getElem?_map, List.getElem?_range hj, List.getElem?_range (show i < n by omega), Option.map_some] at e
  have := h i j (by omega) hj (Option.some.inj e)
  omega
theorem tabOf_perm {n : Nat} {g : Int → Int} (h : ∀ i j : Nat, i < n → j < n → g i = g j → i = j) (hb : ∀ i : Nat, i < n → 0 ≤ g i ∧ g i < n) : (tabOf n g).Perm (nats 0 n) :=
  nd_perm n _ (tabOf_nodup h) (fun x hx => by
    obtain ⟨i, hi, rfl⟩ := List.mem_map.mp hx
    exact hb i (by simpa using hi)) (tabOf_len _ _)
theorem nats_tab (n : Nat) : nats 0 n = tabOf n id := by simp [nats, tabOf, List.range_eq_range']
theorem sm_comp (f : Int → Int) {n : Nat} {g : Int → Int} (h : ∀ i j : Nat, i < n → j < n → g i = g j → i = j) (hb : ∀ i : Nat, i < n → 0 ≤ g i ∧ g i < n) : sm (fun i => f (g i)) n = sm f n := by
  have p := (tabOf_perm h hb).map f
  have q := perm_sum p
  rw [nats_tab] at q
  simp only [tabOf, List.map_map] at q
  have e1 := tabOf_sum (fun i => f (g i)) n
  have e2 := tabOf_sum f n
  simp only [tabOf] at e1 e2
  rw [← e1, ← e2]
  exact q
theorem rem_inj {t : List Int} (h : Good t) {n : Nat} (hd : t.length ∣ n) (h0 : 0 < n) (c : Int) : ∀ i j : Nat, i < n → j < n → (mv t i - c) % n = (mv t j - c) % n → i = j := by
  intro i j hi hj e
  have e2 : (n : Int) ∣ (mv t i - mv t j) := by
    have := Int.dvd_of_emod_eq_zero (Int.emod_eq_emod_iff_emod_sub_eq_zero.mp e)
    rwa [show mv t i - c - (mv t j - c) = mv t i - mv t j by omega] at this
  obtain ⟨k, hk⟩ := e2
  obtain ⟨m, rfl⟩ := hd
  have e3 : mv t i = mv t ((j : Int) + (m * k) * t.length) := by
    rw [mv_perk]
    have : ((t.length * m : Nat) : Int) * k = m * k * t.length := by rw [Int.natCast_mul, Int.mul_comm (t.length : Int), Int.mul_right_comm]
    omega
  have e4 := h.inj _ _ e3
  have e5 : ((m : Int) * k) * t.length = ((t.length * m : Nat) : Int) * k := by rw [Int.natCast_mul, Int.mul_comm (t.length : Int), Int.mul_right_comm]
  rw [e5] at e4
  have hk0 : k = 0 := by
    rcases Int.lt_trichotomy k 0 with hk | hk | hk
    · have : ((t.length * m : Nat) : Int) * k ≤ ((t.length * m : Nat) : Int) * (-1) := Int.mul_le_mul_of_nonneg_left (by omega) (by omega)
      omega
    · exact hk
    · have : ((t.length * m : Nat) : Int) * 1 ≤ ((t.length * m : Nat) : Int) * k := Int.mul_le_mul_of_nonneg_left (by omega) (by omega)
      omega
  subst hk0
  omega
theorem rem_sum {t : List Int} (h : Good t) {n : Nat} (hd : t.length ∣ n) (h0 : 0 < n) (c : Int) (f : Int → Int) (hf : PerF f n) : sm (fun i => f (mv t i - c)) n = sm f n := by
  have e := sm_comp f (g := fun i => (mv t i - c) % n) (rem_inj h hd h0 c) fun i _ => ⟨Int.emod_nonneg _ (by omega), Int.emod_lt_of_pos _ (by omega)⟩
  rw [← e]
  exact sm_congr fun i _ => (per_mod hf _).symm
theorem good_id : Good [0] := by
  refine ⟨by decide, by decide, fun x y e => ?_⟩
  have : ∀ x, act [0] x = 0 := fun x => by rw [← act_mod]; simp [act]
  simpa [mv, this] using e
theorem mv_id (x : Int) : mv [0] x = x := by
  have : act [0] x = 0 := by rw [← act_mod]; simp [act]
  simp [mv, this]
def cnt (t : List Int) (c : Int) : Int := sm (fun i => (i + act t i - c) / t.length - (i - c) / t.length) t.length
theorem cnt_sum {t : List Int} (h : Good t) (c : Int) : t.length * cnt t c = t.sum := by
  have hp := h.pos
  unfold cnt
  rw [← sm_times, sum_act]
  have r1 := rem_sum h (Nat.dvd_refl _) hp c (fun z => z % t.length) (fun z => by simp)
  have r2 := rem_sum good_id (n := t.length) ⟨t.length, by simp⟩ hp c (fun z => z % t.length) (fun z => by simp)
  simp only [mv_id] at r2
  have e : sm (fun i => (t.length : Int) * ((i + act t i - c) / t.length - (i - c) / t.length)) t.length = sm (fun i => act t i - ((mv t i - c) % t.length - (i - c) % t.length)) t.length := sm_congr fun i _ => by
    have a1 := Int.mul_ediv_add_emod (i + act t i - c) t.length
    have a2 := Int.mul_ediv_add_emod ((i : Int) - c) t.length
    unfold mv
    rw [Int.mul_sub]
    omega
  rw [e, sm_minus, sm_minus, r1, r2]
  omega
def flw (t : List Int) : Int := t.sum / t.length
theorem cnt_flw {t : List Int} (h : Good t) (c : Int) : cnt t c = flw t := by
  unfold flw
  rw [← cnt_sum h c, Int.mul_ediv_cancel_left _ (by have := h.pos; omega)]
theorem flw_sum {t : List Int} (h : Good t) : t.sum = t.length * flw t := by rw [← cnt_flw h 0, cnt_sum h]
theorem flw_per {t : List Int} (h : Good t) {n : Nat} (h0 : 0 < n) (hp : PerF (act t) n) : sm (act t) n = n * flw t := by
  have a1 := sm_per (act_per t) n
  have a2 := sm_per hp t.length
  rw [Nat.mul_comm, a2, ← sum_act, flw_sum h] at a1
  have : (t.length : Int) * sm (act t) n = t.length * (n * flw t) := by rw [a1, ← Int.mul_assoc, ← Int.mul_assoc, Int.mul_comm (n : Int)]
  exact Int.eq_of_mul_eq_mul_left (by have := h.pos; omega) this
end
end TS

namespace TS
open PySem L2
noncomputable section
theorem strOk_app {a b : Str} (h : PyData.strOk a = true) (h' : PyData.strOk b = true) : PyData.strOk (a ++ b) = true := by
  have e : (a ++ b).cps = a.cps ++ b.cps := rfl
  unfold PyData.strOk at *
  rw [e, Array.all_append, h, h']; rfl
theorem strOk_from : ∀ (ts : List Str) (k : Nat) (acc : Str), PyData.strOk acc = true → (∀ t ∈ ts, PyData.strOk t = true) → PyData.strOk (textFrom k acc ts) = true
  | [], _, _, h, _ => h
  | t :: ts, k, acc, h, ht => strOk_from ts (k + 1) _ (strOk_app (strOk_app h (strOk_of _)) (ht t (by simp))) fun x hx => ht x (by simp [hx])
theorem strOk_join : ∀ (ts : List Str), (∀ t ∈ ts, PyData.strOk t = true) → PyData.strOk (Str.join ", " ts) = true
  | [], _ => strOk_of ""
  | [x], h => h x (by simp)
  | x :: y :: r, h => strOk_app (strOk_app (h x (by simp)) (strOk_of _)) (strOk_join (y :: r) fun z hz => h z (by simp [hz]))
mutual
def fine : PyData → Prop
  | .none => True
  | .bool _ => True
  | .int i => i.natAbs < 2 ^ 255
  | .str x => PyData.strOk (PyData.shown (.str x)) = true ∧ PyData.showable (.str x) = true ∧ PyData.leavesShort 80 (.str x) = true
  | .list xs => fineAll xs
  | .tuple xs => fineAll xs
  | .dict _ => False
def fineAll : List PyData → Prop
  | [] => True
  | x :: xs => fine x ∧ fineAll xs
end
mutual
theorem fine_text : ∀ p : PyData, fine p → PyData.strOk p.shown = true
  | .none, _ => strOk_of _
  | .bool b, _ => by unfold PyData.shown; split <;> exact strOk_of _
  | .int i, _ => by unfold PyData.shown; exact strOk_of _
  | .str _, h => by unfold fine at h; exact h.1
  | .list xs, h => by
    unfold fine at h
    unfold PyData.shown listText
    exact strOk_app (strOk_from _ _ _ (strOk_of _) (fineAll_text xs h)) (strOk_of _)
  | .tuple xs, h => by
    unfold fine at h
    unfold PyData.shown tupleText
    exact strOk_app (strOk_app (strOk_of _) (strOk_join _ (fineAll_text xs h))) (strOk_of _)
  | .dict _, h => by simp [fine] at h
theorem fineAll_text : ∀ xs : List PyData, fineAll xs → ∀ t ∈ PyData.shownAll xs, PyData.strOk t = true
  | [], _, t, ht => by simp [PyData.shownAll] at ht
  | x :: xs, h, t, ht => by
    unfold fineAll at h
    rw [PyData.shownAll, List.mem_cons] at ht
    rcases ht with rfl | ht
    · exact fine_text x h.1
    · exact fineAll_text xs h.2 t ht
end
theorem int_log {i : Int} (h : i.natAbs < 2 ^ 255) : i.natAbs.log2 < 1920 := by
  have := log2_lt h (by decide)
  omega
mutual
theorem fine_show : ∀ p : PyData, fine p → p.showable = true ∧ p.hasDict = false ∧ p.leavesShort 80 = true
  | .none, _ => by simp [PyData.showable, PyData.hasDict, PyData.leavesShort]
  | .bool b, _ => by simp [PyData.showable, PyData.hasDict, PyData.leavesShort]
  | .int i, h => by
    unfold fine at h
    have h2 := int_log h
    have h3 : (PyData.shown (.int i)).length ≤ 80 := by
      unfold PyData.shown
      have e := int_text_length_le10 (a := i) (k := 78) (by decide) (Nat.lt_trans h (by decide))
      show (Str.ofString (toString i)).length ≤ 80
      simp only [Str.length, Str.ofString_eq_toList, List.size_toArray, List.length_map]
      rw [String.length_toList]
      omega
    simp [PyData.showable, PyData.hasDict, PyData.leavesShort, h2, h3]
  | .str _, h => by unfold fine at h; exact ⟨h.2.1, by simp [PyData.hasDict], h.2.2⟩
  | .list xs, h => by
    unfold fine at h
    unfold PyData.showable PyData.hasDict PyData.leavesShort
    exact fineAll_show xs h
  | .tuple xs, h => by
    unfold fine at h
    unfold PyData.showable PyData.hasDict PyData.leavesShort
    exact fineAll_show xs h
  | .dict _, h => by simp [fine] at h
theorem fineAll_show : ∀ xs : List PyData, fineAll xs → PyData.showableAll xs = true ∧ PyData.hasDictAll xs = false ∧ PyData.leavesShortAll 80 xs = true
  | [], _ => by simp [PyData.showableAll, PyData.hasDictAll, PyData.leavesShortAll]
  | x :: xs, h => by
    unfold fineAll at h
    have h1 := fine_show x h.1
    have h2 := fineAll_show xs h.2
    simp [PyData.showableAll, PyData.hasDictAll, PyData.leavesShortAll, h1, h2]
end
end
end TS

namespace TS
theorem per_dvd {t : List Int} (h : 0 < t.length) {n : Nat} (h0 : 0 < n) (hp : PerF (act t) n) : (least t).length ∣ n := by
  have m := leastP_min h
  rw [least_length h]
  have g := PerF.gcd (leastP t) n (leastP_dvd h).2.2 hp
  have hg : 0 < Nat.gcd (leastP t) n := Nat.gcd_pos_of_pos_right _ h0
  have := m.min _ hg g
  have e : Nat.gcd (leastP t) n = leastP t := Nat.le_antisymm (Nat.gcd_le_left _ (leastP_dvd h).2.1) this
  rw [← e]
  exact Nat.gcd_dvd_right _ _
theorem sm_mv {t : List Int} (h : Good t) {n : Nat} (h0 : 0 < n) (hp : PerF (act t) n) (f : Int → Int) (hf : PerF f n) : sm (fun i => f (mv t i)) n = sm f n := by
  have hd := per_dvd h.pos h0 hp
  have := rem_sum h.least hd h0 0 f hf
  simp only [Int.sub_zero, mv_least h] at this
  exact this
structure PF (u : List Int) (F B : Int) : Prop where
  good : Good u
  flow : flw u = F
  bd : ∀ x, -B ≤ act u x ∧ act u x ≤ B
  per : PerF (act u) (2520 : Nat)
theorem PF.sum {u : List Int} {F B : Int} (h : PF u F B) : sm (act u) 2520 = 2520 * F := by
  rw [← h.flow]; exact flw_per h.good (by decide) h.per
theorem PF.mvper {u : List Int} {F B : Int} (h : PF u F B) (x : Int) : mv u (x + (2520 : Nat)) = mv u x + (2520 : Nat) := by
  unfold mv; rw [h.per]; omega
theorem PF.of_sum {u : List Int} {F B : Int} (g : Good u) (hp : PerF (act u) (2520 : Nat)) (hs : sm (act u) 2520 = 2520 * F) (hb : ∀ x, -B ≤ act u x ∧ act u x ≤ B) : PF u F B :=
  ⟨g, by have := flw_per g (by decide) hp; rw [hs] at this; omega, hb, hp⟩
theorem PF.mono {u : List Int} {F B B' : Int} (h : PF u F B) (hb : B ≤ B') : PF u F B' := ⟨h.good, h.flow, fun x => by have := h.bd x; omega, h.per⟩
theorem PF.join {u v w : List Int} {F B F' B' : Int} (h : PF u F B) (h' : PF v F' B') (g : Good w) (e : ∀ x, mv w x = mv v (mv u x)) : PF w (F + F') (B + B') := by
  have ea : ∀ x, act w x = act u x + act v (mv u x) := fun x => by
    have := e x
    unfold mv at this ⊢
    omega
  refine PF.of_sum g (fun x => ?_) ?_ fun x => ?_
  · rw [ea, ea, h.per, h.mvper, h'.per]
  · rw [sm_congr (g := fun i => act u i + act v (mv u i)) fun i _ => ea i, sm_plus, sm_mv h.good (by decide) h.per _ h'.per, h.sum, h'.sum, Int.mul_add]
  · have := h.bd x
    have := h'.bd (mv u x)
    rw [ea]; omega
theorem PF.id : PF [0] 0 0 := by
  have a : ∀ x, act [0] x = 0 := fun x => by have := mv_id x; unfold mv at this; omega
  exact PF.of_sum good_id (fun x => by rw [a, a]) (by rw [sm_congr (g := fun _ => 0) fun i _ => a i, sm_const]; rfl) fun x => by rw [a]; omega
end TS

namespace TS
open PySem L2
end TS

namespace TS
open PySem L2
end TS

namespace TS
open PySem L2
noncomputable section
@[simp] theorem ap_fLenSet (f : FD) (δ : Sl) : fLenSet f δ = (f δ).bind fun d δ => match d with
  | .lst ds => (match intsD ds with
    | some ns => if ns.length ≤ 4000 then .ok (.int (ns.eraseDups.length : Nat)) δ else .bad
    | none => .bad)
  | _ => .bad := id rfl
@[simp] theorem ap_fxNil (δ : Sl) : fxNil δ = .ok [] δ := id rfl
@[simp] theorem ap_fxCons (f : FE) (g : FX) (δ : Sl) : fxCons f g δ = (f δ).bind fun r δ1 => match r with
  | .brw _ => .bad
  | .nst _ _ => .bad
  | r => (g δ1).bind fun rs δ2 => .ok (r :: rs) δ2 := id rfl
@[simp] theorem ap_sPar2E (i j : Nat) (f : FX) (δ : Sl) : sPar2E i j f δ = (f δ).bindS fun rs δ1 => match rs with
  | [a, b] => if i < δ1.length then .nx ((δ1.set i (some a)).set j (some b)) else .bad
  | _ => .bad := id rfl
@[simp] theorem ap_sPar3E (i j l : Nat) (f : FX) (δ : Sl) : sPar3E i j l f δ = (f δ).bindS fun rs δ1 => match rs with
  | [a, b, c] => if i < δ1.length ∧ j < δ1.length then .nx (((δ1.set i (some a)).set j (some b)).set l (some c)) else .bad
  | _ => .bad := id rfl
structure IsLap (t : List Int) (x : Int) (m : Nat) : Prop where
  pos : 0 < m
  le : m ≤ t.length
  dv : (pwr t (m : Int) x - x) % t.length = 0
  min : ∀ j : Nat, 0 < j → j < m → (pwr t (j : Int) x - x) % t.length ≠ 0
theorem pwr_lapN {t : List Int} (h : Good t) {m : Nat} {x q : Int} (e : pwr t (m : Int) x = x + q * t.length) : ∀ j : Nat, pwr t ((j : Int) * m) x = x + j * q * t.length
  | 0 => by simp [pwr_zero]
  | j + 1 => by
    rw [Int.natCast_succ, Int.add_mul, Int.one_mul, pwr_add h, pwr_lapN h e j, pwr_perk h, e, Int.add_mul, Int.one_mul, Int.add_mul]
    omega
theorem pwr_lapM {t : List Int} (h : Good t) {m : Nat} {x q : Int} (e : pwr t (m : Int) x = x + q * t.length) : ∀ j : Nat, pwr t (-(j : Int) * m) x = x + -(j : Int) * q * t.length
  | 0 => by simp [pwr_zero]
  | j + 1 => by
    have ih := pwr_lapM h e j
    have e2 : -((j + 1 : Nat) : Int) * m + m = -(j : Int) * m := by
      rw [Int.natCast_succ, Int.neg_add, Int.add_mul, Int.neg_mul 1, Int.one_mul]; omega
    rw [← e2, pwr_add h] at ih
    have e3 : x + -(j : Int) * q * t.length = pwr t (m : Int) (x + (-((j + 1 : Nat) : Int) * q) * t.length) := by
      rw [pwr_perk h, e, Int.natCast_succ, Int.neg_add, Int.add_mul, Int.add_mul, Int.neg_mul 1, Int.one_mul, Int.neg_mul q]
      omega
    rw [e3] at ih
    exact pwr_inj h _ _ _ ih
theorem pwr_lap {t : List Int} (h : Good t) {m : Nat} {x q : Int} (e : pwr t (m : Int) x = x + q * t.length) (j : Int) : pwr t (j * m) x = x + j * q * t.length := by
  rcases Int.le_total 0 j with z | z
  · obtain ⟨k, rfl⟩ := Int.eq_ofNat_of_zero_le z
    exact pwr_lapN h e k
  · obtain ⟨k, hk⟩ := Int.eq_ofNat_of_zero_le (show 0 ≤ -j by omega)
    have : j = -(k : Int) := by omega
    subst this
    exact pwr_lapM h e k
theorem IsLap.far {t : List Int} {x : Int} {m : Nat} (l : IsLap t x m) : pwr t (m : Int) x = x + (pwr t (m : Int) x - x) / t.length * t.length := by
  have := Int.ediv_mul_cancel_of_emod_eq_zero l.dv
  omega
theorem IsLap.after {t : List Int} (h : Good t) {x : Int} {m : Nat} (l : IsLap t x m) (k : Int) : pwr t (k % m) (x + k / m * (pwr t (m : Int) x - x)) = pwr t k x := by
  have e1 := pwr_lap h l.far (k / m)
  have e2 : k / m * ((pwr t (m : Int) x - x) / t.length) * t.length = k / m * (pwr t (m : Int) x - x) := by
    rw [Int.mul_assoc, Int.ediv_mul_cancel_of_emod_eq_zero l.dv]
  rw [e2] at e1
  have e3 : k / m * m + k % m = k := by have := Int.mul_ediv_add_emod k m; rw [Int.mul_comm] at this; omega
  rw [← e1, ← pwr_add h, e3]
end
end TS

namespace TS
open PySem L2
noncomputable section
@[simp] theorem ap_fChain (g g' : D → D → Option R) (fa fb fc : FD) (δ : Sl) : fChain g g' fa fb fc δ = (fa δ).bind fun x δ1 => (fb δ1).bind fun y δ2 => match g x y with
  | some (.imm (.bl true)) => (fc δ2).bind fun w δ3 => (match g' y w with
    | some z => .ok z δ3
    | none => .bad)
  | some (.imm (.bl false)) => .ok (.imm (.bl false)) δ2
  | _ => .bad := id rfl
@[simp] theorem ap_fGet (fo fk fx : FD) (δ : Sl) : fGet fo fk fx δ = (fo δ).bind fun d δ1 => if isDD d then (fk δ1).bind fun k δ2 => (fx δ2).bind fun x δ3 => (match gGet d k x with
  | some z => .ok z δ3
  | none => .bad) else .bad := id rfl
def isI : Option R → Bool
  | none => true
  | some (.imm _) => true
  | _ => false
@[simp] theorem isI_none : isI none = true := rfl
@[simp] theorem isI_imm (d : D) : isI (some (.imm d)) = true := rfl
end
end TS

namespace TS
open PySem L2
end TS

namespace TS
open PySem L2
noncomputable section
end
end TS

namespace TS
open PySem L2
noncomputable section
@[simp] theorem ap_fRes (i : Nat) (res : Res D) (δ : Sl) : fRes i res δ = match δ[i]? with
  | some (some (.imm .lam)) => (match res with
    | .ok d _ => .ok (.imm d) δ
    | .exc x _ => .exc x δ
    | .bad => .bad)
  | _ => .bad := rfl
@[simp] theorem ap_fReprD (fa : FD) (δ : Sl) : fReprD fa δ = (fa δ).bind fun d δ1 => match gReprD d with
  | some x => .ok (.str x) δ1
  | none => .bad := rfl
@[simp] theorem ap_fLam (ixs : List Nat) (mt : Res D → Fm) (fb : FE) (δ : Sl) : fLam ixs mt fb δ = outL (mt (thk fb (frzS ixs δ)) none [.lam]) (frzS ixs δ) := rfl
@[simp] theorem ap_fCMethK (n : Nat) (f : Fm) (l : Nat) (fk : FA) (δ : Sl) : fCMethK n f l fk δ = (fk δ).bind fun ds δ1 => if ds.length = l then outE (f none (.cls n :: ds)) δ1 else .bad := rfl
@[simp] theorem ap_hNil (y : XD) : hNil y = none := rfl
@[simp] theorem ap_sRaise (n k : Nat) (fa : FA) (δ : Sl) : sRaise n k fa δ = (fa δ).bindS fun ds δ1 => if ds.length = k then .exc ⟨n, ds.reverse⟩ δ1 else .bad := rfl
@[simp] theorem outE_exc (x : XD) (io : Option OB) (δ : Sl) : outE (.exc x io) δ = .exc x δ := rfl
theorem gEq_self {d : D} {p : PyData} (e : toP d = some p) (h : SeqAt.shaped p = true) : gEq d d = some (.imm (.bl true)) := by
  have h2 : p.canLay0 = true := by unfold SeqAt.shaped at h; exact (Bool.and_eq_true _ _ ▸ h).1
  simp only [gEq, e, h, Bool.and_self, if_true, SeqAt.eqv_refl p h2]
theorem gNe_self {d : D} {p : PyData} (e : toP d = some p) (h : SeqAt.shaped p = true) : gNe d d = some (.imm (.bl false)) := by
  have h2 : p.canLay0 = true := by unfold SeqAt.shaped at h; exact (Bool.and_eq_true _ _ ▸ h).1
  simp only [gNe, e, h, Bool.and_self, if_true, SeqAt.eqv_refl p h2]
  rfl
end
end TS

namespace TS
open PySem L2
noncomputable section
@[simp] theorem mu_nst (tp : Bool) (ps : List (D ⊕ OB)) : (R.nst tp ps).mu = false := rfl
@[simp] theorem seeS_nil : seeS [] = [] := rfl
@[simp] theorem seeS_cons (x : Option R) (δ : Sl) : seeS (x :: δ) = x.bind seeR :: seeS δ := rfl
@[simp] theorem seeR_imm (d : D) : seeR (.imm d) = some (.imm d) := rfl
@[simp] theorem seeR_l (xs : List D) : seeR (.own (.l xs)) = some (.imm (.lst xs)) := rfl
@[simp] theorem seeR_o (n : Nat) (xs : List D) : seeR (.own (.o n xs)) = some (.imm (.obj n xs)) := rfl
@[simp] theorem seeR_dK (ks : List Key) (xs : List D) : seeR (.own (.dK ks xs)) = none := rfl
@[simp] theorem seeR_dT (ks : List (List Key)) (xs : List D) : seeR (.own (.dT ks xs)) = none := rfl
@[simp] theorem seeR_bl (xs : List D) : seeR (.brw (.l xs)) = some (.imm (.lst xs)) := rfl
@[simp] theorem seeR_nst (tp : Bool) (ps : List (D ⊕ OB)) : seeR (.nst tp ps) = if ps.all pL then some (.imm (nstD tp ps)) else none := rfl
@[simp] theorem pD_l (d : D) : pD (.inl d) = d := rfl
@[simp] theorem pD_r (o : OB) : pD (.inr o) = o.toD := rfl
@[simp] theorem pL_l (d : D) : pL (.inl d) = true := rfl
@[simp] theorem pL_r (o : OB) : pL (.inr o) = !o.dic := rfl
@[simp] theorem dic_l (xs : List D) : (OB.l xs).dic = false := rfl
@[simp] theorem dic_o (n : Nat) (xs : List D) : (OB.o n xs).dic = false := rfl
@[simp] theorem nstD_f (ps : List (D ⊕ OB)) : nstD false ps = .lst (ps.map pD) := rfl
@[simp] theorem nstD_t (ps : List (D ⊕ OB)) : nstD true ps = .tup (ps.map pD) := rfl
@[simp] theorem flatQ_bl (b : Bool) : flatQ (.imm (.bl b)) = true := rfl
@[simp] theorem flatQ_int (b : Int) : flatQ (.imm (.int b)) = true := rfl
@[simp] theorem flatQ_str (b : Str) : flatQ (.imm (.str b)) = true := rfl
@[simp] theorem flatQ_non : flatQ (.imm .non) = true := rfl
@[simp] theorem flatQ_l (xs : List D) : flatQ (.own (.l xs)) = xs.all flatD := rfl
theorem flat_iL (xs : List Int) : (iL xs).all flatD = true := by
  rw [List.all_eq_true]; intro d hd
  obtain ⟨x, _, rfl⟩ := List.mem_map.mp hd; rfl
@[simp] theorem ap_fSee (f : FE) (δ : Sl) : fSee f δ = match f (seeS δ) with
  | .ok r _ => if flatQ r then .ok r δ else .bad
  | _ => .bad := rfl
@[simp] theorem ap_tSee (f : FT) (δ : Sl) : tSee f δ = match f (seeS δ) with
  | .ok b _ => .ok b δ
  | _ => .bad := rfl
@[simp] theorem killN_nil : killN [] = [] := rfl
@[simp] theorem killN_cons (x : Option R) (δ : Sl) : killN (x :: δ) = kill1 x :: killN δ := rfl
@[simp] theorem kill1_none : kill1 none = none := rfl
@[simp] theorem kill1_imm (d : D) : kill1 (some (.imm d)) = some (.imm d) := rfl
@[simp] theorem kill1_own (d : OB) : kill1 (some (.own d)) = some (.own d) := rfl
@[simp] theorem kill1_brw (d : OB) : kill1 (some (.brw d)) = some (.brw d) := rfl
@[simp] theorem kill1_nst (tp : Bool) (ps : List (D ⊕ OB)) : kill1 (some (.nst tp ps)) = none := rfl
@[simp] theorem kill_nx (δ : Sl) : SR.kill (.nx δ) = .nx (killN δ) := rfl
@[simp] theorem kill_rt (r : R) (δ : Sl) : SR.kill (.rt r δ) = .rt r (killN δ) := rfl
@[simp] theorem kill_bk (δ : Sl) : SR.kill (.bk δ) = .bk (killN δ) := rfl
@[simp] theorem kill_ct (δ : Sl) : SR.kill (.ct δ) = .ct (killN δ) := rfl
@[simp] theorem kill_exc (x : XD) (δ : Sl) : SR.kill (.exc x δ) = .exc x (killN δ) := rfl
@[simp] theorem ndOf_nil : ndOf [] = [] := rfl
@[simp] theorem ndOf_imm (d : D) (rs : List R) : ndOf (.imm d :: rs) = .inl d :: ndOf rs := rfl
@[simp] theorem ndOf_own (d : OB) (rs : List R) : ndOf (.own d :: rs) = .inr d :: ndOf rs := rfl
@[simp] theorem ap_fNst (f : FX) (δ : Sl) : fNst f δ = (f δ).bind fun rs δ1 => if (ndOf rs).length ≤ 16777216 then .ok (.nst false (ndOf rs)) δ1 else .bad := rfl
@[simp] theorem ap_fNstT (f : FX) (δ : Sl) : fNstT f δ = (f δ).bind fun rs δ1 => if (ndOf rs).length ≤ 16777216 then .ok (.nst true (ndOf rs)) δ1 else .bad := rfl
end
end TS

namespace TS
open PySem L2
noncomputable section
@[simp] theorem ap_fReprT (fa : FD) (δ : Sl) : fReprT fa δ = (fa δ).bind fun d δ1 => match gReprT d with
  | some x => .ok (.str x) δ1
  | none => .bad := rfl
@[simp] theorem ap_itZip3 (f g h : FD) (δ : Sl) : itZip3 f g h δ = (f δ).bind fun d δ => (g δ).bind fun d' δ => (h δ).bind fun d'' δ => match d, d', d'' with
  | .lst m, .lst n, .lst k => .ok (zip3D m n k) δ
  | _, _, _ => .bad := rfl
@[simp] theorem ap_fNstT' (f : FX) (δ : Sl) : fNstT f δ = (f δ).bind fun rs δ1 => if (ndOf rs).length ≤ 16777216 then .ok (.nst true (ndOf rs)) δ1 else .bad := rfl
@[simp] theorem tup2N_nst (i j : Nat) (x y : D ⊕ OB) (δ : Sl) : tTup2N i j (.nst true [x, y]) δ = if i = j then .bad else .nx ((δ.set i (some (nSlot x))).set j (some (nSlot y))) := rfl
@[simp] theorem nSlot_l (d : D) : nSlot (.inl d) = .imm d := rfl
@[simp] theorem nSlot_r (o : OB) : nSlot (.inr o) = .own o := rfl
end
end TS

namespace TS
open PySem L2
noncomputable section
@[simp] theorem ap_fLEnum (f : FD) (δ : Sl) : fLEnum f δ = (f δ).bind fun d δ => match d with
  | .lst ds => .ok (.own (.l (enumD 0 ds))) δ
  | _ => .bad := rfl
@[simp] theorem ap_fLItems (f : FD) (δ : Sl) : fLItems f δ = (f δ).bind fun d δ => match d with
  | .dK ks ds => .ok (.own (.l (zipD (ks.map keyD) ds))) δ
  | .dT ks ds => .ok (.own (.l (zipD (ks.map keysD) ds))) δ
  | _ => .bad := rfl
@[simp] theorem ap_fPopD (x : Nat) (fi : FD) (δ : Sl) : fPopD x fi δ = if dicR δ x then (fi δ).bind fun i δ1 => match δ1[x]? with
  | some (some (.own o)) => (match popOB o i with
    | some (d, o') => .ok d (δ1.set x (some (.own o')))
    | none => .bad)
  | some (some (.brw o)) => (match popOB o i with
    | some (d, o') => .ok d (δ1.set x (some (.brw o')))
    | none => .bad)
  | _ => .bad else .bad := rfl
@[simp] theorem ap_frzN (f : FE) (δ : Sl) : frzN f δ = (f δ).bind fun r δ1 => match r with
  | .nst tp ps => if ps.all pL then .ok (nstD tp ps) δ1 else .bad
  | .imm d => .ok d δ1
  | .own o => .ok o.toD δ1
  | .brw _ => .bad := by
  unfold frzN
  cases f δ with
  | ok r δ1 => cases r <;> rfl
  | exc x δ1 => rfl
  | bad => rfl
end
end TS

set_option maxHeartbeats 0
namespace K10
open PySem L2 TS
structure Ev (K : PySem.W.Frag) (mg : Str → Option Value) (base : Heap) : Prop where
  c : SaysS fa fn K
  X : K.In base
  G : base.Ns mainGlobals mg
  t : ∀ p ∈ csOf tn K, LamX.TabB base mg p.1 p.2
  m : ∀ x ∈ tn, fnRef x.1 K = true
  u : ∀ x ∈ tn, ∀ y ∈ tn, tbA x.1 K = tbA y.1 K → x.2 = y.2
def MM (K : PySem.W.Frag) : Gm where
  K := K
  G := fun n => match n with | 100 => some (He.ga K "InvalidInteger") | 101 => some (He.ga K "InvalidRatio") | 102 => some (He.ga K "InvalidTable") | 103 => some (He.ga K "InvalidPair") | 104 => some (He.ga K "InvalidAddress") | 105 => some (He.ga K "InvalidProfile") | 106 => some (He.ga K "InvalidValue") | 107 => some (He.ga K "InvalidFormula") | 108 => some (He.ga K "InvalidName") | 109 => some (He.ga K "InvalidLine") | 110 => some (He.ga K "NoTrack") | 111 => some (He.ga K "NoRoot") | 112 => some (He.ga K "NoRenaming") | 113 => some (He.ga K "NoFactors") | 114 => some (He.ga K "UnknownName") | 115 => some (He.ga K "TooLong") | 116 => some (He.ga K "TooMany") | 117 => some (He.ga K "NothingToUndo") | _ => none
  nm := fun n => match n with | 100 => ["value"] | 101 => ["value"] | 102 => ["earlier", "position", "problem"] | 103 => ["position"] | 104 => ["value"] | 105 => ["problem"] | 106 => ["value"] | 107 => ["position"] | 108 => ["value"] | 109 => ["value"] | 110 => ["number", "key"] | 111 => ["many", "key"] | 112 => ["found"] | 113 => ["excess"] | 114 => ["name"] | 115 => ["multiple"] | 116 => ["many"] | 117 => [] | _ => []
  T := tsOf tn K
noncomputable section
variable {P : Program} {w : World} {K : PySem.W.Frag} {mg : Str → Option Value} {base : Heap}
theorem u_len (v : Ev K mg base) : mg "len" = none := He.free_ok v.X v.G (v.c.fact 0 (f := .he (.free "len")))
theorem u_min (v : Ev K mg base) : mg "min" = none := He.free_ok v.X v.G (v.c.fact 1 (f := .he (.free "min")))
theorem u_max (v : Ev K mg base) : mg "max" = none := He.free_ok v.X v.G (v.c.fact 2 (f := .he (.free "max")))
theorem u_range (v : Ev K mg base) : mg "range" = none := He.free_ok v.X v.G (v.c.fact 3 (f := .he (.free "range")))
theorem u_divmod (v : Ev K mg base) : mg "divmod" = none := He.free_ok v.X v.G (v.c.fact 4 (f := .he (.free "divmod")))
theorem u_int (v : Ev K mg base) : mg "int" = none := He.free_ok v.X v.G (v.c.fact 5 (f := .he (.free "int")))
theorem u__law_draw (v : Ev K mg base) : mg "_law_draw" = some (.ref (He.ga K "_law_draw")) := He.glo_ok v.X v.G (v.c.fact 6 (f := .he (.glo "_law_draw")))
theorem u__law_choice (v : Ev K mg base) : mg "_law_choice" = some (.ref (He.ga K "_law_choice")) := He.glo_ok v.X v.G (v.c.fact 7 (f := .he (.glo "_law_choice")))
theorem u__law_parts (v : Ev K mg base) : mg "_law_parts" = some (.ref (He.ga K "_law_parts")) := He.glo_ok v.X v.G (v.c.fact 8 (f := .he (.glo "_law_parts")))
theorem u_InvalidRatio (v : Ev K mg base) : mg "InvalidRatio" = some (.ref (He.ga K "InvalidRatio")) := He.glo_ok v.X v.G (v.c.fact 11 (f := .he (.glo "InvalidRatio")))
theorem u_InvalidInteger (v : Ev K mg base) : mg "InvalidInteger" = some (.ref (He.ga K "InvalidInteger")) := He.glo_ok v.X v.G (v.c.fact 14 (f := .he (.glo "InvalidInteger")))
theorem u_InvalidValue (v : Ev K mg base) : mg "InvalidValue" = some (.ref (He.ga K "InvalidValue")) := He.glo_ok v.X v.G (v.c.fact 17 (f := .he (.glo "InvalidValue")))
theorem u_InvalidAddress (v : Ev K mg base) : mg "InvalidAddress" = some (.ref (He.ga K "InvalidAddress")) := He.glo_ok v.X v.G (v.c.fact 20 (f := .he (.glo "InvalidAddress")))
theorem u_InvalidLine (v : Ev K mg base) : mg "InvalidLine" = some (.ref (He.ga K "InvalidLine")) := He.glo_ok v.X v.G (v.c.fact 23 (f := .he (.glo "InvalidLine")))
theorem u_InvalidName (v : Ev K mg base) : mg "InvalidName" = some (.ref (He.ga K "InvalidName")) := He.glo_ok v.X v.G (v.c.fact 26 (f := .he (.glo "InvalidName")))
theorem u_InvalidTable (v : Ev K mg base) : mg "InvalidTable" = some (.ref (He.ga K "InvalidTable")) := He.glo_ok v.X v.G (v.c.fact 31 (f := .he (.glo "InvalidTable")))
theorem u_InvalidFormula (v : Ev K mg base) : mg "InvalidFormula" = some (.ref (He.ga K "InvalidFormula")) := He.glo_ok v.X v.G (v.c.fact 34 (f := .he (.glo "InvalidFormula")))
theorem u_InvalidPair (v : Ev K mg base) : mg "InvalidPair" = some (.ref (He.ga K "InvalidPair")) := He.glo_ok v.X v.G (v.c.fact 37 (f := .he (.glo "InvalidPair")))
theorem u_InvalidProfile (v : Ev K mg base) : mg "InvalidProfile" = some (.ref (He.ga K "InvalidProfile")) := He.glo_ok v.X v.G (v.c.fact 40 (f := .he (.glo "InvalidProfile")))
theorem u__law_first (v : Ev K mg base) : mg "_law_first" = some (.ref (He.ga K "_law_first")) := He.glo_ok v.X v.G (v.c.fact 41 (f := .he (.glo "_law_first")))
theorem u_NoRoot (v : Ev K mg base) : mg "NoRoot" = some (.ref (He.ga K "NoRoot")) := He.glo_ok v.X v.G (v.c.fact 45 (f := .he (.glo "NoRoot")))
theorem u_NoTrack (v : Ev K mg base) : mg "NoTrack" = some (.ref (He.ga K "NoTrack")) := He.glo_ok v.X v.G (v.c.fact 49 (f := .he (.glo "NoTrack")))
theorem u_NoRenaming (v : Ev K mg base) : mg "NoRenaming" = some (.ref (He.ga K "NoRenaming")) := He.glo_ok v.X v.G (v.c.fact 52 (f := .he (.glo "NoRenaming")))
theorem u_NothingToUndo (v : Ev K mg base) : mg "NothingToUndo" = some (.ref (He.ga K "NothingToUndo")) := He.glo_ok v.X v.G (v.c.fact 54 (f := .he (.glo "NothingToUndo")))
theorem u_UnknownName (v : Ev K mg base) : mg "UnknownName" = some (.ref (He.ga K "UnknownName")) := He.glo_ok v.X v.G (v.c.fact 57 (f := .he (.glo "UnknownName")))
theorem u_NoFactors (v : Ev K mg base) : mg "NoFactors" = some (.ref (He.ga K "NoFactors")) := He.glo_ok v.X v.G (v.c.fact 60 (f := .he (.glo "NoFactors")))
theorem u_TooMany (v : Ev K mg base) : mg "TooMany" = some (.ref (He.ga K "TooMany")) := He.glo_ok v.X v.G (v.c.fact 63 (f := .he (.glo "TooMany")))
theorem u_TooLong (v : Ev K mg base) : mg "TooLong" = some (.ref (He.ga K "TooLong")) := He.glo_ok v.X v.G (v.c.fact 66 (f := .he (.glo "TooLong")))
theorem u__law_second (v : Ev K mg base) : mg "_law_second" = some (.ref (He.ga K "_law_second")) := He.glo_ok v.X v.G (v.c.fact 67 (f := .he (.glo "_law_second")))
theorem u_enumerate (v : Ev K mg base) : mg "enumerate" = none := He.free_ok v.X v.G (v.c.fact 68 (f := .he (.free "enumerate")))
theorem u_LimitError (v : Ev K mg base) : mg "LimitError" = some (.ref (He.ga K "LimitError")) := He.glo_ok v.X v.G (v.c.fact 87 (f := .he (.glo "LimitError")))
theorem u_isinstance (v : Ev K mg base) : mg "isinstance" = none := He.free_ok v.X v.G (v.c.fact 88 (f := .he (.free "isinstance")))
theorem u_AbsentError (v : Ev K mg base) : mg "AbsentError" = some (.ref (He.ga K "AbsentError")) := He.glo_ok v.X v.G (v.c.fact 107 (f := .he (.glo "AbsentError")))
theorem u_ThreeswapsError (v : Ev K mg base) : mg "ThreeswapsError" = some (.ref (He.ga K "ThreeswapsError")) := He.glo_ok v.X v.G (v.c.fact 126 (f := .he (.glo "ThreeswapsError")))
theorem u_ArithmeticError (v : Ev K mg base) : mg "ArithmeticError" = none := He.free_ok v.X v.G (v.c.fact 145 (f := .he (.free "ArithmeticError")))
theorem u_LookupError (v : Ev K mg base) : mg "LookupError" = none := He.free_ok v.X v.G (v.c.fact 164 (f := .he (.free "LookupError")))
theorem u_ValueError (v : Ev K mg base) : mg "ValueError" = none := He.free_ok v.X v.G (v.c.fact 183 (f := .he (.free "ValueError")))
theorem u__law_above_right (v : Ev K mg base) : mg "_law_above_right" = some (.ref (He.ga K "_law_above_right")) := He.glo_ok v.X v.G (v.c.fact 184 (f := .he (.glo "_law_above_right")))
theorem u__law_marks (v : Ev K mg base) : mg "_law_marks" = some (.ref (He.ga K "_law_marks")) := He.glo_ok v.X v.G (v.c.fact 509 (f := .he (.glo "_law_marks")))
theorem u__law_raised (v : Ev K mg base) : mg "_law_raised" = some (.ref (He.ga K "_law_raised")) := He.glo_ok v.X v.G (v.c.fact 564 (f := .he (.glo "_law_raised")))
theorem u__law_caught (v : Ev K mg base) : mg "_law_caught" = some (.ref (He.ga K "_law_caught")) := He.glo_ok v.X v.G (v.c.fact 565 (f := .he (.glo "_law_caught")))
theorem u_repr (v : Ev K mg base) : mg "repr" = none := He.free_ok v.X v.G (v.c.fact 567 (f := .he (.free "repr")))
theorem u_all (v : Ev K mg base) : mg "all" = none := He.free_ok v.X v.G (v.c.fact 568 (f := .he (.free "all")))
theorem u__law_second_right (v : Ev K mg base) : mg "_law_second_right" = some (.ref (He.ga K "_law_second_right")) := He.glo_ok v.X v.G (v.c.fact 569 (f := .he (.glo "_law_second_right")))
theorem u_list (v : Ev K mg base) : mg "list" = none := He.free_ok v.X v.G (v.c.fact 570 (f := .he (.free "list")))
theorem u__law_first_right (v : Ev K mg base) : mg "_law_first_right" = some (.ref (He.ga K "_law_first_right")) := He.glo_ok v.X v.G (v.c.fact 571 (f := .he (.glo "_law_first_right")))
theorem u__law_right (v : Ev K mg base) : mg "_law_right" = some (.ref (He.ga K "_law_right")) := He.glo_ok v.X v.G (v.c.fact 572 (f := .he (.glo "_law_right")))
theorem u_abs (v : Ev K mg base) : mg "abs" = none := He.free_ok v.X v.G (v.c.fact 573 (f := .he (.free "abs")))
theorem u__law_pot (v : Ev K mg base) : mg "_law_pot" = some (.ref (He.ga K "_law_pot")) := He.glo_ok v.X v.G (v.c.fact 574 (f := .he (.glo "_law_pot")))
abbrev g__law_draw_1a_1 : FS := (sAsg (fCal gDivmod (aCons (frz (fBinV gIx 0 (kD (.int 0)))) (aCons (vI 1) aNil))) (tTup 2 (tsCons (tSub 0 (kD (.int 0))) (tsCons (tName 2) tsNil))))
abbrev g__law_draw_1a_2 : FS := (sRet (vR 2))
abbrev g__law_draw_1 : FS := (sIf (fTst (fBin gGt (frz (fBinV gIx 0 (kD (.int 0)))) (kD (.int 0)))) (sSeq g__law_draw_1a_1 g__law_draw_1a_2) sNil)
abbrev g__law_draw_2 : FS := (sAsg (toE (frz (fBin gMod (frz (fCal gInt (aOne (frz (fBin gAdd (frz (fBin gMul (frz (fBinV gIx 0 (kD (.int 1)))) (kD (.int 48271)))) (kD (.int 20011))))))) (kD (.int 2147483629))))) (tSub 0 (kD (.int 1))))
abbrev g__law_draw_3 : FS := (sRet (fBin gMod (frz (fCal gInt (aOne (frz (fBin gFdiv (frz (fBin gMod (frz (fCal gInt (aOne (frz (fBin gMul (frz (fBinV gIx 0 (kD (.int 1)))) (frz (fBinV gIx 0 (kD (.int 1))))))))) (kD (.int 2147483587)))) (kD (.int 11))))))) (vP 1)))
def g__law_draw : FS := (sSeq g__law_draw_1 (sSeq g__law_draw_2 g__law_draw_3))
theorem S__law_draw : FnScope ["_law_pot_here", "_law_size", "_law_digit"] ["_law_pot_here", "_law_size"] (defScope (top 24)) := ⟨rfl, rfl, rfl, by decide +kernel, rfl, by decide +kernel, by decide +kernel⟩
theorem kp__law_draw (v : Ev K mg base) : PySem.W.keepIn K (.ref (He.ga K "_law_draw")) = true := (v.c.def_ 0 (d := d__law_draw) rfl).elim fun _ F => F.kp
theorem b__law_draw (v : Ev K mg base) : BodyOk (MM K) P w K mg base 0 "_law_draw" (top 24) (He.ga K "_law_draw") ["_law_pot_here", "_law_size", "_law_digit"] g__law_draw :=
  fun cdv A outer s H E hr tk hp => (dss_cons (ds_if (t_gt (DE.frz (x_ixV hr (pv 0) (DI.pk di_int))) (DI.pk di_int)) (dss_cons (ds_asg (b_divmod (by rfl) (u_divmod v) (DA.b (da_cons (DE.frz (x_ixV hr (pv 0) (DI.pk di_int))) (da_cons (di_var (pv 1)) da_nil)))) (dg_tup (by rfl) (dgs_cons (dg_sub (pv 0) di_int (hu_of hr)) (dgs_cons (dg_name (pg_name S__law_draw.nd (by rfl) (by first | exact Or.inl rfl | exact Or.inr rfl))) dgs_nil))) (tgt_tup (tgs_cons tgt_sub (tgs_cons (tgt_name 2) tgs_nil))))
    (dss_one (ds_ret (de_var (pv 2))))) dss_nil)
    (dss_cons (ds_asg (DI.toE (DE.frz (x_mod (DE.frz (b_int (by rfl) (u_int v) (db_one (DE.pk (x_add (DE.frz (x_mul (DE.frz (x_ixV hr (pv 0) (DI.pk di_int))) (DI.pk di_int))) (DI.pk di_int)))))) (DI.pk di_int)))) (dg_sub (pv 0) di_int (hu_of hr)) tgt_sub)
    (dss_one (ds_ret (x_mod (DE.frz (b_int (by rfl) (u_int v) (db_one (DE.pk (x_fdiv (DE.frz (x_mod (DE.frz (b_int (by rfl) (u_int v) (db_one (DE.pk (x_mul (DE.frz (x_ixV hr (pv 0) (DI.pk di_int))) (DE.pk (x_ixV hr (pv 0) (DI.pk di_int)))))))) (DI.pk di_int))) (DI.pk di_int)))))) (dp_var (pv 1)))))))
def m__law_draw : Fm := mir 3 2 g__law_draw
theorem o__law_draw (v : Ev K mg base) : DefOk (MM K) P w K mg base 1 "_law_draw" "_law_draw" (top 24) [] (He.ga K "_law_draw") ["_law_pot_here", "_law_size"] m__law_draw := by
  obtain ⟨fd, F⟩ := v.c.def_ 0 (d := d__law_draw) rfl
  exact ⟨fd, F, funD_mir (M := MM K) F S__law_draw (by decide) (fun cdv A outer s H E hr tk hp => b__law_draw v cdv A outer s H E hr tk hp)⟩
theorem f__law_draw (v : Ev K mg base) : TS.FnR P w K mg base (L2.CX P w) 1 (He.ga K "_law_draw") (spD (MM K) m__law_draw) := by
  obtain ⟨fd, F, O⟩ := o__law_draw (P := P) (w := w) v
  exact fnR_raw (M := MM K) O (F.bindsN (ps := ["_law_pot_here", "_law_size"]) fun _ _ _ _ _ _ us hl => match us, hl with | [_, _], _ => rfl)
abbrev g__law_choice_1 : FS := (sRet (fBin gIx (vI 1) (frz (fOwnIo m__law_draw 0 (aCons (frz (fCal gLen (aOne (vP 1)))) aNil)))))
def g__law_choice : FS := g__law_choice_1
theorem S__law_choice : FnScope ["_law_pot_here", "_law_some"] ["_law_pot_here", "_law_some"] (defScope (top 25)) := ⟨rfl, rfl, rfl, by decide +kernel, rfl, by decide +kernel, by decide +kernel⟩
theorem kp__law_choice (v : Ev K mg base) : PySem.W.keepIn K (.ref (He.ga K "_law_choice")) = true := (v.c.def_ 1 (d := d__law_choice) rfl).elim fun _ F => F.kp
theorem b__law_choice (v : Ev K mg base) : BodyOk (MM K) P w K mg base 1 "_law_choice" (top 25) (He.ga K "_law_choice") ["_law_pot_here", "_law_some"] g__law_choice :=
  fun cdv A outer s H E hr tk hp => (dss_one (ds_ret (x_ix hr (di_var (pv 1)) (DE.pk (d_ownIo (fun h => pe_own ((f__law_draw v).mono (by decide)) hr tk (by rfl) (u__law_draw v) (kp__law_draw v) h) (pv 0) (da_cons (DE.frz (b_len (by rfl) (u_len v) (db_one (dp_var (pv 1))))) da_nil))))))
def m__law_choice : Fm := mir 2 2 g__law_choice
theorem o__law_choice (v : Ev K mg base) : DefOk (MM K) P w K mg base 2 "_law_choice" "_law_choice" (top 25) [] (He.ga K "_law_choice") ["_law_pot_here", "_law_some"] m__law_choice := by
  obtain ⟨fd, F⟩ := v.c.def_ 1 (d := d__law_choice) rfl
  exact ⟨fd, F, funD_mir (M := MM K) F S__law_choice (by decide) (fun cdv A outer s H E hr tk hp => b__law_choice v cdv A outer s H E hr tk hp)⟩
theorem f__law_choice (v : Ev K mg base) : TS.FnR P w K mg base (L2.CX P w) 2 (He.ga K "_law_choice") (spD (MM K) m__law_choice) := by
  obtain ⟨fd, F, O⟩ := o__law_choice (P := P) (w := w) v
  exact fnR_raw (M := MM K) O (F.bindsN (ps := ["_law_pot_here", "_law_some"]) fun _ _ _ _ _ _ us hl => match us, hl with | [_, _], _ => rfl)
abbrev g__law_parts_1 : FS := (sAsg (fOwnIo m__law_choice 0 (aCons (frz (fLst (aCons (kD .non) (aCons (kD (.bl true)) (aCons (kD (.str "")) (aCons (kD (.str "1")) (aCons (fTup (aCons (kD (.int 2)) (aCons (kD (.int 4)) aNil))) (aCons (frz (fLst aNil)) (aCons (frz (fun δ => .ok (.own (.dK [] [])) δ)) (aCons (fTup (aCons (kD (.str "line")) (aCons (kD (.int 0)) (aCons (kD (.int 0)) aNil)))) (aCons (fUnI (fun i => -i) (kD (.int 3))) (aCons (kD (.str "A")) (aCons (kD (.str "period  f")) aNil))))))))))))) aNil)) (tName 1))
abbrev g__law_parts_2 : FS := (sAsg (fOwnIo m__law_choice 0 (aCons (frz (fLst (aCons (fTup (aCons (kD (.str "table")) (aCons (kD .non) (aCons (kD .non) aNil)))) (aCons (fTup (aCons (kD (.str "integer")) (aCons (frz (fOwnIo m__law_draw 0 (aCons (kD (.int 60)) aNil))) (aCons (kD .non) aNil)))) (aCons (fTup (aCons (kD (.str "meeting")) (aCons (kD (.int 5)) (aCons (kD (.int 2)) aNil)))) aNil))))) aNil)) (tName 2))
abbrev g__law_parts_3 : FS := (sAsg (fOwnIo m__law_choice 0 (aCons (frz (fLst (aCons (fTup (aCons (kD (.int 1)) (aCons (kD (.int 1)) aNil))) (aCons (fTup (aCons (fUnI (fun i => -i) (kD (.int 3))) (aCons (kD (.int 2)) aNil))) (aCons (fTup (aCons (kD (.int 0)) (aCons (kD (.int 1)) aNil))) (aCons (fTup (aCons (frz (fBin gPow (kD (.int 10)) (kD (.int 20)))) (aCons (kD (.int 7)) aNil))) aNil)))))) aNil)) (tName 3))
abbrev g__law_parts_4 : FS := (sPar 4 5 (fBin gAdd (kD (.int 1)) (frz (fOwnIo m__law_draw 0 (aCons (kD (.int 5000)) aNil)))) (fBin gSub (frz (fOwnIo m__law_draw 0 (aCons (kD (.int 41)) aNil))) (kD (.int 20))))
abbrev g__law_parts_5 : FS := (sRet (toE (fTup (aCons (vI 1) (aCons (vI 2) (aCons (vI 3) (aCons (vI 4) (aCons (vI 5) aNil))))))))
def g__law_parts : FS := (sSeq g__law_parts_1 (sSeq g__law_parts_2 (sSeq g__law_parts_3 (sSeq g__law_parts_4 g__law_parts_5))))
theorem S__law_parts : FnScope ["_law_pot_here", "_law_odd", "_law_table", "_law_speed", "_law_size", "_law_rank"] ["_law_pot_here"] (defScope (top 26)) := ⟨rfl, rfl, rfl, by decide +kernel, rfl, by decide +kernel, by decide +kernel⟩
theorem kp__law_parts (v : Ev K mg base) : PySem.W.keepIn K (.ref (He.ga K "_law_parts")) = true := (v.c.def_ 2 (d := d__law_parts) rfl).elim fun _ F => F.kp
theorem b__law_parts (v : Ev K mg base) : BodyOk (MM K) P w K mg base 2 "_law_parts" (top 26) (He.ga K "_law_parts") ["_law_pot_here", "_law_odd", "_law_table", "_law_speed", "_law_size", "_law_rank"] g__law_parts :=
  fun cdv A outer s H E hr tk hp => (dss_cons (ds_set (i := 1) S__law_parts.nd (by rfl) (by first | exact Or.inl rfl | exact Or.inr rfl) (d_ownIo (fun h => pe_own ((f__law_choice v).mono (by decide)) hr tk (by rfl) (u__law_choice v) (kp__law_choice v) h) (pv 0) (da_cons (DE.frz (de_lst (da_cons di_non (da_cons di_bl (da_cons di_str (da_cons di_str (da_cons (di_tup (da_cons di_int (da_cons di_int da_nil))) (da_cons (DE.frz (de_lst da_nil)) (da_cons (DE.frz de_dnew) (da_cons (di_tup (da_cons di_str (da_cons di_int (da_cons di_int da_nil)))) (da_cons (di_neg di_int) (da_cons di_str (da_cons di_str da_nil))))))))))))) da_nil)))
    (dss_cons (ds_set (i := 2) S__law_parts.nd (by rfl) (by first | exact Or.inl rfl | exact Or.inr rfl) (d_ownIo (fun h => pe_own ((f__law_choice v).mono (by decide)) hr tk (by rfl) (u__law_choice v) (kp__law_choice v) h) (pv 0) (da_cons (DE.frz (de_lst (da_cons (di_tup (da_cons di_str (da_cons di_non (da_cons di_non da_nil)))) (da_cons (di_tup (da_cons di_str (da_cons (DE.frz (d_ownIo (fun h => pe_own ((f__law_draw v).mono (by decide)) hr tk (by rfl) (u__law_draw v) (kp__law_draw v) h) (pv 0) (da_cons di_int da_nil))) (da_cons di_non da_nil)))) (da_cons (di_tup (da_cons di_str (da_cons di_int (da_cons di_int da_nil)))) da_nil))))) da_nil)))
    (dss_cons (ds_set (i := 3) S__law_parts.nd (by rfl) (by first | exact Or.inl rfl | exact Or.inr rfl) (d_ownIo (fun h => pe_own ((f__law_choice v).mono (by decide)) hr tk (by rfl) (u__law_choice v) (kp__law_choice v) h) (pv 0) (da_cons (DE.frz (de_lst (da_cons (di_tup (da_cons di_int (da_cons di_int da_nil))) (da_cons (di_tup (da_cons (di_neg di_int) (da_cons di_int da_nil))) (da_cons (di_tup (da_cons di_int (da_cons di_int da_nil))) (da_cons (di_tup (da_cons (DE.frz (x_pow di_int (DI.pk di_int))) (da_cons di_int da_nil))) da_nil)))))) da_nil)))
    (dss_cons (ds_par (i := 4) (j := 5) (by rfl) S__law_parts.nd (by rfl) (by rfl) (by decide) (by rfl) (by rfl) (x_add di_int (DE.pk (d_ownIo (fun h => pe_own ((f__law_draw v).mono (by decide)) hr tk (by rfl) (u__law_draw v) (kp__law_draw v) h) (pv 0) (da_cons di_int da_nil)))) (x_sub (DE.frz (d_ownIo (fun h => pe_own ((f__law_draw v).mono (by decide)) hr tk (by rfl) (u__law_draw v) (kp__law_draw v) h) (pv 0) (da_cons di_int da_nil))) (DI.pk di_int)) (by rfl))
    (dss_one (ds_ret (DI.toE (di_tup (da_cons (di_var (pv 1)) (da_cons (di_var (pv 2)) (da_cons (di_var (pv 3)) (da_cons (di_var (pv 4)) (da_cons (di_var (pv 5)) da_nil)))))))))))))
def m__law_parts : Fm := mir 6 1 g__law_parts
theorem o__law_parts (v : Ev K mg base) : DefOk (MM K) P w K mg base 3 "_law_parts" "_law_parts" (top 26) [] (He.ga K "_law_parts") ["_law_pot_here"] m__law_parts := by
  obtain ⟨fd, F⟩ := v.c.def_ 2 (d := d__law_parts) rfl
  exact ⟨fd, F, funD_mir (M := MM K) F S__law_parts (by decide) (fun cdv A outer s H E hr tk hp => b__law_parts v cdv A outer s H E hr tk hp)⟩
theorem f__law_parts (v : Ev K mg base) : TS.FnR P w K mg base (L2.CX P w) 3 (He.ga K "_law_parts") (spD (MM K) m__law_parts) := by
  obtain ⟨fd, F, O⟩ := o__law_parts (P := P) (w := w) v
  exact fnR_raw (M := MM K) O (F.bindsN (ps := ["_law_pot_here"]) fun _ _ _ _ _ _ us hl => match us, hl with | [_], _ => rfl)
theorem ex_InvalidRatio (v : Ev K mg base) : OxC K (He.ga K "InvalidRatio") ∧ XqC K (He.ga K "InvalidRatio") ∧ PySem.W.findIn K (.ref (He.ga K "InvalidRatio")) "__init__" = some (some (.ref (He.ma K (He.ga K "InvalidRatio") "__init__"))) ∧ PySem.W.typeIn K (.ref (He.ma K (He.ga K "InvalidRatio") "__init__")) = some (.type "function") := exc_ok Bas.ve (v.c.fact 9 (f := .exc "InvalidRatio" "ValueError"))
theorem S_InvalidRatio___init__ : FnScope ["self", "value"] ["self", "value"] (defScope (inClass (top 3) 0)) := ⟨rfl, rfl, rfl, by decide +kernel, rfl, by decide +kernel, by decide +kernel⟩
theorem xd_InvalidRatio (v : Ev K mg base) : ∃ fd, TS.FnOk P w K mg base (L2.CX P w) 1 (He.ma K (He.ga K "InvalidRatio") "__init__") fd ["self", "value"] (spX (He.ga K "InvalidRatio") ["value"]) ∧ Binds K fd ["self", "value"] [] := by
  obtain ⟨fd, F⟩ := v.c.def_ 3 (d := d_InvalidRatio___init__) rfl
  exact ⟨fd, funD_ini F S_InvalidRatio___init__ (by decide) (fun cdv A outer s H E => (init_body (N := []) (sp0 := ()) (ex_InvalidRatio v).1 (He.noat_ok (K := K) (v.c.fact 10 (f := .he (.noat "InvalidRatio" "value")))) rfl (pv 0) (pv 1) (inis_nil rfl))), F.bindsN (ps := ["self", "value"]) fun _ _ _ _ _ _ us hl => match us, hl with | [_, _], _ => rfl⟩
theorem xk_InvalidRatio_value (v : Ev K mg base) : FnK P w K mg base (L2.CX P w) 1 (He.ma K (He.ga K "InvalidRatio") "__init__") 1 ["value"] (spXp (He.ga K "InvalidRatio") ["value"] [0]) := by
  obtain ⟨fd, F⟩ := v.c.def_ 3 (d := d_InvalidRatio___init__) rfl
  exact fnK_xp (ps := ["self", "value"]) (funD_ini F S_InvalidRatio___init__ (by decide) (fun cdv A outer s H E => (init_body (N := []) (sp0 := ()) (ex_InvalidRatio v).1 (He.noat_ok (K := K) (v.c.fact 10 (f := .he (.noat "InvalidRatio" "value")))) rfl (pv 0) (pv 1) (inis_nil rfl)))) (kb_ix0 F fun _ _ _ _ _ _ us ws h1 h2 => match us, ws, h1, h2 with | [_], [_], _, _ => rfl)
theorem ex_InvalidInteger (v : Ev K mg base) : OxC K (He.ga K "InvalidInteger") ∧ XqC K (He.ga K "InvalidInteger") ∧ PySem.W.findIn K (.ref (He.ga K "InvalidInteger")) "__init__" = some (some (.ref (He.ma K (He.ga K "InvalidInteger") "__init__"))) ∧ PySem.W.typeIn K (.ref (He.ma K (He.ga K "InvalidInteger") "__init__")) = some (.type "function") := exc_ok Bas.ve (v.c.fact 12 (f := .exc "InvalidInteger" "ValueError"))
theorem S_InvalidInteger___init__ : FnScope ["self", "value"] ["self", "value"] (defScope (inClass (top 2) 0)) := ⟨rfl, rfl, rfl, by decide +kernel, rfl, by decide +kernel, by decide +kernel⟩
theorem xd_InvalidInteger (v : Ev K mg base) : ∃ fd, TS.FnOk P w K mg base (L2.CX P w) 1 (He.ma K (He.ga K "InvalidInteger") "__init__") fd ["self", "value"] (spX (He.ga K "InvalidInteger") ["value"]) ∧ Binds K fd ["self", "value"] [] := by
  obtain ⟨fd, F⟩ := v.c.def_ 4 (d := d_InvalidInteger___init__) rfl
  exact ⟨fd, funD_ini F S_InvalidInteger___init__ (by decide) (fun cdv A outer s H E => (init_body (N := []) (sp0 := ()) (ex_InvalidInteger v).1 (He.noat_ok (K := K) (v.c.fact 13 (f := .he (.noat "InvalidInteger" "value")))) rfl (pv 0) (pv 1) (inis_nil rfl))), F.bindsN (ps := ["self", "value"]) fun _ _ _ _ _ _ us hl => match us, hl with | [_, _], _ => rfl⟩
theorem xk_InvalidInteger_value (v : Ev K mg base) : FnK P w K mg base (L2.CX P w) 1 (He.ma K (He.ga K "InvalidInteger") "__init__") 1 ["value"] (spXp (He.ga K "InvalidInteger") ["value"] [0]) := by
  obtain ⟨fd, F⟩ := v.c.def_ 4 (d := d_InvalidInteger___init__) rfl
  exact fnK_xp (ps := ["self", "value"]) (funD_ini F S_InvalidInteger___init__ (by decide) (fun cdv A outer s H E => (init_body (N := []) (sp0 := ()) (ex_InvalidInteger v).1 (He.noat_ok (K := K) (v.c.fact 13 (f := .he (.noat "InvalidInteger" "value")))) rfl (pv 0) (pv 1) (inis_nil rfl)))) (kb_ix0 F fun _ _ _ _ _ _ us ws h1 h2 => match us, ws, h1, h2 with | [_], [_], _, _ => rfl)
theorem ex_InvalidValue (v : Ev K mg base) : OxC K (He.ga K "InvalidValue") ∧ XqC K (He.ga K "InvalidValue") ∧ PySem.W.findIn K (.ref (He.ga K "InvalidValue")) "__init__" = some (some (.ref (He.ma K (He.ga K "InvalidValue") "__init__"))) ∧ PySem.W.typeIn K (.ref (He.ma K (He.ga K "InvalidValue") "__init__")) = some (.type "function") := exc_ok Bas.ve (v.c.fact 15 (f := .exc "InvalidValue" "ValueError"))
theorem S_InvalidValue___init__ : FnScope ["self", "value"] ["self", "value"] (defScope (inClass (top 9) 0)) := ⟨rfl, rfl, rfl, by decide +kernel, rfl, by decide +kernel, by decide +kernel⟩
theorem xd_InvalidValue (v : Ev K mg base) : ∃ fd, TS.FnOk P w K mg base (L2.CX P w) 1 (He.ma K (He.ga K "InvalidValue") "__init__") fd ["self", "value"] (spX (He.ga K "InvalidValue") ["value"]) ∧ Binds K fd ["self", "value"] [] := by
  obtain ⟨fd, F⟩ := v.c.def_ 5 (d := d_InvalidValue___init__) rfl
  exact ⟨fd, funD_ini F S_InvalidValue___init__ (by decide) (fun cdv A outer s H E => (init_body (N := []) (sp0 := ()) (ex_InvalidValue v).1 (He.noat_ok (K := K) (v.c.fact 16 (f := .he (.noat "InvalidValue" "value")))) rfl (pv 0) (pv 1) (inis_nil rfl))), F.bindsN (ps := ["self", "value"]) fun _ _ _ _ _ _ us hl => match us, hl with | [_, _], _ => rfl⟩
theorem xk_InvalidValue_value (v : Ev K mg base) : FnK P w K mg base (L2.CX P w) 1 (He.ma K (He.ga K "InvalidValue") "__init__") 1 ["value"] (spXp (He.ga K "InvalidValue") ["value"] [0]) := by
  obtain ⟨fd, F⟩ := v.c.def_ 5 (d := d_InvalidValue___init__) rfl
  exact fnK_xp (ps := ["self", "value"]) (funD_ini F S_InvalidValue___init__ (by decide) (fun cdv A outer s H E => (init_body (N := []) (sp0 := ()) (ex_InvalidValue v).1 (He.noat_ok (K := K) (v.c.fact 16 (f := .he (.noat "InvalidValue" "value")))) rfl (pv 0) (pv 1) (inis_nil rfl)))) (kb_ix0 F fun _ _ _ _ _ _ us ws h1 h2 => match us, ws, h1, h2 with | [_], [_], _, _ => rfl)
theorem ex_InvalidAddress (v : Ev K mg base) : OxC K (He.ga K "InvalidAddress") ∧ XqC K (He.ga K "InvalidAddress") ∧ PySem.W.findIn K (.ref (He.ga K "InvalidAddress")) "__init__" = some (some (.ref (He.ma K (He.ga K "InvalidAddress") "__init__"))) ∧ PySem.W.typeIn K (.ref (He.ma K (He.ga K "InvalidAddress") "__init__")) = some (.type "function") := exc_ok Bas.ve (v.c.fact 18 (f := .exc "InvalidAddress" "ValueError"))
theorem S_InvalidAddress___init__ : FnScope ["self", "value"] ["self", "value"] (defScope (inClass (top 6) 0)) := ⟨rfl, rfl, rfl, by decide +kernel, rfl, by decide +kernel, by decide +kernel⟩
theorem xd_InvalidAddress (v : Ev K mg base) : ∃ fd, TS.FnOk P w K mg base (L2.CX P w) 1 (He.ma K (He.ga K "InvalidAddress") "__init__") fd ["self", "value"] (spX (He.ga K "InvalidAddress") ["value"]) ∧ Binds K fd ["self", "value"] [] := by
  obtain ⟨fd, F⟩ := v.c.def_ 6 (d := d_InvalidAddress___init__) rfl
  exact ⟨fd, funD_ini F S_InvalidAddress___init__ (by decide) (fun cdv A outer s H E => (init_body (N := []) (sp0 := ()) (ex_InvalidAddress v).1 (He.noat_ok (K := K) (v.c.fact 19 (f := .he (.noat "InvalidAddress" "value")))) rfl (pv 0) (pv 1) (inis_nil rfl))), F.bindsN (ps := ["self", "value"]) fun _ _ _ _ _ _ us hl => match us, hl with | [_, _], _ => rfl⟩
theorem xk_InvalidAddress_value (v : Ev K mg base) : FnK P w K mg base (L2.CX P w) 1 (He.ma K (He.ga K "InvalidAddress") "__init__") 1 ["value"] (spXp (He.ga K "InvalidAddress") ["value"] [0]) := by
  obtain ⟨fd, F⟩ := v.c.def_ 6 (d := d_InvalidAddress___init__) rfl
  exact fnK_xp (ps := ["self", "value"]) (funD_ini F S_InvalidAddress___init__ (by decide) (fun cdv A outer s H E => (init_body (N := []) (sp0 := ()) (ex_InvalidAddress v).1 (He.noat_ok (K := K) (v.c.fact 19 (f := .he (.noat "InvalidAddress" "value")))) rfl (pv 0) (pv 1) (inis_nil rfl)))) (kb_ix0 F fun _ _ _ _ _ _ us ws h1 h2 => match us, ws, h1, h2 with | [_], [_], _, _ => rfl)
theorem ex_InvalidLine (v : Ev K mg base) : OxC K (He.ga K "InvalidLine") ∧ XqC K (He.ga K "InvalidLine") ∧ PySem.W.findIn K (.ref (He.ga K "InvalidLine")) "__init__" = some (some (.ref (He.ma K (He.ga K "InvalidLine") "__init__"))) ∧ PySem.W.typeIn K (.ref (He.ma K (He.ga K "InvalidLine") "__init__")) = some (.type "function") := exc_ok Bas.ve (v.c.fact 21 (f := .exc "InvalidLine" "ValueError"))
theorem S_InvalidLine___init__ : FnScope ["self", "value"] ["self", "value"] (defScope (inClass (top 11) 0)) := ⟨rfl, rfl, rfl, by decide +kernel, rfl, by decide +kernel, by decide +kernel⟩
theorem xd_InvalidLine (v : Ev K mg base) : ∃ fd, TS.FnOk P w K mg base (L2.CX P w) 1 (He.ma K (He.ga K "InvalidLine") "__init__") fd ["self", "value"] (spX (He.ga K "InvalidLine") ["value"]) ∧ Binds K fd ["self", "value"] [] := by
  obtain ⟨fd, F⟩ := v.c.def_ 7 (d := d_InvalidLine___init__) rfl
  exact ⟨fd, funD_ini F S_InvalidLine___init__ (by decide) (fun cdv A outer s H E => (init_body (N := []) (sp0 := ()) (ex_InvalidLine v).1 (He.noat_ok (K := K) (v.c.fact 22 (f := .he (.noat "InvalidLine" "value")))) rfl (pv 0) (pv 1) (inis_nil rfl))), F.bindsN (ps := ["self", "value"]) fun _ _ _ _ _ _ us hl => match us, hl with | [_, _], _ => rfl⟩
theorem xk_InvalidLine_value (v : Ev K mg base) : FnK P w K mg base (L2.CX P w) 1 (He.ma K (He.ga K "InvalidLine") "__init__") 1 ["value"] (spXp (He.ga K "InvalidLine") ["value"] [0]) := by
  obtain ⟨fd, F⟩ := v.c.def_ 7 (d := d_InvalidLine___init__) rfl
  exact fnK_xp (ps := ["self", "value"]) (funD_ini F S_InvalidLine___init__ (by decide) (fun cdv A outer s H E => (init_body (N := []) (sp0 := ()) (ex_InvalidLine v).1 (He.noat_ok (K := K) (v.c.fact 22 (f := .he (.noat "InvalidLine" "value")))) rfl (pv 0) (pv 1) (inis_nil rfl)))) (kb_ix0 F fun _ _ _ _ _ _ us ws h1 h2 => match us, ws, h1, h2 with | [_], [_], _, _ => rfl)
theorem ex_InvalidName (v : Ev K mg base) : OxC K (He.ga K "InvalidName") ∧ XqC K (He.ga K "InvalidName") ∧ PySem.W.findIn K (.ref (He.ga K "InvalidName")) "__init__" = some (some (.ref (He.ma K (He.ga K "InvalidName") "__init__"))) ∧ PySem.W.typeIn K (.ref (He.ma K (He.ga K "InvalidName") "__init__")) = some (.type "function") := exc_ok Bas.ve (v.c.fact 24 (f := .exc "InvalidName" "ValueError"))
theorem S_InvalidName___init__ : FnScope ["self", "value"] ["self", "value"] (defScope (inClass (top 10) 0)) := ⟨rfl, rfl, rfl, by decide +kernel, rfl, by decide +kernel, by decide +kernel⟩
theorem xd_InvalidName (v : Ev K mg base) : ∃ fd, TS.FnOk P w K mg base (L2.CX P w) 1 (He.ma K (He.ga K "InvalidName") "__init__") fd ["self", "value"] (spX (He.ga K "InvalidName") ["value"]) ∧ Binds K fd ["self", "value"] [] := by
  obtain ⟨fd, F⟩ := v.c.def_ 8 (d := d_InvalidName___init__) rfl
  exact ⟨fd, funD_ini F S_InvalidName___init__ (by decide) (fun cdv A outer s H E => (init_body (N := []) (sp0 := ()) (ex_InvalidName v).1 (He.noat_ok (K := K) (v.c.fact 25 (f := .he (.noat "InvalidName" "value")))) rfl (pv 0) (pv 1) (inis_nil rfl))), F.bindsN (ps := ["self", "value"]) fun _ _ _ _ _ _ us hl => match us, hl with | [_, _], _ => rfl⟩
theorem xk_InvalidName_value (v : Ev K mg base) : FnK P w K mg base (L2.CX P w) 1 (He.ma K (He.ga K "InvalidName") "__init__") 1 ["value"] (spXp (He.ga K "InvalidName") ["value"] [0]) := by
  obtain ⟨fd, F⟩ := v.c.def_ 8 (d := d_InvalidName___init__) rfl
  exact fnK_xp (ps := ["self", "value"]) (funD_ini F S_InvalidName___init__ (by decide) (fun cdv A outer s H E => (init_body (N := []) (sp0 := ()) (ex_InvalidName v).1 (He.noat_ok (K := K) (v.c.fact 25 (f := .he (.noat "InvalidName" "value")))) rfl (pv 0) (pv 1) (inis_nil rfl)))) (kb_ix0 F fun _ _ _ _ _ _ us ws h1 h2 => match us, ws, h1, h2 with | [_], [_], _, _ => rfl)
theorem ex_InvalidTable (v : Ev K mg base) : OxC K (He.ga K "InvalidTable") ∧ XqC K (He.ga K "InvalidTable") ∧ PySem.W.findIn K (.ref (He.ga K "InvalidTable")) "__init__" = some (some (.ref (He.ma K (He.ga K "InvalidTable") "__init__"))) ∧ PySem.W.typeIn K (.ref (He.ma K (He.ga K "InvalidTable") "__init__")) = some (.type "function") := exc_ok Bas.ve (v.c.fact 27 (f := .exc "InvalidTable" "ValueError"))
theorem S_InvalidTable___init__ : FnScope ["self", "problem", "position", "earlier"] ["self", "problem", "position", "earlier"] (defScope (inClass (top 4) 0)) := ⟨rfl, rfl, rfl, by decide +kernel, rfl, by decide +kernel, by decide +kernel⟩
theorem xd_InvalidTable (v : Ev K mg base) : ∃ fd, TS.FnOk P w K mg base (L2.CX P w) 1 (He.ma K (He.ga K "InvalidTable") "__init__") fd ["self", "problem", "position", "earlier"] (spX (He.ga K "InvalidTable") ["problem", "position", "earlier"]) ∧ Binds K fd ["self", "problem", "position", "earlier"] [] := by
  obtain ⟨fd, F⟩ := v.c.def_ 9 (d := d_InvalidTable___init__) rfl
  exact ⟨fd, funD_ini F S_InvalidTable___init__ (by decide) (fun cdv A outer s H E => (init_body (N := []) (sp0 := ()) (ex_InvalidTable v).1 (He.noat_ok (K := K) (v.c.fact 28 (f := .he (.noat "InvalidTable" "problem")))) rfl (pv 0) (pv 1) (inis_cons (ex_InvalidTable v).1 (He.noat_ok (K := K) (v.c.fact 29 (f := .he (.noat "InvalidTable" "position")))) rfl (pv 0) (pv 2) (by decide) (inis_cons (ex_InvalidTable v).1 (He.noat_ok (K := K) (v.c.fact 30 (f := .he (.noat "InvalidTable" "earlier")))) rfl (pv 0) (pv 3) (by decide) (inis_nil rfl))))), F.bindsN (ps := ["self", "problem", "position", "earlier"]) fun _ _ _ _ _ _ us hl => match us, hl with | [_, _, _, _], _ => rfl⟩
theorem xk_InvalidTable_earlier_problem_position (v : Ev K mg base) : FnK P w K mg base (L2.CX P w) 1 (He.ma K (He.ga K "InvalidTable") "__init__") 1 ["earlier", "problem", "position"] (spXp (He.ga K "InvalidTable") ["problem", "position", "earlier"] [1, 2, 0]) := by
  obtain ⟨fd, F⟩ := v.c.def_ 9 (d := d_InvalidTable___init__) rfl
  exact fnK_xp (ps := ["self", "problem", "position", "earlier"]) (funD_ini F S_InvalidTable___init__ (by decide) (fun cdv A outer s H E => (init_body (N := []) (sp0 := ()) (ex_InvalidTable v).1 (He.noat_ok (K := K) (v.c.fact 28 (f := .he (.noat "InvalidTable" "problem")))) rfl (pv 0) (pv 1) (inis_cons (ex_InvalidTable v).1 (He.noat_ok (K := K) (v.c.fact 29 (f := .he (.noat "InvalidTable" "position")))) rfl (pv 0) (pv 2) (by decide) (inis_cons (ex_InvalidTable v).1 (He.noat_ok (K := K) (v.c.fact 30 (f := .he (.noat "InvalidTable" "earlier")))) rfl (pv 0) (pv 3) (by decide) (inis_nil rfl)))))) (kb_ix0 F fun _ _ _ _ _ _ us ws h1 h2 => match us, ws, h1, h2 with | [_], [_, _, _], _, _ => rfl)
theorem ex_InvalidFormula (v : Ev K mg base) : OxC K (He.ga K "InvalidFormula") ∧ XqC K (He.ga K "InvalidFormula") ∧ PySem.W.findIn K (.ref (He.ga K "InvalidFormula")) "__init__" = some (some (.ref (He.ma K (He.ga K "InvalidFormula") "__init__"))) ∧ PySem.W.typeIn K (.ref (He.ma K (He.ga K "InvalidFormula") "__init__")) = some (.type "function") := exc_ok Bas.ve (v.c.fact 32 (f := .exc "InvalidFormula" "ValueError"))
theorem S_InvalidFormula___init__ : FnScope ["self", "position"] ["self", "position"] (defScope (inClass (top 8) 0)) := ⟨rfl, rfl, rfl, by decide +kernel, rfl, by decide +kernel, by decide +kernel⟩
theorem xd_InvalidFormula (v : Ev K mg base) : ∃ fd, TS.FnOk P w K mg base (L2.CX P w) 1 (He.ma K (He.ga K "InvalidFormula") "__init__") fd ["self", "position"] (spX (He.ga K "InvalidFormula") ["position"]) ∧ Binds K fd ["self", "position"] [] := by
  obtain ⟨fd, F⟩ := v.c.def_ 10 (d := d_InvalidFormula___init__) rfl
  exact ⟨fd, funD_ini F S_InvalidFormula___init__ (by decide) (fun cdv A outer s H E => (init_body (N := []) (sp0 := ()) (ex_InvalidFormula v).1 (He.noat_ok (K := K) (v.c.fact 33 (f := .he (.noat "InvalidFormula" "position")))) rfl (pv 0) (pv 1) (inis_nil rfl))), F.bindsN (ps := ["self", "position"]) fun _ _ _ _ _ _ us hl => match us, hl with | [_, _], _ => rfl⟩
theorem xk_InvalidFormula_position (v : Ev K mg base) : FnK P w K mg base (L2.CX P w) 1 (He.ma K (He.ga K "InvalidFormula") "__init__") 1 ["position"] (spXp (He.ga K "InvalidFormula") ["position"] [0]) := by
  obtain ⟨fd, F⟩ := v.c.def_ 10 (d := d_InvalidFormula___init__) rfl
  exact fnK_xp (ps := ["self", "position"]) (funD_ini F S_InvalidFormula___init__ (by decide) (fun cdv A outer s H E => (init_body (N := []) (sp0 := ()) (ex_InvalidFormula v).1 (He.noat_ok (K := K) (v.c.fact 33 (f := .he (.noat "InvalidFormula" "position")))) rfl (pv 0) (pv 1) (inis_nil rfl)))) (kb_ix0 F fun _ _ _ _ _ _ us ws h1 h2 => match us, ws, h1, h2 with | [_], [_], _, _ => rfl)
theorem ex_InvalidPair (v : Ev K mg base) : OxC K (He.ga K "InvalidPair") ∧ XqC K (He.ga K "InvalidPair") ∧ PySem.W.findIn K (.ref (He.ga K "InvalidPair")) "__init__" = some (some (.ref (He.ma K (He.ga K "InvalidPair") "__init__"))) ∧ PySem.W.typeIn K (.ref (He.ma K (He.ga K "InvalidPair") "__init__")) = some (.type "function") := exc_ok Bas.ve (v.c.fact 35 (f := .exc "InvalidPair" "ValueError"))
theorem S_InvalidPair___init__ : FnScope ["self", "position"] ["self", "position"] (defScope (inClass (top 5) 0)) := ⟨rfl, rfl, rfl, by decide +kernel, rfl, by decide +kernel, by decide +kernel⟩
theorem xd_InvalidPair (v : Ev K mg base) : ∃ fd, TS.FnOk P w K mg base (L2.CX P w) 1 (He.ma K (He.ga K "InvalidPair") "__init__") fd ["self", "position"] (spX (He.ga K "InvalidPair") ["position"]) ∧ Binds K fd ["self", "position"] [] := by
  obtain ⟨fd, F⟩ := v.c.def_ 11 (d := d_InvalidPair___init__) rfl
  exact ⟨fd, funD_ini F S_InvalidPair___init__ (by decide) (fun cdv A outer s H E => (init_body (N := []) (sp0 := ()) (ex_InvalidPair v).1 (He.noat_ok (K := K) (v.c.fact 36 (f := .he (.noat "InvalidPair" "position")))) rfl (pv 0) (pv 1) (inis_nil rfl))), F.bindsN (ps := ["self", "position"]) fun _ _ _ _ _ _ us hl => match us, hl with | [_, _], _ => rfl⟩
theorem xk_InvalidPair_position (v : Ev K mg base) : FnK P w K mg base (L2.CX P w) 1 (He.ma K (He.ga K "InvalidPair") "__init__") 1 ["position"] (spXp (He.ga K "InvalidPair") ["position"] [0]) := by
  obtain ⟨fd, F⟩ := v.c.def_ 11 (d := d_InvalidPair___init__) rfl
  exact fnK_xp (ps := ["self", "position"]) (funD_ini F S_InvalidPair___init__ (by decide) (fun cdv A outer s H E => (init_body (N := []) (sp0 := ()) (ex_InvalidPair v).1 (He.noat_ok (K := K) (v.c.fact 36 (f := .he (.noat "InvalidPair" "position")))) rfl (pv 0) (pv 1) (inis_nil rfl)))) (kb_ix0 F fun _ _ _ _ _ _ us ws h1 h2 => match us, ws, h1, h2 with | [_], [_], _, _ => rfl)
theorem ex_InvalidProfile (v : Ev K mg base) : OxC K (He.ga K "InvalidProfile") ∧ XqC K (He.ga K "InvalidProfile") ∧ PySem.W.findIn K (.ref (He.ga K "InvalidProfile")) "__init__" = some (some (.ref (He.ma K (He.ga K "InvalidProfile") "__init__"))) ∧ PySem.W.typeIn K (.ref (He.ma K (He.ga K "InvalidProfile") "__init__")) = some (.type "function") := exc_ok Bas.ve (v.c.fact 38 (f := .exc "InvalidProfile" "ValueError"))
theorem S_InvalidProfile___init__ : FnScope ["self", "problem"] ["self", "problem"] (defScope (inClass (top 7) 0)) := ⟨rfl, rfl, rfl, by decide +kernel, rfl, by decide +kernel, by decide +kernel⟩
theorem xd_InvalidProfile (v : Ev K mg base) : ∃ fd, TS.FnOk P w K mg base (L2.CX P w) 1 (He.ma K (He.ga K "InvalidProfile") "__init__") fd ["self", "problem"] (spX (He.ga K "InvalidProfile") ["problem"]) ∧ Binds K fd ["self", "problem"] [] := by
  obtain ⟨fd, F⟩ := v.c.def_ 12 (d := d_InvalidProfile___init__) rfl
  exact ⟨fd, funD_ini F S_InvalidProfile___init__ (by decide) (fun cdv A outer s H E => (init_body (N := []) (sp0 := ()) (ex_InvalidProfile v).1 (He.noat_ok (K := K) (v.c.fact 39 (f := .he (.noat "InvalidProfile" "problem")))) rfl (pv 0) (pv 1) (inis_nil rfl))), F.bindsN (ps := ["self", "problem"]) fun _ _ _ _ _ _ us hl => match us, hl with | [_, _], _ => rfl⟩
theorem xk_InvalidProfile_problem (v : Ev K mg base) : FnK P w K mg base (L2.CX P w) 1 (He.ma K (He.ga K "InvalidProfile") "__init__") 1 ["problem"] (spXp (He.ga K "InvalidProfile") ["problem"] [0]) := by
  obtain ⟨fd, F⟩ := v.c.def_ 12 (d := d_InvalidProfile___init__) rfl
  exact fnK_xp (ps := ["self", "problem"]) (funD_ini F S_InvalidProfile___init__ (by decide) (fun cdv A outer s H E => (init_body (N := []) (sp0 := ()) (ex_InvalidProfile v).1 (He.noat_ok (K := K) (v.c.fact 39 (f := .he (.noat "InvalidProfile" "problem")))) rfl (pv 0) (pv 1) (inis_nil rfl)))) (kb_ix0 F fun _ _ _ _ _ _ us ws h1 h2 => match us, ws, h1, h2 with | [_], [_], _, _ => rfl)
abbrev g__law_first_1 : FS := (sAsg (toE (vI 0)) (tTup 5 (tsCons (tName 2) (tsCons (tName 3) (tsCons (tName 4) (tsCons (tName 5) (tsCons (tName 6) tsNil)))))))
abbrev g__law_first_2 : FS := (sAsg (fLst (aCons (fMkX 100 1 (aCons (vI 2) aNil)) (aCons (fMkXK 100 1 [0] (aCons (vI 2) aNil)) (aCons (fMkX 101 1 (aCons (vI 2) aNil)) (aCons (fMkXK 101 1 [0] (aCons (vI 2) aNil)) aNil))))) (tName 1))
abbrev g__law_first_3 : FS := (sAsg (fBin gAdd (vI 1) (frz (fLst (aCons (fMkX 104 1 (aCons (vI 2) aNil)) (aCons (fMkXK 104 1 [0] (aCons (vI 2) aNil)) (aCons (fMkX 106 1 (aCons (vI 2) aNil)) (aCons (fMkXK 106 1 [0] (aCons (vI 2) aNil)) aNil))))))) (tName 1))
abbrev g__law_first_4 : FS := (sAsg (fBin gAdd (vI 1) (frz (fLst (aCons (fMkX 108 1 (aCons (vI 2) aNil)) (aCons (fMkXK 108 1 [0] (aCons (vI 2) aNil)) (aCons (fMkX 109 1 (aCons (vI 2) aNil)) (aCons (fMkXK 109 1 [0] (aCons (vI 2) aNil)) aNil))))))) (tName 1))
abbrev g__law_first_5 : FS := (sAsg (fBin gAdd (vI 1) (frz (fLst (aCons (fMkX 102 3 (aCons (frz (fBin gIx (vI 3) (kD (.int 0)))) (aCons (frz (fBin gIx (vI 3) (kD (.int 1)))) (aCons (frz (fBin gIx (vI 3) (kD (.int 2)))) aNil)))) aNil)))) (tName 1))
abbrev g__law_first_6 : FS := (sAsg (fBin gAdd (vI 1) (frz (fLst (aCons (fMkXK 102 3 [1, 2, 0] (aCons (frz (fBin gIx (vI 3) (kD (.int 2)))) (aCons (frz (fBin gIx (vI 3) (kD (.int 0)))) (aCons (frz (fBin gIx (vI 3) (kD (.int 1)))) aNil)))) aNil)))) (tName 1))
abbrev g__law_first_7 : FS := (sAsg (fBin gAdd (vI 1) (frz (fLst (aCons (fMkX 103 1 (aCons (vI 5) aNil)) (aCons (fMkXK 103 1 [0] (aCons (vI 5) aNil)) (aCons (fMkX 107 1 (aCons (vI 5) aNil)) (aCons (fMkXK 107 1 [0] (aCons (vI 5) aNil)) aNil))))))) (tName 1))
abbrev g__law_first_8 : FS := (sRet (fBin gAdd (vI 1) (frz (fLst (aCons (fMkX 105 1 (aCons (frz (fBin gIx (vI 3) (kD (.int 0)))) aNil)) (aCons (fMkXK 105 1 [0] (aCons (frz (fBin gIx (vI 3) (kD (.int 0)))) aNil)) aNil))))))
def g__law_first : FS := (sSeq g__law_first_1 (sSeq g__law_first_2 (sSeq g__law_first_3 (sSeq g__law_first_4 (sSeq g__law_first_5 (sSeq g__law_first_6 (sSeq g__law_first_7 g__law_first_8)))))))
theorem S__law_first : FnScope ["_law_parts_here", "_law_made", "_law_odd", "_law_table", "_law_speed", "_law_size", "_law_rank"] ["_law_parts_here"] (defScope (top 27)) := ⟨rfl, rfl, rfl, by decide +kernel, rfl, by decide +kernel, by decide +kernel⟩
theorem kp__law_first (v : Ev K mg base) : PySem.W.keepIn K (.ref (He.ga K "_law_first")) = true := (v.c.def_ 13 (d := d__law_first) rfl).elim fun _ F => F.kp
theorem b__law_first (v : Ev K mg base) : BodyOk (MM K) P w K mg base 2 "_law_first" (top 27) (He.ga K "_law_first") ["_law_parts_here", "_law_made", "_law_odd", "_law_table", "_law_speed", "_law_size", "_law_rank"] g__law_first :=
  fun cdv A outer s H E hr tk hp => (dss_cons (ds_asg (DI.toE (di_var (pv 0))) (dg_tup (by rfl) (dgs_cons (dg_name (pg_name S__law_first.nd (by rfl) (by first | exact Or.inl rfl | exact Or.inr rfl))) (dgs_cons (dg_name (pg_name S__law_first.nd (by rfl) (by first | exact Or.inl rfl | exact Or.inr rfl))) (dgs_cons (dg_name (pg_name S__law_first.nd (by rfl) (by first | exact Or.inl rfl | exact Or.inr rfl))) (dgs_cons (dg_name (pg_name S__law_first.nd (by rfl) (by first | exact Or.inl rfl | exact Or.inr rfl))) (dgs_cons (dg_name (pg_name S__law_first.nd (by rfl) (by first | exact Or.inl rfl | exact Or.inr rfl))) dgs_nil)))))) (tgt_tup (tgs_cons (tgt_name 2) (tgs_cons (tgt_name 3) (tgs_cons (tgt_name 4) (tgs_cons (tgt_name 5) (tgs_cons (tgt_name 6) tgs_nil)))))))
    (dss_cons (ds_set (i := 1) S__law_first.nd (by rfl) (by first | exact Or.inl rfl | exact Or.inr rfl) (de_lst (da_cons (Exists.elim (xd_InvalidInteger (P := P) (w := w) v) fun _ hx => di_mkx (n := 100) (ns := ["value"]) rfl rfl rfl (by decide) (fun h => pe_mkx (ex_InvalidInteger v).1 (ex_InvalidInteger v).2.2.1 (ex_InvalidInteger v).2.2.2 (fnK_pos hx.1 hx.2 rfl) (hr.mono (by decide : 2 ≤ 2)) tk (by rfl) (u_InvalidInteger v) h) (da_cons (di_var (pv 2)) da_nil)) (da_cons (di_mkxK (n := 100) (ns := ["value"]) (ix := [0]) rfl rfl rfl (fun h => pe_mkxK (ex_InvalidInteger v).1 (ex_InvalidInteger v).2.2.1 (ex_InvalidInteger v).2.2.2 (xk_InvalidInteger_value (P := P) (w := w) v) (hr.mono (by decide : 2 ≤ 2)) tk (by rfl) (u_InvalidInteger v) h) (dk_cons (di_var (pv 2)) dk_nil)) (da_cons (Exists.elim (xd_InvalidRatio (P := P) (w := w) v) fun _ hx => di_mkx (n := 101) (ns := ["value"]) rfl rfl rfl (by decide) (fun h => pe_mkx (ex_InvalidRatio v).1 (ex_InvalidRatio v).2.2.1 (ex_InvalidRatio v).2.2.2 (fnK_pos hx.1 hx.2 rfl) (hr.mono (by decide : 2 ≤ 2)) tk (by rfl) (u_InvalidRatio v) h) (da_cons (di_var (pv 2)) da_nil)) (da_cons (di_mkxK (n := 101) (ns := ["value"]) (ix := [0]) rfl rfl rfl (fun h => pe_mkxK (ex_InvalidRatio v).1 (ex_InvalidRatio v).2.2.1 (ex_InvalidRatio v).2.2.2 (xk_InvalidRatio_value (P := P) (w := w) v) (hr.mono (by decide : 2 ≤ 2)) tk (by rfl) (u_InvalidRatio v) h) (dk_cons (di_var (pv 2)) dk_nil)) da_nil))))))
    (dss_cons (ds_set (i := 1) S__law_first.nd (by rfl) (by first | exact Or.inl rfl | exact Or.inr rfl) (x_add (di_var (pv 1)) (DE.pk (de_lst (da_cons (Exists.elim (xd_InvalidAddress (P := P) (w := w) v) fun _ hx => di_mkx (n := 104) (ns := ["value"]) rfl rfl rfl (by decide) (fun h => pe_mkx (ex_InvalidAddress v).1 (ex_InvalidAddress v).2.2.1 (ex_InvalidAddress v).2.2.2 (fnK_pos hx.1 hx.2 rfl) (hr.mono (by decide : 2 ≤ 2)) tk (by rfl) (u_InvalidAddress v) h) (da_cons (di_var (pv 2)) da_nil)) (da_cons (di_mkxK (n := 104) (ns := ["value"]) (ix := [0]) rfl rfl rfl (fun h => pe_mkxK (ex_InvalidAddress v).1 (ex_InvalidAddress v).2.2.1 (ex_InvalidAddress v).2.2.2 (xk_InvalidAddress_value (P := P) (w := w) v) (hr.mono (by decide : 2 ≤ 2)) tk (by rfl) (u_InvalidAddress v) h) (dk_cons (di_var (pv 2)) dk_nil)) (da_cons (Exists.elim (xd_InvalidValue (P := P) (w := w) v) fun _ hx => di_mkx (n := 106) (ns := ["value"]) rfl rfl rfl (by decide) (fun h => pe_mkx (ex_InvalidValue v).1 (ex_InvalidValue v).2.2.1 (ex_InvalidValue v).2.2.2 (fnK_pos hx.1 hx.2 rfl) (hr.mono (by decide : 2 ≤ 2)) tk (by rfl) (u_InvalidValue v) h) (da_cons (di_var (pv 2)) da_nil)) (da_cons (di_mkxK (n := 106) (ns := ["value"]) (ix := [0]) rfl rfl rfl (fun h => pe_mkxK (ex_InvalidValue v).1 (ex_InvalidValue v).2.2.1 (ex_InvalidValue v).2.2.2 (xk_InvalidValue_value (P := P) (w := w) v) (hr.mono (by decide : 2 ≤ 2)) tk (by rfl) (u_InvalidValue v) h) (dk_cons (di_var (pv 2)) dk_nil)) da_nil))))))))
    (dss_cons (ds_set (i := 1) S__law_first.nd (by rfl) (by first | exact Or.inl rfl | exact Or.inr rfl) (x_add (di_var (pv 1)) (DE.pk (de_lst (da_cons (Exists.elim (xd_InvalidName (P := P) (w := w) v) fun _ hx => di_mkx (n := 108) (ns := ["value"]) rfl rfl rfl (by decide) (fun h => pe_mkx (ex_InvalidName v).1 (ex_InvalidName v).2.2.1 (ex_InvalidName v).2.2.2 (fnK_pos hx.1 hx.2 rfl) (hr.mono (by decide : 2 ≤ 2)) tk (by rfl) (u_InvalidName v) h) (da_cons (di_var (pv 2)) da_nil)) (da_cons (di_mkxK (n := 108) (ns := ["value"]) (ix := [0]) rfl rfl rfl (fun h => pe_mkxK (ex_InvalidName v).1 (ex_InvalidName v).2.2.1 (ex_InvalidName v).2.2.2 (xk_InvalidName_value (P := P) (w := w) v) (hr.mono (by decide : 2 ≤ 2)) tk (by rfl) (u_InvalidName v) h) (dk_cons (di_var (pv 2)) dk_nil)) (da_cons (Exists.elim (xd_InvalidLine (P := P) (w := w) v) fun _ hx => di_mkx (n := 109) (ns := ["value"]) rfl rfl rfl (by decide) (fun h => pe_mkx (ex_InvalidLine v).1 (ex_InvalidLine v).2.2.1 (ex_InvalidLine v).2.2.2 (fnK_pos hx.1 hx.2 rfl) (hr.mono (by decide : 2 ≤ 2)) tk (by rfl) (u_InvalidLine v) h) (da_cons (di_var (pv 2)) da_nil)) (da_cons (di_mkxK (n := 109) (ns := ["value"]) (ix := [0]) rfl rfl rfl (fun h => pe_mkxK (ex_InvalidLine v).1 (ex_InvalidLine v).2.2.1 (ex_InvalidLine v).2.2.2 (xk_InvalidLine_value (P := P) (w := w) v) (hr.mono (by decide : 2 ≤ 2)) tk (by rfl) (u_InvalidLine v) h) (dk_cons (di_var (pv 2)) dk_nil)) da_nil))))))))
    (dss_cons (ds_set (i := 1) S__law_first.nd (by rfl) (by first | exact Or.inl rfl | exact Or.inr rfl) (x_add (di_var (pv 1)) (DE.pk (de_lst (da_cons (Exists.elim (xd_InvalidTable (P := P) (w := w) v) fun _ hx => di_mkx (n := 102) (ns := ["problem", "position", "earlier"]) rfl rfl rfl (by decide) (fun h => pe_mkx (ex_InvalidTable v).1 (ex_InvalidTable v).2.2.1 (ex_InvalidTable v).2.2.2 (fnK_pos hx.1 hx.2 rfl) (hr.mono (by decide : 2 ≤ 2)) tk (by rfl) (u_InvalidTable v) h) (da_cons (DE.frz (x_ix hr (di_var (pv 3)) (DI.pk di_int))) (da_cons (DE.frz (x_ix hr (di_var (pv 3)) (DI.pk di_int))) (da_cons (DE.frz (x_ix hr (di_var (pv 3)) (DI.pk di_int))) da_nil)))) da_nil)))))
    (dss_cons (ds_set (i := 1) S__law_first.nd (by rfl) (by first | exact Or.inl rfl | exact Or.inr rfl) (x_add (di_var (pv 1)) (DE.pk (de_lst (da_cons (di_mkxK (n := 102) (ns := ["problem", "position", "earlier"]) (ix := [1, 2, 0]) rfl rfl rfl (fun h => pe_mkxK (ex_InvalidTable v).1 (ex_InvalidTable v).2.2.1 (ex_InvalidTable v).2.2.2 (xk_InvalidTable_earlier_problem_position (P := P) (w := w) v) (hr.mono (by decide : 2 ≤ 2)) tk (by rfl) (u_InvalidTable v) h) (dk_cons (DE.frz (x_ix hr (di_var (pv 3)) (DI.pk di_int))) (dk_cons (DE.frz (x_ix hr (di_var (pv 3)) (DI.pk di_int))) (dk_cons (DE.frz (x_ix hr (di_var (pv 3)) (DI.pk di_int))) dk_nil)))) da_nil)))))
    (dss_cons (ds_set (i := 1) S__law_first.nd (by rfl) (by first | exact Or.inl rfl | exact Or.inr rfl) (x_add (di_var (pv 1)) (DE.pk (de_lst (da_cons (Exists.elim (xd_InvalidPair (P := P) (w := w) v) fun _ hx => di_mkx (n := 103) (ns := ["position"]) rfl rfl rfl (by decide) (fun h => pe_mkx (ex_InvalidPair v).1 (ex_InvalidPair v).2.2.1 (ex_InvalidPair v).2.2.2 (fnK_pos hx.1 hx.2 rfl) (hr.mono (by decide : 2 ≤ 2)) tk (by rfl) (u_InvalidPair v) h) (da_cons (di_var (pv 5)) da_nil)) (da_cons (di_mkxK (n := 103) (ns := ["position"]) (ix := [0]) rfl rfl rfl (fun h => pe_mkxK (ex_InvalidPair v).1 (ex_InvalidPair v).2.2.1 (ex_InvalidPair v).2.2.2 (xk_InvalidPair_position (P := P) (w := w) v) (hr.mono (by decide : 2 ≤ 2)) tk (by rfl) (u_InvalidPair v) h) (dk_cons (di_var (pv 5)) dk_nil)) (da_cons (Exists.elim (xd_InvalidFormula (P := P) (w := w) v) fun _ hx => di_mkx (n := 107) (ns := ["position"]) rfl rfl rfl (by decide) (fun h => pe_mkx (ex_InvalidFormula v).1 (ex_InvalidFormula v).2.2.1 (ex_InvalidFormula v).2.2.2 (fnK_pos hx.1 hx.2 rfl) (hr.mono (by decide : 2 ≤ 2)) tk (by rfl) (u_InvalidFormula v) h) (da_cons (di_var (pv 5)) da_nil)) (da_cons (di_mkxK (n := 107) (ns := ["position"]) (ix := [0]) rfl rfl rfl (fun h => pe_mkxK (ex_InvalidFormula v).1 (ex_InvalidFormula v).2.2.1 (ex_InvalidFormula v).2.2.2 (xk_InvalidFormula_position (P := P) (w := w) v) (hr.mono (by decide : 2 ≤ 2)) tk (by rfl) (u_InvalidFormula v) h) (dk_cons (di_var (pv 5)) dk_nil)) da_nil))))))))
    (dss_one (ds_ret (x_add (di_var (pv 1)) (DE.pk (de_lst (da_cons (Exists.elim (xd_InvalidProfile (P := P) (w := w) v) fun _ hx => di_mkx (n := 105) (ns := ["problem"]) rfl rfl rfl (by decide) (fun h => pe_mkx (ex_InvalidProfile v).1 (ex_InvalidProfile v).2.2.1 (ex_InvalidProfile v).2.2.2 (fnK_pos hx.1 hx.2 rfl) (hr.mono (by decide : 2 ≤ 2)) tk (by rfl) (u_InvalidProfile v) h) (da_cons (DE.frz (x_ix hr (di_var (pv 3)) (DI.pk di_int))) da_nil)) (da_cons (di_mkxK (n := 105) (ns := ["problem"]) (ix := [0]) rfl rfl rfl (fun h => pe_mkxK (ex_InvalidProfile v).1 (ex_InvalidProfile v).2.2.1 (ex_InvalidProfile v).2.2.2 (xk_InvalidProfile_problem (P := P) (w := w) v) (hr.mono (by decide : 2 ≤ 2)) tk (by rfl) (u_InvalidProfile v) h) (dk_cons (DE.frz (x_ix hr (di_var (pv 3)) (DI.pk di_int))) dk_nil)) da_nil))))))))))))))
def m__law_first : Fm := mir 7 1 g__law_first
theorem o__law_first (v : Ev K mg base) : DefOk (MM K) P w K mg base 3 "_law_first" "_law_first" (top 27) [] (He.ga K "_law_first") ["_law_parts_here"] m__law_first := by
  obtain ⟨fd, F⟩ := v.c.def_ 13 (d := d__law_first) rfl
  exact ⟨fd, F, funD_mir (M := MM K) F S__law_first (by decide) (fun cdv A outer s H E hr tk hp => b__law_first v cdv A outer s H E hr tk hp)⟩
theorem f__law_first (v : Ev K mg base) : TS.FnR P w K mg base (L2.CX P w) 3 (He.ga K "_law_first") (spD (MM K) m__law_first) := by
  obtain ⟨fd, F, O⟩ := o__law_first (P := P) (w := w) v
  exact fnR_raw (M := MM K) O (F.bindsN (ps := ["_law_parts_here"]) fun _ _ _ _ _ _ us hl => match us, hl with | [_], _ => rfl)
theorem ex_NoRoot (v : Ev K mg base) : OxC K (He.ga K "NoRoot") ∧ XqC K (He.ga K "NoRoot") ∧ PySem.W.findIn K (.ref (He.ga K "NoRoot")) "__init__" = some (some (.ref (He.ma K (He.ga K "NoRoot") "__init__"))) ∧ PySem.W.typeIn K (.ref (He.ma K (He.ga K "NoRoot") "__init__")) = some (.type "function") := exc_ok Bas.lk (v.c.fact 42 (f := .exc "NoRoot" "LookupError"))
theorem S_NoRoot___init__ : FnScope ["self", "key", "many"] ["self", "key", "many"] (defScope (inClass (top 15) 0)) := ⟨rfl, rfl, rfl, by decide +kernel, rfl, by decide +kernel, by decide +kernel⟩
theorem xd_NoRoot (v : Ev K mg base) : ∃ fd, TS.FnOk P w K mg base (L2.CX P w) 1 (He.ma K (He.ga K "NoRoot") "__init__") fd ["self", "key", "many"] (spX (He.ga K "NoRoot") ["key", "many"]) ∧ Binds K fd ["self", "key", "many"] [] := by
  obtain ⟨fd, F⟩ := v.c.def_ 14 (d := d_NoRoot___init__) rfl
  exact ⟨fd, funD_ini F S_NoRoot___init__ (by decide) (fun cdv A outer s H E => (init_body (N := []) (sp0 := ()) (ex_NoRoot v).1 (He.noat_ok (K := K) (v.c.fact 43 (f := .he (.noat "NoRoot" "key")))) rfl (pv 0) (pv 1) (inis_cons (ex_NoRoot v).1 (He.noat_ok (K := K) (v.c.fact 44 (f := .he (.noat "NoRoot" "many")))) rfl (pv 0) (pv 2) (by decide) (inis_nil rfl)))), F.bindsN (ps := ["self", "key", "many"]) fun _ _ _ _ _ _ us hl => match us, hl with | [_, _, _], _ => rfl⟩
theorem xk_NoRoot_many_key (v : Ev K mg base) : FnK P w K mg base (L2.CX P w) 1 (He.ma K (He.ga K "NoRoot") "__init__") 1 ["many", "key"] (spXp (He.ga K "NoRoot") ["key", "many"] [1, 0]) := by
  obtain ⟨fd, F⟩ := v.c.def_ 14 (d := d_NoRoot___init__) rfl
  exact fnK_xp (ps := ["self", "key", "many"]) (funD_ini F S_NoRoot___init__ (by decide) (fun cdv A outer s H E => (init_body (N := []) (sp0 := ()) (ex_NoRoot v).1 (He.noat_ok (K := K) (v.c.fact 43 (f := .he (.noat "NoRoot" "key")))) rfl (pv 0) (pv 1) (inis_cons (ex_NoRoot v).1 (He.noat_ok (K := K) (v.c.fact 44 (f := .he (.noat "NoRoot" "many")))) rfl (pv 0) (pv 2) (by decide) (inis_nil rfl))))) (kb_ix0 F fun _ _ _ _ _ _ us ws h1 h2 => match us, ws, h1, h2 with | [_], [_, _], _, _ => rfl)
theorem ex_NoTrack (v : Ev K mg base) : OxC K (He.ga K "NoTrack") ∧ XqC K (He.ga K "NoTrack") ∧ PySem.W.findIn K (.ref (He.ga K "NoTrack")) "__init__" = some (some (.ref (He.ma K (He.ga K "NoTrack") "__init__"))) ∧ PySem.W.typeIn K (.ref (He.ma K (He.ga K "NoTrack") "__init__")) = some (.type "function") := exc_ok Bas.lk (v.c.fact 46 (f := .exc "NoTrack" "LookupError"))
theorem S_NoTrack___init__ : FnScope ["self", "key", "number"] ["self", "key", "number"] (defScope (inClass (top 13) 0)) := ⟨rfl, rfl, rfl, by decide +kernel, rfl, by decide +kernel, by decide +kernel⟩
theorem xd_NoTrack (v : Ev K mg base) : ∃ fd, TS.FnOk P w K mg base (L2.CX P w) 1 (He.ma K (He.ga K "NoTrack") "__init__") fd ["self", "key", "number"] (spX (He.ga K "NoTrack") ["key", "number"]) ∧ Binds K fd ["self", "key", "number"] [] := by
  obtain ⟨fd, F⟩ := v.c.def_ 15 (d := d_NoTrack___init__) rfl
  exact ⟨fd, funD_ini F S_NoTrack___init__ (by decide) (fun cdv A outer s H E => (init_body (N := []) (sp0 := ()) (ex_NoTrack v).1 (He.noat_ok (K := K) (v.c.fact 47 (f := .he (.noat "NoTrack" "key")))) rfl (pv 0) (pv 1) (inis_cons (ex_NoTrack v).1 (He.noat_ok (K := K) (v.c.fact 48 (f := .he (.noat "NoTrack" "number")))) rfl (pv 0) (pv 2) (by decide) (inis_nil rfl)))), F.bindsN (ps := ["self", "key", "number"]) fun _ _ _ _ _ _ us hl => match us, hl with | [_, _, _], _ => rfl⟩
theorem xk_NoTrack_number_key (v : Ev K mg base) : FnK P w K mg base (L2.CX P w) 1 (He.ma K (He.ga K "NoTrack") "__init__") 1 ["number", "key"] (spXp (He.ga K "NoTrack") ["key", "number"] [1, 0]) := by
  obtain ⟨fd, F⟩ := v.c.def_ 15 (d := d_NoTrack___init__) rfl
  exact fnK_xp (ps := ["self", "key", "number"]) (funD_ini F S_NoTrack___init__ (by decide) (fun cdv A outer s H E => (init_body (N := []) (sp0 := ()) (ex_NoTrack v).1 (He.noat_ok (K := K) (v.c.fact 47 (f := .he (.noat "NoTrack" "key")))) rfl (pv 0) (pv 1) (inis_cons (ex_NoTrack v).1 (He.noat_ok (K := K) (v.c.fact 48 (f := .he (.noat "NoTrack" "number")))) rfl (pv 0) (pv 2) (by decide) (inis_nil rfl))))) (kb_ix0 F fun _ _ _ _ _ _ us ws h1 h2 => match us, ws, h1, h2 with | [_], [_, _], _, _ => rfl)
theorem ex_NoRenaming (v : Ev K mg base) : OxC K (He.ga K "NoRenaming") ∧ XqC K (He.ga K "NoRenaming") ∧ PySem.W.findIn K (.ref (He.ga K "NoRenaming")) "__init__" = some (some (.ref (He.ma K (He.ga K "NoRenaming") "__init__"))) ∧ PySem.W.typeIn K (.ref (He.ma K (He.ga K "NoRenaming") "__init__")) = some (.type "function") := exc_ok Bas.lk (v.c.fact 50 (f := .exc "NoRenaming" "LookupError"))
theorem S_NoRenaming___init__ : FnScope ["self", "found"] ["self", "found"] (defScope (inClass (top 14) 0)) := ⟨rfl, rfl, rfl, by decide +kernel, rfl, by decide +kernel, by decide +kernel⟩
theorem xd_NoRenaming (v : Ev K mg base) : ∃ fd, TS.FnOk P w K mg base (L2.CX P w) 1 (He.ma K (He.ga K "NoRenaming") "__init__") fd ["self", "found"] (spX (He.ga K "NoRenaming") ["found"]) ∧ Binds K fd ["self", "found"] [] := by
  obtain ⟨fd, F⟩ := v.c.def_ 16 (d := d_NoRenaming___init__) rfl
  exact ⟨fd, funD_ini F S_NoRenaming___init__ (by decide) (fun cdv A outer s H E => (init_body (N := []) (sp0 := ()) (ex_NoRenaming v).1 (He.noat_ok (K := K) (v.c.fact 51 (f := .he (.noat "NoRenaming" "found")))) rfl (pv 0) (pv 1) (inis_nil rfl))), F.bindsN (ps := ["self", "found"]) fun _ _ _ _ _ _ us hl => match us, hl with | [_, _], _ => rfl⟩
theorem xk_NoRenaming_found (v : Ev K mg base) : FnK P w K mg base (L2.CX P w) 1 (He.ma K (He.ga K "NoRenaming") "__init__") 1 ["found"] (spXp (He.ga K "NoRenaming") ["found"] [0]) := by
  obtain ⟨fd, F⟩ := v.c.def_ 16 (d := d_NoRenaming___init__) rfl
  exact fnK_xp (ps := ["self", "found"]) (funD_ini F S_NoRenaming___init__ (by decide) (fun cdv A outer s H E => (init_body (N := []) (sp0 := ()) (ex_NoRenaming v).1 (He.noat_ok (K := K) (v.c.fact 51 (f := .he (.noat "NoRenaming" "found")))) rfl (pv 0) (pv 1) (inis_nil rfl)))) (kb_ix0 F fun _ _ _ _ _ _ us ws h1 h2 => match us, ws, h1, h2 with | [_], [_], _, _ => rfl)
theorem e0_NothingToUndo (v : Ev K mg base) : PySem.W.excInitIn K (He.ga K "NothingToUndo") (bmOf "LookupError") "LookupError.__new__" = true ∧ OxC K (He.ga K "NothingToUndo") ∧ XqC K (He.ga K "NothingToUndo") ∧ PySem.W.findIn K (.ref (He.ga K "NothingToUndo")) "__init__" = some (some (.builtin "LookupError.__init__")) := exc0_ok Bas.lk (v.c.fact 53 (f := .exc0 "NothingToUndo" "LookupError"))
theorem ex_NothingToUndo (v : Ev K mg base) : OxC K (He.ga K "NothingToUndo") ∧ XqC K (He.ga K "NothingToUndo") ∧ True := ⟨(e0_NothingToUndo v).2.1, (e0_NothingToUndo v).2.2.1, trivial⟩
theorem ex_UnknownName (v : Ev K mg base) : OxC K (He.ga K "UnknownName") ∧ XqC K (He.ga K "UnknownName") ∧ PySem.W.findIn K (.ref (He.ga K "UnknownName")) "__init__" = some (some (.ref (He.ma K (He.ga K "UnknownName") "__init__"))) ∧ PySem.W.typeIn K (.ref (He.ma K (He.ga K "UnknownName") "__init__")) = some (.type "function") := exc_ok Bas.lk (v.c.fact 55 (f := .exc "UnknownName" "LookupError"))
theorem S_UnknownName___init__ : FnScope ["self", "name"] ["self", "name"] (defScope (inClass (top 17) 0)) := ⟨rfl, rfl, rfl, by decide +kernel, rfl, by decide +kernel, by decide +kernel⟩
theorem xd_UnknownName (v : Ev K mg base) : ∃ fd, TS.FnOk P w K mg base (L2.CX P w) 1 (He.ma K (He.ga K "UnknownName") "__init__") fd ["self", "name"] (spX (He.ga K "UnknownName") ["name"]) ∧ Binds K fd ["self", "name"] [] := by
  obtain ⟨fd, F⟩ := v.c.def_ 17 (d := d_UnknownName___init__) rfl
  exact ⟨fd, funD_ini F S_UnknownName___init__ (by decide) (fun cdv A outer s H E => (init_body (N := []) (sp0 := ()) (ex_UnknownName v).1 (He.noat_ok (K := K) (v.c.fact 56 (f := .he (.noat "UnknownName" "name")))) rfl (pv 0) (pv 1) (inis_nil rfl))), F.bindsN (ps := ["self", "name"]) fun _ _ _ _ _ _ us hl => match us, hl with | [_, _], _ => rfl⟩
theorem xk_UnknownName_name (v : Ev K mg base) : FnK P w K mg base (L2.CX P w) 1 (He.ma K (He.ga K "UnknownName") "__init__") 1 ["name"] (spXp (He.ga K "UnknownName") ["name"] [0]) := by
  obtain ⟨fd, F⟩ := v.c.def_ 17 (d := d_UnknownName___init__) rfl
  exact fnK_xp (ps := ["self", "name"]) (funD_ini F S_UnknownName___init__ (by decide) (fun cdv A outer s H E => (init_body (N := []) (sp0 := ()) (ex_UnknownName v).1 (He.noat_ok (K := K) (v.c.fact 56 (f := .he (.noat "UnknownName" "name")))) rfl (pv 0) (pv 1) (inis_nil rfl)))) (kb_ix0 F fun _ _ _ _ _ _ us ws h1 h2 => match us, ws, h1, h2 with | [_], [_], _, _ => rfl)
theorem ex_NoFactors (v : Ev K mg base) : OxC K (He.ga K "NoFactors") ∧ XqC K (He.ga K "NoFactors") ∧ PySem.W.findIn K (.ref (He.ga K "NoFactors")) "__init__" = some (some (.ref (He.ma K (He.ga K "NoFactors") "__init__"))) ∧ PySem.W.typeIn K (.ref (He.ma K (He.ga K "NoFactors") "__init__")) = some (.type "function") := exc_ok Bas.lk (v.c.fact 58 (f := .exc "NoFactors" "LookupError"))
theorem S_NoFactors___init__ : FnScope ["self", "excess"] ["self", "excess"] (defScope (inClass (top 16) 0)) := ⟨rfl, rfl, rfl, by decide +kernel, rfl, by decide +kernel, by decide +kernel⟩
theorem xd_NoFactors (v : Ev K mg base) : ∃ fd, TS.FnOk P w K mg base (L2.CX P w) 1 (He.ma K (He.ga K "NoFactors") "__init__") fd ["self", "excess"] (spX (He.ga K "NoFactors") ["excess"]) ∧ Binds K fd ["self", "excess"] [] := by
  obtain ⟨fd, F⟩ := v.c.def_ 18 (d := d_NoFactors___init__) rfl
  exact ⟨fd, funD_ini F S_NoFactors___init__ (by decide) (fun cdv A outer s H E => (init_body (N := []) (sp0 := ()) (ex_NoFactors v).1 (He.noat_ok (K := K) (v.c.fact 59 (f := .he (.noat "NoFactors" "excess")))) rfl (pv 0) (pv 1) (inis_nil rfl))), F.bindsN (ps := ["self", "excess"]) fun _ _ _ _ _ _ us hl => match us, hl with | [_, _], _ => rfl⟩
theorem xk_NoFactors_excess (v : Ev K mg base) : FnK P w K mg base (L2.CX P w) 1 (He.ma K (He.ga K "NoFactors") "__init__") 1 ["excess"] (spXp (He.ga K "NoFactors") ["excess"] [0]) := by
  obtain ⟨fd, F⟩ := v.c.def_ 18 (d := d_NoFactors___init__) rfl
  exact fnK_xp (ps := ["self", "excess"]) (funD_ini F S_NoFactors___init__ (by decide) (fun cdv A outer s H E => (init_body (N := []) (sp0 := ()) (ex_NoFactors v).1 (He.noat_ok (K := K) (v.c.fact 59 (f := .he (.noat "NoFactors" "excess")))) rfl (pv 0) (pv 1) (inis_nil rfl)))) (kb_ix0 F fun _ _ _ _ _ _ us ws h1 h2 => match us, ws, h1, h2 with | [_], [_], _, _ => rfl)
theorem ex_TooMany (v : Ev K mg base) : OxC K (He.ga K "TooMany") ∧ XqC K (He.ga K "TooMany") ∧ PySem.W.findIn K (.ref (He.ga K "TooMany")) "__init__" = some (some (.ref (He.ma K (He.ga K "TooMany") "__init__"))) ∧ PySem.W.typeIn K (.ref (He.ma K (He.ga K "TooMany") "__init__")) = some (.type "function") := exc_ok Bas.ar (v.c.fact 61 (f := .exc "TooMany" "ArithmeticError"))
theorem S_TooMany___init__ : FnScope ["self", "many"] ["self", "many"] (defScope (inClass (top 21) 0)) := ⟨rfl, rfl, rfl, by decide +kernel, rfl, by decide +kernel, by decide +kernel⟩
theorem xd_TooMany (v : Ev K mg base) : ∃ fd, TS.FnOk P w K mg base (L2.CX P w) 1 (He.ma K (He.ga K "TooMany") "__init__") fd ["self", "many"] (spX (He.ga K "TooMany") ["many"]) ∧ Binds K fd ["self", "many"] [] := by
  obtain ⟨fd, F⟩ := v.c.def_ 19 (d := d_TooMany___init__) rfl
  exact ⟨fd, funD_ini F S_TooMany___init__ (by decide) (fun cdv A outer s H E => (init_body (N := []) (sp0 := ()) (ex_TooMany v).1 (He.noat_ok (K := K) (v.c.fact 62 (f := .he (.noat "TooMany" "many")))) rfl (pv 0) (pv 1) (inis_nil rfl))), F.bindsN (ps := ["self", "many"]) fun _ _ _ _ _ _ us hl => match us, hl with | [_, _], _ => rfl⟩
theorem xk_TooMany_many (v : Ev K mg base) : FnK P w K mg base (L2.CX P w) 1 (He.ma K (He.ga K "TooMany") "__init__") 1 ["many"] (spXp (He.ga K "TooMany") ["many"] [0]) := by
  obtain ⟨fd, F⟩ := v.c.def_ 19 (d := d_TooMany___init__) rfl
  exact fnK_xp (ps := ["self", "many"]) (funD_ini F S_TooMany___init__ (by decide) (fun cdv A outer s H E => (init_body (N := []) (sp0 := ()) (ex_TooMany v).1 (He.noat_ok (K := K) (v.c.fact 62 (f := .he (.noat "TooMany" "many")))) rfl (pv 0) (pv 1) (inis_nil rfl)))) (kb_ix0 F fun _ _ _ _ _ _ us ws h1 h2 => match us, ws, h1, h2 with | [_], [_], _, _ => rfl)
theorem ex_TooLong (v : Ev K mg base) : OxC K (He.ga K "TooLong") ∧ XqC K (He.ga K "TooLong") ∧ PySem.W.findIn K (.ref (He.ga K "TooLong")) "__init__" = some (some (.ref (He.ma K (He.ga K "TooLong") "__init__"))) ∧ PySem.W.typeIn K (.ref (He.ma K (He.ga K "TooLong") "__init__")) = some (.type "function") := exc_ok Bas.ar (v.c.fact 64 (f := .exc "TooLong" "ArithmeticError"))
theorem S_TooLong___init__ : FnScope ["self", "multiple"] ["self", "multiple"] (defScope (inClass (top 20) 0)) := ⟨rfl, rfl, rfl, by decide +kernel, rfl, by decide +kernel, by decide +kernel⟩
theorem xd_TooLong (v : Ev K mg base) : ∃ fd, TS.FnOk P w K mg base (L2.CX P w) 1 (He.ma K (He.ga K "TooLong") "__init__") fd ["self", "multiple"] (spX (He.ga K "TooLong") ["multiple"]) ∧ Binds K fd ["self", "multiple"] [] := by
  obtain ⟨fd, F⟩ := v.c.def_ 20 (d := d_TooLong___init__) rfl
  exact ⟨fd, funD_ini F S_TooLong___init__ (by decide) (fun cdv A outer s H E => (init_body (N := []) (sp0 := ()) (ex_TooLong v).1 (He.noat_ok (K := K) (v.c.fact 65 (f := .he (.noat "TooLong" "multiple")))) rfl (pv 0) (pv 1) (inis_nil rfl))), F.bindsN (ps := ["self", "multiple"]) fun _ _ _ _ _ _ us hl => match us, hl with | [_, _], _ => rfl⟩
theorem xk_TooLong_multiple (v : Ev K mg base) : FnK P w K mg base (L2.CX P w) 1 (He.ma K (He.ga K "TooLong") "__init__") 1 ["multiple"] (spXp (He.ga K "TooLong") ["multiple"] [0]) := by
  obtain ⟨fd, F⟩ := v.c.def_ 20 (d := d_TooLong___init__) rfl
  exact fnK_xp (ps := ["self", "multiple"]) (funD_ini F S_TooLong___init__ (by decide) (fun cdv A outer s H E => (init_body (N := []) (sp0 := ()) (ex_TooLong v).1 (He.noat_ok (K := K) (v.c.fact 65 (f := .he (.noat "TooLong" "multiple")))) rfl (pv 0) (pv 1) (inis_nil rfl)))) (kb_ix0 F fun _ _ _ _ _ _ us ws h1 h2 => match us, ws, h1, h2 with | [_], [_], _, _ => rfl)
abbrev g__law_second_1 : FS := (sAsg (toE (vI 0)) (tTup 5 (tsCons (tName 2) (tsCons (tName 3) (tsCons (tName 4) (tsCons (tName 5) (tsCons (tName 6) tsNil)))))))
abbrev g__law_second_2 : FS := (sAsg (fLst (aCons (fMkX 110 2 (aCons (vI 4) (aCons (vI 6) aNil))) (aCons (fMkXK 110 2 [1, 0] (aCons (vI 6) (aCons (vI 4) aNil))) (aCons (fMkX 111 2 (aCons (vI 4) (aCons (vI 5) aNil))) (aCons (fMkXK 111 2 [1, 0] (aCons (vI 5) (aCons (vI 4) aNil))) aNil))))) (tName 1))
abbrev g__law_second_3 : FS := (sAsg (fBin gAdd (vI 1) (frz (fLst (aCons (fMkX 112 1 (aCons (fTup (aCons (kD (.str "speed")) (aCons (vI 4) (aCons (vI 5) (aCons (kD (.int 0)) aNil))))) aNil)) (aCons (fMkXK 112 1 [0] (aCons (fTup (aCons (kD (.str "speed")) (aCons (vI 4) (aCons (vI 5) (aCons (kD (.int 0)) aNil))))) aNil)) aNil))))) (tName 1))
abbrev g__law_second_4 : FS := (sAsg (fBin gAdd (vI 1) (frz (fLst (aCons (fMkX 113 1 (aCons (vI 6) aNil)) (aCons (fMkXK 113 1 [0] (aCons (vI 6) aNil)) (aCons (fMkX 114 1 (aCons (vI 2) aNil)) (aCons (fMkXK 114 1 [0] (aCons (vI 2) aNil)) (aCons (fMkX0 117) aNil)))))))) (tName 1))
abbrev g__law_second_5 : FS := (sRet (fBin gAdd (vI 1) (frz (fLst (aCons (fMkX0 117) (aCons (fMkX 115 1 (aCons (vI 5) aNil)) (aCons (fMkXK 115 1 [0] (aCons (vI 5) aNil)) (aCons (fMkX 116 1 (aCons (vI 5) aNil)) (aCons (fMkXK 116 1 [0] (aCons (vI 5) aNil)) aNil)))))))))
def g__law_second : FS := (sSeq g__law_second_1 (sSeq g__law_second_2 (sSeq g__law_second_3 (sSeq g__law_second_4 g__law_second_5))))
theorem S__law_second : FnScope ["_law_parts_here", "_law_made", "_law_odd", "_law_table", "_law_speed", "_law_size", "_law_rank"] ["_law_parts_here"] (defScope (top 28)) := ⟨rfl, rfl, rfl, by decide +kernel, rfl, by decide +kernel, by decide +kernel⟩
theorem kp__law_second (v : Ev K mg base) : PySem.W.keepIn K (.ref (He.ga K "_law_second")) = true := (v.c.def_ 21 (d := d__law_second) rfl).elim fun _ F => F.kp
theorem b__law_second (v : Ev K mg base) : BodyOk (MM K) P w K mg base 2 "_law_second" (top 28) (He.ga K "_law_second") ["_law_parts_here", "_law_made", "_law_odd", "_law_table", "_law_speed", "_law_size", "_law_rank"] g__law_second :=
  fun cdv A outer s H E hr tk hp => (dss_cons (ds_asg (DI.toE (di_var (pv 0))) (dg_tup (by rfl) (dgs_cons (dg_name (pg_name S__law_second.nd (by rfl) (by first | exact Or.inl rfl | exact Or.inr rfl))) (dgs_cons (dg_name (pg_name S__law_second.nd (by rfl) (by first | exact Or.inl rfl | exact Or.inr rfl))) (dgs_cons (dg_name (pg_name S__law_second.nd (by rfl) (by first | exact Or.inl rfl | exact Or.inr rfl))) (dgs_cons (dg_name (pg_name S__law_second.nd (by rfl) (by first | exact Or.inl rfl | exact Or.inr rfl))) (dgs_cons (dg_name (pg_name S__law_second.nd (by rfl) (by first | exact Or.inl rfl | exact Or.inr rfl))) dgs_nil)))))) (tgt_tup (tgs_cons (tgt_name 2) (tgs_cons (tgt_name 3) (tgs_cons (tgt_name 4) (tgs_cons (tgt_name 5) (tgs_cons (tgt_name 6) tgs_nil)))))))
    (dss_cons (ds_set (i := 1) S__law_second.nd (by rfl) (by first | exact Or.inl rfl | exact Or.inr rfl) (de_lst (da_cons (Exists.elim (xd_NoTrack (P := P) (w := w) v) fun _ hx => di_mkx (n := 110) (ns := ["key", "number"]) rfl rfl rfl (by decide) (fun h => pe_mkx (ex_NoTrack v).1 (ex_NoTrack v).2.2.1 (ex_NoTrack v).2.2.2 (fnK_pos hx.1 hx.2 rfl) (hr.mono (by decide : 2 ≤ 2)) tk (by rfl) (u_NoTrack v) h) (da_cons (di_var (pv 4)) (da_cons (di_var (pv 6)) da_nil))) (da_cons (di_mkxK (n := 110) (ns := ["key", "number"]) (ix := [1, 0]) rfl rfl rfl (fun h => pe_mkxK (ex_NoTrack v).1 (ex_NoTrack v).2.2.1 (ex_NoTrack v).2.2.2 (xk_NoTrack_number_key (P := P) (w := w) v) (hr.mono (by decide : 2 ≤ 2)) tk (by rfl) (u_NoTrack v) h) (dk_cons (di_var (pv 6)) (dk_cons (di_var (pv 4)) dk_nil))) (da_cons (Exists.elim (xd_NoRoot (P := P) (w := w) v) fun _ hx => di_mkx (n := 111) (ns := ["key", "many"]) rfl rfl rfl (by decide) (fun h => pe_mkx (ex_NoRoot v).1 (ex_NoRoot v).2.2.1 (ex_NoRoot v).2.2.2 (fnK_pos hx.1 hx.2 rfl) (hr.mono (by decide : 2 ≤ 2)) tk (by rfl) (u_NoRoot v) h) (da_cons (di_var (pv 4)) (da_cons (di_var (pv 5)) da_nil))) (da_cons (di_mkxK (n := 111) (ns := ["key", "many"]) (ix := [1, 0]) rfl rfl rfl (fun h => pe_mkxK (ex_NoRoot v).1 (ex_NoRoot v).2.2.1 (ex_NoRoot v).2.2.2 (xk_NoRoot_many_key (P := P) (w := w) v) (hr.mono (by decide : 2 ≤ 2)) tk (by rfl) (u_NoRoot v) h) (dk_cons (di_var (pv 5)) (dk_cons (di_var (pv 4)) dk_nil))) da_nil))))))
    (dss_cons (ds_set (i := 1) S__law_second.nd (by rfl) (by first | exact Or.inl rfl | exact Or.inr rfl) (x_add (di_var (pv 1)) (DE.pk (de_lst (da_cons (Exists.elim (xd_NoRenaming (P := P) (w := w) v) fun _ hx => di_mkx (n := 112) (ns := ["found"]) rfl rfl rfl (by decide) (fun h => pe_mkx (ex_NoRenaming v).1 (ex_NoRenaming v).2.2.1 (ex_NoRenaming v).2.2.2 (fnK_pos hx.1 hx.2 rfl) (hr.mono (by decide : 2 ≤ 2)) tk (by rfl) (u_NoRenaming v) h) (da_cons (di_tup (da_cons di_str (da_cons (di_var (pv 4)) (da_cons (di_var (pv 5)) (da_cons di_int da_nil))))) da_nil)) (da_cons (di_mkxK (n := 112) (ns := ["found"]) (ix := [0]) rfl rfl rfl (fun h => pe_mkxK (ex_NoRenaming v).1 (ex_NoRenaming v).2.2.1 (ex_NoRenaming v).2.2.2 (xk_NoRenaming_found (P := P) (w := w) v) (hr.mono (by decide : 2 ≤ 2)) tk (by rfl) (u_NoRenaming v) h) (dk_cons (di_tup (da_cons di_str (da_cons (di_var (pv 4)) (da_cons (di_var (pv 5)) (da_cons di_int da_nil))))) dk_nil)) da_nil))))))
    (dss_cons (ds_set (i := 1) S__law_second.nd (by rfl) (by first | exact Or.inl rfl | exact Or.inr rfl) (x_add (di_var (pv 1)) (DE.pk (de_lst (da_cons (Exists.elim (xd_NoFactors (P := P) (w := w) v) fun _ hx => di_mkx (n := 113) (ns := ["excess"]) rfl rfl rfl (by decide) (fun h => pe_mkx (ex_NoFactors v).1 (ex_NoFactors v).2.2.1 (ex_NoFactors v).2.2.2 (fnK_pos hx.1 hx.2 rfl) (hr.mono (by decide : 2 ≤ 2)) tk (by rfl) (u_NoFactors v) h) (da_cons (di_var (pv 6)) da_nil)) (da_cons (di_mkxK (n := 113) (ns := ["excess"]) (ix := [0]) rfl rfl rfl (fun h => pe_mkxK (ex_NoFactors v).1 (ex_NoFactors v).2.2.1 (ex_NoFactors v).2.2.2 (xk_NoFactors_excess (P := P) (w := w) v) (hr.mono (by decide : 2 ≤ 2)) tk (by rfl) (u_NoFactors v) h) (dk_cons (di_var (pv 6)) dk_nil)) (da_cons (Exists.elim (xd_UnknownName (P := P) (w := w) v) fun _ hx => di_mkx (n := 114) (ns := ["name"]) rfl rfl rfl (by decide) (fun h => pe_mkx (ex_UnknownName v).1 (ex_UnknownName v).2.2.1 (ex_UnknownName v).2.2.2 (fnK_pos hx.1 hx.2 rfl) (hr.mono (by decide : 2 ≤ 2)) tk (by rfl) (u_UnknownName v) h) (da_cons (di_var (pv 2)) da_nil)) (da_cons (di_mkxK (n := 114) (ns := ["name"]) (ix := [0]) rfl rfl rfl (fun h => pe_mkxK (ex_UnknownName v).1 (ex_UnknownName v).2.2.1 (ex_UnknownName v).2.2.2 (xk_UnknownName_name (P := P) (w := w) v) (hr.mono (by decide : 2 ≤ 2)) tk (by rfl) (u_UnknownName v) h) (dk_cons (di_var (pv 2)) dk_nil)) (da_cons (di_mkx0 (n := 117) rfl rfl (pe_mkx0 (ex_NothingToUndo v).1 (e0_NothingToUndo v).1 (e0_NothingToUndo v).2.2.2 (by rfl) (u_NothingToUndo v))) da_nil)))))))))
    (dss_one (ds_ret (x_add (di_var (pv 1)) (DE.pk (de_lst (da_cons (di_mkx0 (n := 117) rfl rfl (pe_mkx0 (ex_NothingToUndo v).1 (e0_NothingToUndo v).1 (e0_NothingToUndo v).2.2.2 (by rfl) (u_NothingToUndo v))) (da_cons (Exists.elim (xd_TooLong (P := P) (w := w) v) fun _ hx => di_mkx (n := 115) (ns := ["multiple"]) rfl rfl rfl (by decide) (fun h => pe_mkx (ex_TooLong v).1 (ex_TooLong v).2.2.1 (ex_TooLong v).2.2.2 (fnK_pos hx.1 hx.2 rfl) (hr.mono (by decide : 2 ≤ 2)) tk (by rfl) (u_TooLong v) h) (da_cons (di_var (pv 5)) da_nil)) (da_cons (di_mkxK (n := 115) (ns := ["multiple"]) (ix := [0]) rfl rfl rfl (fun h => pe_mkxK (ex_TooLong v).1 (ex_TooLong v).2.2.1 (ex_TooLong v).2.2.2 (xk_TooLong_multiple (P := P) (w := w) v) (hr.mono (by decide : 2 ≤ 2)) tk (by rfl) (u_TooLong v) h) (dk_cons (di_var (pv 5)) dk_nil)) (da_cons (Exists.elim (xd_TooMany (P := P) (w := w) v) fun _ hx => di_mkx (n := 116) (ns := ["many"]) rfl rfl rfl (by decide) (fun h => pe_mkx (ex_TooMany v).1 (ex_TooMany v).2.2.1 (ex_TooMany v).2.2.2 (fnK_pos hx.1 hx.2 rfl) (hr.mono (by decide : 2 ≤ 2)) tk (by rfl) (u_TooMany v) h) (da_cons (di_var (pv 5)) da_nil)) (da_cons (di_mkxK (n := 116) (ns := ["many"]) (ix := [0]) rfl rfl rfl (fun h => pe_mkxK (ex_TooMany v).1 (ex_TooMany v).2.2.1 (ex_TooMany v).2.2.2 (xk_TooMany_many (P := P) (w := w) v) (hr.mono (by decide : 2 ≤ 2)) tk (by rfl) (u_TooMany v) h) (dk_cons (di_var (pv 5)) dk_nil)) da_nil))))))))))))))
def m__law_second : Fm := mir 7 1 g__law_second
theorem o__law_second (v : Ev K mg base) : DefOk (MM K) P w K mg base 3 "_law_second" "_law_second" (top 28) [] (He.ga K "_law_second") ["_law_parts_here"] m__law_second := by
  obtain ⟨fd, F⟩ := v.c.def_ 21 (d := d__law_second) rfl
  exact ⟨fd, F, funD_mir (M := MM K) F S__law_second (by decide) (fun cdv A outer s H E hr tk hp => b__law_second v cdv A outer s H E hr tk hp)⟩
theorem f__law_second (v : Ev K mg base) : TS.FnR P w K mg base (L2.CX P w) 3 (He.ga K "_law_second") (spD (MM K) m__law_second) := by
  obtain ⟨fd, F, O⟩ := o__law_second (P := P) (w := w) v
  exact fnR_raw (M := MM K) O (F.bindsN (ps := ["_law_parts_here"]) fun _ _ _ _ _ _ us hl => match us, hl with | [_], _ => rfl)
def xi_LimitError : Nat → Option Bool := fun n => match n with
  | 100 => some false
  | 101 => some false
  | 102 => some false
  | 103 => some false
  | 104 => some false
  | 105 => some false
  | 106 => some false
  | 107 => some false
  | 108 => some false
  | 109 => some false
  | 110 => some false
  | 111 => some false
  | 112 => some false
  | 113 => some false
  | 114 => some false
  | 115 => some true
  | 116 => some true
  | 117 => some false
  | _ => none
theorem xi_LimitError_ok (v : Ev K mg base) : ∀ k b C, xi_LimitError k = some b → (MM K).G k = some C → XqC K C ∧ PySem.W.kitOne K (.ref C) (.ref (He.ga K "LimitError")) = some b := by
  intro k b C h hG
  unfold xi_LimitError at h
  split at h
  · cases h
    cases hG
    exact ⟨(ex_InvalidInteger v).2.1, (kit_ok (v.c.fact 69 (f := .kit "InvalidInteger" "LimitError" false)))⟩
  · cases h
    cases hG
    exact ⟨(ex_InvalidRatio v).2.1, (kit_ok (v.c.fact 70 (f := .kit "InvalidRatio" "LimitError" false)))⟩
  · cases h
    cases hG
    exact ⟨(ex_InvalidTable v).2.1, (kit_ok (v.c.fact 71 (f := .kit "InvalidTable" "LimitError" false)))⟩
  · cases h
    cases hG
    exact ⟨(ex_InvalidPair v).2.1, (kit_ok (v.c.fact 72 (f := .kit "InvalidPair" "LimitError" false)))⟩
  · cases h
    cases hG
    exact ⟨(ex_InvalidAddress v).2.1, (kit_ok (v.c.fact 73 (f := .kit "InvalidAddress" "LimitError" false)))⟩
  · cases h
    cases hG
    exact ⟨(ex_InvalidProfile v).2.1, (kit_ok (v.c.fact 74 (f := .kit "InvalidProfile" "LimitError" false)))⟩
  · cases h
    cases hG
    exact ⟨(ex_InvalidValue v).2.1, (kit_ok (v.c.fact 75 (f := .kit "InvalidValue" "LimitError" false)))⟩
  · cases h
    cases hG
    exact ⟨(ex_InvalidFormula v).2.1, (kit_ok (v.c.fact 76 (f := .kit "InvalidFormula" "LimitError" false)))⟩
  · cases h
    cases hG
    exact ⟨(ex_InvalidName v).2.1, (kit_ok (v.c.fact 77 (f := .kit "InvalidName" "LimitError" false)))⟩
  · cases h
    cases hG
    exact ⟨(ex_InvalidLine v).2.1, (kit_ok (v.c.fact 78 (f := .kit "InvalidLine" "LimitError" false)))⟩
  · cases h
    cases hG
    exact ⟨(ex_NoTrack v).2.1, (kit_ok (v.c.fact 79 (f := .kit "NoTrack" "LimitError" false)))⟩
  · cases h
    cases hG
    exact ⟨(ex_NoRoot v).2.1, (kit_ok (v.c.fact 80 (f := .kit "NoRoot" "LimitError" false)))⟩
  · cases h
    cases hG
    exact ⟨(ex_NoRenaming v).2.1, (kit_ok (v.c.fact 81 (f := .kit "NoRenaming" "LimitError" false)))⟩
  · cases h
    cases hG
    exact ⟨(ex_NoFactors v).2.1, (kit_ok (v.c.fact 82 (f := .kit "NoFactors" "LimitError" false)))⟩
  · cases h
    cases hG
    exact ⟨(ex_UnknownName v).2.1, (kit_ok (v.c.fact 83 (f := .kit "UnknownName" "LimitError" false)))⟩
  · cases h
    cases hG
    exact ⟨(ex_TooLong v).2.1, (kit_ok (v.c.fact 84 (f := .kit "TooLong" "LimitError" true)))⟩
  · cases h
    cases hG
    exact ⟨(ex_TooMany v).2.1, (kit_ok (v.c.fact 85 (f := .kit "TooMany" "LimitError" true)))⟩
  · cases h
    cases hG
    exact ⟨(ex_NothingToUndo v).2.1, (kit_ok (v.c.fact 86 (f := .kit "NothingToUndo" "LimitError" false)))⟩
  · cases h
def xi_AbsentError : Nat → Option Bool := fun n => match n with
  | 100 => some false
  | 101 => some false
  | 102 => some false
  | 103 => some false
  | 104 => some false
  | 105 => some false
  | 106 => some false
  | 107 => some false
  | 108 => some false
  | 109 => some false
  | 110 => some true
  | 111 => some true
  | 112 => some true
  | 113 => some true
  | 114 => some true
  | 115 => some false
  | 116 => some false
  | 117 => some true
  | _ => none
theorem xi_AbsentError_ok (v : Ev K mg base) : ∀ k b C, xi_AbsentError k = some b → (MM K).G k = some C → XqC K C ∧ PySem.W.kitOne K (.ref C) (.ref (He.ga K "AbsentError")) = some b := by
  intro k b C h hG
  unfold xi_AbsentError at h
  split at h
  · cases h
    cases hG
    exact ⟨(ex_InvalidInteger v).2.1, (kit_ok (v.c.fact 89 (f := .kit "InvalidInteger" "AbsentError" false)))⟩
  · cases h
    cases hG
    exact ⟨(ex_InvalidRatio v).2.1, (kit_ok (v.c.fact 90 (f := .kit "InvalidRatio" "AbsentError" false)))⟩
  · cases h
    cases hG
    exact ⟨(ex_InvalidTable v).2.1, (kit_ok (v.c.fact 91 (f := .kit "InvalidTable" "AbsentError" false)))⟩
  · cases h
    cases hG
    exact ⟨(ex_InvalidPair v).2.1, (kit_ok (v.c.fact 92 (f := .kit "InvalidPair" "AbsentError" false)))⟩
  · cases h
    cases hG
    exact ⟨(ex_InvalidAddress v).2.1, (kit_ok (v.c.fact 93 (f := .kit "InvalidAddress" "AbsentError" false)))⟩
  · cases h
    cases hG
    exact ⟨(ex_InvalidProfile v).2.1, (kit_ok (v.c.fact 94 (f := .kit "InvalidProfile" "AbsentError" false)))⟩
  · cases h
    cases hG
    exact ⟨(ex_InvalidValue v).2.1, (kit_ok (v.c.fact 95 (f := .kit "InvalidValue" "AbsentError" false)))⟩
  · cases h
    cases hG
    exact ⟨(ex_InvalidFormula v).2.1, (kit_ok (v.c.fact 96 (f := .kit "InvalidFormula" "AbsentError" false)))⟩
  · cases h
    cases hG
    exact ⟨(ex_InvalidName v).2.1, (kit_ok (v.c.fact 97 (f := .kit "InvalidName" "AbsentError" false)))⟩
  · cases h
    cases hG
    exact ⟨(ex_InvalidLine v).2.1, (kit_ok (v.c.fact 98 (f := .kit "InvalidLine" "AbsentError" false)))⟩
  · cases h
    cases hG
    exact ⟨(ex_NoTrack v).2.1, (kit_ok (v.c.fact 99 (f := .kit "NoTrack" "AbsentError" true)))⟩
  · cases h
    cases hG
    exact ⟨(ex_NoRoot v).2.1, (kit_ok (v.c.fact 100 (f := .kit "NoRoot" "AbsentError" true)))⟩
  · cases h
    cases hG
    exact ⟨(ex_NoRenaming v).2.1, (kit_ok (v.c.fact 101 (f := .kit "NoRenaming" "AbsentError" true)))⟩
  · cases h
    cases hG
    exact ⟨(ex_NoFactors v).2.1, (kit_ok (v.c.fact 102 (f := .kit "NoFactors" "AbsentError" true)))⟩
  · cases h
    cases hG
    exact ⟨(ex_UnknownName v).2.1, (kit_ok (v.c.fact 103 (f := .kit "UnknownName" "AbsentError" true)))⟩
  · cases h
    cases hG
    exact ⟨(ex_TooLong v).2.1, (kit_ok (v.c.fact 104 (f := .kit "TooLong" "AbsentError" false)))⟩
  · cases h
    cases hG
    exact ⟨(ex_TooMany v).2.1, (kit_ok (v.c.fact 105 (f := .kit "TooMany" "AbsentError" false)))⟩
  · cases h
    cases hG
    exact ⟨(ex_NothingToUndo v).2.1, (kit_ok (v.c.fact 106 (f := .kit "NothingToUndo" "AbsentError" true)))⟩
  · cases h
def xi_ThreeswapsError : Nat → Option Bool := fun n => match n with
  | 100 => some true
  | 101 => some true
  | 102 => some true
  | 103 => some true
  | 104 => some true
  | 105 => some true
  | 106 => some true
  | 107 => some true
  | 108 => some true
  | 109 => some true
  | 110 => some false
  | 111 => some false
  | 112 => some false
  | 113 => some false
  | 114 => some false
  | 115 => some false
  | 116 => some false
  | 117 => some false
  | _ => none
theorem xi_ThreeswapsError_ok (v : Ev K mg base) : ∀ k b C, xi_ThreeswapsError k = some b → (MM K).G k = some C → XqC K C ∧ PySem.W.kitOne K (.ref C) (.ref (He.ga K "ThreeswapsError")) = some b := by
  intro k b C h hG
  unfold xi_ThreeswapsError at h
  split at h
  · cases h
    cases hG
    exact ⟨(ex_InvalidInteger v).2.1, (kit_ok (v.c.fact 108 (f := .kit "InvalidInteger" "ThreeswapsError" true)))⟩
  · cases h
    cases hG
    exact ⟨(ex_InvalidRatio v).2.1, (kit_ok (v.c.fact 109 (f := .kit "InvalidRatio" "ThreeswapsError" true)))⟩
  · cases h
    cases hG
    exact ⟨(ex_InvalidTable v).2.1, (kit_ok (v.c.fact 110 (f := .kit "InvalidTable" "ThreeswapsError" true)))⟩
  · cases h
    cases hG
    exact ⟨(ex_InvalidPair v).2.1, (kit_ok (v.c.fact 111 (f := .kit "InvalidPair" "ThreeswapsError" true)))⟩
  · cases h
    cases hG
    exact ⟨(ex_InvalidAddress v).2.1, (kit_ok (v.c.fact 112 (f := .kit "InvalidAddress" "ThreeswapsError" true)))⟩
  · cases h
    cases hG
    exact ⟨(ex_InvalidProfile v).2.1, (kit_ok (v.c.fact 113 (f := .kit "InvalidProfile" "ThreeswapsError" true)))⟩
  · cases h
    cases hG
    exact ⟨(ex_InvalidValue v).2.1, (kit_ok (v.c.fact 114 (f := .kit "InvalidValue" "ThreeswapsError" true)))⟩
  · cases h
    cases hG
    exact ⟨(ex_InvalidFormula v).2.1, (kit_ok (v.c.fact 115 (f := .kit "InvalidFormula" "ThreeswapsError" true)))⟩
  · cases h
    cases hG
    exact ⟨(ex_InvalidName v).2.1, (kit_ok (v.c.fact 116 (f := .kit "InvalidName" "ThreeswapsError" true)))⟩
  · cases h
    cases hG
    exact ⟨(ex_InvalidLine v).2.1, (kit_ok (v.c.fact 117 (f := .kit "InvalidLine" "ThreeswapsError" true)))⟩
  · cases h
    cases hG
    exact ⟨(ex_NoTrack v).2.1, (kit_ok (v.c.fact 118 (f := .kit "NoTrack" "ThreeswapsError" false)))⟩
  · cases h
    cases hG
    exact ⟨(ex_NoRoot v).2.1, (kit_ok (v.c.fact 119 (f := .kit "NoRoot" "ThreeswapsError" false)))⟩
  · cases h
    cases hG
    exact ⟨(ex_NoRenaming v).2.1, (kit_ok (v.c.fact 120 (f := .kit "NoRenaming" "ThreeswapsError" false)))⟩
  · cases h
    cases hG
    exact ⟨(ex_NoFactors v).2.1, (kit_ok (v.c.fact 121 (f := .kit "NoFactors" "ThreeswapsError" false)))⟩
  · cases h
    cases hG
    exact ⟨(ex_UnknownName v).2.1, (kit_ok (v.c.fact 122 (f := .kit "UnknownName" "ThreeswapsError" false)))⟩
  · cases h
    cases hG
    exact ⟨(ex_TooLong v).2.1, (kit_ok (v.c.fact 123 (f := .kit "TooLong" "ThreeswapsError" false)))⟩
  · cases h
    cases hG
    exact ⟨(ex_TooMany v).2.1, (kit_ok (v.c.fact 124 (f := .kit "TooMany" "ThreeswapsError" false)))⟩
  · cases h
    cases hG
    exact ⟨(ex_NothingToUndo v).2.1, (kit_ok (v.c.fact 125 (f := .kit "NothingToUndo" "ThreeswapsError" false)))⟩
  · cases h
def xi_ArithmeticError : Nat → Option Bool := fun n => match n with
  | 100 => some false
  | 101 => some false
  | 102 => some false
  | 103 => some false
  | 104 => some false
  | 105 => some false
  | 106 => some false
  | 107 => some false
  | 108 => some false
  | 109 => some false
  | 110 => some false
  | 111 => some false
  | 112 => some false
  | 113 => some false
  | 114 => some false
  | 115 => some true
  | 116 => some true
  | 117 => some false
  | _ => none
theorem xi_ArithmeticError_ok (v : Ev K mg base) : ∀ k b C, xi_ArithmeticError k = some b → (MM K).G k = some C → XqC K C ∧ PySem.W.kitOne K (.ref C) (.type "ArithmeticError") = some b := by
  intro k b C h hG
  unfold xi_ArithmeticError at h
  split at h
  · cases h
    cases hG
    exact ⟨(ex_InvalidInteger v).2.1, (kitC_ok (v.c.fact 127 (f := .kitC "InvalidInteger" "ArithmeticError" false)))⟩
  · cases h
    cases hG
    exact ⟨(ex_InvalidRatio v).2.1, (kitC_ok (v.c.fact 128 (f := .kitC "InvalidRatio" "ArithmeticError" false)))⟩
  · cases h
    cases hG
    exact ⟨(ex_InvalidTable v).2.1, (kitC_ok (v.c.fact 129 (f := .kitC "InvalidTable" "ArithmeticError" false)))⟩
  · cases h
    cases hG
    exact ⟨(ex_InvalidPair v).2.1, (kitC_ok (v.c.fact 130 (f := .kitC "InvalidPair" "ArithmeticError" false)))⟩
  · cases h
    cases hG
    exact ⟨(ex_InvalidAddress v).2.1, (kitC_ok (v.c.fact 131 (f := .kitC "InvalidAddress" "ArithmeticError" false)))⟩
  · cases h
    cases hG
    exact ⟨(ex_InvalidProfile v).2.1, (kitC_ok (v.c.fact 132 (f := .kitC "InvalidProfile" "ArithmeticError" false)))⟩
  · cases h
    cases hG
    exact ⟨(ex_InvalidValue v).2.1, (kitC_ok (v.c.fact 133 (f := .kitC "InvalidValue" "ArithmeticError" false)))⟩
  · cases h
    cases hG
    exact ⟨(ex_InvalidFormula v).2.1, (kitC_ok (v.c.fact 134 (f := .kitC "InvalidFormula" "ArithmeticError" false)))⟩
  · cases h
    cases hG
    exact ⟨(ex_InvalidName v).2.1, (kitC_ok (v.c.fact 135 (f := .kitC "InvalidName" "ArithmeticError" false)))⟩
  · cases h
    cases hG
    exact ⟨(ex_InvalidLine v).2.1, (kitC_ok (v.c.fact 136 (f := .kitC "InvalidLine" "ArithmeticError" false)))⟩
  · cases h
    cases hG
    exact ⟨(ex_NoTrack v).2.1, (kitC_ok (v.c.fact 137 (f := .kitC "NoTrack" "ArithmeticError" false)))⟩
  · cases h
    cases hG
    exact ⟨(ex_NoRoot v).2.1, (kitC_ok (v.c.fact 138 (f := .kitC "NoRoot" "ArithmeticError" false)))⟩
  · cases h
    cases hG
    exact ⟨(ex_NoRenaming v).2.1, (kitC_ok (v.c.fact 139 (f := .kitC "NoRenaming" "ArithmeticError" false)))⟩
  · cases h
    cases hG
    exact ⟨(ex_NoFactors v).2.1, (kitC_ok (v.c.fact 140 (f := .kitC "NoFactors" "ArithmeticError" false)))⟩
  · cases h
    cases hG
    exact ⟨(ex_UnknownName v).2.1, (kitC_ok (v.c.fact 141 (f := .kitC "UnknownName" "ArithmeticError" false)))⟩
  · cases h
    cases hG
    exact ⟨(ex_TooLong v).2.1, (kitC_ok (v.c.fact 142 (f := .kitC "TooLong" "ArithmeticError" true)))⟩
  · cases h
    cases hG
    exact ⟨(ex_TooMany v).2.1, (kitC_ok (v.c.fact 143 (f := .kitC "TooMany" "ArithmeticError" true)))⟩
  · cases h
    cases hG
    exact ⟨(ex_NothingToUndo v).2.1, (kitC_ok (v.c.fact 144 (f := .kitC "NothingToUndo" "ArithmeticError" false)))⟩
  · cases h
def xi_LookupError : Nat → Option Bool := fun n => match n with
  | 100 => some false
  | 101 => some false
  | 102 => some false
  | 103 => some false
  | 104 => some false
  | 105 => some false
  | 106 => some false
  | 107 => some false
  | 108 => some false
  | 109 => some false
  | 110 => some true
  | 111 => some true
  | 112 => some true
  | 113 => some true
  | 114 => some true
  | 115 => some false
  | 116 => some false
  | 117 => some true
  | _ => none
theorem xi_LookupError_ok (v : Ev K mg base) : ∀ k b C, xi_LookupError k = some b → (MM K).G k = some C → XqC K C ∧ PySem.W.kitOne K (.ref C) (.type "LookupError") = some b := by
  intro k b C h hG
  unfold xi_LookupError at h
  split at h
  · cases h
    cases hG
    exact ⟨(ex_InvalidInteger v).2.1, (kitC_ok (v.c.fact 146 (f := .kitC "InvalidInteger" "LookupError" false)))⟩
  · cases h
    cases hG
    exact ⟨(ex_InvalidRatio v).2.1, (kitC_ok (v.c.fact 147 (f := .kitC "InvalidRatio" "LookupError" false)))⟩
  · cases h
    cases hG
    exact ⟨(ex_InvalidTable v).2.1, (kitC_ok (v.c.fact 148 (f := .kitC "InvalidTable" "LookupError" false)))⟩
  · cases h
    cases hG
    exact ⟨(ex_InvalidPair v).2.1, (kitC_ok (v.c.fact 149 (f := .kitC "InvalidPair" "LookupError" false)))⟩
  · cases h
    cases hG
    exact ⟨(ex_InvalidAddress v).2.1, (kitC_ok (v.c.fact 150 (f := .kitC "InvalidAddress" "LookupError" false)))⟩
  · cases h
    cases hG
    exact ⟨(ex_InvalidProfile v).2.1, (kitC_ok (v.c.fact 151 (f := .kitC "InvalidProfile" "LookupError" false)))⟩
  · cases h
    cases hG
    exact ⟨(ex_InvalidValue v).2.1, (kitC_ok (v.c.fact 152 (f := .kitC "InvalidValue" "LookupError" false)))⟩
  · cases h
    cases hG
    exact ⟨(ex_InvalidFormula v).2.1, (kitC_ok (v.c.fact 153 (f := .kitC "InvalidFormula" "LookupError" false)))⟩
  · cases h
    cases hG
    exact ⟨(ex_InvalidName v).2.1, (kitC_ok (v.c.fact 154 (f := .kitC "InvalidName" "LookupError" false)))⟩
  · cases h
    cases hG
    exact ⟨(ex_InvalidLine v).2.1, (kitC_ok (v.c.fact 155 (f := .kitC "InvalidLine" "LookupError" false)))⟩
  · cases h
    cases hG
    exact ⟨(ex_NoTrack v).2.1, (kitC_ok (v.c.fact 156 (f := .kitC "NoTrack" "LookupError" true)))⟩
  · cases h
    cases hG
    exact ⟨(ex_NoRoot v).2.1, (kitC_ok (v.c.fact 157 (f := .kitC "NoRoot" "LookupError" true)))⟩
  · cases h
    cases hG
    exact ⟨(ex_NoRenaming v).2.1, (kitC_ok (v.c.fact 158 (f := .kitC "NoRenaming" "LookupError" true)))⟩
  · cases h
    cases hG
    exact ⟨(ex_NoFactors v).2.1, (kitC_ok (v.c.fact 159 (f := .kitC "NoFactors" "LookupError" true)))⟩
  · cases h
    cases hG
    exact ⟨(ex_UnknownName v).2.1, (kitC_ok (v.c.fact 160 (f := .kitC "UnknownName" "LookupError" true)))⟩
  · cases h
    cases hG
    exact ⟨(ex_TooLong v).2.1, (kitC_ok (v.c.fact 161 (f := .kitC "TooLong" "LookupError" false)))⟩
  · cases h
    cases hG
    exact ⟨(ex_TooMany v).2.1, (kitC_ok (v.c.fact 162 (f := .kitC "TooMany" "LookupError" false)))⟩
  · cases h
    cases hG
    exact ⟨(ex_NothingToUndo v).2.1, (kitC_ok (v.c.fact 163 (f := .kitC "NothingToUndo" "LookupError" true)))⟩
  · cases h
def xi_ValueError : Nat → Option Bool := fun n => match n with
  | 100 => some true
  | 101 => some true
  | 102 => some true
  | 103 => some true
  | 104 => some true
  | 105 => some true
  | 106 => some true
  | 107 => some true
  | 108 => some true
  | 109 => some true
  | 110 => some false
  | 111 => some false
  | 112 => some false
  | 113 => some false
  | 114 => some false
  | 115 => some false
  | 116 => some false
  | 117 => some false
  | _ => none
theorem xi_ValueError_ok (v : Ev K mg base) : ∀ k b C, xi_ValueError k = some b → (MM K).G k = some C → XqC K C ∧ PySem.W.kitOne K (.ref C) (.type "ValueError") = some b := by
  intro k b C h hG
  unfold xi_ValueError at h
  split at h
  · cases h
    cases hG
    exact ⟨(ex_InvalidInteger v).2.1, (kitC_ok (v.c.fact 165 (f := .kitC "InvalidInteger" "ValueError" true)))⟩
  · cases h
    cases hG
    exact ⟨(ex_InvalidRatio v).2.1, (kitC_ok (v.c.fact 166 (f := .kitC "InvalidRatio" "ValueError" true)))⟩
  · cases h
    cases hG
    exact ⟨(ex_InvalidTable v).2.1, (kitC_ok (v.c.fact 167 (f := .kitC "InvalidTable" "ValueError" true)))⟩
  · cases h
    cases hG
    exact ⟨(ex_InvalidPair v).2.1, (kitC_ok (v.c.fact 168 (f := .kitC "InvalidPair" "ValueError" true)))⟩
  · cases h
    cases hG
    exact ⟨(ex_InvalidAddress v).2.1, (kitC_ok (v.c.fact 169 (f := .kitC "InvalidAddress" "ValueError" true)))⟩
  · cases h
    cases hG
    exact ⟨(ex_InvalidProfile v).2.1, (kitC_ok (v.c.fact 170 (f := .kitC "InvalidProfile" "ValueError" true)))⟩
  · cases h
    cases hG
    exact ⟨(ex_InvalidValue v).2.1, (kitC_ok (v.c.fact 171 (f := .kitC "InvalidValue" "ValueError" true)))⟩
  · cases h
    cases hG
    exact ⟨(ex_InvalidFormula v).2.1, (kitC_ok (v.c.fact 172 (f := .kitC "InvalidFormula" "ValueError" true)))⟩
  · cases h
    cases hG
    exact ⟨(ex_InvalidName v).2.1, (kitC_ok (v.c.fact 173 (f := .kitC "InvalidName" "ValueError" true)))⟩
  · cases h
    cases hG
    exact ⟨(ex_InvalidLine v).2.1, (kitC_ok (v.c.fact 174 (f := .kitC "InvalidLine" "ValueError" true)))⟩
  · cases h
    cases hG
    exact ⟨(ex_NoTrack v).2.1, (kitC_ok (v.c.fact 175 (f := .kitC "NoTrack" "ValueError" false)))⟩
  · cases h
    cases hG
    exact ⟨(ex_NoRoot v).2.1, (kitC_ok (v.c.fact 176 (f := .kitC "NoRoot" "ValueError" false)))⟩
  · cases h
    cases hG
    exact ⟨(ex_NoRenaming v).2.1, (kitC_ok (v.c.fact 177 (f := .kitC "NoRenaming" "ValueError" false)))⟩
  · cases h
    cases hG
    exact ⟨(ex_NoFactors v).2.1, (kitC_ok (v.c.fact 178 (f := .kitC "NoFactors" "ValueError" false)))⟩
  · cases h
    cases hG
    exact ⟨(ex_UnknownName v).2.1, (kitC_ok (v.c.fact 179 (f := .kitC "UnknownName" "ValueError" false)))⟩
  · cases h
    cases hG
    exact ⟨(ex_TooLong v).2.1, (kitC_ok (v.c.fact 180 (f := .kitC "TooLong" "ValueError" false)))⟩
  · cases h
    cases hG
    exact ⟨(ex_TooMany v).2.1, (kitC_ok (v.c.fact 181 (f := .kitC "TooMany" "ValueError" false)))⟩
  · cases h
    cases hG
    exact ⟨(ex_NothingToUndo v).2.1, (kitC_ok (v.c.fact 182 (f := .kitC "NothingToUndo" "ValueError" false)))⟩
  · cases h
abbrev g__law_above_right_1 : FS := (sAsg (fLst (aCons (fXisi xi_ThreeswapsError (vI 0)) (aCons (fXisi xi_AbsentError (vI 0)) (aCons (fXisi xi_LimitError (vI 0)) aNil)))) (tName 2))
abbrev g__law_above_right_2 : FS := (sAsg (fBin gAdd (vI 2) (frz (fLst (aCons (fXisi xi_ValueError (vI 0)) (aCons (fXisi xi_LookupError (vI 0)) (aCons (fXisi xi_ArithmeticError (vI 0)) aNil)))))) (tName 2))
abbrev g__law_above_right_3 : FS := (sAsg (fBin gAdd (frz (fCal gInt (aOne (frz (fBin gGt (vI 1) (kD (.int 9))))))) (frz (fCal gInt (aOne (frz (fBin gGt (vI 1) (kD (.int 15)))))))) (tName 3))
abbrev g__law_above_right_4 : FS := (sRet (fBin gEq (vI 2) (frz (fLc (stName 4) [4] (itRg1 (kD (.int 6))) tTrue (frz (fBin gIn (vI 4) (fTup (aCons (vI 3) (aCons (frz (fBin gAdd (vI 3) (kD (.int 3)))) aNil)))))))))
def g__law_above_right : FS := (sSeq g__law_above_right_1 (sSeq g__law_above_right_2 (sSeq g__law_above_right_3 g__law_above_right_4)))
theorem S__law_above_right : FnScope ["_law_made", "_law_place", "_law_above", "_law_at", "_law_k"] ["_law_made", "_law_place"] (defScope (top 30)) := ⟨rfl, rfl, rfl, by decide +kernel, rfl, by decide +kernel, by decide +kernel⟩
theorem kp__law_above_right (v : Ev K mg base) : PySem.W.keepIn K (.ref (He.ga K "_law_above_right")) = true := (v.c.def_ 22 (d := d__law_above_right) rfl).elim fun _ F => F.kp
theorem b__law_above_right (v : Ev K mg base) : BodyOk (MM K) P w K mg base 0 "_law_above_right" (top 30) (He.ga K "_law_above_right") ["_law_made", "_law_place", "_law_above", "_law_at", "_law_k"] g__law_above_right :=
  fun cdv A outer s H E hr tk hp => (dss_cons (ds_set (i := 2) S__law_above_right.nd (by rfl) (by first | exact Or.inl rfl | exact Or.inr rfl) (de_lst (da_cons (di_xisi (xi_ThreeswapsError_ok v) (by rfl) (u_isinstance v) (di_var (pv 0)) (pe_glob (by rfl) (u_ThreeswapsError v) (by rfl)) (ClsV.own _)) (da_cons (di_xisi (xi_AbsentError_ok v) (by rfl) (u_isinstance v) (di_var (pv 0)) (pe_glob (by rfl) (u_AbsentError v) (by rfl)) (ClsV.own _)) (da_cons (di_xisi (xi_LimitError_ok v) (by rfl) (u_isinstance v) (di_var (pv 0)) (pe_glob (by rfl) (u_LimitError v) (by rfl)) (ClsV.own _)) da_nil)))))
    (dss_cons (ds_set (i := 2) S__law_above_right.nd (by rfl) (by first | exact Or.inl rfl | exact Or.inr rfl) (x_add (di_var (pv 2)) (DE.pk (de_lst (da_cons (di_xisi (xi_ValueError_ok v) (by rfl) (u_isinstance v) (di_var (pv 0)) (k_ty PyProof.Rows.Boot.«ValueError» (by rfl) (u_ValueError v)) (ClsV.ty "ValueError")) (da_cons (di_xisi (xi_LookupError_ok v) (by rfl) (u_isinstance v) (di_var (pv 0)) (k_ty PyProof.Rows.Boot.«LookupError» (by rfl) (u_LookupError v)) (ClsV.ty "LookupError")) (da_cons (di_xisi (xi_ArithmeticError_ok v) (by rfl) (u_isinstance v) (di_var (pv 0)) (k_ty PyProof.Rows.Boot.«ArithmeticError» (by rfl) (u_ArithmeticError v)) (ClsV.ty "ArithmeticError")) da_nil)))))))
    (dss_cons (ds_set (i := 3) S__law_above_right.nd (by rfl) (by first | exact Or.inl rfl | exact Or.inr rfl) (x_add (DE.frz (b_int (by rfl) (u_int v) (db_one (DE.pk (x_gt (di_var (pv 1)) (DI.pk di_int)))))) (DE.pk (b_int (by rfl) (u_int v) (db_one (DE.pk (x_gt (di_var (pv 1)) (DI.pk di_int))))))))
    (dss_one (ds_ret (x_eq hr (di_var (pv 2)) (DE.pk (de_lc (own := [("_law_k", 4)]) (by rfl) (by rfl) S__law_above_right.nd (dit_rg1 (by rfl) (u_range v) di_int) (blkOk_by (by kernel_rfl)) (st_name 4) (fun _ _ _ _ _ => pg_name S__law_above_right.nd (by rfl) (by first | exact Or.inl rfl | exact Or.inr rfl)) (fun _ _ _ _ _ => pts_no) (fun _ _ _ _ _ => (DE.frz (x_in hr (di_var (pv 4)) (DI.pk (di_tup (da_cons (di_var (pv 3)) (da_cons (DE.frz (x_add (di_var (pv 3)) (DI.pk di_int))) da_nil)))))))))))))))
def m__law_above_right : Fm := mir 5 2 g__law_above_right
theorem o__law_above_right (v : Ev K mg base) : DefOk (MM K) P w K mg base 1 "_law_above_right" "_law_above_right" (top 30) [] (He.ga K "_law_above_right") ["_law_made", "_law_place"] m__law_above_right := by
  obtain ⟨fd, F⟩ := v.c.def_ 22 (d := d__law_above_right) rfl
  exact ⟨fd, F, funD_mir (M := MM K) F S__law_above_right (by decide) (fun cdv A outer s H E hr tk hp => b__law_above_right v cdv A outer s H E hr tk hp)⟩
theorem f__law_above_right (v : Ev K mg base) : TS.FnR P w K mg base (L2.CX P w) 1 (He.ga K "_law_above_right") (spD (MM K) m__law_above_right) := by
  obtain ⟨fd, F, O⟩ := o__law_above_right (P := P) (w := w) v
  exact fnR_raw (M := MM K) O (F.bindsN (ps := ["_law_made", "_law_place"]) fun _ _ _ _ _ _ us hl => match us, hl with | [_, _], _ => rfl)
def xi_InvalidAddress : Nat → Option Bool := fun n => match n with
  | 100 => some false
  | 101 => some false
  | 102 => some false
  | 103 => some false
  | 104 => some true
  | 105 => some false
  | 106 => some false
  | 107 => some false
  | 108 => some false
  | 109 => some false
  | 110 => some false
  | 111 => some false
  | 112 => some false
  | 113 => some false
  | 114 => some false
  | 115 => some false
  | 116 => some false
  | 117 => some false
  | _ => none
theorem xi_InvalidAddress_ok (v : Ev K mg base) : ∀ k b C, xi_InvalidAddress k = some b → (MM K).G k = some C → XqC K C ∧ PySem.W.kitOne K (.ref C) (.ref (He.ga K "InvalidAddress")) = some b := by
  intro k b C h hG
  unfold xi_InvalidAddress at h
  split at h
  · cases h
    cases hG
    exact ⟨(ex_InvalidInteger v).2.1, (kit_ok (v.c.fact 185 (f := .kit "InvalidInteger" "InvalidAddress" false)))⟩
  · cases h
    cases hG
    exact ⟨(ex_InvalidRatio v).2.1, (kit_ok (v.c.fact 186 (f := .kit "InvalidRatio" "InvalidAddress" false)))⟩
  · cases h
    cases hG
    exact ⟨(ex_InvalidTable v).2.1, (kit_ok (v.c.fact 187 (f := .kit "InvalidTable" "InvalidAddress" false)))⟩
  · cases h
    cases hG
    exact ⟨(ex_InvalidPair v).2.1, (kit_ok (v.c.fact 188 (f := .kit "InvalidPair" "InvalidAddress" false)))⟩
  · cases h
    cases hG
    exact ⟨(ex_InvalidAddress v).2.1, (kit_ok (v.c.fact 189 (f := .kit "InvalidAddress" "InvalidAddress" true)))⟩
  · cases h
    cases hG
    exact ⟨(ex_InvalidProfile v).2.1, (kit_ok (v.c.fact 190 (f := .kit "InvalidProfile" "InvalidAddress" false)))⟩
  · cases h
    cases hG
    exact ⟨(ex_InvalidValue v).2.1, (kit_ok (v.c.fact 191 (f := .kit "InvalidValue" "InvalidAddress" false)))⟩
  · cases h
    cases hG
    exact ⟨(ex_InvalidFormula v).2.1, (kit_ok (v.c.fact 192 (f := .kit "InvalidFormula" "InvalidAddress" false)))⟩
  · cases h
    cases hG
    exact ⟨(ex_InvalidName v).2.1, (kit_ok (v.c.fact 193 (f := .kit "InvalidName" "InvalidAddress" false)))⟩
  · cases h
    cases hG
    exact ⟨(ex_InvalidLine v).2.1, (kit_ok (v.c.fact 194 (f := .kit "InvalidLine" "InvalidAddress" false)))⟩
  · cases h
    cases hG
    exact ⟨(ex_NoTrack v).2.1, (kit_ok (v.c.fact 195 (f := .kit "NoTrack" "InvalidAddress" false)))⟩
  · cases h
    cases hG
    exact ⟨(ex_NoRoot v).2.1, (kit_ok (v.c.fact 196 (f := .kit "NoRoot" "InvalidAddress" false)))⟩
  · cases h
    cases hG
    exact ⟨(ex_NoRenaming v).2.1, (kit_ok (v.c.fact 197 (f := .kit "NoRenaming" "InvalidAddress" false)))⟩
  · cases h
    cases hG
    exact ⟨(ex_NoFactors v).2.1, (kit_ok (v.c.fact 198 (f := .kit "NoFactors" "InvalidAddress" false)))⟩
  · cases h
    cases hG
    exact ⟨(ex_UnknownName v).2.1, (kit_ok (v.c.fact 199 (f := .kit "UnknownName" "InvalidAddress" false)))⟩
  · cases h
    cases hG
    exact ⟨(ex_TooLong v).2.1, (kit_ok (v.c.fact 200 (f := .kit "TooLong" "InvalidAddress" false)))⟩
  · cases h
    cases hG
    exact ⟨(ex_TooMany v).2.1, (kit_ok (v.c.fact 201 (f := .kit "TooMany" "InvalidAddress" false)))⟩
  · cases h
    cases hG
    exact ⟨(ex_NothingToUndo v).2.1, (kit_ok (v.c.fact 202 (f := .kit "NothingToUndo" "InvalidAddress" false)))⟩
  · cases h
def xi_InvalidRatio : Nat → Option Bool := fun n => match n with
  | 100 => some false
  | 101 => some true
  | 102 => some false
  | 103 => some false
  | 104 => some false
  | 105 => some false
  | 106 => some false
  | 107 => some false
  | 108 => some false
  | 109 => some false
  | 110 => some false
  | 111 => some false
  | 112 => some false
  | 113 => some false
  | 114 => some false
  | 115 => some false
  | 116 => some false
  | 117 => some false
  | _ => none
theorem xi_InvalidRatio_ok (v : Ev K mg base) : ∀ k b C, xi_InvalidRatio k = some b → (MM K).G k = some C → XqC K C ∧ PySem.W.kitOne K (.ref C) (.ref (He.ga K "InvalidRatio")) = some b := by
  intro k b C h hG
  unfold xi_InvalidRatio at h
  split at h
  · cases h
    cases hG
    exact ⟨(ex_InvalidInteger v).2.1, (kit_ok (v.c.fact 203 (f := .kit "InvalidInteger" "InvalidRatio" false)))⟩
  · cases h
    cases hG
    exact ⟨(ex_InvalidRatio v).2.1, (kit_ok (v.c.fact 204 (f := .kit "InvalidRatio" "InvalidRatio" true)))⟩
  · cases h
    cases hG
    exact ⟨(ex_InvalidTable v).2.1, (kit_ok (v.c.fact 205 (f := .kit "InvalidTable" "InvalidRatio" false)))⟩
  · cases h
    cases hG
    exact ⟨(ex_InvalidPair v).2.1, (kit_ok (v.c.fact 206 (f := .kit "InvalidPair" "InvalidRatio" false)))⟩
  · cases h
    cases hG
    exact ⟨(ex_InvalidAddress v).2.1, (kit_ok (v.c.fact 207 (f := .kit "InvalidAddress" "InvalidRatio" false)))⟩
  · cases h
    cases hG
    exact ⟨(ex_InvalidProfile v).2.1, (kit_ok (v.c.fact 208 (f := .kit "InvalidProfile" "InvalidRatio" false)))⟩
  · cases h
    cases hG
    exact ⟨(ex_InvalidValue v).2.1, (kit_ok (v.c.fact 209 (f := .kit "InvalidValue" "InvalidRatio" false)))⟩
  · cases h
    cases hG
    exact ⟨(ex_InvalidFormula v).2.1, (kit_ok (v.c.fact 210 (f := .kit "InvalidFormula" "InvalidRatio" false)))⟩
  · cases h
    cases hG
    exact ⟨(ex_InvalidName v).2.1, (kit_ok (v.c.fact 211 (f := .kit "InvalidName" "InvalidRatio" false)))⟩
  · cases h
    cases hG
    exact ⟨(ex_InvalidLine v).2.1, (kit_ok (v.c.fact 212 (f := .kit "InvalidLine" "InvalidRatio" false)))⟩
  · cases h
    cases hG
    exact ⟨(ex_NoTrack v).2.1, (kit_ok (v.c.fact 213 (f := .kit "NoTrack" "InvalidRatio" false)))⟩
  · cases h
    cases hG
    exact ⟨(ex_NoRoot v).2.1, (kit_ok (v.c.fact 214 (f := .kit "NoRoot" "InvalidRatio" false)))⟩
  · cases h
    cases hG
    exact ⟨(ex_NoRenaming v).2.1, (kit_ok (v.c.fact 215 (f := .kit "NoRenaming" "InvalidRatio" false)))⟩
  · cases h
    cases hG
    exact ⟨(ex_NoFactors v).2.1, (kit_ok (v.c.fact 216 (f := .kit "NoFactors" "InvalidRatio" false)))⟩
  · cases h
    cases hG
    exact ⟨(ex_UnknownName v).2.1, (kit_ok (v.c.fact 217 (f := .kit "UnknownName" "InvalidRatio" false)))⟩
  · cases h
    cases hG
    exact ⟨(ex_TooLong v).2.1, (kit_ok (v.c.fact 218 (f := .kit "TooLong" "InvalidRatio" false)))⟩
  · cases h
    cases hG
    exact ⟨(ex_TooMany v).2.1, (kit_ok (v.c.fact 219 (f := .kit "TooMany" "InvalidRatio" false)))⟩
  · cases h
    cases hG
    exact ⟨(ex_NothingToUndo v).2.1, (kit_ok (v.c.fact 220 (f := .kit "NothingToUndo" "InvalidRatio" false)))⟩
  · cases h
def xi_InvalidInteger : Nat → Option Bool := fun n => match n with
  | 100 => some true
  | 101 => some false
  | 102 => some false
  | 103 => some false
  | 104 => some false
  | 105 => some false
  | 106 => some false
  | 107 => some false
  | 108 => some false
  | 109 => some false
  | 110 => some false
  | 111 => some false
  | 112 => some false
  | 113 => some false
  | 114 => some false
  | 115 => some false
  | 116 => some false
  | 117 => some false
  | _ => none
theorem xi_InvalidInteger_ok (v : Ev K mg base) : ∀ k b C, xi_InvalidInteger k = some b → (MM K).G k = some C → XqC K C ∧ PySem.W.kitOne K (.ref C) (.ref (He.ga K "InvalidInteger")) = some b := by
  intro k b C h hG
  unfold xi_InvalidInteger at h
  split at h
  · cases h
    cases hG
    exact ⟨(ex_InvalidInteger v).2.1, (kit_ok (v.c.fact 221 (f := .kit "InvalidInteger" "InvalidInteger" true)))⟩
  · cases h
    cases hG
    exact ⟨(ex_InvalidRatio v).2.1, (kit_ok (v.c.fact 222 (f := .kit "InvalidRatio" "InvalidInteger" false)))⟩
  · cases h
    cases hG
    exact ⟨(ex_InvalidTable v).2.1, (kit_ok (v.c.fact 223 (f := .kit "InvalidTable" "InvalidInteger" false)))⟩
  · cases h
    cases hG
    exact ⟨(ex_InvalidPair v).2.1, (kit_ok (v.c.fact 224 (f := .kit "InvalidPair" "InvalidInteger" false)))⟩
  · cases h
    cases hG
    exact ⟨(ex_InvalidAddress v).2.1, (kit_ok (v.c.fact 225 (f := .kit "InvalidAddress" "InvalidInteger" false)))⟩
  · cases h
    cases hG
    exact ⟨(ex_InvalidProfile v).2.1, (kit_ok (v.c.fact 226 (f := .kit "InvalidProfile" "InvalidInteger" false)))⟩
  · cases h
    cases hG
    exact ⟨(ex_InvalidValue v).2.1, (kit_ok (v.c.fact 227 (f := .kit "InvalidValue" "InvalidInteger" false)))⟩
  · cases h
    cases hG
    exact ⟨(ex_InvalidFormula v).2.1, (kit_ok (v.c.fact 228 (f := .kit "InvalidFormula" "InvalidInteger" false)))⟩
  · cases h
    cases hG
    exact ⟨(ex_InvalidName v).2.1, (kit_ok (v.c.fact 229 (f := .kit "InvalidName" "InvalidInteger" false)))⟩
  · cases h
    cases hG
    exact ⟨(ex_InvalidLine v).2.1, (kit_ok (v.c.fact 230 (f := .kit "InvalidLine" "InvalidInteger" false)))⟩
  · cases h
    cases hG
    exact ⟨(ex_NoTrack v).2.1, (kit_ok (v.c.fact 231 (f := .kit "NoTrack" "InvalidInteger" false)))⟩
  · cases h
    cases hG
    exact ⟨(ex_NoRoot v).2.1, (kit_ok (v.c.fact 232 (f := .kit "NoRoot" "InvalidInteger" false)))⟩
  · cases h
    cases hG
    exact ⟨(ex_NoRenaming v).2.1, (kit_ok (v.c.fact 233 (f := .kit "NoRenaming" "InvalidInteger" false)))⟩
  · cases h
    cases hG
    exact ⟨(ex_NoFactors v).2.1, (kit_ok (v.c.fact 234 (f := .kit "NoFactors" "InvalidInteger" false)))⟩
  · cases h
    cases hG
    exact ⟨(ex_UnknownName v).2.1, (kit_ok (v.c.fact 235 (f := .kit "UnknownName" "InvalidInteger" false)))⟩
  · cases h
    cases hG
    exact ⟨(ex_TooLong v).2.1, (kit_ok (v.c.fact 236 (f := .kit "TooLong" "InvalidInteger" false)))⟩
  · cases h
    cases hG
    exact ⟨(ex_TooMany v).2.1, (kit_ok (v.c.fact 237 (f := .kit "TooMany" "InvalidInteger" false)))⟩
  · cases h
    cases hG
    exact ⟨(ex_NothingToUndo v).2.1, (kit_ok (v.c.fact 238 (f := .kit "NothingToUndo" "InvalidInteger" false)))⟩
  · cases h
def xi_InvalidLine : Nat → Option Bool := fun n => match n with
  | 100 => some false
  | 101 => some false
  | 102 => some false
  | 103 => some false
  | 104 => some false
  | 105 => some false
  | 106 => some false
  | 107 => some false
  | 108 => some false
  | 109 => some true
  | 110 => some false
  | 111 => some false
  | 112 => some false
  | 113 => some false
  | 114 => some false
  | 115 => some false
  | 116 => some false
  | 117 => some false
  | _ => none
theorem xi_InvalidLine_ok (v : Ev K mg base) : ∀ k b C, xi_InvalidLine k = some b → (MM K).G k = some C → XqC K C ∧ PySem.W.kitOne K (.ref C) (.ref (He.ga K "InvalidLine")) = some b := by
  intro k b C h hG
  unfold xi_InvalidLine at h
  split at h
  · cases h
    cases hG
    exact ⟨(ex_InvalidInteger v).2.1, (kit_ok (v.c.fact 239 (f := .kit "InvalidInteger" "InvalidLine" false)))⟩
  · cases h
    cases hG
    exact ⟨(ex_InvalidRatio v).2.1, (kit_ok (v.c.fact 240 (f := .kit "InvalidRatio" "InvalidLine" false)))⟩
  · cases h
    cases hG
    exact ⟨(ex_InvalidTable v).2.1, (kit_ok (v.c.fact 241 (f := .kit "InvalidTable" "InvalidLine" false)))⟩
  · cases h
    cases hG
    exact ⟨(ex_InvalidPair v).2.1, (kit_ok (v.c.fact 242 (f := .kit "InvalidPair" "InvalidLine" false)))⟩
  · cases h
    cases hG
    exact ⟨(ex_InvalidAddress v).2.1, (kit_ok (v.c.fact 243 (f := .kit "InvalidAddress" "InvalidLine" false)))⟩
  · cases h
    cases hG
    exact ⟨(ex_InvalidProfile v).2.1, (kit_ok (v.c.fact 244 (f := .kit "InvalidProfile" "InvalidLine" false)))⟩
  · cases h
    cases hG
    exact ⟨(ex_InvalidValue v).2.1, (kit_ok (v.c.fact 245 (f := .kit "InvalidValue" "InvalidLine" false)))⟩
  · cases h
    cases hG
    exact ⟨(ex_InvalidFormula v).2.1, (kit_ok (v.c.fact 246 (f := .kit "InvalidFormula" "InvalidLine" false)))⟩
  · cases h
    cases hG
    exact ⟨(ex_InvalidName v).2.1, (kit_ok (v.c.fact 247 (f := .kit "InvalidName" "InvalidLine" false)))⟩
  · cases h
    cases hG
    exact ⟨(ex_InvalidLine v).2.1, (kit_ok (v.c.fact 248 (f := .kit "InvalidLine" "InvalidLine" true)))⟩
  · cases h
    cases hG
    exact ⟨(ex_NoTrack v).2.1, (kit_ok (v.c.fact 249 (f := .kit "NoTrack" "InvalidLine" false)))⟩
  · cases h
    cases hG
    exact ⟨(ex_NoRoot v).2.1, (kit_ok (v.c.fact 250 (f := .kit "NoRoot" "InvalidLine" false)))⟩
  · cases h
    cases hG
    exact ⟨(ex_NoRenaming v).2.1, (kit_ok (v.c.fact 251 (f := .kit "NoRenaming" "InvalidLine" false)))⟩
  · cases h
    cases hG
    exact ⟨(ex_NoFactors v).2.1, (kit_ok (v.c.fact 252 (f := .kit "NoFactors" "InvalidLine" false)))⟩
  · cases h
    cases hG
    exact ⟨(ex_UnknownName v).2.1, (kit_ok (v.c.fact 253 (f := .kit "UnknownName" "InvalidLine" false)))⟩
  · cases h
    cases hG
    exact ⟨(ex_TooLong v).2.1, (kit_ok (v.c.fact 254 (f := .kit "TooLong" "InvalidLine" false)))⟩
  · cases h
    cases hG
    exact ⟨(ex_TooMany v).2.1, (kit_ok (v.c.fact 255 (f := .kit "TooMany" "InvalidLine" false)))⟩
  · cases h
    cases hG
    exact ⟨(ex_NothingToUndo v).2.1, (kit_ok (v.c.fact 256 (f := .kit "NothingToUndo" "InvalidLine" false)))⟩
  · cases h
def xi_InvalidName : Nat → Option Bool := fun n => match n with
  | 100 => some false
  | 101 => some false
  | 102 => some false
  | 103 => some false
  | 104 => some false
  | 105 => some false
  | 106 => some false
  | 107 => some false
  | 108 => some true
  | 109 => some false
  | 110 => some false
  | 111 => some false
  | 112 => some false
  | 113 => some false
  | 114 => some false
  | 115 => some false
  | 116 => some false
  | 117 => some false
  | _ => none
theorem xi_InvalidName_ok (v : Ev K mg base) : ∀ k b C, xi_InvalidName k = some b → (MM K).G k = some C → XqC K C ∧ PySem.W.kitOne K (.ref C) (.ref (He.ga K "InvalidName")) = some b := by
  intro k b C h hG
  unfold xi_InvalidName at h
  split at h
  · cases h
    cases hG
    exact ⟨(ex_InvalidInteger v).2.1, (kit_ok (v.c.fact 257 (f := .kit "InvalidInteger" "InvalidName" false)))⟩
  · cases h
    cases hG
    exact ⟨(ex_InvalidRatio v).2.1, (kit_ok (v.c.fact 258 (f := .kit "InvalidRatio" "InvalidName" false)))⟩
  · cases h
    cases hG
    exact ⟨(ex_InvalidTable v).2.1, (kit_ok (v.c.fact 259 (f := .kit "InvalidTable" "InvalidName" false)))⟩
  · cases h
    cases hG
    exact ⟨(ex_InvalidPair v).2.1, (kit_ok (v.c.fact 260 (f := .kit "InvalidPair" "InvalidName" false)))⟩
  · cases h
    cases hG
    exact ⟨(ex_InvalidAddress v).2.1, (kit_ok (v.c.fact 261 (f := .kit "InvalidAddress" "InvalidName" false)))⟩
  · cases h
    cases hG
    exact ⟨(ex_InvalidProfile v).2.1, (kit_ok (v.c.fact 262 (f := .kit "InvalidProfile" "InvalidName" false)))⟩
  · cases h
    cases hG
    exact ⟨(ex_InvalidValue v).2.1, (kit_ok (v.c.fact 263 (f := .kit "InvalidValue" "InvalidName" false)))⟩
  · cases h
    cases hG
    exact ⟨(ex_InvalidFormula v).2.1, (kit_ok (v.c.fact 264 (f := .kit "InvalidFormula" "InvalidName" false)))⟩
  · cases h
    cases hG
    exact ⟨(ex_InvalidName v).2.1, (kit_ok (v.c.fact 265 (f := .kit "InvalidName" "InvalidName" true)))⟩
  · cases h
    cases hG
    exact ⟨(ex_InvalidLine v).2.1, (kit_ok (v.c.fact 266 (f := .kit "InvalidLine" "InvalidName" false)))⟩
  · cases h
    cases hG
    exact ⟨(ex_NoTrack v).2.1, (kit_ok (v.c.fact 267 (f := .kit "NoTrack" "InvalidName" false)))⟩
  · cases h
    cases hG
    exact ⟨(ex_NoRoot v).2.1, (kit_ok (v.c.fact 268 (f := .kit "NoRoot" "InvalidName" false)))⟩
  · cases h
    cases hG
    exact ⟨(ex_NoRenaming v).2.1, (kit_ok (v.c.fact 269 (f := .kit "NoRenaming" "InvalidName" false)))⟩
  · cases h
    cases hG
    exact ⟨(ex_NoFactors v).2.1, (kit_ok (v.c.fact 270 (f := .kit "NoFactors" "InvalidName" false)))⟩
  · cases h
    cases hG
    exact ⟨(ex_UnknownName v).2.1, (kit_ok (v.c.fact 271 (f := .kit "UnknownName" "InvalidName" false)))⟩
  · cases h
    cases hG
    exact ⟨(ex_TooLong v).2.1, (kit_ok (v.c.fact 272 (f := .kit "TooLong" "InvalidName" false)))⟩
  · cases h
    cases hG
    exact ⟨(ex_TooMany v).2.1, (kit_ok (v.c.fact 273 (f := .kit "TooMany" "InvalidName" false)))⟩
  · cases h
    cases hG
    exact ⟨(ex_NothingToUndo v).2.1, (kit_ok (v.c.fact 274 (f := .kit "NothingToUndo" "InvalidName" false)))⟩
  · cases h
def xi_InvalidValue : Nat → Option Bool := fun n => match n with
  | 100 => some false
  | 101 => some false
  | 102 => some false
  | 103 => some false
  | 104 => some false
  | 105 => some false
  | 106 => some true
  | 107 => some false
  | 108 => some false
  | 109 => some false
  | 110 => some false
  | 111 => some false
  | 112 => some false
  | 113 => some false
  | 114 => some false
  | 115 => some false
  | 116 => some false
  | 117 => some false
  | _ => none
theorem xi_InvalidValue_ok (v : Ev K mg base) : ∀ k b C, xi_InvalidValue k = some b → (MM K).G k = some C → XqC K C ∧ PySem.W.kitOne K (.ref C) (.ref (He.ga K "InvalidValue")) = some b := by
  intro k b C h hG
  unfold xi_InvalidValue at h
  split at h
  · cases h
    cases hG
    exact ⟨(ex_InvalidInteger v).2.1, (kit_ok (v.c.fact 275 (f := .kit "InvalidInteger" "InvalidValue" false)))⟩
  · cases h
    cases hG
    exact ⟨(ex_InvalidRatio v).2.1, (kit_ok (v.c.fact 276 (f := .kit "InvalidRatio" "InvalidValue" false)))⟩
  · cases h
    cases hG
    exact ⟨(ex_InvalidTable v).2.1, (kit_ok (v.c.fact 277 (f := .kit "InvalidTable" "InvalidValue" false)))⟩
  · cases h
    cases hG
    exact ⟨(ex_InvalidPair v).2.1, (kit_ok (v.c.fact 278 (f := .kit "InvalidPair" "InvalidValue" false)))⟩
  · cases h
    cases hG
    exact ⟨(ex_InvalidAddress v).2.1, (kit_ok (v.c.fact 279 (f := .kit "InvalidAddress" "InvalidValue" false)))⟩
  · cases h
    cases hG
    exact ⟨(ex_InvalidProfile v).2.1, (kit_ok (v.c.fact 280 (f := .kit "InvalidProfile" "InvalidValue" false)))⟩
  · cases h
    cases hG
    exact ⟨(ex_InvalidValue v).2.1, (kit_ok (v.c.fact 281 (f := .kit "InvalidValue" "InvalidValue" true)))⟩
  · cases h
    cases hG
    exact ⟨(ex_InvalidFormula v).2.1, (kit_ok (v.c.fact 282 (f := .kit "InvalidFormula" "InvalidValue" false)))⟩
  · cases h
    cases hG
    exact ⟨(ex_InvalidName v).2.1, (kit_ok (v.c.fact 283 (f := .kit "InvalidName" "InvalidValue" false)))⟩
  · cases h
    cases hG
    exact ⟨(ex_InvalidLine v).2.1, (kit_ok (v.c.fact 284 (f := .kit "InvalidLine" "InvalidValue" false)))⟩
  · cases h
    cases hG
    exact ⟨(ex_NoTrack v).2.1, (kit_ok (v.c.fact 285 (f := .kit "NoTrack" "InvalidValue" false)))⟩
  · cases h
    cases hG
    exact ⟨(ex_NoRoot v).2.1, (kit_ok (v.c.fact 286 (f := .kit "NoRoot" "InvalidValue" false)))⟩
  · cases h
    cases hG
    exact ⟨(ex_NoRenaming v).2.1, (kit_ok (v.c.fact 287 (f := .kit "NoRenaming" "InvalidValue" false)))⟩
  · cases h
    cases hG
    exact ⟨(ex_NoFactors v).2.1, (kit_ok (v.c.fact 288 (f := .kit "NoFactors" "InvalidValue" false)))⟩
  · cases h
    cases hG
    exact ⟨(ex_UnknownName v).2.1, (kit_ok (v.c.fact 289 (f := .kit "UnknownName" "InvalidValue" false)))⟩
  · cases h
    cases hG
    exact ⟨(ex_TooLong v).2.1, (kit_ok (v.c.fact 290 (f := .kit "TooLong" "InvalidValue" false)))⟩
  · cases h
    cases hG
    exact ⟨(ex_TooMany v).2.1, (kit_ok (v.c.fact 291 (f := .kit "TooMany" "InvalidValue" false)))⟩
  · cases h
    cases hG
    exact ⟨(ex_NothingToUndo v).2.1, (kit_ok (v.c.fact 292 (f := .kit "NothingToUndo" "InvalidValue" false)))⟩
  · cases h
def xi_InvalidFormula : Nat → Option Bool := fun n => match n with
  | 100 => some false
  | 101 => some false
  | 102 => some false
  | 103 => some false
  | 104 => some false
  | 105 => some false
  | 106 => some false
  | 107 => some true
  | 108 => some false
  | 109 => some false
  | 110 => some false
  | 111 => some false
  | 112 => some false
  | 113 => some false
  | 114 => some false
  | 115 => some false
  | 116 => some false
  | 117 => some false
  | _ => none
theorem xi_InvalidFormula_ok (v : Ev K mg base) : ∀ k b C, xi_InvalidFormula k = some b → (MM K).G k = some C → XqC K C ∧ PySem.W.kitOne K (.ref C) (.ref (He.ga K "InvalidFormula")) = some b := by
  intro k b C h hG
  unfold xi_InvalidFormula at h
  split at h
  · cases h
    cases hG
    exact ⟨(ex_InvalidInteger v).2.1, (kit_ok (v.c.fact 293 (f := .kit "InvalidInteger" "InvalidFormula" false)))⟩
  · cases h
    cases hG
    exact ⟨(ex_InvalidRatio v).2.1, (kit_ok (v.c.fact 294 (f := .kit "InvalidRatio" "InvalidFormula" false)))⟩
  · cases h
    cases hG
    exact ⟨(ex_InvalidTable v).2.1, (kit_ok (v.c.fact 295 (f := .kit "InvalidTable" "InvalidFormula" false)))⟩
  · cases h
    cases hG
    exact ⟨(ex_InvalidPair v).2.1, (kit_ok (v.c.fact 296 (f := .kit "InvalidPair" "InvalidFormula" false)))⟩
  · cases h
    cases hG
    exact ⟨(ex_InvalidAddress v).2.1, (kit_ok (v.c.fact 297 (f := .kit "InvalidAddress" "InvalidFormula" false)))⟩
  · cases h
    cases hG
    exact ⟨(ex_InvalidProfile v).2.1, (kit_ok (v.c.fact 298 (f := .kit "InvalidProfile" "InvalidFormula" false)))⟩
  · cases h
    cases hG
    exact ⟨(ex_InvalidValue v).2.1, (kit_ok (v.c.fact 299 (f := .kit "InvalidValue" "InvalidFormula" false)))⟩
  · cases h
    cases hG
    exact ⟨(ex_InvalidFormula v).2.1, (kit_ok (v.c.fact 300 (f := .kit "InvalidFormula" "InvalidFormula" true)))⟩
  · cases h
    cases hG
    exact ⟨(ex_InvalidName v).2.1, (kit_ok (v.c.fact 301 (f := .kit "InvalidName" "InvalidFormula" false)))⟩
  · cases h
    cases hG
    exact ⟨(ex_InvalidLine v).2.1, (kit_ok (v.c.fact 302 (f := .kit "InvalidLine" "InvalidFormula" false)))⟩
  · cases h
    cases hG
    exact ⟨(ex_NoTrack v).2.1, (kit_ok (v.c.fact 303 (f := .kit "NoTrack" "InvalidFormula" false)))⟩
  · cases h
    cases hG
    exact ⟨(ex_NoRoot v).2.1, (kit_ok (v.c.fact 304 (f := .kit "NoRoot" "InvalidFormula" false)))⟩
  · cases h
    cases hG
    exact ⟨(ex_NoRenaming v).2.1, (kit_ok (v.c.fact 305 (f := .kit "NoRenaming" "InvalidFormula" false)))⟩
  · cases h
    cases hG
    exact ⟨(ex_NoFactors v).2.1, (kit_ok (v.c.fact 306 (f := .kit "NoFactors" "InvalidFormula" false)))⟩
  · cases h
    cases hG
    exact ⟨(ex_UnknownName v).2.1, (kit_ok (v.c.fact 307 (f := .kit "UnknownName" "InvalidFormula" false)))⟩
  · cases h
    cases hG
    exact ⟨(ex_TooLong v).2.1, (kit_ok (v.c.fact 308 (f := .kit "TooLong" "InvalidFormula" false)))⟩
  · cases h
    cases hG
    exact ⟨(ex_TooMany v).2.1, (kit_ok (v.c.fact 309 (f := .kit "TooMany" "InvalidFormula" false)))⟩
  · cases h
    cases hG
    exact ⟨(ex_NothingToUndo v).2.1, (kit_ok (v.c.fact 310 (f := .kit "NothingToUndo" "InvalidFormula" false)))⟩
  · cases h
def xi_InvalidPair : Nat → Option Bool := fun n => match n with
  | 100 => some false
  | 101 => some false
  | 102 => some false
  | 103 => some true
  | 104 => some false
  | 105 => some false
  | 106 => some false
  | 107 => some false
  | 108 => some false
  | 109 => some false
  | 110 => some false
  | 111 => some false
  | 112 => some false
  | 113 => some false
  | 114 => some false
  | 115 => some false
  | 116 => some false
  | 117 => some false
  | _ => none
theorem xi_InvalidPair_ok (v : Ev K mg base) : ∀ k b C, xi_InvalidPair k = some b → (MM K).G k = some C → XqC K C ∧ PySem.W.kitOne K (.ref C) (.ref (He.ga K "InvalidPair")) = some b := by
  intro k b C h hG
  unfold xi_InvalidPair at h
  split at h
  · cases h
    cases hG
    exact ⟨(ex_InvalidInteger v).2.1, (kit_ok (v.c.fact 311 (f := .kit "InvalidInteger" "InvalidPair" false)))⟩
  · cases h
    cases hG
    exact ⟨(ex_InvalidRatio v).2.1, (kit_ok (v.c.fact 312 (f := .kit "InvalidRatio" "InvalidPair" false)))⟩
  · cases h
    cases hG
    exact ⟨(ex_InvalidTable v).2.1, (kit_ok (v.c.fact 313 (f := .kit "InvalidTable" "InvalidPair" false)))⟩
  · cases h
    cases hG
    exact ⟨(ex_InvalidPair v).2.1, (kit_ok (v.c.fact 314 (f := .kit "InvalidPair" "InvalidPair" true)))⟩
  · cases h
    cases hG
    exact ⟨(ex_InvalidAddress v).2.1, (kit_ok (v.c.fact 315 (f := .kit "InvalidAddress" "InvalidPair" false)))⟩
  · cases h
    cases hG
    exact ⟨(ex_InvalidProfile v).2.1, (kit_ok (v.c.fact 316 (f := .kit "InvalidProfile" "InvalidPair" false)))⟩
  · cases h
    cases hG
    exact ⟨(ex_InvalidValue v).2.1, (kit_ok (v.c.fact 317 (f := .kit "InvalidValue" "InvalidPair" false)))⟩
  · cases h
    cases hG
    exact ⟨(ex_InvalidFormula v).2.1, (kit_ok (v.c.fact 318 (f := .kit "InvalidFormula" "InvalidPair" false)))⟩
  · cases h
    cases hG
    exact ⟨(ex_InvalidName v).2.1, (kit_ok (v.c.fact 319 (f := .kit "InvalidName" "InvalidPair" false)))⟩
  · cases h
    cases hG
    exact ⟨(ex_InvalidLine v).2.1, (kit_ok (v.c.fact 320 (f := .kit "InvalidLine" "InvalidPair" false)))⟩
  · cases h
    cases hG
    exact ⟨(ex_NoTrack v).2.1, (kit_ok (v.c.fact 321 (f := .kit "NoTrack" "InvalidPair" false)))⟩
  · cases h
    cases hG
    exact ⟨(ex_NoRoot v).2.1, (kit_ok (v.c.fact 322 (f := .kit "NoRoot" "InvalidPair" false)))⟩
  · cases h
    cases hG
    exact ⟨(ex_NoRenaming v).2.1, (kit_ok (v.c.fact 323 (f := .kit "NoRenaming" "InvalidPair" false)))⟩
  · cases h
    cases hG
    exact ⟨(ex_NoFactors v).2.1, (kit_ok (v.c.fact 324 (f := .kit "NoFactors" "InvalidPair" false)))⟩
  · cases h
    cases hG
    exact ⟨(ex_UnknownName v).2.1, (kit_ok (v.c.fact 325 (f := .kit "UnknownName" "InvalidPair" false)))⟩
  · cases h
    cases hG
    exact ⟨(ex_TooLong v).2.1, (kit_ok (v.c.fact 326 (f := .kit "TooLong" "InvalidPair" false)))⟩
  · cases h
    cases hG
    exact ⟨(ex_TooMany v).2.1, (kit_ok (v.c.fact 327 (f := .kit "TooMany" "InvalidPair" false)))⟩
  · cases h
    cases hG
    exact ⟨(ex_NothingToUndo v).2.1, (kit_ok (v.c.fact 328 (f := .kit "NothingToUndo" "InvalidPair" false)))⟩
  · cases h
def xi_InvalidTable : Nat → Option Bool := fun n => match n with
  | 100 => some false
  | 101 => some false
  | 102 => some true
  | 103 => some false
  | 104 => some false
  | 105 => some false
  | 106 => some false
  | 107 => some false
  | 108 => some false
  | 109 => some false
  | 110 => some false
  | 111 => some false
  | 112 => some false
  | 113 => some false
  | 114 => some false
  | 115 => some false
  | 116 => some false
  | 117 => some false
  | _ => none
theorem xi_InvalidTable_ok (v : Ev K mg base) : ∀ k b C, xi_InvalidTable k = some b → (MM K).G k = some C → XqC K C ∧ PySem.W.kitOne K (.ref C) (.ref (He.ga K "InvalidTable")) = some b := by
  intro k b C h hG
  unfold xi_InvalidTable at h
  split at h
  · cases h
    cases hG
    exact ⟨(ex_InvalidInteger v).2.1, (kit_ok (v.c.fact 329 (f := .kit "InvalidInteger" "InvalidTable" false)))⟩
  · cases h
    cases hG
    exact ⟨(ex_InvalidRatio v).2.1, (kit_ok (v.c.fact 330 (f := .kit "InvalidRatio" "InvalidTable" false)))⟩
  · cases h
    cases hG
    exact ⟨(ex_InvalidTable v).2.1, (kit_ok (v.c.fact 331 (f := .kit "InvalidTable" "InvalidTable" true)))⟩
  · cases h
    cases hG
    exact ⟨(ex_InvalidPair v).2.1, (kit_ok (v.c.fact 332 (f := .kit "InvalidPair" "InvalidTable" false)))⟩
  · cases h
    cases hG
    exact ⟨(ex_InvalidAddress v).2.1, (kit_ok (v.c.fact 333 (f := .kit "InvalidAddress" "InvalidTable" false)))⟩
  · cases h
    cases hG
    exact ⟨(ex_InvalidProfile v).2.1, (kit_ok (v.c.fact 334 (f := .kit "InvalidProfile" "InvalidTable" false)))⟩
  · cases h
    cases hG
    exact ⟨(ex_InvalidValue v).2.1, (kit_ok (v.c.fact 335 (f := .kit "InvalidValue" "InvalidTable" false)))⟩
  · cases h
    cases hG
    exact ⟨(ex_InvalidFormula v).2.1, (kit_ok (v.c.fact 336 (f := .kit "InvalidFormula" "InvalidTable" false)))⟩
  · cases h
    cases hG
    exact ⟨(ex_InvalidName v).2.1, (kit_ok (v.c.fact 337 (f := .kit "InvalidName" "InvalidTable" false)))⟩
  · cases h
    cases hG
    exact ⟨(ex_InvalidLine v).2.1, (kit_ok (v.c.fact 338 (f := .kit "InvalidLine" "InvalidTable" false)))⟩
  · cases h
    cases hG
    exact ⟨(ex_NoTrack v).2.1, (kit_ok (v.c.fact 339 (f := .kit "NoTrack" "InvalidTable" false)))⟩
  · cases h
    cases hG
    exact ⟨(ex_NoRoot v).2.1, (kit_ok (v.c.fact 340 (f := .kit "NoRoot" "InvalidTable" false)))⟩
  · cases h
    cases hG
    exact ⟨(ex_NoRenaming v).2.1, (kit_ok (v.c.fact 341 (f := .kit "NoRenaming" "InvalidTable" false)))⟩
  · cases h
    cases hG
    exact ⟨(ex_NoFactors v).2.1, (kit_ok (v.c.fact 342 (f := .kit "NoFactors" "InvalidTable" false)))⟩
  · cases h
    cases hG
    exact ⟨(ex_UnknownName v).2.1, (kit_ok (v.c.fact 343 (f := .kit "UnknownName" "InvalidTable" false)))⟩
  · cases h
    cases hG
    exact ⟨(ex_TooLong v).2.1, (kit_ok (v.c.fact 344 (f := .kit "TooLong" "InvalidTable" false)))⟩
  · cases h
    cases hG
    exact ⟨(ex_TooMany v).2.1, (kit_ok (v.c.fact 345 (f := .kit "TooMany" "InvalidTable" false)))⟩
  · cases h
    cases hG
    exact ⟨(ex_NothingToUndo v).2.1, (kit_ok (v.c.fact 346 (f := .kit "NothingToUndo" "InvalidTable" false)))⟩
  · cases h
def xi_NoRoot : Nat → Option Bool := fun n => match n with
  | 100 => some false
  | 101 => some false
  | 102 => some false
  | 103 => some false
  | 104 => some false
  | 105 => some false
  | 106 => some false
  | 107 => some false
  | 108 => some false
  | 109 => some false
  | 110 => some false
  | 111 => some true
  | 112 => some false
  | 113 => some false
  | 114 => some false
  | 115 => some false
  | 116 => some false
  | 117 => some false
  | _ => none
theorem xi_NoRoot_ok (v : Ev K mg base) : ∀ k b C, xi_NoRoot k = some b → (MM K).G k = some C → XqC K C ∧ PySem.W.kitOne K (.ref C) (.ref (He.ga K "NoRoot")) = some b := by
  intro k b C h hG
  unfold xi_NoRoot at h
  split at h
  · cases h
    cases hG
    exact ⟨(ex_InvalidInteger v).2.1, (kit_ok (v.c.fact 347 (f := .kit "InvalidInteger" "NoRoot" false)))⟩
  · cases h
    cases hG
    exact ⟨(ex_InvalidRatio v).2.1, (kit_ok (v.c.fact 348 (f := .kit "InvalidRatio" "NoRoot" false)))⟩
  · cases h
    cases hG
    exact ⟨(ex_InvalidTable v).2.1, (kit_ok (v.c.fact 349 (f := .kit "InvalidTable" "NoRoot" false)))⟩
  · cases h
    cases hG
    exact ⟨(ex_InvalidPair v).2.1, (kit_ok (v.c.fact 350 (f := .kit "InvalidPair" "NoRoot" false)))⟩
  · cases h
    cases hG
    exact ⟨(ex_InvalidAddress v).2.1, (kit_ok (v.c.fact 351 (f := .kit "InvalidAddress" "NoRoot" false)))⟩
  · cases h
    cases hG
    exact ⟨(ex_InvalidProfile v).2.1, (kit_ok (v.c.fact 352 (f := .kit "InvalidProfile" "NoRoot" false)))⟩
  · cases h
    cases hG
    exact ⟨(ex_InvalidValue v).2.1, (kit_ok (v.c.fact 353 (f := .kit "InvalidValue" "NoRoot" false)))⟩
  · cases h
    cases hG
    exact ⟨(ex_InvalidFormula v).2.1, (kit_ok (v.c.fact 354 (f := .kit "InvalidFormula" "NoRoot" false)))⟩
  · cases h
    cases hG
    exact ⟨(ex_InvalidName v).2.1, (kit_ok (v.c.fact 355 (f := .kit "InvalidName" "NoRoot" false)))⟩
  · cases h
    cases hG
    exact ⟨(ex_InvalidLine v).2.1, (kit_ok (v.c.fact 356 (f := .kit "InvalidLine" "NoRoot" false)))⟩
  · cases h
    cases hG
    exact ⟨(ex_NoTrack v).2.1, (kit_ok (v.c.fact 357 (f := .kit "NoTrack" "NoRoot" false)))⟩
  · cases h
    cases hG
    exact ⟨(ex_NoRoot v).2.1, (kit_ok (v.c.fact 358 (f := .kit "NoRoot" "NoRoot" true)))⟩
  · cases h
    cases hG
    exact ⟨(ex_NoRenaming v).2.1, (kit_ok (v.c.fact 359 (f := .kit "NoRenaming" "NoRoot" false)))⟩
  · cases h
    cases hG
    exact ⟨(ex_NoFactors v).2.1, (kit_ok (v.c.fact 360 (f := .kit "NoFactors" "NoRoot" false)))⟩
  · cases h
    cases hG
    exact ⟨(ex_UnknownName v).2.1, (kit_ok (v.c.fact 361 (f := .kit "UnknownName" "NoRoot" false)))⟩
  · cases h
    cases hG
    exact ⟨(ex_TooLong v).2.1, (kit_ok (v.c.fact 362 (f := .kit "TooLong" "NoRoot" false)))⟩
  · cases h
    cases hG
    exact ⟨(ex_TooMany v).2.1, (kit_ok (v.c.fact 363 (f := .kit "TooMany" "NoRoot" false)))⟩
  · cases h
    cases hG
    exact ⟨(ex_NothingToUndo v).2.1, (kit_ok (v.c.fact 364 (f := .kit "NothingToUndo" "NoRoot" false)))⟩
  · cases h
def xi_NoTrack : Nat → Option Bool := fun n => match n with
  | 100 => some false
  | 101 => some false
  | 102 => some false
  | 103 => some false
  | 104 => some false
  | 105 => some false
  | 106 => some false
  | 107 => some false
  | 108 => some false
  | 109 => some false
  | 110 => some true
  | 111 => some false
  | 112 => some false
  | 113 => some false
  | 114 => some false
  | 115 => some false
  | 116 => some false
  | 117 => some false
  | _ => none
theorem xi_NoTrack_ok (v : Ev K mg base) : ∀ k b C, xi_NoTrack k = some b → (MM K).G k = some C → XqC K C ∧ PySem.W.kitOne K (.ref C) (.ref (He.ga K "NoTrack")) = some b := by
  intro k b C h hG
  unfold xi_NoTrack at h
  split at h
  · cases h
    cases hG
    exact ⟨(ex_InvalidInteger v).2.1, (kit_ok (v.c.fact 365 (f := .kit "InvalidInteger" "NoTrack" false)))⟩
  · cases h
    cases hG
    exact ⟨(ex_InvalidRatio v).2.1, (kit_ok (v.c.fact 366 (f := .kit "InvalidRatio" "NoTrack" false)))⟩
  · cases h
    cases hG
    exact ⟨(ex_InvalidTable v).2.1, (kit_ok (v.c.fact 367 (f := .kit "InvalidTable" "NoTrack" false)))⟩
  · cases h
    cases hG
    exact ⟨(ex_InvalidPair v).2.1, (kit_ok (v.c.fact 368 (f := .kit "InvalidPair" "NoTrack" false)))⟩
  · cases h
    cases hG
    exact ⟨(ex_InvalidAddress v).2.1, (kit_ok (v.c.fact 369 (f := .kit "InvalidAddress" "NoTrack" false)))⟩
  · cases h
    cases hG
    exact ⟨(ex_InvalidProfile v).2.1, (kit_ok (v.c.fact 370 (f := .kit "InvalidProfile" "NoTrack" false)))⟩
  · cases h
    cases hG
    exact ⟨(ex_InvalidValue v).2.1, (kit_ok (v.c.fact 371 (f := .kit "InvalidValue" "NoTrack" false)))⟩
  · cases h
    cases hG
    exact ⟨(ex_InvalidFormula v).2.1, (kit_ok (v.c.fact 372 (f := .kit "InvalidFormula" "NoTrack" false)))⟩
  · cases h
    cases hG
    exact ⟨(ex_InvalidName v).2.1, (kit_ok (v.c.fact 373 (f := .kit "InvalidName" "NoTrack" false)))⟩
  · cases h
    cases hG
    exact ⟨(ex_InvalidLine v).2.1, (kit_ok (v.c.fact 374 (f := .kit "InvalidLine" "NoTrack" false)))⟩
  · cases h
    cases hG
    exact ⟨(ex_NoTrack v).2.1, (kit_ok (v.c.fact 375 (f := .kit "NoTrack" "NoTrack" true)))⟩
  · cases h
    cases hG
    exact ⟨(ex_NoRoot v).2.1, (kit_ok (v.c.fact 376 (f := .kit "NoRoot" "NoTrack" false)))⟩
  · cases h
    cases hG
    exact ⟨(ex_NoRenaming v).2.1, (kit_ok (v.c.fact 377 (f := .kit "NoRenaming" "NoTrack" false)))⟩
  · cases h
    cases hG
    exact ⟨(ex_NoFactors v).2.1, (kit_ok (v.c.fact 378 (f := .kit "NoFactors" "NoTrack" false)))⟩
  · cases h
    cases hG
    exact ⟨(ex_UnknownName v).2.1, (kit_ok (v.c.fact 379 (f := .kit "UnknownName" "NoTrack" false)))⟩
  · cases h
    cases hG
    exact ⟨(ex_TooLong v).2.1, (kit_ok (v.c.fact 380 (f := .kit "TooLong" "NoTrack" false)))⟩
  · cases h
    cases hG
    exact ⟨(ex_TooMany v).2.1, (kit_ok (v.c.fact 381 (f := .kit "TooMany" "NoTrack" false)))⟩
  · cases h
    cases hG
    exact ⟨(ex_NothingToUndo v).2.1, (kit_ok (v.c.fact 382 (f := .kit "NothingToUndo" "NoTrack" false)))⟩
  · cases h
def xi_InvalidProfile : Nat → Option Bool := fun n => match n with
  | 100 => some false
  | 101 => some false
  | 102 => some false
  | 103 => some false
  | 104 => some false
  | 105 => some true
  | 106 => some false
  | 107 => some false
  | 108 => some false
  | 109 => some false
  | 110 => some false
  | 111 => some false
  | 112 => some false
  | 113 => some false
  | 114 => some false
  | 115 => some false
  | 116 => some false
  | 117 => some false
  | _ => none
theorem xi_InvalidProfile_ok (v : Ev K mg base) : ∀ k b C, xi_InvalidProfile k = some b → (MM K).G k = some C → XqC K C ∧ PySem.W.kitOne K (.ref C) (.ref (He.ga K "InvalidProfile")) = some b := by
  intro k b C h hG
  unfold xi_InvalidProfile at h
  split at h
  · cases h
    cases hG
    exact ⟨(ex_InvalidInteger v).2.1, (kit_ok (v.c.fact 383 (f := .kit "InvalidInteger" "InvalidProfile" false)))⟩
  · cases h
    cases hG
    exact ⟨(ex_InvalidRatio v).2.1, (kit_ok (v.c.fact 384 (f := .kit "InvalidRatio" "InvalidProfile" false)))⟩
  · cases h
    cases hG
    exact ⟨(ex_InvalidTable v).2.1, (kit_ok (v.c.fact 385 (f := .kit "InvalidTable" "InvalidProfile" false)))⟩
  · cases h
    cases hG
    exact ⟨(ex_InvalidPair v).2.1, (kit_ok (v.c.fact 386 (f := .kit "InvalidPair" "InvalidProfile" false)))⟩
  · cases h
    cases hG
    exact ⟨(ex_InvalidAddress v).2.1, (kit_ok (v.c.fact 387 (f := .kit "InvalidAddress" "InvalidProfile" false)))⟩
  · cases h
    cases hG
    exact ⟨(ex_InvalidProfile v).2.1, (kit_ok (v.c.fact 388 (f := .kit "InvalidProfile" "InvalidProfile" true)))⟩
  · cases h
    cases hG
    exact ⟨(ex_InvalidValue v).2.1, (kit_ok (v.c.fact 389 (f := .kit "InvalidValue" "InvalidProfile" false)))⟩
  · cases h
    cases hG
    exact ⟨(ex_InvalidFormula v).2.1, (kit_ok (v.c.fact 390 (f := .kit "InvalidFormula" "InvalidProfile" false)))⟩
  · cases h
    cases hG
    exact ⟨(ex_InvalidName v).2.1, (kit_ok (v.c.fact 391 (f := .kit "InvalidName" "InvalidProfile" false)))⟩
  · cases h
    cases hG
    exact ⟨(ex_InvalidLine v).2.1, (kit_ok (v.c.fact 392 (f := .kit "InvalidLine" "InvalidProfile" false)))⟩
  · cases h
    cases hG
    exact ⟨(ex_NoTrack v).2.1, (kit_ok (v.c.fact 393 (f := .kit "NoTrack" "InvalidProfile" false)))⟩
  · cases h
    cases hG
    exact ⟨(ex_NoRoot v).2.1, (kit_ok (v.c.fact 394 (f := .kit "NoRoot" "InvalidProfile" false)))⟩
  · cases h
    cases hG
    exact ⟨(ex_NoRenaming v).2.1, (kit_ok (v.c.fact 395 (f := .kit "NoRenaming" "InvalidProfile" false)))⟩
  · cases h
    cases hG
    exact ⟨(ex_NoFactors v).2.1, (kit_ok (v.c.fact 396 (f := .kit "NoFactors" "InvalidProfile" false)))⟩
  · cases h
    cases hG
    exact ⟨(ex_UnknownName v).2.1, (kit_ok (v.c.fact 397 (f := .kit "UnknownName" "InvalidProfile" false)))⟩
  · cases h
    cases hG
    exact ⟨(ex_TooLong v).2.1, (kit_ok (v.c.fact 398 (f := .kit "TooLong" "InvalidProfile" false)))⟩
  · cases h
    cases hG
    exact ⟨(ex_TooMany v).2.1, (kit_ok (v.c.fact 399 (f := .kit "TooMany" "InvalidProfile" false)))⟩
  · cases h
    cases hG
    exact ⟨(ex_NothingToUndo v).2.1, (kit_ok (v.c.fact 400 (f := .kit "NothingToUndo" "InvalidProfile" false)))⟩
  · cases h
def xi_UnknownName : Nat → Option Bool := fun n => match n with
  | 100 => some false
  | 101 => some false
  | 102 => some false
  | 103 => some false
  | 104 => some false
  | 105 => some false
  | 106 => some false
  | 107 => some false
  | 108 => some false
  | 109 => some false
  | 110 => some false
  | 111 => some false
  | 112 => some false
  | 113 => some false
  | 114 => some true
  | 115 => some false
  | 116 => some false
  | 117 => some false
  | _ => none
theorem xi_UnknownName_ok (v : Ev K mg base) : ∀ k b C, xi_UnknownName k = some b → (MM K).G k = some C → XqC K C ∧ PySem.W.kitOne K (.ref C) (.ref (He.ga K "UnknownName")) = some b := by
  intro k b C h hG
  unfold xi_UnknownName at h
  split at h
  · cases h
    cases hG
    exact ⟨(ex_InvalidInteger v).2.1, (kit_ok (v.c.fact 401 (f := .kit "InvalidInteger" "UnknownName" false)))⟩
  · cases h
    cases hG
    exact ⟨(ex_InvalidRatio v).2.1, (kit_ok (v.c.fact 402 (f := .kit "InvalidRatio" "UnknownName" false)))⟩
  · cases h
    cases hG
    exact ⟨(ex_InvalidTable v).2.1, (kit_ok (v.c.fact 403 (f := .kit "InvalidTable" "UnknownName" false)))⟩
  · cases h
    cases hG
    exact ⟨(ex_InvalidPair v).2.1, (kit_ok (v.c.fact 404 (f := .kit "InvalidPair" "UnknownName" false)))⟩
  · cases h
    cases hG
    exact ⟨(ex_InvalidAddress v).2.1, (kit_ok (v.c.fact 405 (f := .kit "InvalidAddress" "UnknownName" false)))⟩
  · cases h
    cases hG
    exact ⟨(ex_InvalidProfile v).2.1, (kit_ok (v.c.fact 406 (f := .kit "InvalidProfile" "UnknownName" false)))⟩
  · cases h
    cases hG
    exact ⟨(ex_InvalidValue v).2.1, (kit_ok (v.c.fact 407 (f := .kit "InvalidValue" "UnknownName" false)))⟩
  · cases h
    cases hG
    exact ⟨(ex_InvalidFormula v).2.1, (kit_ok (v.c.fact 408 (f := .kit "InvalidFormula" "UnknownName" false)))⟩
  · cases h
    cases hG
    exact ⟨(ex_InvalidName v).2.1, (kit_ok (v.c.fact 409 (f := .kit "InvalidName" "UnknownName" false)))⟩
  · cases h
    cases hG
    exact ⟨(ex_InvalidLine v).2.1, (kit_ok (v.c.fact 410 (f := .kit "InvalidLine" "UnknownName" false)))⟩
  · cases h
    cases hG
    exact ⟨(ex_NoTrack v).2.1, (kit_ok (v.c.fact 411 (f := .kit "NoTrack" "UnknownName" false)))⟩
  · cases h
    cases hG
    exact ⟨(ex_NoRoot v).2.1, (kit_ok (v.c.fact 412 (f := .kit "NoRoot" "UnknownName" false)))⟩
  · cases h
    cases hG
    exact ⟨(ex_NoRenaming v).2.1, (kit_ok (v.c.fact 413 (f := .kit "NoRenaming" "UnknownName" false)))⟩
  · cases h
    cases hG
    exact ⟨(ex_NoFactors v).2.1, (kit_ok (v.c.fact 414 (f := .kit "NoFactors" "UnknownName" false)))⟩
  · cases h
    cases hG
    exact ⟨(ex_UnknownName v).2.1, (kit_ok (v.c.fact 415 (f := .kit "UnknownName" "UnknownName" true)))⟩
  · cases h
    cases hG
    exact ⟨(ex_TooLong v).2.1, (kit_ok (v.c.fact 416 (f := .kit "TooLong" "UnknownName" false)))⟩
  · cases h
    cases hG
    exact ⟨(ex_TooMany v).2.1, (kit_ok (v.c.fact 417 (f := .kit "TooMany" "UnknownName" false)))⟩
  · cases h
    cases hG
    exact ⟨(ex_NothingToUndo v).2.1, (kit_ok (v.c.fact 418 (f := .kit "NothingToUndo" "UnknownName" false)))⟩
  · cases h
def xi_NoFactors : Nat → Option Bool := fun n => match n with
  | 100 => some false
  | 101 => some false
  | 102 => some false
  | 103 => some false
  | 104 => some false
  | 105 => some false
  | 106 => some false
  | 107 => some false
  | 108 => some false
  | 109 => some false
  | 110 => some false
  | 111 => some false
  | 112 => some false
  | 113 => some true
  | 114 => some false
  | 115 => some false
  | 116 => some false
  | 117 => some false
  | _ => none
theorem xi_NoFactors_ok (v : Ev K mg base) : ∀ k b C, xi_NoFactors k = some b → (MM K).G k = some C → XqC K C ∧ PySem.W.kitOne K (.ref C) (.ref (He.ga K "NoFactors")) = some b := by
  intro k b C h hG
  unfold xi_NoFactors at h
  split at h
  · cases h
    cases hG
    exact ⟨(ex_InvalidInteger v).2.1, (kit_ok (v.c.fact 419 (f := .kit "InvalidInteger" "NoFactors" false)))⟩
  · cases h
    cases hG
    exact ⟨(ex_InvalidRatio v).2.1, (kit_ok (v.c.fact 420 (f := .kit "InvalidRatio" "NoFactors" false)))⟩
  · cases h
    cases hG
    exact ⟨(ex_InvalidTable v).2.1, (kit_ok (v.c.fact 421 (f := .kit "InvalidTable" "NoFactors" false)))⟩
  · cases h
    cases hG
    exact ⟨(ex_InvalidPair v).2.1, (kit_ok (v.c.fact 422 (f := .kit "InvalidPair" "NoFactors" false)))⟩
  · cases h
    cases hG
    exact ⟨(ex_InvalidAddress v).2.1, (kit_ok (v.c.fact 423 (f := .kit "InvalidAddress" "NoFactors" false)))⟩
  · cases h
    cases hG
    exact ⟨(ex_InvalidProfile v).2.1, (kit_ok (v.c.fact 424 (f := .kit "InvalidProfile" "NoFactors" false)))⟩
  · cases h
    cases hG
    exact ⟨(ex_InvalidValue v).2.1, (kit_ok (v.c.fact 425 (f := .kit "InvalidValue" "NoFactors" false)))⟩
  · cases h
    cases hG
    exact ⟨(ex_InvalidFormula v).2.1, (kit_ok (v.c.fact 426 (f := .kit "InvalidFormula" "NoFactors" false)))⟩
  · cases h
    cases hG
    exact ⟨(ex_InvalidName v).2.1, (kit_ok (v.c.fact 427 (f := .kit "InvalidName" "NoFactors" false)))⟩
  · cases h
    cases hG
    exact ⟨(ex_InvalidLine v).2.1, (kit_ok (v.c.fact 428 (f := .kit "InvalidLine" "NoFactors" false)))⟩
  · cases h
    cases hG
    exact ⟨(ex_NoTrack v).2.1, (kit_ok (v.c.fact 429 (f := .kit "NoTrack" "NoFactors" false)))⟩
  · cases h
    cases hG
    exact ⟨(ex_NoRoot v).2.1, (kit_ok (v.c.fact 430 (f := .kit "NoRoot" "NoFactors" false)))⟩
  · cases h
    cases hG
    exact ⟨(ex_NoRenaming v).2.1, (kit_ok (v.c.fact 431 (f := .kit "NoRenaming" "NoFactors" false)))⟩
  · cases h
    cases hG
    exact ⟨(ex_NoFactors v).2.1, (kit_ok (v.c.fact 432 (f := .kit "NoFactors" "NoFactors" true)))⟩
  · cases h
    cases hG
    exact ⟨(ex_UnknownName v).2.1, (kit_ok (v.c.fact 433 (f := .kit "UnknownName" "NoFactors" false)))⟩
  · cases h
    cases hG
    exact ⟨(ex_TooLong v).2.1, (kit_ok (v.c.fact 434 (f := .kit "TooLong" "NoFactors" false)))⟩
  · cases h
    cases hG
    exact ⟨(ex_TooMany v).2.1, (kit_ok (v.c.fact 435 (f := .kit "TooMany" "NoFactors" false)))⟩
  · cases h
    cases hG
    exact ⟨(ex_NothingToUndo v).2.1, (kit_ok (v.c.fact 436 (f := .kit "NothingToUndo" "NoFactors" false)))⟩
  · cases h
def xi_NoRenaming : Nat → Option Bool := fun n => match n with
  | 100 => some false
  | 101 => some false
  | 102 => some false
  | 103 => some false
  | 104 => some false
  | 105 => some false
  | 106 => some false
  | 107 => some false
  | 108 => some false
  | 109 => some false
  | 110 => some false
  | 111 => some false
  | 112 => some true
  | 113 => some false
  | 114 => some false
  | 115 => some false
  | 116 => some false
  | 117 => some false
  | _ => none
theorem xi_NoRenaming_ok (v : Ev K mg base) : ∀ k b C, xi_NoRenaming k = some b → (MM K).G k = some C → XqC K C ∧ PySem.W.kitOne K (.ref C) (.ref (He.ga K "NoRenaming")) = some b := by
  intro k b C h hG
  unfold xi_NoRenaming at h
  split at h
  · cases h
    cases hG
    exact ⟨(ex_InvalidInteger v).2.1, (kit_ok (v.c.fact 437 (f := .kit "InvalidInteger" "NoRenaming" false)))⟩
  · cases h
    cases hG
    exact ⟨(ex_InvalidRatio v).2.1, (kit_ok (v.c.fact 438 (f := .kit "InvalidRatio" "NoRenaming" false)))⟩
  · cases h
    cases hG
    exact ⟨(ex_InvalidTable v).2.1, (kit_ok (v.c.fact 439 (f := .kit "InvalidTable" "NoRenaming" false)))⟩
  · cases h
    cases hG
    exact ⟨(ex_InvalidPair v).2.1, (kit_ok (v.c.fact 440 (f := .kit "InvalidPair" "NoRenaming" false)))⟩
  · cases h
    cases hG
    exact ⟨(ex_InvalidAddress v).2.1, (kit_ok (v.c.fact 441 (f := .kit "InvalidAddress" "NoRenaming" false)))⟩
  · cases h
    cases hG
    exact ⟨(ex_InvalidProfile v).2.1, (kit_ok (v.c.fact 442 (f := .kit "InvalidProfile" "NoRenaming" false)))⟩
  · cases h
    cases hG
    exact ⟨(ex_InvalidValue v).2.1, (kit_ok (v.c.fact 443 (f := .kit "InvalidValue" "NoRenaming" false)))⟩
  · cases h
    cases hG
    exact ⟨(ex_InvalidFormula v).2.1, (kit_ok (v.c.fact 444 (f := .kit "InvalidFormula" "NoRenaming" false)))⟩
  · cases h
    cases hG
    exact ⟨(ex_InvalidName v).2.1, (kit_ok (v.c.fact 445 (f := .kit "InvalidName" "NoRenaming" false)))⟩
  · cases h
    cases hG
    exact ⟨(ex_InvalidLine v).2.1, (kit_ok (v.c.fact 446 (f := .kit "InvalidLine" "NoRenaming" false)))⟩
  · cases h
    cases hG
    exact ⟨(ex_NoTrack v).2.1, (kit_ok (v.c.fact 447 (f := .kit "NoTrack" "NoRenaming" false)))⟩
  · cases h
    cases hG
    exact ⟨(ex_NoRoot v).2.1, (kit_ok (v.c.fact 448 (f := .kit "NoRoot" "NoRenaming" false)))⟩
  · cases h
    cases hG
    exact ⟨(ex_NoRenaming v).2.1, (kit_ok (v.c.fact 449 (f := .kit "NoRenaming" "NoRenaming" true)))⟩
  · cases h
    cases hG
    exact ⟨(ex_NoFactors v).2.1, (kit_ok (v.c.fact 450 (f := .kit "NoFactors" "NoRenaming" false)))⟩
  · cases h
    cases hG
    exact ⟨(ex_UnknownName v).2.1, (kit_ok (v.c.fact 451 (f := .kit "UnknownName" "NoRenaming" false)))⟩
  · cases h
    cases hG
    exact ⟨(ex_TooLong v).2.1, (kit_ok (v.c.fact 452 (f := .kit "TooLong" "NoRenaming" false)))⟩
  · cases h
    cases hG
    exact ⟨(ex_TooMany v).2.1, (kit_ok (v.c.fact 453 (f := .kit "TooMany" "NoRenaming" false)))⟩
  · cases h
    cases hG
    exact ⟨(ex_NothingToUndo v).2.1, (kit_ok (v.c.fact 454 (f := .kit "NothingToUndo" "NoRenaming" false)))⟩
  · cases h
def xi_TooMany : Nat → Option Bool := fun n => match n with
  | 100 => some false
  | 101 => some false
  | 102 => some false
  | 103 => some false
  | 104 => some false
  | 105 => some false
  | 106 => some false
  | 107 => some false
  | 108 => some false
  | 109 => some false
  | 110 => some false
  | 111 => some false
  | 112 => some false
  | 113 => some false
  | 114 => some false
  | 115 => some false
  | 116 => some true
  | 117 => some false
  | _ => none
theorem xi_TooMany_ok (v : Ev K mg base) : ∀ k b C, xi_TooMany k = some b → (MM K).G k = some C → XqC K C ∧ PySem.W.kitOne K (.ref C) (.ref (He.ga K "TooMany")) = some b := by
  intro k b C h hG
  unfold xi_TooMany at h
  split at h
  · cases h
    cases hG
    exact ⟨(ex_InvalidInteger v).2.1, (kit_ok (v.c.fact 455 (f := .kit "InvalidInteger" "TooMany" false)))⟩
  · cases h
    cases hG
    exact ⟨(ex_InvalidRatio v).2.1, (kit_ok (v.c.fact 456 (f := .kit "InvalidRatio" "TooMany" false)))⟩
  · cases h
    cases hG
    exact ⟨(ex_InvalidTable v).2.1, (kit_ok (v.c.fact 457 (f := .kit "InvalidTable" "TooMany" false)))⟩
  · cases h
    cases hG
    exact ⟨(ex_InvalidPair v).2.1, (kit_ok (v.c.fact 458 (f := .kit "InvalidPair" "TooMany" false)))⟩
  · cases h
    cases hG
    exact ⟨(ex_InvalidAddress v).2.1, (kit_ok (v.c.fact 459 (f := .kit "InvalidAddress" "TooMany" false)))⟩
  · cases h
    cases hG
    exact ⟨(ex_InvalidProfile v).2.1, (kit_ok (v.c.fact 460 (f := .kit "InvalidProfile" "TooMany" false)))⟩
  · cases h
    cases hG
    exact ⟨(ex_InvalidValue v).2.1, (kit_ok (v.c.fact 461 (f := .kit "InvalidValue" "TooMany" false)))⟩
  · cases h
    cases hG
    exact ⟨(ex_InvalidFormula v).2.1, (kit_ok (v.c.fact 462 (f := .kit "InvalidFormula" "TooMany" false)))⟩
  · cases h
    cases hG
    exact ⟨(ex_InvalidName v).2.1, (kit_ok (v.c.fact 463 (f := .kit "InvalidName" "TooMany" false)))⟩
  · cases h
    cases hG
    exact ⟨(ex_InvalidLine v).2.1, (kit_ok (v.c.fact 464 (f := .kit "InvalidLine" "TooMany" false)))⟩
  · cases h
    cases hG
    exact ⟨(ex_NoTrack v).2.1, (kit_ok (v.c.fact 465 (f := .kit "NoTrack" "TooMany" false)))⟩
  · cases h
    cases hG
    exact ⟨(ex_NoRoot v).2.1, (kit_ok (v.c.fact 466 (f := .kit "NoRoot" "TooMany" false)))⟩
  · cases h
    cases hG
    exact ⟨(ex_NoRenaming v).2.1, (kit_ok (v.c.fact 467 (f := .kit "NoRenaming" "TooMany" false)))⟩
  · cases h
    cases hG
    exact ⟨(ex_NoFactors v).2.1, (kit_ok (v.c.fact 468 (f := .kit "NoFactors" "TooMany" false)))⟩
  · cases h
    cases hG
    exact ⟨(ex_UnknownName v).2.1, (kit_ok (v.c.fact 469 (f := .kit "UnknownName" "TooMany" false)))⟩
  · cases h
    cases hG
    exact ⟨(ex_TooLong v).2.1, (kit_ok (v.c.fact 470 (f := .kit "TooLong" "TooMany" false)))⟩
  · cases h
    cases hG
    exact ⟨(ex_TooMany v).2.1, (kit_ok (v.c.fact 471 (f := .kit "TooMany" "TooMany" true)))⟩
  · cases h
    cases hG
    exact ⟨(ex_NothingToUndo v).2.1, (kit_ok (v.c.fact 472 (f := .kit "NothingToUndo" "TooMany" false)))⟩
  · cases h
def xi_TooLong : Nat → Option Bool := fun n => match n with
  | 100 => some false
  | 101 => some false
  | 102 => some false
  | 103 => some false
  | 104 => some false
  | 105 => some false
  | 106 => some false
  | 107 => some false
  | 108 => some false
  | 109 => some false
  | 110 => some false
  | 111 => some false
  | 112 => some false
  | 113 => some false
  | 114 => some false
  | 115 => some true
  | 116 => some false
  | 117 => some false
  | _ => none
theorem xi_TooLong_ok (v : Ev K mg base) : ∀ k b C, xi_TooLong k = some b → (MM K).G k = some C → XqC K C ∧ PySem.W.kitOne K (.ref C) (.ref (He.ga K "TooLong")) = some b := by
  intro k b C h hG
  unfold xi_TooLong at h
  split at h
  · cases h
    cases hG
    exact ⟨(ex_InvalidInteger v).2.1, (kit_ok (v.c.fact 473 (f := .kit "InvalidInteger" "TooLong" false)))⟩
  · cases h
    cases hG
    exact ⟨(ex_InvalidRatio v).2.1, (kit_ok (v.c.fact 474 (f := .kit "InvalidRatio" "TooLong" false)))⟩
  · cases h
    cases hG
    exact ⟨(ex_InvalidTable v).2.1, (kit_ok (v.c.fact 475 (f := .kit "InvalidTable" "TooLong" false)))⟩
  · cases h
    cases hG
    exact ⟨(ex_InvalidPair v).2.1, (kit_ok (v.c.fact 476 (f := .kit "InvalidPair" "TooLong" false)))⟩
  · cases h
    cases hG
    exact ⟨(ex_InvalidAddress v).2.1, (kit_ok (v.c.fact 477 (f := .kit "InvalidAddress" "TooLong" false)))⟩
  · cases h
    cases hG
    exact ⟨(ex_InvalidProfile v).2.1, (kit_ok (v.c.fact 478 (f := .kit "InvalidProfile" "TooLong" false)))⟩
  · cases h
    cases hG
    exact ⟨(ex_InvalidValue v).2.1, (kit_ok (v.c.fact 479 (f := .kit "InvalidValue" "TooLong" false)))⟩
  · cases h
    cases hG
    exact ⟨(ex_InvalidFormula v).2.1, (kit_ok (v.c.fact 480 (f := .kit "InvalidFormula" "TooLong" false)))⟩
  · cases h
    cases hG
    exact ⟨(ex_InvalidName v).2.1, (kit_ok (v.c.fact 481 (f := .kit "InvalidName" "TooLong" false)))⟩
  · cases h
    cases hG
    exact ⟨(ex_InvalidLine v).2.1, (kit_ok (v.c.fact 482 (f := .kit "InvalidLine" "TooLong" false)))⟩
  · cases h
    cases hG
    exact ⟨(ex_NoTrack v).2.1, (kit_ok (v.c.fact 483 (f := .kit "NoTrack" "TooLong" false)))⟩
  · cases h
    cases hG
    exact ⟨(ex_NoRoot v).2.1, (kit_ok (v.c.fact 484 (f := .kit "NoRoot" "TooLong" false)))⟩
  · cases h
    cases hG
    exact ⟨(ex_NoRenaming v).2.1, (kit_ok (v.c.fact 485 (f := .kit "NoRenaming" "TooLong" false)))⟩
  · cases h
    cases hG
    exact ⟨(ex_NoFactors v).2.1, (kit_ok (v.c.fact 486 (f := .kit "NoFactors" "TooLong" false)))⟩
  · cases h
    cases hG
    exact ⟨(ex_UnknownName v).2.1, (kit_ok (v.c.fact 487 (f := .kit "UnknownName" "TooLong" false)))⟩
  · cases h
    cases hG
    exact ⟨(ex_TooLong v).2.1, (kit_ok (v.c.fact 488 (f := .kit "TooLong" "TooLong" true)))⟩
  · cases h
    cases hG
    exact ⟨(ex_TooMany v).2.1, (kit_ok (v.c.fact 489 (f := .kit "TooMany" "TooLong" false)))⟩
  · cases h
    cases hG
    exact ⟨(ex_NothingToUndo v).2.1, (kit_ok (v.c.fact 490 (f := .kit "NothingToUndo" "TooLong" false)))⟩
  · cases h
def xi_NothingToUndo : Nat → Option Bool := fun n => match n with
  | 100 => some false
  | 101 => some false
  | 102 => some false
  | 103 => some false
  | 104 => some false
  | 105 => some false
  | 106 => some false
  | 107 => some false
  | 108 => some false
  | 109 => some false
  | 110 => some false
  | 111 => some false
  | 112 => some false
  | 113 => some false
  | 114 => some false
  | 115 => some false
  | 116 => some false
  | 117 => some true
  | _ => none
theorem xi_NothingToUndo_ok (v : Ev K mg base) : ∀ k b C, xi_NothingToUndo k = some b → (MM K).G k = some C → XqC K C ∧ PySem.W.kitOne K (.ref C) (.ref (He.ga K "NothingToUndo")) = some b := by
  intro k b C h hG
  unfold xi_NothingToUndo at h
  split at h
  · cases h
    cases hG
    exact ⟨(ex_InvalidInteger v).2.1, (kit_ok (v.c.fact 491 (f := .kit "InvalidInteger" "NothingToUndo" false)))⟩
  · cases h
    cases hG
    exact ⟨(ex_InvalidRatio v).2.1, (kit_ok (v.c.fact 492 (f := .kit "InvalidRatio" "NothingToUndo" false)))⟩
  · cases h
    cases hG
    exact ⟨(ex_InvalidTable v).2.1, (kit_ok (v.c.fact 493 (f := .kit "InvalidTable" "NothingToUndo" false)))⟩
  · cases h
    cases hG
    exact ⟨(ex_InvalidPair v).2.1, (kit_ok (v.c.fact 494 (f := .kit "InvalidPair" "NothingToUndo" false)))⟩
  · cases h
    cases hG
    exact ⟨(ex_InvalidAddress v).2.1, (kit_ok (v.c.fact 495 (f := .kit "InvalidAddress" "NothingToUndo" false)))⟩
  · cases h
    cases hG
    exact ⟨(ex_InvalidProfile v).2.1, (kit_ok (v.c.fact 496 (f := .kit "InvalidProfile" "NothingToUndo" false)))⟩
  · cases h
    cases hG
    exact ⟨(ex_InvalidValue v).2.1, (kit_ok (v.c.fact 497 (f := .kit "InvalidValue" "NothingToUndo" false)))⟩
  · cases h
    cases hG
    exact ⟨(ex_InvalidFormula v).2.1, (kit_ok (v.c.fact 498 (f := .kit "InvalidFormula" "NothingToUndo" false)))⟩
  · cases h
    cases hG
    exact ⟨(ex_InvalidName v).2.1, (kit_ok (v.c.fact 499 (f := .kit "InvalidName" "NothingToUndo" false)))⟩
  · cases h
    cases hG
    exact ⟨(ex_InvalidLine v).2.1, (kit_ok (v.c.fact 500 (f := .kit "InvalidLine" "NothingToUndo" false)))⟩
  · cases h
    cases hG
    exact ⟨(ex_NoTrack v).2.1, (kit_ok (v.c.fact 501 (f := .kit "NoTrack" "NothingToUndo" false)))⟩
  · cases h
    cases hG
    exact ⟨(ex_NoRoot v).2.1, (kit_ok (v.c.fact 502 (f := .kit "NoRoot" "NothingToUndo" false)))⟩
  · cases h
    cases hG
    exact ⟨(ex_NoRenaming v).2.1, (kit_ok (v.c.fact 503 (f := .kit "NoRenaming" "NothingToUndo" false)))⟩
  · cases h
    cases hG
    exact ⟨(ex_NoFactors v).2.1, (kit_ok (v.c.fact 504 (f := .kit "NoFactors" "NothingToUndo" false)))⟩
  · cases h
    cases hG
    exact ⟨(ex_UnknownName v).2.1, (kit_ok (v.c.fact 505 (f := .kit "UnknownName" "NothingToUndo" false)))⟩
  · cases h
    cases hG
    exact ⟨(ex_TooLong v).2.1, (kit_ok (v.c.fact 506 (f := .kit "TooLong" "NothingToUndo" false)))⟩
  · cases h
    cases hG
    exact ⟨(ex_TooMany v).2.1, (kit_ok (v.c.fact 507 (f := .kit "TooMany" "NothingToUndo" false)))⟩
  · cases h
    cases hG
    exact ⟨(ex_NothingToUndo v).2.1, (kit_ok (v.c.fact 508 (f := .kit "NothingToUndo" "NothingToUndo" true)))⟩
  · cases h
abbrev g__law_marks_1 : FS := (sAsg (fLst (aCons (fXisi xi_InvalidInteger (vI 0)) (aCons (fXisi xi_InvalidRatio (vI 0)) (aCons (fXisi xi_InvalidAddress (vI 0)) aNil)))) (tName 1))
abbrev g__law_marks_2 : FS := (sAsg (fBin gAdd (vI 1) (frz (fLst (aCons (fXisi xi_InvalidValue (vI 0)) (aCons (fXisi xi_InvalidName (vI 0)) (aCons (fXisi xi_InvalidLine (vI 0)) aNil)))))) (tName 1))
abbrev g__law_marks_3 : FS := (sAsg (fBin gAdd (vI 1) (frz (fLst (aCons (fXisi xi_InvalidTable (vI 0)) (aCons (fXisi xi_InvalidPair (vI 0)) (aCons (fXisi xi_InvalidFormula (vI 0)) aNil)))))) (tName 1))
abbrev g__law_marks_4 : FS := (sAsg (fBin gAdd (vI 1) (frz (fLst (aCons (fXisi xi_InvalidProfile (vI 0)) (aCons (fXisi xi_NoTrack (vI 0)) (aCons (fXisi xi_NoRoot (vI 0)) aNil)))))) (tName 1))
abbrev g__law_marks_5 : FS := (sAsg (fBin gAdd (vI 1) (frz (fLst (aCons (fXisi xi_NoRenaming (vI 0)) (aCons (fXisi xi_NoFactors (vI 0)) (aCons (fXisi xi_UnknownName (vI 0)) aNil)))))) (tName 1))
abbrev g__law_marks_6 : FS := (sRet (fBin gAdd (vI 1) (frz (fLst (aCons (fXisi xi_NothingToUndo (vI 0)) (aCons (fXisi xi_TooLong (vI 0)) (aCons (fXisi xi_TooMany (vI 0)) aNil)))))))
def g__law_marks : FS := (sSeq g__law_marks_1 (sSeq g__law_marks_2 (sSeq g__law_marks_3 (sSeq g__law_marks_4 (sSeq g__law_marks_5 g__law_marks_6)))))
theorem S__law_marks : FnScope ["_law_made", "_law_marks_here"] ["_law_made"] (defScope (top 29)) := ⟨rfl, rfl, rfl, by decide +kernel, rfl, by decide +kernel, by decide +kernel⟩
theorem kp__law_marks (v : Ev K mg base) : PySem.W.keepIn K (.ref (He.ga K "_law_marks")) = true := (v.c.def_ 23 (d := d__law_marks) rfl).elim fun _ F => F.kp
theorem b__law_marks (v : Ev K mg base) : BodyOk (MM K) P w K mg base 0 "_law_marks" (top 29) (He.ga K "_law_marks") ["_law_made", "_law_marks_here"] g__law_marks :=
  fun cdv A outer s H E hr tk hp => (dss_cons (ds_set (i := 1) S__law_marks.nd (by rfl) (by first | exact Or.inl rfl | exact Or.inr rfl) (de_lst (da_cons (di_xisi (xi_InvalidInteger_ok v) (by rfl) (u_isinstance v) (di_var (pv 0)) (pe_glob (by rfl) (u_InvalidInteger v) (by rfl)) (ClsV.own _)) (da_cons (di_xisi (xi_InvalidRatio_ok v) (by rfl) (u_isinstance v) (di_var (pv 0)) (pe_glob (by rfl) (u_InvalidRatio v) (by rfl)) (ClsV.own _)) (da_cons (di_xisi (xi_InvalidAddress_ok v) (by rfl) (u_isinstance v) (di_var (pv 0)) (pe_glob (by rfl) (u_InvalidAddress v) (by rfl)) (ClsV.own _)) da_nil)))))
    (dss_cons (ds_set (i := 1) S__law_marks.nd (by rfl) (by first | exact Or.inl rfl | exact Or.inr rfl) (x_add (di_var (pv 1)) (DE.pk (de_lst (da_cons (di_xisi (xi_InvalidValue_ok v) (by rfl) (u_isinstance v) (di_var (pv 0)) (pe_glob (by rfl) (u_InvalidValue v) (by rfl)) (ClsV.own _)) (da_cons (di_xisi (xi_InvalidName_ok v) (by rfl) (u_isinstance v) (di_var (pv 0)) (pe_glob (by rfl) (u_InvalidName v) (by rfl)) (ClsV.own _)) (da_cons (di_xisi (xi_InvalidLine_ok v) (by rfl) (u_isinstance v) (di_var (pv 0)) (pe_glob (by rfl) (u_InvalidLine v) (by rfl)) (ClsV.own _)) da_nil)))))))
    (dss_cons (ds_set (i := 1) S__law_marks.nd (by rfl) (by first | exact Or.inl rfl | exact Or.inr rfl) (x_add (di_var (pv 1)) (DE.pk (de_lst (da_cons (di_xisi (xi_InvalidTable_ok v) (by rfl) (u_isinstance v) (di_var (pv 0)) (pe_glob (by rfl) (u_InvalidTable v) (by rfl)) (ClsV.own _)) (da_cons (di_xisi (xi_InvalidPair_ok v) (by rfl) (u_isinstance v) (di_var (pv 0)) (pe_glob (by rfl) (u_InvalidPair v) (by rfl)) (ClsV.own _)) (da_cons (di_xisi (xi_InvalidFormula_ok v) (by rfl) (u_isinstance v) (di_var (pv 0)) (pe_glob (by rfl) (u_InvalidFormula v) (by rfl)) (ClsV.own _)) da_nil)))))))
    (dss_cons (ds_set (i := 1) S__law_marks.nd (by rfl) (by first | exact Or.inl rfl | exact Or.inr rfl) (x_add (di_var (pv 1)) (DE.pk (de_lst (da_cons (di_xisi (xi_InvalidProfile_ok v) (by rfl) (u_isinstance v) (di_var (pv 0)) (pe_glob (by rfl) (u_InvalidProfile v) (by rfl)) (ClsV.own _)) (da_cons (di_xisi (xi_NoTrack_ok v) (by rfl) (u_isinstance v) (di_var (pv 0)) (pe_glob (by rfl) (u_NoTrack v) (by rfl)) (ClsV.own _)) (da_cons (di_xisi (xi_NoRoot_ok v) (by rfl) (u_isinstance v) (di_var (pv 0)) (pe_glob (by rfl) (u_NoRoot v) (by rfl)) (ClsV.own _)) da_nil)))))))
    (dss_cons (ds_set (i := 1) S__law_marks.nd (by rfl) (by first | exact Or.inl rfl | exact Or.inr rfl) (x_add (di_var (pv 1)) (DE.pk (de_lst (da_cons (di_xisi (xi_NoRenaming_ok v) (by rfl) (u_isinstance v) (di_var (pv 0)) (pe_glob (by rfl) (u_NoRenaming v) (by rfl)) (ClsV.own _)) (da_cons (di_xisi (xi_NoFactors_ok v) (by rfl) (u_isinstance v) (di_var (pv 0)) (pe_glob (by rfl) (u_NoFactors v) (by rfl)) (ClsV.own _)) (da_cons (di_xisi (xi_UnknownName_ok v) (by rfl) (u_isinstance v) (di_var (pv 0)) (pe_glob (by rfl) (u_UnknownName v) (by rfl)) (ClsV.own _)) da_nil)))))))
    (dss_one (ds_ret (x_add (di_var (pv 1)) (DE.pk (de_lst (da_cons (di_xisi (xi_NothingToUndo_ok v) (by rfl) (u_isinstance v) (di_var (pv 0)) (pe_glob (by rfl) (u_NothingToUndo v) (by rfl)) (ClsV.own _)) (da_cons (di_xisi (xi_TooLong_ok v) (by rfl) (u_isinstance v) (di_var (pv 0)) (pe_glob (by rfl) (u_TooLong v) (by rfl)) (ClsV.own _)) (da_cons (di_xisi (xi_TooMany_ok v) (by rfl) (u_isinstance v) (di_var (pv 0)) (pe_glob (by rfl) (u_TooMany v) (by rfl)) (ClsV.own _)) da_nil)))))))))))))
def m__law_marks : Fm := mir 2 1 g__law_marks
theorem o__law_marks (v : Ev K mg base) : DefOk (MM K) P w K mg base 1 "_law_marks" "_law_marks" (top 29) [] (He.ga K "_law_marks") ["_law_made"] m__law_marks := by
  obtain ⟨fd, F⟩ := v.c.def_ 23 (d := d__law_marks) rfl
  exact ⟨fd, F, funD_mir (M := MM K) F S__law_marks (by decide) (fun cdv A outer s H E hr tk hp => b__law_marks v cdv A outer s H E hr tk hp)⟩
theorem f__law_marks (v : Ev K mg base) : TS.FnR P w K mg base (L2.CX P w) 1 (He.ga K "_law_marks") (spD (MM K) m__law_marks) := by
  obtain ⟨fd, F, O⟩ := o__law_marks (P := P) (w := w) v
  exact fnR_raw (M := MM K) O (F.bindsN (ps := ["_law_made"]) fun _ _ _ _ _ _ us hl => match us, hl with | [_], _ => rfl)
def xm_LimitError : Nat → Option Bool := fun n => match n with
  | 100 => some false
  | 101 => some false
  | 102 => some false
  | 103 => some false
  | 104 => some false
  | 105 => some false
  | 106 => some false
  | 107 => some false
  | 108 => some false
  | 109 => some false
  | 110 => some false
  | 111 => some false
  | 112 => some false
  | 113 => some false
  | 114 => some false
  | 115 => some true
  | 116 => some true
  | 117 => some false
  | _ => none
theorem xm_LimitError_ok (v : Ev K mg base) : ∀ k b C, xm_LimitError k = some b → (MM K).G k = some C → PySem.W.exmOne K (.ref C) (.ref (He.ga K "LimitError")) = some b := by
  intro k b C h hG
  unfold xm_LimitError at h
  split at h
  · cases h
    cases hG
    exact exm_ok (v.c.fact 510 (f := .exm "InvalidInteger" "LimitError" false))
  · cases h
    cases hG
    exact exm_ok (v.c.fact 511 (f := .exm "InvalidRatio" "LimitError" false))
  · cases h
    cases hG
    exact exm_ok (v.c.fact 512 (f := .exm "InvalidTable" "LimitError" false))
  · cases h
    cases hG
    exact exm_ok (v.c.fact 513 (f := .exm "InvalidPair" "LimitError" false))
  · cases h
    cases hG
    exact exm_ok (v.c.fact 514 (f := .exm "InvalidAddress" "LimitError" false))
  · cases h
    cases hG
    exact exm_ok (v.c.fact 515 (f := .exm "InvalidProfile" "LimitError" false))
  · cases h
    cases hG
    exact exm_ok (v.c.fact 516 (f := .exm "InvalidValue" "LimitError" false))
  · cases h
    cases hG
    exact exm_ok (v.c.fact 517 (f := .exm "InvalidFormula" "LimitError" false))
  · cases h
    cases hG
    exact exm_ok (v.c.fact 518 (f := .exm "InvalidName" "LimitError" false))
  · cases h
    cases hG
    exact exm_ok (v.c.fact 519 (f := .exm "InvalidLine" "LimitError" false))
  · cases h
    cases hG
    exact exm_ok (v.c.fact 520 (f := .exm "NoTrack" "LimitError" false))
  · cases h
    cases hG
    exact exm_ok (v.c.fact 521 (f := .exm "NoRoot" "LimitError" false))
  · cases h
    cases hG
    exact exm_ok (v.c.fact 522 (f := .exm "NoRenaming" "LimitError" false))
  · cases h
    cases hG
    exact exm_ok (v.c.fact 523 (f := .exm "NoFactors" "LimitError" false))
  · cases h
    cases hG
    exact exm_ok (v.c.fact 524 (f := .exm "UnknownName" "LimitError" false))
  · cases h
    cases hG
    exact exm_ok (v.c.fact 525 (f := .exm "TooLong" "LimitError" true))
  · cases h
    cases hG
    exact exm_ok (v.c.fact 526 (f := .exm "TooMany" "LimitError" true))
  · cases h
    cases hG
    exact exm_ok (v.c.fact 527 (f := .exm "NothingToUndo" "LimitError" false))
  · cases h
def xm_AbsentError : Nat → Option Bool := fun n => match n with
  | 100 => some false
  | 101 => some false
  | 102 => some false
  | 103 => some false
  | 104 => some false
  | 105 => some false
  | 106 => some false
  | 107 => some false
  | 108 => some false
  | 109 => some false
  | 110 => some true
  | 111 => some true
  | 112 => some true
  | 113 => some true
  | 114 => some true
  | 115 => some false
  | 116 => some false
  | 117 => some true
  | _ => none
theorem xm_AbsentError_ok (v : Ev K mg base) : ∀ k b C, xm_AbsentError k = some b → (MM K).G k = some C → PySem.W.exmOne K (.ref C) (.ref (He.ga K "AbsentError")) = some b := by
  intro k b C h hG
  unfold xm_AbsentError at h
  split at h
  · cases h
    cases hG
    exact exm_ok (v.c.fact 528 (f := .exm "InvalidInteger" "AbsentError" false))
  · cases h
    cases hG
    exact exm_ok (v.c.fact 529 (f := .exm "InvalidRatio" "AbsentError" false))
  · cases h
    cases hG
    exact exm_ok (v.c.fact 530 (f := .exm "InvalidTable" "AbsentError" false))
  · cases h
    cases hG
    exact exm_ok (v.c.fact 531 (f := .exm "InvalidPair" "AbsentError" false))
  · cases h
    cases hG
    exact exm_ok (v.c.fact 532 (f := .exm "InvalidAddress" "AbsentError" false))
  · cases h
    cases hG
    exact exm_ok (v.c.fact 533 (f := .exm "InvalidProfile" "AbsentError" false))
  · cases h
    cases hG
    exact exm_ok (v.c.fact 534 (f := .exm "InvalidValue" "AbsentError" false))
  · cases h
    cases hG
    exact exm_ok (v.c.fact 535 (f := .exm "InvalidFormula" "AbsentError" false))
  · cases h
    cases hG
    exact exm_ok (v.c.fact 536 (f := .exm "InvalidName" "AbsentError" false))
  · cases h
    cases hG
    exact exm_ok (v.c.fact 537 (f := .exm "InvalidLine" "AbsentError" false))
  · cases h
    cases hG
    exact exm_ok (v.c.fact 538 (f := .exm "NoTrack" "AbsentError" true))
  · cases h
    cases hG
    exact exm_ok (v.c.fact 539 (f := .exm "NoRoot" "AbsentError" true))
  · cases h
    cases hG
    exact exm_ok (v.c.fact 540 (f := .exm "NoRenaming" "AbsentError" true))
  · cases h
    cases hG
    exact exm_ok (v.c.fact 541 (f := .exm "NoFactors" "AbsentError" true))
  · cases h
    cases hG
    exact exm_ok (v.c.fact 542 (f := .exm "UnknownName" "AbsentError" true))
  · cases h
    cases hG
    exact exm_ok (v.c.fact 543 (f := .exm "TooLong" "AbsentError" false))
  · cases h
    cases hG
    exact exm_ok (v.c.fact 544 (f := .exm "TooMany" "AbsentError" false))
  · cases h
    cases hG
    exact exm_ok (v.c.fact 545 (f := .exm "NothingToUndo" "AbsentError" true))
  · cases h
def xm_ThreeswapsError : Nat → Option Bool := fun n => match n with
  | 100 => some true
  | 101 => some true
  | 102 => some true
  | 103 => some true
  | 104 => some true
  | 105 => some true
  | 106 => some true
  | 107 => some true
  | 108 => some true
  | 109 => some true
  | 110 => some false
  | 111 => some false
  | 112 => some false
  | 113 => some false
  | 114 => some false
  | 115 => some false
  | 116 => some false
  | 117 => some false
  | _ => none
theorem xm_ThreeswapsError_ok (v : Ev K mg base) : ∀ k b C, xm_ThreeswapsError k = some b → (MM K).G k = some C → PySem.W.exmOne K (.ref C) (.ref (He.ga K "ThreeswapsError")) = some b := by
  intro k b C h hG
  unfold xm_ThreeswapsError at h
  split at h
  · cases h
    cases hG
    exact exm_ok (v.c.fact 546 (f := .exm "InvalidInteger" "ThreeswapsError" true))
  · cases h
    cases hG
    exact exm_ok (v.c.fact 547 (f := .exm "InvalidRatio" "ThreeswapsError" true))
  · cases h
    cases hG
    exact exm_ok (v.c.fact 548 (f := .exm "InvalidTable" "ThreeswapsError" true))
  · cases h
    cases hG
    exact exm_ok (v.c.fact 549 (f := .exm "InvalidPair" "ThreeswapsError" true))
  · cases h
    cases hG
    exact exm_ok (v.c.fact 550 (f := .exm "InvalidAddress" "ThreeswapsError" true))
  · cases h
    cases hG
    exact exm_ok (v.c.fact 551 (f := .exm "InvalidProfile" "ThreeswapsError" true))
  · cases h
    cases hG
    exact exm_ok (v.c.fact 552 (f := .exm "InvalidValue" "ThreeswapsError" true))
  · cases h
    cases hG
    exact exm_ok (v.c.fact 553 (f := .exm "InvalidFormula" "ThreeswapsError" true))
  · cases h
    cases hG
    exact exm_ok (v.c.fact 554 (f := .exm "InvalidName" "ThreeswapsError" true))
  · cases h
    cases hG
    exact exm_ok (v.c.fact 555 (f := .exm "InvalidLine" "ThreeswapsError" true))
  · cases h
    cases hG
    exact exm_ok (v.c.fact 556 (f := .exm "NoTrack" "ThreeswapsError" false))
  · cases h
    cases hG
    exact exm_ok (v.c.fact 557 (f := .exm "NoRoot" "ThreeswapsError" false))
  · cases h
    cases hG
    exact exm_ok (v.c.fact 558 (f := .exm "NoRenaming" "ThreeswapsError" false))
  · cases h
    cases hG
    exact exm_ok (v.c.fact 559 (f := .exm "NoFactors" "ThreeswapsError" false))
  · cases h
    cases hG
    exact exm_ok (v.c.fact 560 (f := .exm "UnknownName" "ThreeswapsError" false))
  · cases h
    cases hG
    exact exm_ok (v.c.fact 561 (f := .exm "TooLong" "ThreeswapsError" false))
  · cases h
    cases hG
    exact exm_ok (v.c.fact 562 (f := .exm "TooMany" "ThreeswapsError" false))
  · cases h
    cases hG
    exact exm_ok (v.c.fact 563 (f := .exm "NothingToUndo" "ThreeswapsError" false))
  · cases h
abbrev g__law_caught_1 (res : Res D) : FS := (sAsg (toE (kD (.str "other"))) (tName 1))
abbrev g__law_caught_2t_1 (res : Res D) : FS := (sExpr (fRes 0 res))
abbrev g__law_caught_2B (res : Res D) : FS := (g__law_caught_2t_1 res)
abbrev g__law_caught_2 (res : Res D) : FS := (sTryP (g__law_caught_2B res) (hCons xm_ThreeswapsError (fun _ => (sAsg (toE (kD (.str "value"))) (tName 1))) (hCons xm_AbsentError (fun _ => (sAsg (toE (kD (.str "absent"))) (tName 1))) (hCons xm_LimitError (fun _ => (sAsg (toE (kD (.str "limit"))) (tName 1))) hNil))))
abbrev g__law_caught_3 (res : Res D) : FS := (sRet (vR 1))
def g__law_caught (res : Res D) : FS := (sSeq (g__law_caught_1 res) (sSeq (g__law_caught_2 res) (g__law_caught_3 res)))
theorem S__law_caught : FnScope ["_law_call", "_law_told"] ["_law_call"] (defScope (top 33)) := ⟨rfl, rfl, rfl, by decide +kernel, rfl, by decide +kernel, by decide +kernel⟩
theorem kp__law_caught (v : Ev K mg base) : PySem.W.keepIn K (.ref (He.ga K "_law_caught")) = true := (v.c.def_ 24 (d := d__law_caught) rfl).elim fun _ F => F.kp
theorem b__law_caught (v : Ev K mg base) {L : Lm} (res : Res D) (cdv : Value) (A : Around) (outer : List Env) (s : Shared) (H : Hp) (E : XK) (hr : TS.Room 0 (A.deeper (PyProof.Rows.envOfC "_law_caught" (defScope (top 33)) s.heap.objs.size (He.ga K "_law_caught") cdv))) (tk : Takes (cxOf (L2.CX P w) P w K mg base ["_law_call", "_law_told"] "_law_caught" (defScope (top 33)) (He.ga K "_law_caught") cdv A outer s H E) (fun cls d _ H => E cls d H))
    (hp : PassesOwn (model P w) (A.deeper (PyProof.Rows.envOfC "_law_caught" (defScope (top 33)) s.heap.objs.size (He.ga K "_law_caught") cdv)) (PyProof.Rows.envOfC "_law_caught" (defScope (top 33)) s.heap.objs.size (He.ga K "_law_caught") cdv) (cxOf (L2.CX P w) P w K mg base ["_law_call", "_law_told"] "_law_caught" (defScope (top 33)) (He.ga K "_law_caught") cdv A outer s H E).xe) (act : ∀ (W : WX) (pn : List (Addr × Obj)) (xe : Value → Shared → Prop) (p1 p2 : Pos), Takes ((cxOf (L2.CX P w) P w K mg base ["_law_call", "_law_told"] "_law_caught" (defScope (top 33)) (He.ga K "_law_caught") cdv A outer s H E).tr pn xe) W → DE ((MM K).wl L) W ((cxOf (L2.CX P w) P w K mg base ["_law_call", "_law_told"] "_law_caught" (defScope (top 33)) (He.ga K "_law_caught") cdv A outer s H E).tr pn xe) (.Call (.Name "_law_call" p1) [] [] p2) (fRes 0 res)) : DSs ((MM K).wl L) (fun cls d _ H => E cls d H) (cxOf (L2.CX P w) P w K mg base ["_law_call", "_law_told"] "_law_caught" (defScope (top 33)) (He.ga K "_law_caught") cdv A outer s H E) (defBody (top 33)) (g__law_caught res) :=
  (dss_cons (ds_set (i := 1) S__law_caught.nd (by rfl) (by first | exact Or.inl rfl | exact Or.inr rfl) (DI.toE di_str))
    (dss_cons (ds_tryP (by rfl) (by rfl) tk (fun W pn xe tk hp => (dss_one (ds_expr (act _ _ _ _ _ tk)))) (ClB.cons (tab := xm_ThreeswapsError) ⟨by rfl, by decide, Or.inl (u_ThreeswapsError v)⟩ (xm_ThreeswapsError_ok v) (fun a oe pn => (dss_one (ds_set (i := 1) S__law_caught.nd (by rfl) (by first | exact Or.inl rfl | exact Or.inr rfl) (DI.toE di_str)))) (ClB.cons (tab := xm_AbsentError) ⟨by rfl, by decide, Or.inl (u_AbsentError v)⟩ (xm_AbsentError_ok v) (fun a oe pn => (dss_one (ds_set (i := 1) S__law_caught.nd (by rfl) (by first | exact Or.inl rfl | exact Or.inr rfl) (DI.toE di_str)))) (ClB.cons (tab := xm_LimitError) ⟨by rfl, by decide, Or.inl (u_LimitError v)⟩ (xm_LimitError_ok v) (fun a oe pn => (dss_one (ds_set (i := 1) S__law_caught.nd (by rfl) (by first | exact Or.inl rfl | exact Or.inr rfl) (DI.toE di_str)))) ClB.nil))))
    (dss_one (ds_ret (de_var (pv 1))))))
def m__law_caught (res : Res D) : Fm := mir 2 1 (g__law_caught res)
theorem l__law_caught (v : Ev K mg base) : ∃ fd, LamOk P w (MM K) K mg base 0 "_law_caught" (He.ga K "_law_caught") m__law_caught "_law_caught" (defArgs (top 33)) (defBody (top 33)) (defScope (top 33)) fd "_law_call" ["_law_call", "_law_told"] g__law_caught := by
  obtain ⟨fd, F⟩ := v.c.def_ 24 (d := d__law_caught) rfl
  exact ⟨fd, F, kp__law_caught v, S__law_caught, F.bindsN (ps := ["_law_call"]) (fun _ _ _ _ _ _ us hl => match us, hl with | [_], _ => rfl), fun _ => rfl, fun L res cdv A outer s H E hr tk hp act => b__law_caught v res cdv A outer s H E hr tk hp act⟩
abbrev g__law_raised_1a_1 : FS := (sRaise 102 3 (aCons (kD (.str "meeting")) (aCons (kD (.int 1)) (aCons (kD (.int 0)) aNil))))
abbrev g__law_raised_1 : FS := (sIf (fTst (fBin gEq (vI 0) (kD (.int 0)))) g__law_raised_1a_1 sNil)
abbrev g__law_raised_2a_1 : FS := (sRaise 110 2 (aCons (fTup (aCons (kD (.int 1)) (aCons (kD (.int 2)) aNil))) (aCons (kD (.int 0)) aNil)))
abbrev g__law_raised_2 : FS := (sIf (fTst (fBin gEq (vI 0) (kD (.int 1)))) g__law_raised_2a_1 sNil)
abbrev g__law_raised_3 : FS := (sRaise 116 1 (aCons (kD (.int 5063)) aNil))
def g__law_raised : FS := (sSeq g__law_raised_1 (sSeq g__law_raised_2 g__law_raised_3))
theorem S__law_raised : FnScope ["_law_at"] ["_law_at"] (defScope (top 34)) := ⟨rfl, rfl, rfl, by decide +kernel, rfl, by decide +kernel, by decide +kernel⟩
theorem kp__law_raised (v : Ev K mg base) : PySem.W.keepIn K (.ref (He.ga K "_law_raised")) = true := (v.c.def_ 25 (d := d__law_raised) rfl).elim fun _ F => F.kp
theorem b__law_raised (v : Ev K mg base) : BodyOk (MM K) P w K mg base 2 "_law_raised" (top 34) (He.ga K "_law_raised") ["_law_at"] g__law_raised :=
  fun cdv A outer s H E hr tk hp => (dss_cons (ds_if (t_eq hr (di_var (pv 0)) (DI.pk di_int)) (dss_one (Exists.elim (xd_InvalidTable (P := P) (w := w) v) fun _ h => ds_raise (n := 102) (ns := ["problem", "position", "earlier"]) rfl rfl rfl (ex_InvalidTable v).1 (ex_InvalidTable v).2.2.1 (ex_InvalidTable v).2.2.2 h.1 hr (by decide) (by decide) h.2 (by rfl) tk (by rfl) (u_InvalidTable v) (da_cons di_str (da_cons di_int (da_cons di_int da_nil))))) dss_nil)
    (dss_cons (ds_if (t_eq hr (di_var (pv 0)) (DI.pk di_int)) (dss_one (Exists.elim (xd_NoTrack (P := P) (w := w) v) fun _ h => ds_raise (n := 110) (ns := ["key", "number"]) rfl rfl rfl (ex_NoTrack v).1 (ex_NoTrack v).2.2.1 (ex_NoTrack v).2.2.2 h.1 hr (by decide) (by decide) h.2 (by rfl) tk (by rfl) (u_NoTrack v) (da_cons (di_tup (da_cons di_int (da_cons di_int da_nil))) (da_cons di_int da_nil)))) dss_nil)
    (dss_one (Exists.elim (xd_TooMany (P := P) (w := w) v) fun _ h => ds_raise (n := 116) (ns := ["many"]) rfl rfl rfl (ex_TooMany v).1 (ex_TooMany v).2.2.1 (ex_TooMany v).2.2.2 h.1 hr (by decide) (by decide) h.2 (by rfl) tk (by rfl) (u_TooMany v) (da_cons di_int da_nil)))))
def m__law_raised : Fm := mir 1 1 g__law_raised
theorem o__law_raised (v : Ev K mg base) : DefOk (MM K) P w K mg base 3 "_law_raised" "_law_raised" (top 34) [] (He.ga K "_law_raised") ["_law_at"] m__law_raised := by
  obtain ⟨fd, F⟩ := v.c.def_ 25 (d := d__law_raised) rfl
  exact ⟨fd, F, funD_mir (M := MM K) F S__law_raised (by decide) (fun cdv A outer s H E hr tk hp => b__law_raised v cdv A outer s H E hr tk hp)⟩
theorem f__law_raised (v : Ev K mg base) : TS.FnR P w K mg base (L2.CX P w) 3 (He.ga K "_law_raised") (spD (MM K) m__law_raised) := by
  obtain ⟨fd, F, O⟩ := o__law_raised (P := P) (w := w) v
  exact fnR_raw (M := MM K) O (F.bindsN (ps := ["_law_at"]) fun _ _ _ _ _ _ us hl => match us, hl with | [_], _ => rfl)
def xf_number : Nat → Option Nat := fun n => match n with
  | 110 => some 0
  | _ => none
theorem xf_number_ok (v : Ev K mg base) : ∀ k j C, xf_number k = some j → (MM K).G k = some C → XqC K C ∧ PySem.W.findIn K (.ref C) "number" = some none ∧ ((MM K).nm k)[j]? = some "number" ∧ ("number" : Str) ∉ ((MM K).nm k).take j := by
  intro k j C h hG
  unfold xf_number at h
  split at h
  · cases h
    cases hG
    exact ⟨(ex_NoTrack v).2.1, He.noat_ok (v.c.fact 48 (f := .he (.noat "NoTrack" "number"))), rfl, show ("number" : Str) ∉ (["number", "key"] : List Str).take 0 from by decide +kernel⟩
  · cases h
def xf_key : Nat → Option Nat := fun n => match n with
  | 110 => some 1
  | 111 => some 1
  | _ => none
theorem xf_key_ok (v : Ev K mg base) : ∀ k j C, xf_key k = some j → (MM K).G k = some C → XqC K C ∧ PySem.W.findIn K (.ref C) "key" = some none ∧ ((MM K).nm k)[j]? = some "key" ∧ ("key" : Str) ∉ ((MM K).nm k).take j := by
  intro k j C h hG
  unfold xf_key at h
  split at h
  · cases h
    cases hG
    exact ⟨(ex_NoTrack v).2.1, He.noat_ok (v.c.fact 47 (f := .he (.noat "NoTrack" "key"))), rfl, show ("key" : Str) ∉ (["number", "key"] : List Str).take 1 from by decide +kernel⟩
  · cases h
    cases hG
    exact ⟨(ex_NoRoot v).2.1, He.noat_ok (v.c.fact 43 (f := .he (.noat "NoRoot" "key"))), rfl, show ("key" : Str) ∉ (["many", "key"] : List Str).take 1 from by decide +kernel⟩
  · cases h
def xf_many : Nat → Option Nat := fun n => match n with
  | 111 => some 0
  | 116 => some 0
  | _ => none
theorem xf_many_ok (v : Ev K mg base) : ∀ k j C, xf_many k = some j → (MM K).G k = some C → XqC K C ∧ PySem.W.findIn K (.ref C) "many" = some none ∧ ((MM K).nm k)[j]? = some "many" ∧ ("many" : Str) ∉ ((MM K).nm k).take j := by
  intro k j C h hG
  unfold xf_many at h
  split at h
  · cases h
    cases hG
    exact ⟨(ex_NoRoot v).2.1, He.noat_ok (v.c.fact 44 (f := .he (.noat "NoRoot" "many"))), rfl, show ("many" : Str) ∉ (["many", "key"] : List Str).take 0 from by decide +kernel⟩
  · cases h
    cases hG
    exact ⟨(ex_TooMany v).2.1, He.noat_ok (v.c.fact 62 (f := .he (.noat "TooMany" "many"))), rfl, show ("many" : Str) ∉ (["many"] : List Str).take 0 from by decide +kernel⟩
  · cases h
def xf_found : Nat → Option Nat := fun n => match n with
  | 112 => some 0
  | _ => none
theorem xf_found_ok (v : Ev K mg base) : ∀ k j C, xf_found k = some j → (MM K).G k = some C → XqC K C ∧ PySem.W.findIn K (.ref C) "found" = some none ∧ ((MM K).nm k)[j]? = some "found" ∧ ("found" : Str) ∉ ((MM K).nm k).take j := by
  intro k j C h hG
  unfold xf_found at h
  split at h
  · cases h
    cases hG
    exact ⟨(ex_NoRenaming v).2.1, He.noat_ok (v.c.fact 51 (f := .he (.noat "NoRenaming" "found"))), rfl, show ("found" : Str) ∉ (["found"] : List Str).take 0 from by decide +kernel⟩
  · cases h
def xf_excess : Nat → Option Nat := fun n => match n with
  | 113 => some 0
  | _ => none
theorem xf_excess_ok (v : Ev K mg base) : ∀ k j C, xf_excess k = some j → (MM K).G k = some C → XqC K C ∧ PySem.W.findIn K (.ref C) "excess" = some none ∧ ((MM K).nm k)[j]? = some "excess" ∧ ("excess" : Str) ∉ ((MM K).nm k).take j := by
  intro k j C h hG
  unfold xf_excess at h
  split at h
  · cases h
    cases hG
    exact ⟨(ex_NoFactors v).2.1, He.noat_ok (v.c.fact 59 (f := .he (.noat "NoFactors" "excess"))), rfl, show ("excess" : Str) ∉ (["excess"] : List Str).take 0 from by decide +kernel⟩
  · cases h
def xf_name : Nat → Option Nat := fun n => match n with
  | 114 => some 0
  | _ => none
theorem xf_name_ok (v : Ev K mg base) : ∀ k j C, xf_name k = some j → (MM K).G k = some C → XqC K C ∧ PySem.W.findIn K (.ref C) "name" = some none ∧ ((MM K).nm k)[j]? = some "name" ∧ ("name" : Str) ∉ ((MM K).nm k).take j := by
  intro k j C h hG
  unfold xf_name at h
  split at h
  · cases h
    cases hG
    exact ⟨(ex_UnknownName v).2.1, He.noat_ok (v.c.fact 56 (f := .he (.noat "UnknownName" "name"))), rfl, show ("name" : Str) ∉ (["name"] : List Str).take 0 from by decide +kernel⟩
  · cases h
def xf_multiple : Nat → Option Nat := fun n => match n with
  | 115 => some 0
  | _ => none
theorem xf_multiple_ok (v : Ev K mg base) : ∀ k j C, xf_multiple k = some j → (MM K).G k = some C → XqC K C ∧ PySem.W.findIn K (.ref C) "multiple" = some none ∧ ((MM K).nm k)[j]? = some "multiple" ∧ ("multiple" : Str) ∉ ((MM K).nm k).take j := by
  intro k j C h hG
  unfold xf_multiple at h
  split at h
  · cases h
    cases hG
    exact ⟨(ex_TooLong v).2.1, He.noat_ok (v.c.fact 65 (f := .he (.noat "TooLong" "multiple"))), rfl, show ("multiple" : Str) ∉ (["multiple"] : List Str).take 0 from by decide +kernel⟩
  · cases h
abbrev g__law_second_right_1 : FS := (sAsg (toE (vI 1)) (tTup 5 (tsCons (tName 2) (tsCons (tName 3) (tsCons (tName 4) (tsCons (tName 5) (tsCons (tName 6) tsNil)))))))
abbrev g__law_second_right_2a_1 : FS := (sRet (toE (kD (.bl false))))
abbrev g__law_second_right_2 : FS := (sIf (fNot (fTst (fCal gAll (aOne (frz (fLc (stName 7) [7] (itSeq (frz (fSl (vI 0) oNone (oSome (kD (.int 2)))))) tTrue (frz (fBin gEq (fReprD (frz (fLst (aCons (fXa xf_key (vI 7)) (aCons (fXa xf_number (vI 7)) aNil))))) (fReprD (frz (fLst (aCons (vI 4) (aCons (vI 6) aNil))))))))))))) g__law_second_right_2a_1 sNil)
abbrev g__law_second_right_3a_1 : FS := (sRet (toE (kD (.bl false))))
abbrev g__law_second_right_3 : FS := (sIf (fNot (fTst (fCal gAll (aOne (frz (fLc (stName 7) [7] (itSeq (frz (fSl (vI 0) (oSome (kD (.int 2))) (oSome (kD (.int 4)))))) tTrue (frz (fBin gEq (fReprD (frz (fLst (aCons (fXa xf_key (vI 7)) (aCons (fXa xf_many (vI 7)) aNil))))) (fReprD (frz (fLst (aCons (vI 4) (aCons (vI 5) aNil))))))))))))) g__law_second_right_3a_1 sNil)
abbrev g__law_second_right_4a_1 : FS := (sRet (toE (kD (.bl false))))
abbrev g__law_second_right_4 : FS := (sIf (fNot (fTst (fCal gAll (aOne (frz (fLc (stName 7) [7] (itSeq (frz (fSl (vI 0) (oSome (kD (.int 4))) (oSome (kD (.int 6)))))) tTrue (frz (fBin gEq (fReprD (fXa xf_found (vI 7))) (fReprD (fTup (aCons (kD (.str "speed")) (aCons (vI 4) (aCons (vI 5) (aCons (kD (.int 0)) aNil)))))))))))))) g__law_second_right_4a_1 sNil)
abbrev g__law_second_right_5a_1 : FS := (sRet (toE (kD (.bl false))))
abbrev g__law_second_right_5 : FS := (sIf (fNot (fTst (fCal gAll (aOne (frz (fLc (stName 7) [7] (itSeq (frz (fSl (vI 0) (oSome (kD (.int 6))) (oSome (kD (.int 8)))))) tTrue (frz (fBin gEq (fReprD (fXa xf_excess (vI 7))) (fReprD (vI 6)))))))))) g__law_second_right_5a_1 sNil)
abbrev g__law_second_right_6a_1 : FS := (sRet (toE (kD (.bl false))))
abbrev g__law_second_right_6 : FS := (sIf (fNot (fTst (fCal gAll (aOne (frz (fLc (stName 7) [7] (itSeq (frz (fSl (vI 0) (oSome (kD (.int 8))) (oSome (kD (.int 10)))))) tTrue (frz (fBin gEq (fReprD (fXa xf_name (vI 7))) (fReprD (vI 2)))))))))) g__law_second_right_6a_1 sNil)
abbrev g__law_second_right_7a_1 : FS := (sRet (toE (kD (.bl false))))
abbrev g__law_second_right_7 : FS := (sIf (fNot (fTst (fCal gAll (aOne (frz (fLc (stName 7) [7] (itSeq (frz (fSl (vI 0) (oSome (kD (.int 12))) (oSome (kD (.int 14)))))) tTrue (frz (fBin gEq (fReprD (fXa xf_multiple (vI 7))) (fReprD (vI 5)))))))))) g__law_second_right_7a_1 sNil)
abbrev g__law_second_right_8 : FS := (sRet (fCal gAll (aOne (frz (fLc (stName 7) [7] (itSeq (frz (fSl (vI 0) (oSome (kD (.int 14))) oNone))) tTrue (frz (fBin gEq (fReprD (fXa xf_many (vI 7))) (fReprD (vI 5)))))))))
def g__law_second_right : FS := (sSeq g__law_second_right_1 (sSeq g__law_second_right_2 (sSeq g__law_second_right_3 (sSeq g__law_second_right_4 (sSeq g__law_second_right_5 (sSeq g__law_second_right_6 (sSeq g__law_second_right_7 g__law_second_right_8)))))))
theorem S__law_second_right : FnScope ["_law_made", "_law_parts_here", "_law_odd", "_law_table", "_law_speed", "_law_size", "_law_rank", "_law_one"] ["_law_made", "_law_parts_here"] (defScope (top 32)) := ⟨rfl, rfl, rfl, by decide +kernel, rfl, by decide +kernel, by decide +kernel⟩
theorem kp__law_second_right (v : Ev K mg base) : PySem.W.keepIn K (.ref (He.ga K "_law_second_right")) = true := (v.c.def_ 26 (d := d__law_second_right) rfl).elim fun _ F => F.kp
theorem b__law_second_right (v : Ev K mg base) : BodyOk (MM K) P w K mg base 0 "_law_second_right" (top 32) (He.ga K "_law_second_right") ["_law_made", "_law_parts_here", "_law_odd", "_law_table", "_law_speed", "_law_size", "_law_rank", "_law_one"] g__law_second_right :=
  fun cdv A outer s H E hr tk hp => (dss_cons (ds_asg (DI.toE (di_var (pv 1))) (dg_tup (by rfl) (dgs_cons (dg_name (pg_name S__law_second_right.nd (by rfl) (by first | exact Or.inl rfl | exact Or.inr rfl))) (dgs_cons (dg_name (pg_name S__law_second_right.nd (by rfl) (by first | exact Or.inl rfl | exact Or.inr rfl))) (dgs_cons (dg_name (pg_name S__law_second_right.nd (by rfl) (by first | exact Or.inl rfl | exact Or.inr rfl))) (dgs_cons (dg_name (pg_name S__law_second_right.nd (by rfl) (by first | exact Or.inl rfl | exact Or.inr rfl))) (dgs_cons (dg_name (pg_name S__law_second_right.nd (by rfl) (by first | exact Or.inl rfl | exact Or.inr rfl))) dgs_nil)))))) (tgt_tup (tgs_cons (tgt_name 2) (tgs_cons (tgt_name 3) (tgs_cons (tgt_name 4) (tgs_cons (tgt_name 5) (tgs_cons (tgt_name 6) tgs_nil)))))))
    (dss_cons (ds_if (dt_not (dt_val (b_all (by rfl) (by rfl) (u_all v) (db_one (DE.pk (de_lc (own := [("_law_one", 7)]) (by rfl) (by rfl) S__law_second_right.nd (dit_list (DE.frz (de_sl (di_var (pv 0)) do_none (do_some di_int)))) (blkOk_by (by kernel_rfl)) (st_name 7) (fun _ _ _ _ _ => pg_name S__law_second_right.nd (by rfl) (by first | exact Or.inl rfl | exact Or.inr rfl)) (fun _ _ _ _ _ => pts_no) (fun _ _ _ _ _ => (DE.frz (x_eq hr (b_reprX (smd_ok (v.c.fact 566 (f := .smd))) hr (by rfl) (u_repr v) (DE.frz (de_lst (da_cons (di_xa (xf_key_ok v) (di_var (pv 7))) (da_cons (di_xa (xf_number_ok v) (di_var (pv 7))) da_nil))))) (DI.pk (b_reprX (smd_ok (v.c.fact 566 (f := .smd))) hr (by rfl) (u_repr v) (DE.frz (de_lst (da_cons (di_var (pv 4)) (da_cons (di_var (pv 6)) da_nil))))))))))))))) (dss_one (ds_ret (DI.toE di_bl))) dss_nil)
    (dss_cons (ds_if (dt_not (dt_val (b_all (by rfl) (by rfl) (u_all v) (db_one (DE.pk (de_lc (own := [("_law_one", 7)]) (by rfl) (by rfl) S__law_second_right.nd (dit_list (DE.frz (de_sl (di_var (pv 0)) (do_some di_int) (do_some di_int)))) (blkOk_by (by kernel_rfl)) (st_name 7) (fun _ _ _ _ _ => pg_name S__law_second_right.nd (by rfl) (by first | exact Or.inl rfl | exact Or.inr rfl)) (fun _ _ _ _ _ => pts_no) (fun _ _ _ _ _ => (DE.frz (x_eq hr (b_reprX (smd_ok (v.c.fact 566 (f := .smd))) hr (by rfl) (u_repr v) (DE.frz (de_lst (da_cons (di_xa (xf_key_ok v) (di_var (pv 7))) (da_cons (di_xa (xf_many_ok v) (di_var (pv 7))) da_nil))))) (DI.pk (b_reprX (smd_ok (v.c.fact 566 (f := .smd))) hr (by rfl) (u_repr v) (DE.frz (de_lst (da_cons (di_var (pv 4)) (da_cons (di_var (pv 5)) da_nil))))))))))))))) (dss_one (ds_ret (DI.toE di_bl))) dss_nil)
    (dss_cons (ds_if (dt_not (dt_val (b_all (by rfl) (by rfl) (u_all v) (db_one (DE.pk (de_lc (own := [("_law_one", 7)]) (by rfl) (by rfl) S__law_second_right.nd (dit_list (DE.frz (de_sl (di_var (pv 0)) (do_some di_int) (do_some di_int)))) (blkOk_by (by kernel_rfl)) (st_name 7) (fun _ _ _ _ _ => pg_name S__law_second_right.nd (by rfl) (by first | exact Or.inl rfl | exact Or.inr rfl)) (fun _ _ _ _ _ => pts_no) (fun _ _ _ _ _ => (DE.frz (x_eq hr (b_reprX (smd_ok (v.c.fact 566 (f := .smd))) hr (by rfl) (u_repr v) (di_xa (xf_found_ok v) (di_var (pv 7)))) (DI.pk (b_reprX (smd_ok (v.c.fact 566 (f := .smd))) hr (by rfl) (u_repr v) (di_tup (da_cons di_str (da_cons (di_var (pv 4)) (da_cons (di_var (pv 5)) (da_cons di_int da_nil)))))))))))))))) (dss_one (ds_ret (DI.toE di_bl))) dss_nil)
    (dss_cons (ds_if (dt_not (dt_val (b_all (by rfl) (by rfl) (u_all v) (db_one (DE.pk (de_lc (own := [("_law_one", 7)]) (by rfl) (by rfl) S__law_second_right.nd (dit_list (DE.frz (de_sl (di_var (pv 0)) (do_some di_int) (do_some di_int)))) (blkOk_by (by kernel_rfl)) (st_name 7) (fun _ _ _ _ _ => pg_name S__law_second_right.nd (by rfl) (by first | exact Or.inl rfl | exact Or.inr rfl)) (fun _ _ _ _ _ => pts_no) (fun _ _ _ _ _ => (DE.frz (x_eq hr (b_reprX (smd_ok (v.c.fact 566 (f := .smd))) hr (by rfl) (u_repr v) (di_xa (xf_excess_ok v) (di_var (pv 7)))) (DI.pk (b_reprX (smd_ok (v.c.fact 566 (f := .smd))) hr (by rfl) (u_repr v) (di_var (pv 6))))))))))))) (dss_one (ds_ret (DI.toE di_bl))) dss_nil)
    (dss_cons (ds_if (dt_not (dt_val (b_all (by rfl) (by rfl) (u_all v) (db_one (DE.pk (de_lc (own := [("_law_one", 7)]) (by rfl) (by rfl) S__law_second_right.nd (dit_list (DE.frz (de_sl (di_var (pv 0)) (do_some di_int) (do_some di_int)))) (blkOk_by (by kernel_rfl)) (st_name 7) (fun _ _ _ _ _ => pg_name S__law_second_right.nd (by rfl) (by first | exact Or.inl rfl | exact Or.inr rfl)) (fun _ _ _ _ _ => pts_no) (fun _ _ _ _ _ => (DE.frz (x_eq hr (b_reprX (smd_ok (v.c.fact 566 (f := .smd))) hr (by rfl) (u_repr v) (di_xa (xf_name_ok v) (di_var (pv 7)))) (DI.pk (b_reprX (smd_ok (v.c.fact 566 (f := .smd))) hr (by rfl) (u_repr v) (di_var (pv 2))))))))))))) (dss_one (ds_ret (DI.toE di_bl))) dss_nil)
    (dss_cons (ds_if (dt_not (dt_val (b_all (by rfl) (by rfl) (u_all v) (db_one (DE.pk (de_lc (own := [("_law_one", 7)]) (by rfl) (by rfl) S__law_second_right.nd (dit_list (DE.frz (de_sl (di_var (pv 0)) (do_some di_int) (do_some di_int)))) (blkOk_by (by kernel_rfl)) (st_name 7) (fun _ _ _ _ _ => pg_name S__law_second_right.nd (by rfl) (by first | exact Or.inl rfl | exact Or.inr rfl)) (fun _ _ _ _ _ => pts_no) (fun _ _ _ _ _ => (DE.frz (x_eq hr (b_reprX (smd_ok (v.c.fact 566 (f := .smd))) hr (by rfl) (u_repr v) (di_xa (xf_multiple_ok v) (di_var (pv 7)))) (DI.pk (b_reprX (smd_ok (v.c.fact 566 (f := .smd))) hr (by rfl) (u_repr v) (di_var (pv 5))))))))))))) (dss_one (ds_ret (DI.toE di_bl))) dss_nil)
    (dss_one (ds_ret (b_all (by rfl) (by rfl) (u_all v) (db_one (DE.pk (de_lc (own := [("_law_one", 7)]) (by rfl) (by rfl) S__law_second_right.nd (dit_list (DE.frz (de_sl (di_var (pv 0)) (do_some di_int) do_none))) (blkOk_by (by kernel_rfl)) (st_name 7) (fun _ _ _ _ _ => pg_name S__law_second_right.nd (by rfl) (by first | exact Or.inl rfl | exact Or.inr rfl)) (fun _ _ _ _ _ => pts_no) (fun _ _ _ _ _ => (DE.frz (x_eq hr (b_reprX (smd_ok (v.c.fact 566 (f := .smd))) hr (by rfl) (u_repr v) (di_xa (xf_many_ok v) (di_var (pv 7)))) (DI.pk (b_reprX (smd_ok (v.c.fact 566 (f := .smd))) hr (by rfl) (u_repr v) (di_var (pv 5))))))))))))))))))))
def m__law_second_right : Fm := mir 8 2 g__law_second_right
theorem o__law_second_right (v : Ev K mg base) : DefOk (MM K) P w K mg base 1 "_law_second_right" "_law_second_right" (top 32) [] (He.ga K "_law_second_right") ["_law_made", "_law_parts_here"] m__law_second_right := by
  obtain ⟨fd, F⟩ := v.c.def_ 26 (d := d__law_second_right) rfl
  exact ⟨fd, F, funD_mir (M := MM K) F S__law_second_right (by decide) (fun cdv A outer s H E hr tk hp => b__law_second_right v cdv A outer s H E hr tk hp)⟩
theorem f__law_second_right (v : Ev K mg base) : TS.FnR P w K mg base (L2.CX P w) 1 (He.ga K "_law_second_right") (spD (MM K) m__law_second_right) := by
  obtain ⟨fd, F, O⟩ := o__law_second_right (P := P) (w := w) v
  exact fnR_raw (M := MM K) O (F.bindsN (ps := ["_law_made", "_law_parts_here"]) fun _ _ _ _ _ _ us hl => match us, hl with | [_, _], _ => rfl)
def xf_value : Nat → Option Nat := fun n => match n with
  | 100 => some 0
  | 101 => some 0
  | 104 => some 0
  | 106 => some 0
  | 108 => some 0
  | 109 => some 0
  | _ => none
theorem xf_value_ok (v : Ev K mg base) : ∀ k j C, xf_value k = some j → (MM K).G k = some C → XqC K C ∧ PySem.W.findIn K (.ref C) "value" = some none ∧ ((MM K).nm k)[j]? = some "value" ∧ ("value" : Str) ∉ ((MM K).nm k).take j := by
  intro k j C h hG
  unfold xf_value at h
  split at h
  · cases h
    cases hG
    exact ⟨(ex_InvalidInteger v).2.1, He.noat_ok (v.c.fact 13 (f := .he (.noat "InvalidInteger" "value"))), rfl, show ("value" : Str) ∉ (["value"] : List Str).take 0 from by decide +kernel⟩
  · cases h
    cases hG
    exact ⟨(ex_InvalidRatio v).2.1, He.noat_ok (v.c.fact 10 (f := .he (.noat "InvalidRatio" "value"))), rfl, show ("value" : Str) ∉ (["value"] : List Str).take 0 from by decide +kernel⟩
  · cases h
    cases hG
    exact ⟨(ex_InvalidAddress v).2.1, He.noat_ok (v.c.fact 19 (f := .he (.noat "InvalidAddress" "value"))), rfl, show ("value" : Str) ∉ (["value"] : List Str).take 0 from by decide +kernel⟩
  · cases h
    cases hG
    exact ⟨(ex_InvalidValue v).2.1, He.noat_ok (v.c.fact 16 (f := .he (.noat "InvalidValue" "value"))), rfl, show ("value" : Str) ∉ (["value"] : List Str).take 0 from by decide +kernel⟩
  · cases h
    cases hG
    exact ⟨(ex_InvalidName v).2.1, He.noat_ok (v.c.fact 25 (f := .he (.noat "InvalidName" "value"))), rfl, show ("value" : Str) ∉ (["value"] : List Str).take 0 from by decide +kernel⟩
  · cases h
    cases hG
    exact ⟨(ex_InvalidLine v).2.1, He.noat_ok (v.c.fact 22 (f := .he (.noat "InvalidLine" "value"))), rfl, show ("value" : Str) ∉ (["value"] : List Str).take 0 from by decide +kernel⟩
  · cases h
def xf_earlier : Nat → Option Nat := fun n => match n with
  | 102 => some 0
  | _ => none
theorem xf_earlier_ok (v : Ev K mg base) : ∀ k j C, xf_earlier k = some j → (MM K).G k = some C → XqC K C ∧ PySem.W.findIn K (.ref C) "earlier" = some none ∧ ((MM K).nm k)[j]? = some "earlier" ∧ ("earlier" : Str) ∉ ((MM K).nm k).take j := by
  intro k j C h hG
  unfold xf_earlier at h
  split at h
  · cases h
    cases hG
    exact ⟨(ex_InvalidTable v).2.1, He.noat_ok (v.c.fact 30 (f := .he (.noat "InvalidTable" "earlier"))), rfl, show ("earlier" : Str) ∉ (["earlier", "position", "problem"] : List Str).take 0 from by decide +kernel⟩
  · cases h
def xf_position : Nat → Option Nat := fun n => match n with
  | 102 => some 1
  | 103 => some 0
  | 107 => some 0
  | _ => none
theorem xf_position_ok (v : Ev K mg base) : ∀ k j C, xf_position k = some j → (MM K).G k = some C → XqC K C ∧ PySem.W.findIn K (.ref C) "position" = some none ∧ ((MM K).nm k)[j]? = some "position" ∧ ("position" : Str) ∉ ((MM K).nm k).take j := by
  intro k j C h hG
  unfold xf_position at h
  split at h
  · cases h
    cases hG
    exact ⟨(ex_InvalidTable v).2.1, He.noat_ok (v.c.fact 29 (f := .he (.noat "InvalidTable" "position"))), rfl, show ("position" : Str) ∉ (["earlier", "position", "problem"] : List Str).take 1 from by decide +kernel⟩
  · cases h
    cases hG
    exact ⟨(ex_InvalidPair v).2.1, He.noat_ok (v.c.fact 36 (f := .he (.noat "InvalidPair" "position"))), rfl, show ("position" : Str) ∉ (["position"] : List Str).take 0 from by decide +kernel⟩
  · cases h
    cases hG
    exact ⟨(ex_InvalidFormula v).2.1, He.noat_ok (v.c.fact 33 (f := .he (.noat "InvalidFormula" "position"))), rfl, show ("position" : Str) ∉ (["position"] : List Str).take 0 from by decide +kernel⟩
  · cases h
def xf_problem : Nat → Option Nat := fun n => match n with
  | 102 => some 2
  | 105 => some 0
  | _ => none
theorem xf_problem_ok (v : Ev K mg base) : ∀ k j C, xf_problem k = some j → (MM K).G k = some C → XqC K C ∧ PySem.W.findIn K (.ref C) "problem" = some none ∧ ((MM K).nm k)[j]? = some "problem" ∧ ("problem" : Str) ∉ ((MM K).nm k).take j := by
  intro k j C h hG
  unfold xf_problem at h
  split at h
  · cases h
    cases hG
    exact ⟨(ex_InvalidTable v).2.1, He.noat_ok (v.c.fact 28 (f := .he (.noat "InvalidTable" "problem"))), rfl, show ("problem" : Str) ∉ (["earlier", "position", "problem"] : List Str).take 2 from by decide +kernel⟩
  · cases h
    cases hG
    exact ⟨(ex_InvalidProfile v).2.1, He.noat_ok (v.c.fact 39 (f := .he (.noat "InvalidProfile" "problem"))), rfl, show ("problem" : Str) ∉ (["problem"] : List Str).take 0 from by decide +kernel⟩
  · cases h
abbrev g__law_first_right_1 : FS := (sAsg (toE (vI 1)) (tTup 5 (tsCons (tName 2) (tsCons (tName 3) (tsCons (tName 4) (tsCons (tName 5) (tsCons (tName 6) tsNil)))))))
abbrev g__law_first_right_2a_1 : FS := (sRet (toE (kD (.bl false))))
abbrev g__law_first_right_2 : FS := (sIf (fNot (fTst (fCal gAll (aOne (frz (fLc (stName 7) [7] (itSeq (frz (fSl (vI 0) oNone (oSome (kD (.int 12)))))) tTrue (frz (fBin gEq (fReprD (fXa xf_value (vI 7))) (fReprD (vI 2)))))))))) g__law_first_right_2a_1 sNil)
abbrev g__law_first_right_3a_1 : FS := (sRet (toE (kD (.bl false))))
abbrev g__law_first_right_3 : FS := (sIf (fNot (fTst (fCal gAll (aOne (frz (fLc (stName 7) [7] (itSeq (frz (fSl (vI 0) (oSome (kD (.int 12))) (oSome (kD (.int 14)))))) tTrue (frz (fBin gEq (fReprD (frz (fLst (aCons (fXa xf_problem (vI 7)) (aCons (fXa xf_position (vI 7)) (aCons (fXa xf_earlier (vI 7)) aNil)))))) (fReprD (frz (fCal gList (aOne (vP 3))))))))))))) g__law_first_right_3a_1 sNil)
abbrev g__law_first_right_4a_1 : FS := (sRet (toE (kD (.bl false))))
abbrev g__law_first_right_4 : FS := (sIf (fNot (fTst (fCal gAll (aOne (frz (fLc (stName 7) [7] (itSeq (frz (fSl (vI 0) (oSome (kD (.int 14))) (oSome (kD (.int 18)))))) tTrue (frz (fBin gEq (fReprD (fXa xf_position (vI 7))) (fReprD (vI 5)))))))))) g__law_first_right_4a_1 sNil)
abbrev g__law_first_right_5 : FS := (sRet (fCal gAll (aOne (frz (fLc (stName 7) [7] (itSeq (frz (fSl (vI 0) (oSome (kD (.int 18))) oNone))) tTrue (frz (fBin gEq (fReprD (fXa xf_problem (vI 7))) (fReprD (frz (fBin gIx (vI 3) (kD (.int 0))))))))))))
def g__law_first_right : FS := (sSeq g__law_first_right_1 (sSeq g__law_first_right_2 (sSeq g__law_first_right_3 (sSeq g__law_first_right_4 g__law_first_right_5))))
theorem S__law_first_right : FnScope ["_law_made", "_law_parts_here", "_law_odd", "_law_table", "_law_speed", "_law_size", "_law_rank", "_law_one"] ["_law_made", "_law_parts_here"] (defScope (top 31)) := ⟨rfl, rfl, rfl, by decide +kernel, rfl, by decide +kernel, by decide +kernel⟩
theorem kp__law_first_right (v : Ev K mg base) : PySem.W.keepIn K (.ref (He.ga K "_law_first_right")) = true := (v.c.def_ 27 (d := d__law_first_right) rfl).elim fun _ F => F.kp
theorem b__law_first_right (v : Ev K mg base) : BodyOk (MM K) P w K mg base 0 "_law_first_right" (top 31) (He.ga K "_law_first_right") ["_law_made", "_law_parts_here", "_law_odd", "_law_table", "_law_speed", "_law_size", "_law_rank", "_law_one"] g__law_first_right :=
  fun cdv A outer s H E hr tk hp => (dss_cons (ds_asg (DI.toE (di_var (pv 1))) (dg_tup (by rfl) (dgs_cons (dg_name (pg_name S__law_first_right.nd (by rfl) (by first | exact Or.inl rfl | exact Or.inr rfl))) (dgs_cons (dg_name (pg_name S__law_first_right.nd (by rfl) (by first | exact Or.inl rfl | exact Or.inr rfl))) (dgs_cons (dg_name (pg_name S__law_first_right.nd (by rfl) (by first | exact Or.inl rfl | exact Or.inr rfl))) (dgs_cons (dg_name (pg_name S__law_first_right.nd (by rfl) (by first | exact Or.inl rfl | exact Or.inr rfl))) (dgs_cons (dg_name (pg_name S__law_first_right.nd (by rfl) (by first | exact Or.inl rfl | exact Or.inr rfl))) dgs_nil)))))) (tgt_tup (tgs_cons (tgt_name 2) (tgs_cons (tgt_name 3) (tgs_cons (tgt_name 4) (tgs_cons (tgt_name 5) (tgs_cons (tgt_name 6) tgs_nil)))))))
    (dss_cons (ds_if (dt_not (dt_val (b_all (by rfl) (by rfl) (u_all v) (db_one (DE.pk (de_lc (own := [("_law_one", 7)]) (by rfl) (by rfl) S__law_first_right.nd (dit_list (DE.frz (de_sl (di_var (pv 0)) do_none (do_some di_int)))) (blkOk_by (by kernel_rfl)) (st_name 7) (fun _ _ _ _ _ => pg_name S__law_first_right.nd (by rfl) (by first | exact Or.inl rfl | exact Or.inr rfl)) (fun _ _ _ _ _ => pts_no) (fun _ _ _ _ _ => (DE.frz (x_eq hr (b_reprX (smd_ok (v.c.fact 566 (f := .smd))) hr (by rfl) (u_repr v) (di_xa (xf_value_ok v) (di_var (pv 7)))) (DI.pk (b_reprX (smd_ok (v.c.fact 566 (f := .smd))) hr (by rfl) (u_repr v) (di_var (pv 2))))))))))))) (dss_one (ds_ret (DI.toE di_bl))) dss_nil)
    (dss_cons (ds_if (dt_not (dt_val (b_all (by rfl) (by rfl) (u_all v) (db_one (DE.pk (de_lc (own := [("_law_one", 7)]) (by rfl) (by rfl) S__law_first_right.nd (dit_list (DE.frz (de_sl (di_var (pv 0)) (do_some di_int) (do_some di_int)))) (blkOk_by (by kernel_rfl)) (st_name 7) (fun _ _ _ _ _ => pg_name S__law_first_right.nd (by rfl) (by first | exact Or.inl rfl | exact Or.inr rfl)) (fun _ _ _ _ _ => pts_no) (fun _ _ _ _ _ => (DE.frz (x_eq hr (b_reprX (smd_ok (v.c.fact 566 (f := .smd))) hr (by rfl) (u_repr v) (DE.frz (de_lst (da_cons (di_xa (xf_problem_ok v) (di_var (pv 7))) (da_cons (di_xa (xf_position_ok v) (di_var (pv 7))) (da_cons (di_xa (xf_earlier_ok v) (di_var (pv 7))) da_nil)))))) (DI.pk (b_reprX (smd_ok (v.c.fact 566 (f := .smd))) hr (by rfl) (u_repr v) (DE.frz (b_list (by rfl) (u_list v) (db_one (dp_var (pv 3)))))))))))))))) (dss_one (ds_ret (DI.toE di_bl))) dss_nil)
    (dss_cons (ds_if (dt_not (dt_val (b_all (by rfl) (by rfl) (u_all v) (db_one (DE.pk (de_lc (own := [("_law_one", 7)]) (by rfl) (by rfl) S__law_first_right.nd (dit_list (DE.frz (de_sl (di_var (pv 0)) (do_some di_int) (do_some di_int)))) (blkOk_by (by kernel_rfl)) (st_name 7) (fun _ _ _ _ _ => pg_name S__law_first_right.nd (by rfl) (by first | exact Or.inl rfl | exact Or.inr rfl)) (fun _ _ _ _ _ => pts_no) (fun _ _ _ _ _ => (DE.frz (x_eq hr (b_reprX (smd_ok (v.c.fact 566 (f := .smd))) hr (by rfl) (u_repr v) (di_xa (xf_position_ok v) (di_var (pv 7)))) (DI.pk (b_reprX (smd_ok (v.c.fact 566 (f := .smd))) hr (by rfl) (u_repr v) (di_var (pv 5))))))))))))) (dss_one (ds_ret (DI.toE di_bl))) dss_nil)
    (dss_one (ds_ret (b_all (by rfl) (by rfl) (u_all v) (db_one (DE.pk (de_lc (own := [("_law_one", 7)]) (by rfl) (by rfl) S__law_first_right.nd (dit_list (DE.frz (de_sl (di_var (pv 0)) (do_some di_int) do_none))) (blkOk_by (by kernel_rfl)) (st_name 7) (fun _ _ _ _ _ => pg_name S__law_first_right.nd (by rfl) (by first | exact Or.inl rfl | exact Or.inr rfl)) (fun _ _ _ _ _ => pts_no) (fun _ _ _ _ _ => (DE.frz (x_eq hr (b_reprX (smd_ok (v.c.fact 566 (f := .smd))) hr (by rfl) (u_repr v) (di_xa (xf_problem_ok v) (di_var (pv 7)))) (DI.pk (b_reprX (smd_ok (v.c.fact 566 (f := .smd))) hr (by rfl) (u_repr v) (DE.frz (x_ix hr (di_var (pv 3)) (DI.pk di_int))))))))))))))))))
def m__law_first_right : Fm := mir 8 2 g__law_first_right
theorem o__law_first_right (v : Ev K mg base) : DefOk (MM K) P w K mg base 1 "_law_first_right" "_law_first_right" (top 31) [] (He.ga K "_law_first_right") ["_law_made", "_law_parts_here"] m__law_first_right := by
  obtain ⟨fd, F⟩ := v.c.def_ 27 (d := d__law_first_right) rfl
  exact ⟨fd, F, funD_mir (M := MM K) F S__law_first_right (by decide) (fun cdv A outer s H E hr tk hp => b__law_first_right v cdv A outer s H E hr tk hp)⟩
theorem f__law_first_right (v : Ev K mg base) : TS.FnR P w K mg base (L2.CX P w) 1 (He.ga K "_law_first_right") (spD (MM K) m__law_first_right) := by
  obtain ⟨fd, F, O⟩ := o__law_first_right (P := P) (w := w) v
  exact fnR_raw (M := MM K) O (F.bindsN (ps := ["_law_made", "_law_parts_here"]) fun _ _ _ _ _ _ us hl => match us, hl with | [_, _], _ => rfl)
abbrev g__law_right_1 : FS := (sPar 3 4 (fOwnIo m__law_parts 0 aNil) (fOwnIo m__law_parts 0 aNil))
abbrev g__law_right_2 : FS := (sPar 5 6 (fOwn m__law_first (aCons (vI 3) aNil)) (fOwn m__law_second (aCons (vI 3) aNil)))
abbrev g__law_right_3 : FS := (sAsg (fBin gAdd (frz (fOwn m__law_first (aCons (vI 4) aNil))) (frz (fOwn m__law_second (aCons (vI 4) aNil)))) (tName 1))
abbrev g__law_right_4_1 : FS := (sAsg (fBin gFdiv (vI 7) (kD (.int 2))) (tName 9))
abbrev g__law_right_4_2a_1 : FS := (sRet (toE (kD (.bl false))))
abbrev g__law_right_4_2 : FS := (sIf (fOr (fTst (fBin gNe (frz (fOwn m__law_marks (aCons (vI 8) aNil))) (frz (fLc (stName 10) [10] (itRg1 (kD (.int 18))) tTrue (frz (fBin gEq (vI 10) (vP 9))))))) (fNot (fTst (fOwn m__law_above_right (aCons (vI 8) (aCons (vI 9) aNil)))))) g__law_right_4_2a_1 sNil)
abbrev g__law_right_4B : FS := (sSeq g__law_right_4_1 g__law_right_4_2)
abbrev g__law_right_4 : FS := (sFor (itEnum (frz (fBin gAdd (vI 5) (vP 6)))) (tTup 2 (tsCons (tName 7) (tsCons (tName 8) tsNil))) g__law_right_4B)
abbrev g__law_right_5 : FS := (sAsg (fLst (aCons (frz (fLam [] m__law_caught (fOwn m__law_raised (aCons (kD (.int 0)) aNil)))) aNil)) (tName 2))
abbrev g__law_right_6 : FS := (sExpr (toE (fMut 2 mAppend (aCons (frz (fLam [] m__law_caught (fOwn m__law_raised (aCons (kD (.int 1)) aNil)))) aNil))))
abbrev g__law_right_7 : FS := (sExpr (toE (fMut 2 mAppend (aCons (frz (fLam [] m__law_caught (fOwn m__law_raised (aCons (kD (.int 2)) aNil)))) aNil))))
abbrev g__law_right_8a_1 : FS := (sRet (toE (kD (.bl false))))
abbrev g__law_right_8 : FS := (sIf (fOr (fTst (fBin gNe (frz (fCal gLen (aOne (vP 1)))) (frz (fCal gLen (aOne (frz (fBin gAdd (vI 5) (vP 6)))))))) (fTst (fBinV gNe 2 (frz (fLst (aCons (kD (.str "value")) (aCons (kD (.str "absent")) (aCons (kD (.str "limit")) aNil)))))))) g__law_right_8a_1 sNil)
abbrev g__law_right_9 : FS := (sRet (fAndV (frz (fOwn m__law_first_right (aCons (vI 5) (aCons (vI 3) aNil)))) (fOwn m__law_second_right (aCons (vI 6) (aCons (vI 3) aNil)))))
def g__law_right : FS := (sSeq g__law_right_1 (sSeq g__law_right_2 (sSeq g__law_right_3 (sSeq g__law_right_4 (sSeq g__law_right_5 (sSeq g__law_right_6 (sSeq g__law_right_7 (sSeq g__law_right_8 g__law_right_9))))))))
theorem S__law_right : FnScope ["_law_pot_here", "_law_later", "_law_caught_here", "_law_parts_here", "_law_more", "_law_first_here", "_law_second_here", "_law_at", "_law_error", "_law_place", "_law_k"] ["_law_pot_here"] (defScope (top 35)) := ⟨rfl, rfl, rfl, by decide +kernel, rfl, by decide +kernel, by decide +kernel⟩
theorem kp__law_right (v : Ev K mg base) : PySem.W.keepIn K (.ref (He.ga K "_law_right")) = true := (v.c.def_ 28 (d := d__law_right) rfl).elim fun _ F => F.kp
theorem mk__law_right (v : Ev K mg base) : LamX.TabB base mg (cdA (gA "_law_right") K) (tbA (gA "_law_right") K) ∧ (tbA (gA "_law_right") K, ("_law_right.<locals>.<lambda>" : Str)) ∈ (MM K).T ∧ ∀ p ∈ (MM K).T, p.1 = tbA (gA "_law_right") K → p.2 = ("_law_right.<locals>.<lambda>" : Str) :=
  mk_of v.t v.u (i := 0) rfl
theorem b__law_right (v : Ev K mg base) (cdv : Value) (hcd : cdv = .ref (cdA (gA "_law_right") K)) (A : Around) (outer : List Env) (s : Shared) (H : Hp) (E : XK) (hr : TS.Room 5 (A.deeper (PyProof.Rows.envOfC "_law_right" (defScope (top 35)) s.heap.objs.size (He.ga K "_law_right") cdv))) (tk : Takes (cxOf (L2.CX P w) P w K mg base ["_law_pot_here", "_law_later", "_law_caught_here", "_law_parts_here", "_law_more", "_law_first_here", "_law_second_here", "_law_at", "_law_error", "_law_place", "_law_k"] "_law_right" (defScope (top 35)) (He.ga K "_law_right") cdv A outer s H E) (fun cls d _ H => E cls d H))
    (hp : PassesOwn (model P w) (A.deeper (PyProof.Rows.envOfC "_law_right" (defScope (top 35)) s.heap.objs.size (He.ga K "_law_right") cdv)) (PyProof.Rows.envOfC "_law_right" (defScope (top 35)) s.heap.objs.size (He.ga K "_law_right") cdv) (cxOf (L2.CX P w) P w K mg base ["_law_pot_here", "_law_later", "_law_caught_here", "_law_parts_here", "_law_more", "_law_first_here", "_law_second_here", "_law_at", "_law_error", "_law_place", "_law_k"] "_law_right" (defScope (top 35)) (He.ga K "_law_right") cdv A outer s H E).xe) : DSs (MM K) (fun cls d _ H => E cls d H) (cxOf (L2.CX P w) P w K mg base ["_law_pot_here", "_law_later", "_law_caught_here", "_law_parts_here", "_law_more", "_law_first_here", "_law_second_here", "_law_at", "_law_error", "_law_place", "_law_k"] "_law_right" (defScope (top 35)) (He.ga K "_law_right") cdv A outer s H E) (defBody (top 35)) g__law_right :=
  (dss_cons (ds_par (i := 3) (j := 4) (by rfl) S__law_right.nd (by rfl) (by rfl) (by decide) (by rfl) (by rfl) (d_ownIo (fun h => pe_own ((f__law_parts v).mono (by decide)) hr tk (by rfl) (u__law_parts v) (kp__law_parts v) h) (pv 0) da_nil) (d_ownIo (fun h => pe_own ((f__law_parts v).mono (by decide)) hr tk (by rfl) (u__law_parts v) (kp__law_parts v) h) (pv 0) da_nil) (by rfl))
    (dss_cons (ds_par (i := 5) (j := 6) (by rfl) S__law_right.nd (by rfl) (by rfl) (by decide) (by rfl) (by rfl) (d_own (fun h => pe_own ((f__law_first v).mono (by decide)) hr tk (by rfl) (u__law_first v) (kp__law_first v) h) (da_cons (di_var (pv 3)) da_nil)) (d_own (fun h => pe_own ((f__law_second v).mono (by decide)) hr tk (by rfl) (u__law_second v) (kp__law_second v) h) (da_cons (di_var (pv 3)) da_nil)) (by rfl))
    (dss_cons (ds_set (i := 1) S__law_right.nd (by rfl) (by first | exact Or.inl rfl | exact Or.inr rfl) (x_add (DE.frz (d_own (fun h => pe_own ((f__law_first v).mono (by decide)) hr tk (by rfl) (u__law_first v) (kp__law_first v) h) (da_cons (di_var (pv 4)) da_nil))) (DE.pk (d_own (fun h => pe_own ((f__law_second v).mono (by decide)) hr tk (by rfl) (u__law_second v) (kp__law_second v) h) (da_cons (di_var (pv 4)) da_nil)))))
    (dss_cons (ds_for hp (by rfl) (dit_enum (by rfl) (u_enumerate v) (DE.frz (x_add (di_var (pv 5)) (dp_var (pv 6))))) (dg_tup (by rfl) (dgs_cons (dg_name (pg_name S__law_right.nd (by rfl) (by first | exact Or.inl rfl | exact Or.inr rfl))) (dgs_cons (dg_name (pg_name S__law_right.nd (by rfl) (by first | exact Or.inl rfl | exact Or.inr rfl))) dgs_nil))) (tgt_tup (tgs_cons (tgt_name 7) (tgs_cons (tgt_name 8) tgs_nil))) (dss_cons (ds_set (i := 9) S__law_right.nd (by rfl) (by first | exact Or.inl rfl | exact Or.inr rfl) (x_fdiv (di_var (pv 7)) (DI.pk di_int)))
    (dss_one (ds_if (DW.pt (dw_or (t_ne hr (DE.frz (d_own (fun h => pe_own ((f__law_marks v).mono (by decide)) hr tk (by rfl) (u__law_marks v) (kp__law_marks v) h) (da_cons (di_var (pv 8)) da_nil))) (DE.pk (de_lc (own := [("_law_k", 10)]) (by rfl) (by rfl) S__law_right.nd (dit_rg1 (by rfl) (u_range v) di_int) (blkOk_by (by kernel_rfl)) (st_name 10) (fun _ _ _ _ _ => pg_name S__law_right.nd (by rfl) (by first | exact Or.inl rfl | exact Or.inr rfl)) (fun _ _ _ _ _ => pts_no) (fun _ _ _ _ _ => (DE.frz (x_eq hr (di_var (pv 10)) (dp_var (pv 9)))))))) (dw_or1 (dt_not (dt_val (d_own (fun h => pe_own ((f__law_above_right v).mono (by decide)) hr tk (by rfl) (u__law_above_right v) (kp__law_above_right v) h) (da_cons (di_var (pv 8)) (da_cons (di_var (pv 9)) da_nil)))))))) (dss_one (ds_ret (DI.toE di_bl))) dss_nil))))
    (dss_cons (ds_set (i := 2) S__law_right.nd (by rfl) (by first | exact Or.inl rfl | exact Or.inr rfl) (de_lst (da_cons (DE.frz (Exists.elim (l__law_caught (P := P) (w := w) v) fun _ hL => d_lam (kb := 3) hL rfl (by rfl) (u__law_caught v) tk hr (by decide) (by decide) (mk__law_right v).1 hcd (mk__law_right v).2.1 (mk__law_right v).2.2 (LamX.lamS_by (by rfl)) (fun A outer s H E f c' hr tk => (d_own (fun h => pe_own ((f__law_raised v).mono (by decide)) hr tk (by rfl) (u__law_raised v) (kp__law_raised v) h) (da_cons di_int da_nil))))) da_nil)))
    (dss_cons (ds_expr (DI.toE (m_append (pv 2) (da_cons (DE.frz (Exists.elim (l__law_caught (P := P) (w := w) v) fun _ hL => d_lam (kb := 3) hL rfl (by rfl) (u__law_caught v) tk hr (by decide) (by decide) (mk__law_right v).1 hcd (mk__law_right v).2.1 (mk__law_right v).2.2 (LamX.lamS_by (by rfl)) (fun A outer s H E f c' hr tk => (d_own (fun h => pe_own ((f__law_raised v).mono (by decide)) hr tk (by rfl) (u__law_raised v) (kp__law_raised v) h) (da_cons di_int da_nil))))) da_nil))))
    (dss_cons (ds_expr (DI.toE (m_append (pv 2) (da_cons (DE.frz (Exists.elim (l__law_caught (P := P) (w := w) v) fun _ hL => d_lam (kb := 3) hL rfl (by rfl) (u__law_caught v) tk hr (by decide) (by decide) (mk__law_right v).1 hcd (mk__law_right v).2.1 (mk__law_right v).2.2 (LamX.lamS_by (by rfl)) (fun A outer s H E f c' hr tk => (d_own (fun h => pe_own ((f__law_raised v).mono (by decide)) hr tk (by rfl) (u__law_raised v) (kp__law_raised v) h) (da_cons di_int da_nil))))) da_nil))))
    (dss_cons (ds_if (DW.pt (dw_or (t_ne hr (DE.frz (b_len (by rfl) (u_len v) (db_one (dp_var (pv 1))))) (DE.pk (b_len (by rfl) (u_len v) (db_one (DE.pk (x_add (di_var (pv 5)) (dp_var (pv 6)))))))) (dw_or1 (t_neV hr (pv 2) (DE.pk (de_lst (da_cons di_str (da_cons di_str (da_cons di_str da_nil))))))))) (dss_one (ds_ret (DI.toE di_bl))) dss_nil)
    (dss_one (ds_ret (de_and (DE.frz (d_own (fun h => pe_own ((f__law_first_right v).mono (by decide)) hr tk (by rfl) (u__law_first_right v) (kp__law_first_right v) h) (da_cons (di_var (pv 5)) (da_cons (di_var (pv 3)) da_nil)))) (de_one (d_own (fun h => pe_own ((f__law_second_right v).mono (by decide)) hr tk (by rfl) (u__law_second_right v) (kp__law_second_right v) h) (da_cons (di_var (pv 6)) (da_cons (di_var (pv 3)) da_nil)))))))))))))))
def m__law_right : Fm := mir 11 1 g__law_right
theorem o__law_right (v : Ev K mg base) : DefOk (MM K) P w K mg base 6 "_law_right" "_law_right" (top 35) [] (He.ga K "_law_right") ["_law_pot_here"] m__law_right := by
  obtain ⟨fd, F⟩ := v.c.def_ 28 (d := d__law_right) rfl
  exact ⟨fd, F, funD_mirC (M := MM K) F S__law_right (by decide) (fun cdv hc A outer s H E hr tk hp => b__law_right v cdv (code_of (f := (gA "_law_right")) (v.m _ (List.mem_of_getElem? (show tn[0]? = some _ from rfl))) hc) A outer s H E hr tk hp)⟩
theorem f__law_right (v : Ev K mg base) : TS.FnR P w K mg base (L2.CX P w) 6 (He.ga K "_law_right") (spD (MM K) m__law_right) := by
  obtain ⟨fd, F, O⟩ := o__law_right (P := P) (w := w) v
  exact fnR_raw (M := MM K) O (F.bindsN (ps := ["_law_pot_here"]) fun _ _ _ _ _ _ us hl => match us, hl with | [_], _ => rfl)
abbrev g__law_pot_1 : FS := (sAsg (fBin gAdd (frz (fBin gMul (kD (.int 29)) (vP 1))) (kD (.int 11))) (tName 2))
abbrev g__law_pot_2a_1 : FS := (sAsg (fCal gAbs (aOne (frz (fBin gIx (vI 0) (vP 1))))) (tName 2))
abbrev g__law_pot_2 : FS := (sIf (fTst (fBin gLt (vI 1) (frz (fCal gLen (aOne (vP 0)))))) g__law_pot_2a_1 sNil)
abbrev g__law_pot_3 : FS := (sRet (fLst (aCons (frz (fCal gMax (aCons (kD (.int 0)) (aCons (frz (fBin gSub (vI 2) (frz (fBin gPow (kD (.int 10)) (kD (.int 18)))))) aNil)))) (aCons (frz (fBin gAdd (frz (fBin gMod (frz (fCal gInt (aOne (frz (fBin gAdd (frz (fBin gAdd (frz (fBin gMul (frz (fBin gMod (frz (fCal gInt (aOne (vP 2)))) (kD (.int 2147483563)))) (kD (.int 44017)))) (frz (fBin gMul (kD (.int 7129)) (vP 1))))) (kD (.int 53))))))) (kD (.int 2147483629)))) (kD (.int 1)))) aNil))))
def g__law_pot : FS := (sSeq g__law_pot_1 (sSeq g__law_pot_2 g__law_pot_3))
theorem S__law_pot : FnScope ["_law_script", "_law_k", "_law_cell"] ["_law_script", "_law_k"] (defScope (top 23)) := ⟨rfl, rfl, rfl, by decide +kernel, rfl, by decide +kernel, by decide +kernel⟩
theorem kp__law_pot (v : Ev K mg base) : PySem.W.keepIn K (.ref (He.ga K "_law_pot")) = true := (v.c.def_ 29 (d := d__law_pot) rfl).elim fun _ F => F.kp
theorem b__law_pot (v : Ev K mg base) : BodyOk (MM K) P w K mg base 0 "_law_pot" (top 23) (He.ga K "_law_pot") ["_law_script", "_law_k", "_law_cell"] g__law_pot :=
  fun cdv A outer s H E hr tk hp => (dss_cons (ds_set (i := 2) S__law_pot.nd (by rfl) (by first | exact Or.inl rfl | exact Or.inr rfl) (x_add (DE.frz (x_mul di_int (dp_var (pv 1)))) (DI.pk di_int)))
    (dss_cons (ds_if (t_lt (di_var (pv 1)) (DE.pk (b_len (by rfl) (u_len v) (db_one (dp_var (pv 0)))))) (dss_one (ds_set (i := 2) S__law_pot.nd (by rfl) (by first | exact Or.inl rfl | exact Or.inr rfl) (b_abs (by rfl) (u_abs v) (db_one (DE.pk (x_ix hr (di_var (pv 0)) (dp_var (pv 1)))))))) dss_nil)
    (dss_one (ds_ret (de_lst (da_cons (DE.frz (b_max (by rfl) (by rfl) (u_max v) (DA.b (da_cons di_int (da_cons (DE.frz (x_sub (di_var (pv 2)) (DE.pk (x_pow di_int (DI.pk di_int))))) da_nil))))) (da_cons (DE.frz (x_add (DE.frz (x_mod (DE.frz (b_int (by rfl) (u_int v) (db_one (DE.pk (x_add (DE.frz (x_add (DE.frz (x_mul (DE.frz (x_mod (DE.frz (b_int (by rfl) (u_int v) (db_one (dp_var (pv 2))))) (DI.pk di_int))) (DI.pk di_int))) (DE.pk (x_mul di_int (dp_var (pv 1)))))) (DI.pk di_int)))))) (DI.pk di_int))) (DI.pk di_int))) da_nil)))))))
def m__law_pot : Fm := mir 3 2 g__law_pot
theorem o__law_pot (v : Ev K mg base) : DefOk (MM K) P w K mg base 1 "_law_pot" "_law_pot" (top 23) [] (He.ga K "_law_pot") ["_law_script", "_law_k"] m__law_pot := by
  obtain ⟨fd, F⟩ := v.c.def_ 29 (d := d__law_pot) rfl
  exact ⟨fd, F, funD_mir (M := MM K) F S__law_pot (by decide) (fun cdv A outer s H E hr tk hp => b__law_pot v cdv A outer s H E hr tk hp)⟩
theorem f__law_pot (v : Ev K mg base) : TS.FnR P w K mg base (L2.CX P w) 1 (He.ga K "_law_pot") (spD (MM K) m__law_pot) := by
  obtain ⟨fd, F, O⟩ := o__law_pot (P := P) (w := w) v
  exact fnR_raw (M := MM K) O (F.bindsN (ps := ["_law_script", "_law_k"]) fun _ _ _ _ _ _ us hl => match us, hl with | [_, _], _ => rfl)
abbrev g_law_1 : FS := (sRet (fCal gAll (aOne (frz (fLc (stName 1) [1] (itRg1 (frz (fCal gMax (aCons (kD (.int 1)) (aCons (frz (fCal gMin (aCons (kD (.int 6)) (aCons (frz (fCal gLen (aOne (vP 0)))) aNil)))) aNil))))) tTrue (frz (fOwnT m__law_right (fOwn m__law_pot (aCons (vI 0) (aCons (vI 1) aNil))))))))))
def g_law : FS := g_law_1
theorem S_law : FnScope ["_law_script", "_law_k"] ["_law_script"] (defScope (top 36)) := ⟨rfl, rfl, rfl, by decide +kernel, rfl, by decide +kernel, by decide +kernel⟩
theorem b_law (v : Ev K mg base) : BodyOk (MM K) P w K mg base 6 "law" (top 36) (He.ga K "law") ["_law_script", "_law_k"] g_law :=
  fun cdv A outer s H E hr tk hp => (dss_one (ds_ret (b_all (by rfl) (by rfl) (u_all v) (db_one (DE.pk (de_lc (own := [("_law_k", 1)]) (by rfl) (by rfl) S_law.nd (dit_rg1 (by rfl) (u_range v) (DE.frz (b_max (by rfl) (by rfl) (u_max v) (DA.b (da_cons di_int (da_cons (DE.frz (b_min (by rfl) (by rfl) (u_min v) (DA.b (da_cons di_int (da_cons (DE.frz (b_len (by rfl) (u_len v) (db_one (dp_var (pv 0))))) da_nil))))) da_nil)))))) (blkOk_by (by kernel_rfl)) (st_name 1) (fun _ _ _ _ _ => pg_name S_law.nd (by rfl) (by first | exact Or.inl rfl | exact Or.inr rfl)) (fun _ _ _ _ _ => pts_no) (fun _ _ _ _ _ => (DE.frz (d_ownT (fun h => pe_own ((f__law_right v).mono (by decide)) hr TS.takes0 (by rfl) (u__law_right v) (kp__law_right v) h) (d_own (fun h => pe_own ((f__law_pot v).mono (by decide)) hr TS.takes0 (by rfl) (u__law_pot v) (kp__law_pot v) h) (da_cons (di_var (pv 0)) (da_cons (di_var (pv 1)) da_nil))))))))))))
def m_law : Fm := mir 2 1 g_law
theorem o_law (v : Ev K mg base) : DefOk (MM K) P w K mg base 7 "law" "law" (top 36) [] (He.ga K "law") ["_law_script"] m_law := by
  obtain ⟨fd, F⟩ := v.c.def_ 30 (d := d_law) rfl
  exact ⟨fd, F, funD_mir (M := MM K) F S_law (by decide) (fun cdv A outer s H E hr tk hp => b_law v cdv A outer s H E hr tk hp)⟩
end
end K10

namespace K10
open PySem L2 TS
noncomputable section
-- needs:
def Pot (o : OB) : Prop := ∃ a b : Int, o = .l [.int a, .int b] ∧ 0 ≤ a ∧ 0 ≤ b ∧ b < 4294967296
theorem draw_ok {o : OB} (h : Pot o) {m : Int} (h0 : 0 < m) (h1 : m < 1000000000) : ∃ r o', m__law_draw (some o) [.int m] = .ok (.imm (.int r)) (some o') ∧ Pot o' ∧ 0 ≤ r ∧ r < m := by
  obtain ⟨a, b, rfl, ha, hb, hb2⟩ := h
  have hm : m.natAbs < 2 ^ 255 := by omega
  by_cases hp : 0 < a
  · refine ⟨a % m, .l [.int (a / m), .int b], ?_, ⟨_, _, rfl, Int.ediv_nonneg ha (by omega), hb, hb2⟩, Int.emod_nonneg _ (by omega), Int.emod_lt_of_pos _ h0⟩
    simp [m__law_draw, mir, ini, ioS, ioN, outR, ioOut, g__law_draw, atI, ixN, hp, gDivmod_i h0 hm, setOB]
  · have hb' : (b * 48271 + 20011) % 2147483629 < 2147483629 := Int.emod_lt_of_pos _ (by decide)
    have hb0 : 0 ≤ (b * 48271 + 20011) % 2147483629 := Int.emod_nonneg _ (by decide)
    have e1 : gMul (.int b) (.int 48271) = some (.imm (.int (b * 48271))) := gMul_i (by omega) (by decide)
    have e2 : gMul (.int ((b * 48271 + 20011) % 2147483629)) (.int ((b * 48271 + 20011) % 2147483629)) = some (.imm (.int ((b * 48271 + 20011) % 2147483629 * ((b * 48271 + 20011) % 2147483629)))) := gMul_i (by omega) (by omega)
    have e3 : ∀ i : Int, gMod (.int i) (.int 2147483629) = some (.imm (.int (i % 2147483629))) := fun i => gMod_i (by decide)
    have e4 : ∀ i : Int, gMod (.int i) (.int 2147483587) = some (.imm (.int (i % 2147483587))) := fun i => gMod_i (by decide)
    have e5 : ∀ i : Int, gFdiv (.int i) (.int 11) = some (.imm (.int (i / 11))) := fun i => gFdiv_i (by decide) (by decide)
    have e6 : ∀ i : Int, gMod (.int i) (.int m) = some (.imm (.int (i % m))) := fun i => gMod_i h0
    refine ⟨(((b * 48271 + 20011) % 2147483629 * ((b * 48271 + 20011) % 2147483629)) % 2147483587 / 11) % m, .l [.int a, .int ((b * 48271 + 20011) % 2147483629)], ?_, ⟨_, _, rfl, ha, hb0, by omega⟩, Int.emod_nonneg _ (by omega), Int.emod_lt_of_pos _ h0⟩
    simp [m__law_draw, mir, ini, ioS, ioN, outR, ioOut, g__law_draw, atI, ixN, hp, setOB, e1, e2, e3, e4, e5, e6]
end
end K10

namespace K10
open PySem L2 TS
noncomputable section
-- needs: draw
theorem choice_d {o : OB} (h : Pot o) {ds : List D} (h0 : 0 < ds.length) (h1 : ds.length < 1000) : ∃ d o', m__law_choice (some o) [.lst ds] = .ok (.imm d) (some o') ∧ Pot o' ∧ d ∈ ds := by
  obtain ⟨r, o1, e1, p1, a1, b1⟩ := draw_ok h (m := (ds.length : Int)) (by omega) (by omega)
  obtain ⟨n, rfl⟩ : ∃ n : Nat, r = n := ⟨r.toNat, by omega⟩
  have hn : n < ds.length := by omega
  refine ⟨ds[n], o1, ?_, p1, List.getElem_mem hn⟩
  have ix : gIx (.lst ds) (.int (n : Int)) = some (.imm ds[n]) := by
    show (atI ds (n : Int)).map R.imm = _
    rw [atI_in hn]; rfl
  simp [m__law_choice, mir, ini, ioS, ioN, outR, ioOut, g__law_choice, e1, ix, -gIx_l]
end
end K10

namespace K10
open PySem L2 TS
noncomputable section
-- needs:
structure It (p : PyData) : Prop where
  sw : p.showable = true
  ls : p.leavesShort 80 = true
  so : PyData.strOk p.shown = true
  dp : p.depth ≤ 4
  bk : p.bulk ≤ 30
theorem it_all {ps : List PyData} (h : ∀ p ∈ ps, It p) : PyData.showableAll ps = true ∧ PyData.leavesShortAll 80 ps = true ∧ (∀ t ∈ PyData.shownAll ps, PyData.strOk t = true) ∧ PyData.depthAll ps ≤ 5 ∧ PyData.bulkAll ps ≤ 31 * ps.length := by
  induction ps with
  | nil => simp [PyData.showableAll, PyData.leavesShortAll, PyData.shownAll, PyData.depthAll, PyData.bulkAll]
  | cons p ps ih =>
    obtain ⟨h1, h2, h3, h4, h5⟩ := ih fun q hq => h q (by simp [hq])
    have hp := h p (by simp)
    refine ⟨by simp [PyData.showableAll, hp.sw, h1], by simp [PyData.leavesShortAll, hp.ls, h2], ?_, ?_, ?_⟩
    · intro t ht
      rw [PyData.shownAll, List.mem_cons] at ht
      rcases ht with rfl | ht
      · exact hp.so
      · exact h3 t ht
    · have := hp.dp
      simp only [PyData.depthAll]
      omega
    · have := hp.bk
      simp only [PyData.bulkAll, List.length_cons]
      omega
def itD (d : D) : Prop := ∃ p, toPd d = some p ∧ It p
theorem toPds_it : ∀ {xs : List D}, (∀ d ∈ xs, itD d) → ∃ ps, toPds xs = some ps ∧ ps.length = xs.length ∧ ∀ p ∈ ps, It p
  | [], _ => ⟨[], rfl, rfl, by simp⟩
  | d :: xs, h => by
    obtain ⟨p, e, hp⟩ := h d (by simp)
    obtain ⟨ps, e2, l, hps⟩ := toPds_it (xs := xs) fun q hq => h q (by simp [hq])
    exact ⟨p :: ps, by simp [toPds, e, e2], by simp [l], fun q hq => by rcases List.mem_cons.mp hq with rfl | hq; exact hp; exact hps q hq⟩
theorem textOk {d : D} {p : PyData} (e : toPd d = some p) (h1 : p.showable = true) (h2 : p.depth ≤ 32) (h3 : p.shown.length ≤ 16777216) (h4 : PyData.strOk p.shown = true) : ∃ X, gReprD d = some X ∧ gNe (.str X) (.str X) = some (.imm (.bl false)) ∧ PyData.strOk X = true := by
  have hs : shOkD p = true := gd_true ⟨h1, h2, h3⟩
  refine ⟨p.shown, ?_, gNe_self (p := .str p.shown) (by simp [toP]) (shaped_str h4), h4⟩
  simp only [gReprD, e, hs, if_true]
theorem repr_lst {xs : List D} (h : ∀ d ∈ xs, itD d) (hl : xs.length ≤ 3000) : ∃ X, gReprD (.lst xs) = some X ∧ gNe (.str X) (.str X) = some (.imm (.bl false)) ∧ PyData.strOk X = true := by
  obtain ⟨ps, e, l, hps⟩ := toPds_it h
  obtain ⟨h1, h2, h3, h4, h5⟩ := it_all hps
  have hb := PyData.shown_le_bulk 80 (by decide) (.list ps) (by simpa [PyData.leavesShort] using h2)
  simp only [PyData.bulk] at hb
  refine textOk (p := .list ps) (by simp [toPd, e]) (by simpa [PyData.showable] using h1) (by simp only [PyData.depth]; omega) (by omega) ?_
  unfold PyData.shown listText
  exact strOk_app (strOk_from _ _ _ (strOk_of _) h3) (strOk_of _)
theorem repr_tup {xs : List D} (h : ∀ d ∈ xs, itD d) (hl : xs.length ≤ 3000) : ∃ X, gReprD (.tup xs) = some X ∧ gNe (.str X) (.str X) = some (.imm (.bl false)) ∧ PyData.strOk X = true := by
  obtain ⟨ps, e, l, hps⟩ := toPds_it h
  obtain ⟨h1, h2, h3, h4, h5⟩ := it_all hps
  have hb := PyData.shown_le_bulk 80 (by decide) (.tuple ps) (by simpa [PyData.leavesShort] using h2)
  simp only [PyData.bulk] at hb
  refine textOk (p := .tuple ps) (by simp [toPd, e]) (by simpa [PyData.showable] using h1) (by simp only [PyData.depth]; omega) (by omega) ?_
  unfold PyData.shown tupleText
  exact strOk_app (strOk_app (strOk_of _) (strOk_join _ h3)) (strOk_of _)
theorem it_int {i : Int} (h : i.natAbs < 2 ^ 255) : itD (.int i) := by
  have f : fine (.int i) := by unfold fine; exact h
  obtain ⟨h1, _, h3⟩ := fine_show _ f
  exact ⟨.int i, rfl, h1, h3, fine_text _ f, by simp [PyData.depth], by simp [PyData.bulk]⟩
theorem it_of {d : D} {p : PyData} (e : toPd d = some p) (h : (p.showable && (p.leavesShort 80 && (PyData.strOk p.shown && (decide (p.depth ≤ 4) && decide (p.bulk ≤ 30))))) = true) : itD d := by
  simp only [Bool.and_eq_true, decide_eq_true_eq] at h
  exact ⟨p, e, h.1, h.2.1, h.2.2.1, h.2.2.2.1, h.2.2.2.2⟩
end
end K10

namespace K10
open PySem L2 TS
noncomputable section
-- needs: draw
theorem pot_ok (ns : List Int) (k : Nat) (hk : k < 100) : ∃ o, m__law_pot none [.scr (ns.map D.int), .int (k : Int)] = .ok (.own o) none ∧ Pot o := by
  have m23 : gMul (.int 29) (.int (k : Int)) = some (.imm (.int (29 * (k : Int)))) := gMul_i (by decide) (by omega)
  have m79 : gMul (.int 7129) (.int (k : Int)) = some (.imm (.int (7129 * (k : Int)))) := gMul_i (by decide) (by omega)
  have e3 : ∀ i : Int, gMod (.int i) (.int 2147483629) = some (.imm (.int (i % 2147483629))) := fun i => gMod_i (by decide)
  have e4 : ∀ i : Int, gMod (.int i) (.int 2147483563) = some (.imm (.int (i % 2147483563))) := fun i => gMod_i (by decide)
  have e5 : ∀ i : Int, gMul (.int (i % 2147483563)) (.int 44017) = some (.imm (.int (i % 2147483563 * 44017))) := fun i => by
    have h1 := Int.emod_nonneg i (show (2147483563 : Int) ≠ 0 by decide)
    have h2 := Int.emod_lt_of_pos i (show (0 : Int) < 2147483563 by decide)
    exact gMul_i (by omega) (by decide)
  have key : ∀ c : Int, Pot (.l [.int (if c - 1000000000000000000 > 0 then c - 1000000000000000000 else 0), .int ((c % 2147483563 * 44017 + 7129 * (k : Int) + 53) % 2147483629 + 1)]) := fun c => by
    refine ⟨_, _, rfl, by split <;> omega, ?_, ?_⟩
    · have := Int.emod_nonneg (c % 2147483563 * 44017 + 7129 * (k : Int) + 53) (show (2147483629 : Int) ≠ 0 by decide); omega
    · have := Int.emod_lt_of_pos (c % 2147483563 * 44017 + 7129 * (k : Int) + 53) (show (0 : Int) < 2147483629 by decide); omega
  by_cases h : k < ns.length
  · have hx : gIx (.scr (ns.map D.int)) (.int (k : Int)) = some (.imm (.int ns[k])) := by
      show (atI (ns.map D.int) (k : Int)).map R.imm = _
      rw [show ns.map D.int = iL ns from rfl, atI_ints, atI_in h]; rfl
    have hl : ((k : Int) < (ns.length : Int)) := by omega
    refine ⟨_, ?_, key (if ns[k] < 0 then -ns[k] else ns[k])⟩
    simp [m__law_pot, mir, ini, ioS, ioN, outR, ioOut, g__law_pot, m23, m79, e3, e4, e5, hx, h, pow_18]
  · refine ⟨_, ?_, key (29 * (k : Int) + 11)⟩
    simp [m__law_pot, mir, ini, ioS, ioN, outR, ioOut, g__law_pot, m23, m79, e3, e4, e5, h, pow_18]
end
end K10

namespace K10
open PySem L2 TS
noncomputable section
-- needs: choiced reprd pot
theorem tell_it {d : D} (h : itD d) : ∃ X, gReprD d = some X ∧ gEq (.str X) (.str X) = some (.imm (.bl true)) := by
  obtain ⟨p, e, hp⟩ := h
  have hl := PyData.shown_le_bulk 80 (by decide) p hp.ls
  have hb := hp.bk
  have hd := hp.dp
  obtain ⟨X, e1, _, e3⟩ := textOk e hp.sw (by omega) (by
    have : 80 * p.bulk ≤ 80 * 30 := Nat.mul_le_mul_left _ hb
    omega) hp.so
  exact ⟨X, e1, by rw [gEq_str e3 e3]; simp⟩
theorem tell_lst {xs : List D} (h : ∀ d ∈ xs, itD d) (hl : xs.length ≤ 3000) : ∃ X, gReprD (.lst xs) = some X ∧ gEq (.str X) (.str X) = some (.imm (.bl true)) := by
  obtain ⟨X, e1, _, e3⟩ := repr_lst h hl
  exact ⟨X, e1, by rw [gEq_str e3 e3]; simp⟩
theorem tell_tup {xs : List D} (h : ∀ d ∈ xs, itD d) (hl : xs.length ≤ 3000) : ∃ X, gReprD (.tup xs) = some X ∧ gEq (.str X) (.str X) = some (.imm (.bl true)) := by
  obtain ⟨X, e1, _, e3⟩ := repr_tup h hl
  exact ⟨X, e1, by rw [gEq_str e3 e3]; simp⟩
def paD (odd ta tb tc sp : D) (size rank : Int) : D := .tup [odd, .tup [ta, tb, tc], sp, .int size, .int rank]
structure PP (odd ta tb tc sp : D) (size rank : Int) : Prop where
  o : itD odd
  a : itD ta
  b : itD tb
  c : itD tc
  s : itD sp
  z : size.natAbs < 2 ^ 255
  r : rank.natAbs < 2 ^ 255
theorem parts_ok {o : OB} (h : Pot o) : ∃ odd ta tb tc sp size rank o', m__law_parts (some o) [] = .ok (.imm (paD odd ta tb tc sp size rank)) (some o') ∧ Pot o' ∧ PP odd ta tb tc sp size rank := by
  obtain ⟨d1, o1, e1, p1, m1⟩ := choice_d h (ds := [.non, .bl true, .str "", .str "1", .tup [.int 2, .int 4], .lst [], .dK [] [], .tup [.str "line", .int 0, .int 0], .int (-3), .str "A", .str "period  f"]) (by simp) (by simp)
  obtain ⟨r, o2, e2, p2, r0, r1⟩ := draw_ok p1 (m := 60) (by decide) (by decide)
  obtain ⟨d2, o3, e3, p3, m2⟩ := choice_d p2 (ds := [.tup [.str "table", .non, .non], .tup [.str "integer", .int r, .non], .tup [.str "meeting", .int 5, .int 2]]) (by simp) (by simp)
  obtain ⟨d3, o4, e4, p4, m3⟩ := choice_d p3 (ds := [.tup [.int 1, .int 1], .tup [.int (-3), .int 2], .tup [.int 0, .int 1], .tup [.int 100000000000000000000, .int 7]]) (by simp) (by simp)
  obtain ⟨r5, o5, e5, p5, a5, b5⟩ := draw_ok p4 (m := 5000) (by decide) (by decide)
  obtain ⟨r6, o6, e6, p6, a6, b6⟩ := draw_ok p5 (m := 41) (by decide) (by decide)
  have i1 : itD d1 := by
    simp only [List.mem_cons, List.not_mem_nil, or_false] at m1
    rcases m1 with rfl | rfl | rfl | rfl | rfl | rfl | rfl | rfl | rfl | rfl | rfl <;> exact it_of rfl (by decide +kernel)
  have i3 : itD d3 := by
    simp only [List.mem_cons, List.not_mem_nil, or_false] at m3
    rcases m3 with rfl | rfl | rfl | rfl <;> exact it_of rfl (by decide +kernel)
  obtain ⟨ta, tb, tc, et, ia, ib, ic⟩ : ∃ ta tb tc, d2 = .tup [ta, tb, tc] ∧ itD ta ∧ itD tb ∧ itD tc := by
    simp only [List.mem_cons, List.not_mem_nil, or_false] at m2
    rcases m2 with rfl | rfl | rfl
    · exact ⟨_, _, _, rfl, it_of rfl (by decide +kernel), it_of rfl (by decide +kernel), it_of rfl (by decide +kernel)⟩
    · exact ⟨_, _, _, rfl, it_of rfl (by decide +kernel), it_int (by omega), it_of rfl (by decide +kernel)⟩
    · exact ⟨_, _, _, rfl, it_of rfl (by decide +kernel), it_int (by decide), it_int (by decide)⟩
  subst et
  have gp : gPow (.int 10) (.int 20) = some (.imm (.int 100000000000000000000)) := by rw [gPow_i (by decide) (by decide) (by decide)]; rfl
  refine ⟨d1, ta, tb, tc, d3, 1 + r5, r6 - 20, o6, ?_, p6, i1, ia, ib, ic, i3, by omega, by omega⟩
  unfold paD
  (unfold m__law_parts g__law_parts; unfold mir; rw [if_pos (by simp [ioN])]; simp only [ini, ioS, ioN, List.replicate, List.map_cons, List.map_nil, List.length_cons, List.length_nil, List.nil_append, List.cons_append, Nat.zero_add, Nat.reduceAdd, Nat.reduceSub])
  simp [gp, e1, e2, e3, e4, e5, e6, OB.toD, outR, ioOut]
def clsN : List Nat := [100, 101, 104, 106, 108, 109, 102, 103, 107, 105, 110, 111, 112, 113, 114, 117, 115, 116]
def spd (sp : D) (size : Int) : D := .tup [.str "speed", sp, .int size, .int 0]
def firstL (odd ta tb tc sp : D) (size rank : Int) : List D := [.ex 100 [odd], .ex 100 [odd], .ex 101 [odd], .ex 101 [odd], .ex 104 [odd], .ex 104 [odd], .ex 106 [odd], .ex 106 [odd], .ex 108 [odd], .ex 108 [odd], .ex 109 [odd], .ex 109 [odd],
  .ex 102 [tc, tb, ta], .ex 102 [tc, tb, ta], .ex 103 [.int size], .ex 103 [.int size], .ex 107 [.int size], .ex 107 [.int size], .ex 105 [ta], .ex 105 [ta]]
def secondL (odd ta tb tc sp : D) (size rank : Int) : List D := [.ex 110 [.int rank, sp], .ex 110 [.int rank, sp], .ex 111 [.int size, sp], .ex 111 [.int size, sp], .ex 112 [spd sp size], .ex 112 [spd sp size], .ex 113 [.int rank], .ex 113 [.int rank],
  .ex 114 [odd], .ex 114 [odd], .ex 117 [], .ex 117 [], .ex 115 [.int size], .ex 115 [.int size], .ex 116 [.int size], .ex 116 [.int size]]
theorem ap_fMkX (n k : Nat) (fa : FA) (δ : Sl) : fMkX n k fa δ = (fa δ).bind fun ds δ1 => if ds.length = k then .ok (.ex n ds.reverse) δ1 else .bad := rfl
theorem ap_fMkXK (n k : Nat) (ix : List Nat) (fa : FA) (δ : Sl) : fMkXK n k ix fa δ = (fa δ).bind fun ds δ1 => if ds.length = k then .ok (.ex n (ix.map fun j => ds.getD j .non).reverse) δ1 else .bad := rfl
theorem ap_fMkX0 (n : Nat) (δ : Sl) : fMkX0 n δ = .ok (.ex n []) δ := rfl
section
variable {odd ta tb tc sp : D} {size rank : Int}
theorem first_ok : m__law_first none [paD odd ta tb tc sp size rank] = .ok (.own (.l (firstL odd ta tb tc sp size rank))) none := by
  unfold paD firstL
  have g0 : gIx (.tup [ta, tb, tc]) (.int 0) = some (.imm ta) := rfl
  have g1 : gIx (.tup [ta, tb, tc]) (.int 1) = some (.imm tb) := rfl
  have g2 : gIx (.tup [ta, tb, tc]) (.int 2) = some (.imm tc) := rfl
  have ga : ∀ xs ys : List D, xs.length + ys.length ≤ 16777216 → gAdd (.lst xs) (.lst ys) = some (.own (.l (xs ++ ys))) := fun xs ys h => by simp [gAdd, gOr, gI, gCat, gd, h]
  (unfold m__law_first g__law_first; unfold mir; rw [if_pos (by simp [ioN])]; simp only [ini, ioS, ioN, List.replicate, List.map_cons, List.map_nil, List.length_cons, List.length_nil, List.nil_append, List.cons_append, Nat.zero_add, Nat.reduceAdd, Nat.reduceSub])
  simp [ap_fMkX, ap_fMkXK, g0, g1, g2, ga, OB.toD, outR, ioOut]
theorem second_ok : m__law_second none [paD odd ta tb tc sp size rank] = .ok (.own (.l (secondL odd ta tb tc sp size rank))) none := by
  unfold paD secondL spd
  have ga : ∀ xs ys : List D, xs.length + ys.length ≤ 16777216 → gAdd (.lst xs) (.lst ys) = some (.own (.l (xs ++ ys))) := fun xs ys h => by simp [gAdd, gOr, gI, gCat, gd, h]
  (unfold m__law_second g__law_second; unfold mir; rw [if_pos (by simp [ioN])]; simp only [ini, ioS, ioN, List.replicate, List.map_cons, List.map_nil, List.length_cons, List.length_nil, List.nil_append, List.cons_append, Nat.zero_add, Nat.reduceAdd, Nat.reduceSub])
  simp [ap_fMkX, ap_fMkXK, ap_fMkX0, ga, OB.toD, outR, ioOut]
end
theorem ap_fXisi (tab : Nat → Option Bool) (fe : FD) (δ : Sl) : fXisi tab fe δ = (fe δ).bind fun d δ1 => match d with
  | .ex n _ => (match tab n with
    | some b => .ok (.bl b) δ1
    | none => .bad)
  | _ => .bad := rfl
theorem ap_fXa (tab : Nat → Option Nat) (fe : FD) (δ : Sl) : fXa tab fe δ = (fe δ).bind fun d δ1 => match d with
  | .ex n vs => (match tab n with
    | some j => (match vs[j]? with
      | some u => .ok u δ1
      | none => .bad)
    | none => .bad)
  | _ => .bad := rfl
def mkB (p : Nat) : List D := (List.range 18).map fun k => .bl (decide (k = p))
theorem ga_l (xs ys : List D) (h : xs.length + ys.length ≤ 16777216) : gAdd (.lst xs) (.lst ys) = some (.own (.l (xs ++ ys))) := by simp [gAdd, gOr, gI, gCat, gd, h]
theorem marks_ok (vs : List D) : ∀ p < 18, m__law_marks none [.ex (clsN.getD p 0) vs] = .ok (.own (.l (mkB p))) none := fun p hp => by
  have key : ∀ n : Nat, ∀ b : Fin 18 → Bool, xi_InvalidInteger n = some (b 0) → xi_InvalidRatio n = some (b 1) → xi_InvalidAddress n = some (b 2) → xi_InvalidValue n = some (b 3) → xi_InvalidName n = some (b 4) → xi_InvalidLine n = some (b 5) →
      xi_InvalidTable n = some (b 6) → xi_InvalidPair n = some (b 7) → xi_InvalidFormula n = some (b 8) → xi_InvalidProfile n = some (b 9) → xi_NoTrack n = some (b 10) → xi_NoRoot n = some (b 11) → xi_NoRenaming n = some (b 12) → xi_NoFactors n = some (b 13) → xi_UnknownName n = some (b 14) →
      xi_NothingToUndo n = some (b 15) → xi_TooLong n = some (b 16) → xi_TooMany n = some (b 17) →
      m__law_marks none [.ex n vs] = .ok (.own (.l [.bl (b 0), .bl (b 1), .bl (b 2), .bl (b 3), .bl (b 4), .bl (b 5), .bl (b 6), .bl (b 7), .bl (b 8), .bl (b 9), .bl (b 10), .bl (b 11), .bl (b 12), .bl (b 13), .bl (b 14), .bl (b 15), .bl (b 16), .bl (b 17)])) none := fun n b h0 h1 h2 h3 h4 h5 h6 h7 h8 h9 h10 h11 h12 h13 h14 h15 h16 h17 => by
    (unfold m__law_marks g__law_marks; unfold mir; rw [if_pos (by simp [ioN])]; simp only [ini, ioS, ioN, List.replicate, List.map_cons, List.map_nil, List.length_cons, List.length_nil, List.nil_append, List.cons_append, Nat.zero_add, Nat.reduceAdd, Nat.reduceSub])
    simp [ap_fXisi, ga_l, h0, h1, h2, h3, h4, h5, h6, h7, h8, h9, h10, h11, h12, h13, h14, h15, h16, h17, OB.toD, outR, ioOut]
  have e : ∀ q : Fin 18, xi_InvalidInteger (clsN.getD q.1 0) = some (decide (0 = q.1)) ∧ xi_InvalidRatio (clsN.getD q.1 0) = some (decide (1 = q.1)) ∧ xi_InvalidAddress (clsN.getD q.1 0) = some (decide (2 = q.1)) ∧ xi_InvalidValue (clsN.getD q.1 0) = some (decide (3 = q.1)) ∧ xi_InvalidName (clsN.getD q.1 0) = some (decide (4 = q.1)) ∧ xi_InvalidLine (clsN.getD q.1 0) = some (decide (5 = q.1)) ∧
      xi_InvalidTable (clsN.getD q.1 0) = some (decide (6 = q.1)) ∧ xi_InvalidPair (clsN.getD q.1 0) = some (decide (7 = q.1)) ∧ xi_InvalidFormula (clsN.getD q.1 0) = some (decide (8 = q.1)) ∧ xi_InvalidProfile (clsN.getD q.1 0) = some (decide (9 = q.1)) ∧ xi_NoTrack (clsN.getD q.1 0) = some (decide (10 = q.1)) ∧ xi_NoRoot (clsN.getD q.1 0) = some (decide (11 = q.1)) ∧ xi_NoRenaming (clsN.getD q.1 0) = some (decide (12 = q.1)) ∧ xi_NoFactors (clsN.getD q.1 0) = some (decide (13 = q.1)) ∧ xi_UnknownName (clsN.getD q.1 0) = some (decide (14 = q.1)) ∧
      xi_NothingToUndo (clsN.getD q.1 0) = some (decide (15 = q.1)) ∧ xi_TooLong (clsN.getD q.1 0) = some (decide (16 = q.1)) ∧ xi_TooMany (clsN.getD q.1 0) = some (decide (17 = q.1)) := by decide +kernel
  obtain ⟨h0, h1, h2, h3, h4, h5, h6, h7, h8, h9, h10, h11, h12, h13, h14, h15, h16, h17⟩ := e ⟨p, hp⟩
  exact key _ (fun k => decide (k.1 = p)) h0 h1 h2 h3 h4 h5 h6 h7 h8 h9 h10 h11 h12 h13 h14 h15 h16 h17
theorem gIn_t (x : Int) (xs : List Int) : gIn (.int x) (.tup (iL xs)) = some (.imm (.bl (decide (x ∈ xs)))) := by
  have fl : (iL xs).all flatD = true := flat_iL xs
  have e : inD (.int x) (iL xs) = decide (x ∈ xs) := by
    unfold inD
    induction xs with
    | nil => rfl
    | cons y ys ih =>
      have ih := ih (flat_iL ys)
      rw [iL_cons, List.any_cons, ih]
      have : eqFl (.int y) (.int x) = decide (x = y) := by
        simp only [eqFl]
        by_cases z : x = y
        · subst z; simp
        · have : y ≠ x := fun h => z h.symm
          simp [z, this]
      rw [this]
      simp [List.mem_cons]
  show (if flatD (.int x) && (iL xs).all flatD then some (R.imm (.bl (inD (.int x) (iL xs)))) else none) = _
  rw [fl, e]
  rfl
theorem toPs_bl : ∀ bs : List Bool, toPs (bs.map D.bl) = some (bs.map PyData.bool)
  | [] => rfl
  | b :: bs => by
    have e := toPs_bl bs
    show toPs (D.bl b :: bs.map D.bl) = _
    simp [toPs, toP, e]
theorem sh_bl (bs : List Bool) : SeqAt.shaped (.list (bs.map PyData.bool)) = true := by
  have : ∀ bs : List Bool, PyData.canLayAll0 (bs.map PyData.bool) = true ∧ PyData.depthAll (bs.map PyData.bool) ≤ 1 := by
    intro bs
    induction bs with
    | nil => simp [PyData.canLayAll0, PyData.depthAll]
    | cons b bs ih =>
      simp only [List.map_cons, PyData.canLayAll0, PyData.depthAll, PyData.canLay0, PyData.depth, ih.1, Bool.and_self]
      exact ⟨trivial, by have := ih.2; omega⟩
  obtain ⟨h1, h2⟩ := this bs
  unfold SeqAt.shaped
  rw [Bool.and_eq_true]
  refine ⟨by simp only [PyData.canLay0]; exact h1, decide_eq_true ?_⟩
  simp only [PyData.depth]
  omega
theorem eq_bl (bs : List Bool) : gEq (.lst (bs.map D.bl)) (.lst (bs.map D.bl)) = some (.imm (.bl true)) := gEq_self (p := .list (bs.map PyData.bool)) (by simp [toP, toPs_bl]) (sh_bl bs)
theorem ne_bls (bs : List Bool) : gNe (.lst (bs.map D.bl)) (.lst (bs.map D.bl)) = some (.imm (.bl false)) := gNe_self (p := .list (bs.map PyData.bool)) (by simp [toP, toPs_bl]) (sh_bl bs)
theorem above_ok (vs : List D) : ∀ p < 18, m__law_above_right none [.ex (clsN.getD p 0) vs, .int (p : Int)] = .ok (.imm (.bl true)) none := fun p hp => by
  have e : ∀ q : Fin 18, xi_ThreeswapsError (clsN.getD q.1 0) = some (decide (q.1 ≤ 9)) ∧ xi_AbsentError (clsN.getD q.1 0) = some (decide (9 < q.1 ∧ q.1 ≤ 15)) ∧ xi_LimitError (clsN.getD q.1 0) = some (decide (15 < q.1)) ∧
     xi_ValueError (clsN.getD q.1 0) = some (decide (q.1 ≤ 9)) ∧ xi_LookupError (clsN.getD q.1 0) = some (decide (9 < q.1 ∧ q.1 ≤ 15)) ∧ xi_ArithmeticError (clsN.getD q.1 0) = some (decide (15 < q.1)) := by decide +kernel
  obtain ⟨h0, h1, h2, h3, h4, h5⟩ := e ⟨p, hp⟩
  generalize clsN.getD p 0 = n at *
  simp only at h0 h1 h2 h3 h4 h5
  have q0 := eq_bl [true, false, false, true, false, false]
  have q1 := eq_bl [false, true, false, false, true, false]
  have q2 := eq_bl [false, false, true, false, false, true]
  simp only [List.map_cons, List.map_nil] at q0 q1 q2
  have rg : ∀ δ : Sl, itRg1 (kD (.int 6)) δ = .ok [.int 0, .int 1, .int 2, .int 3, .int 4, .int 5] δ := fun δ => itRg1_ok (k := 6) (by decide) (by simp)
  have inb : ∀ a b c : Int, gIn (.int a) (.tup [.int b, .int c]) = some (.imm (.bl (decide (a = b) || decide (a = c)))) := fun a b c => by
    have := gIn_t a [b, c]
    simpa [iL] using this
  rcases Nat.lt_or_ge 9 p with z | z
  · rcases Nat.lt_or_ge 15 p with z2 | z2
    · have a1 : (9 : Int) < p := by omega
      have a2 : (15 : Int) < p := by omega
      rw [decide_eq_false (by omega)] at h0 h1 h3 h4
      rw [decide_eq_true z2] at h2 h5
      (unfold m__law_above_right g__law_above_right; unfold mir; rw [if_pos (by simp [ioN])]; simp only [ini, ioS, ioN, List.replicate, List.map_cons, List.map_nil, List.length_cons, List.length_nil, List.nil_append, List.cons_append, Nat.zero_add, Nat.reduceAdd, Nat.reduceSub])
      simp [ap_fXisi, ga_l, h0, h1, h2, h3, h4, h5, a1, a2, fLc, lcL, stName, noX, wipeD, restD, freeS, rg, inb, q2, gInt, OB.toD, outR, ioOut]
    · have a1 : (9 : Int) < p := by omega
      have a2 : ¬ (15 : Int) < p := by omega
      rw [decide_eq_false (by omega)] at h0 h2 h3 h5
      rw [decide_eq_true ⟨z, z2⟩] at h1 h4
      (unfold m__law_above_right g__law_above_right; unfold mir; rw [if_pos (by simp [ioN])]; simp only [ini, ioS, ioN, List.replicate, List.map_cons, List.map_nil, List.length_cons, List.length_nil, List.nil_append, List.cons_append, Nat.zero_add, Nat.reduceAdd, Nat.reduceSub])
      simp [ap_fXisi, ga_l, h0, h1, h2, h3, h4, h5, a1, a2, fLc, lcL, stName, noX, wipeD, restD, freeS, rg, inb, q1, gInt, OB.toD, outR, ioOut]
  · have a1 : ¬ (9 : Int) < p := by omega
    have a2 : ¬ (15 : Int) < p := by omega
    rw [decide_eq_false (by omega)] at h1 h2 h4 h5
    rw [decide_eq_true z] at h0 h3
    (unfold m__law_above_right g__law_above_right; unfold mir; rw [if_pos (by simp [ioN])]; simp only [ini, ioS, ioN, List.replicate, List.map_cons, List.map_nil, List.length_cons, List.length_nil, List.nil_append, List.cons_append, Nat.zero_add, Nat.reduceAdd, Nat.reduceSub])
    simp [ap_fXisi, ga_l, h0, h1, h2, h3, h4, h5, a1, a2, fLc, lcL, stName, noX, wipeD, restD, freeS, rg, inb, q0, gInt, OB.toD, outR, ioOut]
theorem raised0 : m__law_raised none [.int 0] = .exc ⟨102, [.int 0, .int 1, .str "meeting"]⟩ none := by
  (unfold m__law_raised g__law_raised; unfold mir; rw [if_pos (by simp [ioN])]; simp only [ini, ioS, ioN, List.replicate, List.map_cons, List.map_nil, List.length_cons, List.length_nil, List.nil_append, List.cons_append, Nat.zero_add, Nat.reduceAdd, Nat.reduceSub])
  simp [sRaise, outR, ioOut]
theorem raised1 : m__law_raised none [.int 1] = .exc ⟨110, [.int 0, .tup [.int 1, .int 2]]⟩ none := by
  (unfold m__law_raised g__law_raised; unfold mir; rw [if_pos (by simp [ioN])]; simp only [ini, ioS, ioN, List.replicate, List.map_cons, List.map_nil, List.length_cons, List.length_nil, List.nil_append, List.cons_append, Nat.zero_add, Nat.reduceAdd, Nat.reduceSub])
  simp [sRaise, outR, ioOut]
theorem raised2 : m__law_raised none [.int 2] = .exc ⟨116, [.int 5063]⟩ none := by
  (unfold m__law_raised g__law_raised; unfold mir; rw [if_pos (by simp [ioN])]; simp only [ini, ioS, ioN, List.replicate, List.map_cons, List.map_nil, List.length_cons, List.length_nil, List.nil_append, List.cons_append, Nat.zero_add, Nat.reduceAdd, Nat.reduceSub])
  simp [sRaise, outR, ioOut]
theorem caught0 : m__law_caught (.exc ⟨102, [.int 0, .int 1, .str "meeting"]⟩ []) none [.lam] = .ok (.imm (.str "value")) none := by
  (unfold m__law_caught g__law_caught; unfold mir; rw [if_pos (by simp [ioN])]; simp only [ini, ioS, ioN, List.replicate, List.map_cons, List.map_nil, List.length_cons, List.length_nil, List.nil_append, List.cons_append, Nat.zero_add, Nat.reduceAdd, Nat.reduceSub])
  simp [sTryP, fRes, hCons, show xm_ThreeswapsError 102 = some true from rfl, outR, ioOut]
theorem caught1 : m__law_caught (.exc ⟨110, [.int 0, .tup [.int 1, .int 2]]⟩ []) none [.lam] = .ok (.imm (.str "absent")) none := by
  (unfold m__law_caught g__law_caught; unfold mir; rw [if_pos (by simp [ioN])]; simp only [ini, ioS, ioN, List.replicate, List.map_cons, List.map_nil, List.length_cons, List.length_nil, List.nil_append, List.cons_append, Nat.zero_add, Nat.reduceAdd, Nat.reduceSub])
  simp [sTryP, fRes, hCons, show xm_ThreeswapsError 110 = some false from rfl, show xm_AbsentError 110 = some true from rfl, outR, ioOut]
theorem caught2 : m__law_caught (.exc ⟨116, [.int 5063]⟩ []) none [.lam] = .ok (.imm (.str "limit")) none := by
  (unfold m__law_caught g__law_caught; unfold mir; rw [if_pos (by simp [ioN])]; simp only [ini, ioS, ioN, List.replicate, List.map_cons, List.map_nil, List.length_cons, List.length_nil, List.nil_append, List.cons_append, Nat.zero_add, Nat.reduceAdd, Nat.reduceSub])
  simp [sTryP, fRes, hCons, show xm_ThreeswapsError 116 = some false from rfl, show xm_AbsentError 116 = some false from rfl, show xm_LimitError 116 = some true from rfl, outR, ioOut]
theorem all_cmp {fi : FA} {fe : FD} {δ δ1 : Sl} (L : List D) (h1 : fi δ = .ok L δ1) (hlen : L.length ≤ 16777216) (hf : freeS δ1 7 = true) (he : ∀ d ∈ L, fe (δ1.set 7 (some (.imm d))) = .ok (.bl true) (δ1.set 7 (some (.imm d)))) :
    fLc (stName 7) [7] fi tTrue fe δ = .ok (.own (.l (L.map fun _ => .bl true))) δ1 :=
  lc_map (xs := L) (inj := fun d => d) (fun _ => .bl true) (by rw [List.map_id']; exact h1) hf hlen he
theorem gAll_tt (L : List D) : gAll [.lst (L.map fun _ => .bl true)] = some (.imm (.bl true)) := by
  have : ∀ L : List D, blsOf (L.map fun _ => D.bl true) = some (L.map fun _ => true) := by
    intro L
    induction L with
    | nil => rfl
    | cons x L ih => simp [blsOf, ih]
  simp [gAll, this]
section
variable {odd ta tb tc sp : D} {size rank : Int}
theorem first_right_ok (h : PP odd ta tb tc sp size rank) : m__law_first_right none [.lst (firstL odd ta tb tc sp size rank), paD odd ta tb tc sp size rank] = .ok (.imm (.bl true)) none := by
  obtain ⟨X1, a1, b1⟩ := tell_it h.o
  obtain ⟨X3, a3, b3⟩ := tell_it (it_int h.z)
  obtain ⟨X2, a2, b2⟩ := tell_lst (xs := [ta, tb, tc]) (by
    intro d hd
    simp only [List.mem_cons, List.not_mem_nil, or_false] at hd
    rcases hd with rfl | rfl | rfl
    · exact h.a
    · exact h.b
    · exact h.c) (by simp)
  obtain ⟨X4, a4, b4⟩ := tell_it h.a
  have v1 : ∀ n ∈ [100, 101, 104, 106, 108, 109], xf_value n = some 0 := by decide +kernel
  have v2 : xf_problem 102 = some 2 ∧ xf_position 102 = some 1 ∧ xf_earlier 102 = some 0 := ⟨rfl, rfl, rfl⟩
  have v3 : xf_position 103 = some 0 ∧ xf_position 107 = some 0 ∧ xf_problem 105 = some 0 := ⟨rfl, rfl, rfl⟩
  simp only [List.mem_cons, List.not_mem_nil, or_false, forall_eq_or_imp, forall_eq] at v1
  obtain ⟨w1, w2, w3, w4, w5, w6⟩ := v1
  have g0 : gIx (.tup [ta, tb, tc]) (.int 0) = some (.imm ta) := rfl
  have gl : gList [.tup [ta, tb, tc]] = some (.own (.l [ta, tb, tc])) := rfl
  have sl : ∀ (L : List D) (a b : Option Int), gSl (.lst L) a b = some (.own (.l (cutD L a b))) := fun _ _ _ => rfl
  have c2 : ∀ a b c d e f g h i j k l m n o p q r s t : D, cutD [a, b, c, d, e, f, g, h, i, j, k, l, m, n, o, p, q, r, s, t] none (some 12) = [a, b, c, d, e, f, g, h, i, j, k, l] := fun _ _ _ _ _ _ _ _ _ _ _ _ _ _ _ _ _ _ _ _ => rfl
  have c3 : ∀ a b c d e f g h i j k l m n o p q r s t : D, cutD [a, b, c, d, e, f, g, h, i, j, k, l, m, n, o, p, q, r, s, t] (some 12) (some 14) = [m, n] := fun _ _ _ _ _ _ _ _ _ _ _ _ _ _ _ _ _ _ _ _ => rfl
  have c4 : ∀ a b c d e f g h i j k l m n o p q r s t : D, cutD [a, b, c, d, e, f, g, h, i, j, k, l, m, n, o, p, q, r, s, t] (some 14) (some 18) = [o, p, q, r] := fun _ _ _ _ _ _ _ _ _ _ _ _ _ _ _ _ _ _ _ _ => rfl
  have c5 : ∀ a b c d e f g h i j k l m n o p q r s t : D, cutD [a, b, c, d, e, f, g, h, i, j, k, l, m, n, o, p, q, r, s, t] (some 18) none = [s, t] := fun _ _ _ _ _ _ _ _ _ _ _ _ _ _ _ _ _ _ _ _ => rfl
  have q2 : fLc (stName 7) [7] (itSeq (frz (fSl (vI 0) oNone (oSome (kD (.int 12)))))) tTrue (frz (fBin gEq (fReprD (fXa xf_value (vI 7))) (fReprD (vI 2)))) [some (.imm (.lst (firstL odd ta tb tc sp size rank))), some (.imm (paD odd ta tb tc sp size rank)), some (.imm odd), some (.imm (.tup [ta, tb, tc])), some (.imm sp), some (.imm (.int size)), some (.imm (.int rank)), none] = .ok (.own (.l (([.ex 100 [odd], .ex 100 [odd], .ex 101 [odd], .ex 101 [odd], .ex 104 [odd], .ex 104 [odd], .ex 106 [odd], .ex 106 [odd], .ex 108 [odd], .ex 108 [odd], .ex 109 [odd], .ex 109 [odd]] : List D).map fun _ => .bl true))) [some (.imm (.lst (firstL odd ta tb tc sp size rank))), some (.imm (paD odd ta tb tc sp size rank)), some (.imm odd), some (.imm (.tup [ta, tb, tc])), some (.imm sp), some (.imm (.int size)), some (.imm (.int rank)), none] := all_cmp _ (by unfold firstL; simp [sl, c2, OB.toD]) (by simp) rfl fun d hd => by
    simp only [List.mem_cons, List.not_mem_nil, or_false] at hd
    generalize firstL odd ta tb tc sp size rank = FL
    generalize paD odd ta tb tc sp size rank = PA
    rcases hd with rfl | rfl | rfl | rfl | rfl | rfl | rfl | rfl | rfl | rfl | rfl | rfl <;> simp [ap_fXa, w1, w2, w3, w4, w5, w6, a1, b1, OB.toD]
  have q3 : fLc (stName 7) [7] (itSeq (frz (fSl (vI 0) (oSome (kD (.int 12))) (oSome (kD (.int 14)))))) tTrue (frz (fBin gEq (fReprD (frz (fLst (aCons (fXa xf_problem (vI 7)) (aCons (fXa xf_position (vI 7)) (aCons (fXa xf_earlier (vI 7)) aNil)))))) (fReprD (frz (fCal gList (aOne (vP 3))))))) [some (.imm (.lst (firstL odd ta tb tc sp size rank))), some (.imm (paD odd ta tb tc sp size rank)), some (.imm odd), some (.imm (.tup [ta, tb, tc])), some (.imm sp), some (.imm (.int size)), some (.imm (.int rank)), none] = .ok (.own (.l (([.ex 102 [tc, tb, ta], .ex 102 [tc, tb, ta]] : List D).map fun _ => .bl true))) [some (.imm (.lst (firstL odd ta tb tc sp size rank))), some (.imm (paD odd ta tb tc sp size rank)), some (.imm odd), some (.imm (.tup [ta, tb, tc])), some (.imm sp), some (.imm (.int size)), some (.imm (.int rank)), none] := all_cmp _ (by unfold firstL; simp [sl, c3, OB.toD]) (by simp) rfl fun d hd => by
    simp only [List.mem_cons, List.not_mem_nil, or_false] at hd
    generalize firstL odd ta tb tc sp size rank = FL
    generalize paD odd ta tb tc sp size rank = PA
    rcases hd with rfl | rfl <;> simp [ap_fXa, v2.1, v2.2.1, v2.2.2, gl, a2, b2, OB.toD]
  have q4 : fLc (stName 7) [7] (itSeq (frz (fSl (vI 0) (oSome (kD (.int 14))) (oSome (kD (.int 18)))))) tTrue (frz (fBin gEq (fReprD (fXa xf_position (vI 7))) (fReprD (vI 5)))) [some (.imm (.lst (firstL odd ta tb tc sp size rank))), some (.imm (paD odd ta tb tc sp size rank)), some (.imm odd), some (.imm (.tup [ta, tb, tc])), some (.imm sp), some (.imm (.int size)), some (.imm (.int rank)), none] = .ok (.own (.l (([.ex 103 [.int size], .ex 103 [.int size], .ex 107 [.int size], .ex 107 [.int size]] : List D).map fun _ => .bl true))) [some (.imm (.lst (firstL odd ta tb tc sp size rank))), some (.imm (paD odd ta tb tc sp size rank)), some (.imm odd), some (.imm (.tup [ta, tb, tc])), some (.imm sp), some (.imm (.int size)), some (.imm (.int rank)), none] := all_cmp _ (by unfold firstL; simp [sl, c4, OB.toD]) (by simp) rfl fun d hd => by
    simp only [List.mem_cons, List.not_mem_nil, or_false] at hd
    generalize firstL odd ta tb tc sp size rank = FL
    generalize paD odd ta tb tc sp size rank = PA
    rcases hd with rfl | rfl | rfl | rfl <;> simp [ap_fXa, v3.1, v3.2.1, a3, b3, OB.toD]
  have q5 : fLc (stName 7) [7] (itSeq (frz (fSl (vI 0) (oSome (kD (.int 18))) oNone))) tTrue (frz (fBin gEq (fReprD (fXa xf_problem (vI 7))) (fReprD (frz (fBin gIx (vI 3) (kD (.int 0))))))) [some (.imm (.lst (firstL odd ta tb tc sp size rank))), some (.imm (paD odd ta tb tc sp size rank)), some (.imm odd), some (.imm (.tup [ta, tb, tc])), some (.imm sp), some (.imm (.int size)), some (.imm (.int rank)), none] = .ok (.own (.l (([.ex 105 [ta], .ex 105 [ta]] : List D).map fun _ => .bl true))) [some (.imm (.lst (firstL odd ta tb tc sp size rank))), some (.imm (paD odd ta tb tc sp size rank)), some (.imm odd), some (.imm (.tup [ta, tb, tc])), some (.imm sp), some (.imm (.int size)), some (.imm (.int rank)), none] := all_cmp _ (by unfold firstL; simp [sl, c5, OB.toD]) (by simp) rfl fun d hd => by
    simp only [List.mem_cons, List.not_mem_nil, or_false] at hd
    generalize firstL odd ta tb tc sp size rank = FL
    generalize paD odd ta tb tc sp size rank = PA
    rcases hd with rfl | rfl <;> simp [ap_fXa, v3.2.2, g0, a4, b4, OB.toD]
  have S1 : g__law_first_right_1 [some (.imm (.lst (firstL odd ta tb tc sp size rank))), some (.imm (paD odd ta tb tc sp size rank)), none, none, none, none, none, none] = .nx [some (.imm (.lst (firstL odd ta tb tc sp size rank))), some (.imm (paD odd ta tb tc sp size rank)), some (.imm odd), some (.imm (.tup [ta, tb, tc])), some (.imm sp), some (.imm (.int size)), some (.imm (.int rank)), none] := by
    generalize firstL odd ta tb tc sp size rank = FL
    unfold paD
    simp
  have S2 : g__law_first_right_2 [some (.imm (.lst (firstL odd ta tb tc sp size rank))), some (.imm (paD odd ta tb tc sp size rank)), some (.imm odd), some (.imm (.tup [ta, tb, tc])), some (.imm sp), some (.imm (.int size)), some (.imm (.int rank)), none] = .nx [some (.imm (.lst (firstL odd ta tb tc sp size rank))), some (.imm (paD odd ta tb tc sp size rank)), some (.imm odd), some (.imm (.tup [ta, tb, tc])), some (.imm sp), some (.imm (.int size)), some (.imm (.int rank)), none] := by
    generalize firstL odd ta tb tc sp size rank = FL at *
    generalize paD odd ta tb tc sp size rank = PA at *
    have gt := gAll_tt ([.ex 100 [odd], .ex 100 [odd], .ex 101 [odd], .ex 101 [odd], .ex 104 [odd], .ex 104 [odd], .ex 106 [odd], .ex 106 [odd], .ex 108 [odd], .ex 108 [odd], .ex 109 [odd], .ex 109 [odd]] : List D)
    generalize (([.ex 100 [odd], .ex 100 [odd], .ex 101 [odd], .ex 101 [odd], .ex 104 [odd], .ex 104 [odd], .ex 106 [odd], .ex 106 [odd], .ex 108 [odd], .ex 108 [odd], .ex 109 [odd], .ex 109 [odd]] : List D).map fun _ => D.bl true) = LL at *
    simp [q2, gt, OB.toD]
  have S3 : g__law_first_right_3 [some (.imm (.lst (firstL odd ta tb tc sp size rank))), some (.imm (paD odd ta tb tc sp size rank)), some (.imm odd), some (.imm (.tup [ta, tb, tc])), some (.imm sp), some (.imm (.int size)), some (.imm (.int rank)), none] = .nx [some (.imm (.lst (firstL odd ta tb tc sp size rank))), some (.imm (paD odd ta tb tc sp size rank)), some (.imm odd), some (.imm (.tup [ta, tb, tc])), some (.imm sp), some (.imm (.int size)), some (.imm (.int rank)), none] := by
    generalize firstL odd ta tb tc sp size rank = FL at *
    generalize paD odd ta tb tc sp size rank = PA at *
    have gt := gAll_tt ([.ex 102 [tc, tb, ta], .ex 102 [tc, tb, ta]] : List D)
    generalize (([.ex 102 [tc, tb, ta], .ex 102 [tc, tb, ta]] : List D).map fun _ => D.bl true) = LL at *
    simp [q3, gt, OB.toD]
  have S4 : g__law_first_right_4 [some (.imm (.lst (firstL odd ta tb tc sp size rank))), some (.imm (paD odd ta tb tc sp size rank)), some (.imm odd), some (.imm (.tup [ta, tb, tc])), some (.imm sp), some (.imm (.int size)), some (.imm (.int rank)), none] = .nx [some (.imm (.lst (firstL odd ta tb tc sp size rank))), some (.imm (paD odd ta tb tc sp size rank)), some (.imm odd), some (.imm (.tup [ta, tb, tc])), some (.imm sp), some (.imm (.int size)), some (.imm (.int rank)), none] := by
    generalize firstL odd ta tb tc sp size rank = FL at *
    generalize paD odd ta tb tc sp size rank = PA at *
    have gt := gAll_tt ([.ex 103 [.int size], .ex 103 [.int size], .ex 107 [.int size], .ex 107 [.int size]] : List D)
    generalize (([.ex 103 [.int size], .ex 103 [.int size], .ex 107 [.int size], .ex 107 [.int size]] : List D).map fun _ => D.bl true) = LL at *
    simp [q4, gt, OB.toD]
  have S5 : outR none (g__law_first_right_5 [some (.imm (.lst (firstL odd ta tb tc sp size rank))), some (.imm (paD odd ta tb tc sp size rank)), some (.imm odd), some (.imm (.tup [ta, tb, tc])), some (.imm sp), some (.imm (.int size)), some (.imm (.int rank)), none]) = .ok (.imm (.bl true)) none := by
    generalize firstL odd ta tb tc sp size rank = FL at *
    generalize paD odd ta tb tc sp size rank = PA at *
    have gt := gAll_tt ([.ex 105 [ta], .ex 105 [ta]] : List D)
    generalize (([.ex 105 [ta], .ex 105 [ta]] : List D).map fun _ => D.bl true) = LL at *
    simp [q5, gt, OB.toD, outR, ioOut]
  unfold m__law_first_right g__law_first_right
  unfold mir
  rw [if_pos (by simp [ioN])]
  change outR none (sSeq _ _ [some (.imm (.lst (firstL odd ta tb tc sp size rank))), some (.imm (paD odd ta tb tc sp size rank)), none, none, none, none, none, none]) = _
  rw [ap_sSeq, S1, SR.bind_nx, ap_sSeq, S2, SR.bind_nx, ap_sSeq, S3, SR.bind_nx, ap_sSeq, S4, SR.bind_nx, S5]
theorem second_right_ok (h : PP odd ta tb tc sp size rank) : m__law_second_right none [.lst (secondL odd ta tb tc sp size rank), paD odd ta tb tc sp size rank] = .ok (.imm (.bl true)) none := by
  obtain ⟨X1, a1, b1⟩ := tell_it h.o
  obtain ⟨X3, a3, b3⟩ := tell_it (it_int h.z)
  obtain ⟨X2, a2, b2⟩ := tell_lst (xs := [sp, .int rank]) (by
    intro d hd
    simp only [List.mem_cons, List.not_mem_nil, or_false] at hd
    rcases hd with rfl | rfl
    · exact h.s
    · exact it_int h.r) (by simp)
  obtain ⟨X4, a4, b4⟩ := tell_lst (xs := [sp, .int size]) (by
    intro d hd
    simp only [List.mem_cons, List.not_mem_nil, or_false] at hd
    rcases hd with rfl | rfl
    · exact h.s
    · exact it_int h.z) (by simp)
  obtain ⟨X5, a5, b5⟩ := tell_tup (xs := [.str "speed", sp, .int size, .int 0]) (by
    intro d hd
    simp only [List.mem_cons, List.not_mem_nil, or_false] at hd
    rcases hd with rfl | rfl | rfl | rfl
    · exact it_of rfl (by decide +kernel)
    · exact h.s
    · exact it_int h.z
    · exact it_int (by decide)) (by simp)
  obtain ⟨X6, a6, b6⟩ := tell_it (it_int h.r)
  have v1 : xf_key 110 = some 1 ∧ xf_number 110 = some 0 ∧ xf_key 111 = some 1 ∧ xf_many 111 = some 0 ∧ xf_found 112 = some 0 ∧ xf_excess 113 = some 0 ∧ xf_name 114 = some 0 ∧ xf_multiple 115 = some 0 ∧ xf_many 116 = some 0 := ⟨rfl, rfl, rfl, rfl, rfl, rfl, rfl, rfl, rfl⟩
  obtain ⟨w1, w2, w3, w4, w5, w6, w7, w8, w9⟩ := v1
  have sl : ∀ (L : List D) (a b : Option Int), gSl (.lst L) a b = some (.own (.l (cutD L a b))) := fun _ _ _ => rfl
  have c2 : ∀ a b c d e f g h i j k l m n o p : D, cutD [a, b, c, d, e, f, g, h, i, j, k, l, m, n, o, p] none (some 2) = [a, b] := fun _ _ _ _ _ _ _ _ _ _ _ _ _ _ _ _ => rfl
  have c3 : ∀ a b c d e f g h i j k l m n o p : D, cutD [a, b, c, d, e, f, g, h, i, j, k, l, m, n, o, p] (some 2) (some 4) = [c, d] := fun _ _ _ _ _ _ _ _ _ _ _ _ _ _ _ _ => rfl
  have c4 : ∀ a b c d e f g h i j k l m n o p : D, cutD [a, b, c, d, e, f, g, h, i, j, k, l, m, n, o, p] (some 4) (some 6) = [e, f] := fun _ _ _ _ _ _ _ _ _ _ _ _ _ _ _ _ => rfl
  have c5 : ∀ a b c d e f g h i j k l m n o p : D, cutD [a, b, c, d, e, f, g, h, i, j, k, l, m, n, o, p] (some 6) (some 8) = [g, h] := fun _ _ _ _ _ _ _ _ _ _ _ _ _ _ _ _ => rfl
  have c6 : ∀ a b c d e f g h i j k l m n o p : D, cutD [a, b, c, d, e, f, g, h, i, j, k, l, m, n, o, p] (some 8) (some 10) = [i, j] := fun _ _ _ _ _ _ _ _ _ _ _ _ _ _ _ _ => rfl
  have c7 : ∀ a b c d e f g h i j k l m n o p : D, cutD [a, b, c, d, e, f, g, h, i, j, k, l, m, n, o, p] (some 12) (some 14) = [m, n] := fun _ _ _ _ _ _ _ _ _ _ _ _ _ _ _ _ => rfl
  have c8 : ∀ a b c d e f g h i j k l m n o p : D, cutD [a, b, c, d, e, f, g, h, i, j, k, l, m, n, o, p] (some 14) none = [o, p] := fun _ _ _ _ _ _ _ _ _ _ _ _ _ _ _ _ => rfl
  have q2 : fLc (stName 7) [7] (itSeq (frz (fSl (vI 0) oNone (oSome (kD (.int 2)))))) tTrue (frz (fBin gEq (fReprD (frz (fLst (aCons (fXa xf_key (vI 7)) (aCons (fXa xf_number (vI 7)) aNil))))) (fReprD (frz (fLst (aCons (vI 4) (aCons (vI 6) aNil))))))) [some (.imm (.lst (secondL odd ta tb tc sp size rank))), some (.imm (paD odd ta tb tc sp size rank)), some (.imm odd), some (.imm (.tup [ta, tb, tc])), some (.imm sp), some (.imm (.int size)), some (.imm (.int rank)), none] = .ok (.own (.l (([.ex 110 [.int rank, sp], .ex 110 [.int rank, sp]] : List D).map fun _ => .bl true))) [some (.imm (.lst (secondL odd ta tb tc sp size rank))), some (.imm (paD odd ta tb tc sp size rank)), some (.imm odd), some (.imm (.tup [ta, tb, tc])), some (.imm sp), some (.imm (.int size)), some (.imm (.int rank)), none] := all_cmp _ (by unfold secondL; simp [sl, c2, OB.toD]) (by simp) rfl fun d hd => by
    simp only [List.mem_cons, List.not_mem_nil, or_false] at hd
    generalize secondL odd ta tb tc sp size rank = FL
    generalize paD odd ta tb tc sp size rank = PA
    rcases hd with rfl | rfl <;> simp [ap_fXa, w1, w2, a2, b2, OB.toD]
  have q3 : fLc (stName 7) [7] (itSeq (frz (fSl (vI 0) (oSome (kD (.int 2))) (oSome (kD (.int 4)))))) tTrue (frz (fBin gEq (fReprD (frz (fLst (aCons (fXa xf_key (vI 7)) (aCons (fXa xf_many (vI 7)) aNil))))) (fReprD (frz (fLst (aCons (vI 4) (aCons (vI 5) aNil))))))) [some (.imm (.lst (secondL odd ta tb tc sp size rank))), some (.imm (paD odd ta tb tc sp size rank)), some (.imm odd), some (.imm (.tup [ta, tb, tc])), some (.imm sp), some (.imm (.int size)), some (.imm (.int rank)), none] = .ok (.own (.l (([.ex 111 [.int size, sp], .ex 111 [.int size, sp]] : List D).map fun _ => .bl true))) [some (.imm (.lst (secondL odd ta tb tc sp size rank))), some (.imm (paD odd ta tb tc sp size rank)), some (.imm odd), some (.imm (.tup [ta, tb, tc])), some (.imm sp), some (.imm (.int size)), some (.imm (.int rank)), none] := all_cmp _ (by unfold secondL; simp [sl, c3, OB.toD]) (by simp) rfl fun d hd => by
    simp only [List.mem_cons, List.not_mem_nil, or_false] at hd
    generalize secondL odd ta tb tc sp size rank = FL
    generalize paD odd ta tb tc sp size rank = PA
    rcases hd with rfl | rfl <;> simp [ap_fXa, w3, w4, a4, b4, OB.toD]
  have q4 : fLc (stName 7) [7] (itSeq (frz (fSl (vI 0) (oSome (kD (.int 4))) (oSome (kD (.int 6)))))) tTrue (frz (fBin gEq (fReprD (fXa xf_found (vI 7))) (fReprD (fTup (aCons (kD (.str "speed")) (aCons (vI 4) (aCons (vI 5) (aCons (kD (.int 0)) aNil)))))))) [some (.imm (.lst (secondL odd ta tb tc sp size rank))), some (.imm (paD odd ta tb tc sp size rank)), some (.imm odd), some (.imm (.tup [ta, tb, tc])), some (.imm sp), some (.imm (.int size)), some (.imm (.int rank)), none] = .ok (.own (.l (([.ex 112 [spd sp size], .ex 112 [spd sp size]] : List D).map fun _ => .bl true))) [some (.imm (.lst (secondL odd ta tb tc sp size rank))), some (.imm (paD odd ta tb tc sp size rank)), some (.imm odd), some (.imm (.tup [ta, tb, tc])), some (.imm sp), some (.imm (.int size)), some (.imm (.int rank)), none] := all_cmp _ (by unfold secondL; simp [sl, c4, OB.toD]) (by simp) rfl fun d hd => by
    simp only [List.mem_cons, List.not_mem_nil, or_false] at hd
    generalize secondL odd ta tb tc sp size rank = FL
    generalize paD odd ta tb tc sp size rank = PA
    rcases hd with rfl | rfl <;> simp [ap_fXa, w5, spd, a5, b5, OB.toD]
  have q5 : fLc (stName 7) [7] (itSeq (frz (fSl (vI 0) (oSome (kD (.int 6))) (oSome (kD (.int 8)))))) tTrue (frz (fBin gEq (fReprD (fXa xf_excess (vI 7))) (fReprD (vI 6)))) [some (.imm (.lst (secondL odd ta tb tc sp size rank))), some (.imm (paD odd ta tb tc sp size rank)), some (.imm odd), some (.imm (.tup [ta, tb, tc])), some (.imm sp), some (.imm (.int size)), some (.imm (.int rank)), none] = .ok (.own (.l (([.ex 113 [.int rank], .ex 113 [.int rank]] : List D).map fun _ => .bl true))) [some (.imm (.lst (secondL odd ta tb tc sp size rank))), some (.imm (paD odd ta tb tc sp size rank)), some (.imm odd), some (.imm (.tup [ta, tb, tc])), some (.imm sp), some (.imm (.int size)), some (.imm (.int rank)), none] := all_cmp _ (by unfold secondL; simp [sl, c5, OB.toD]) (by simp) rfl fun d hd => by
    simp only [List.mem_cons, List.not_mem_nil, or_false] at hd
    generalize secondL odd ta tb tc sp size rank = FL
    generalize paD odd ta tb tc sp size rank = PA
    rcases hd with rfl | rfl <;> simp [ap_fXa, w6, a6, b6, OB.toD]
  have q6 : fLc (stName 7) [7] (itSeq (frz (fSl (vI 0) (oSome (kD (.int 8))) (oSome (kD (.int 10)))))) tTrue (frz (fBin gEq (fReprD (fXa xf_name (vI 7))) (fReprD (vI 2)))) [some (.imm (.lst (secondL odd ta tb tc sp size rank))), some (.imm (paD odd ta tb tc sp size rank)), some (.imm odd), some (.imm (.tup [ta, tb, tc])), some (.imm sp), some (.imm (.int size)), some (.imm (.int rank)), none] = .ok (.own (.l (([.ex 114 [odd], .ex 114 [odd]] : List D).map fun _ => .bl true))) [some (.imm (.lst (secondL odd ta tb tc sp size rank))), some (.imm (paD odd ta tb tc sp size rank)), some (.imm odd), some (.imm (.tup [ta, tb, tc])), some (.imm sp), some (.imm (.int size)), some (.imm (.int rank)), none] := all_cmp _ (by unfold secondL; simp [sl, c6, OB.toD]) (by simp) rfl fun d hd => by
    simp only [List.mem_cons, List.not_mem_nil, or_false] at hd
    generalize secondL odd ta tb tc sp size rank = FL
    generalize paD odd ta tb tc sp size rank = PA
    rcases hd with rfl | rfl <;> simp [ap_fXa, w7, a1, b1, OB.toD]
  have q7 : fLc (stName 7) [7] (itSeq (frz (fSl (vI 0) (oSome (kD (.int 12))) (oSome (kD (.int 14)))))) tTrue (frz (fBin gEq (fReprD (fXa xf_multiple (vI 7))) (fReprD (vI 5)))) [some (.imm (.lst (secondL odd ta tb tc sp size rank))), some (.imm (paD odd ta tb tc sp size rank)), some (.imm odd), some (.imm (.tup [ta, tb, tc])), some (.imm sp), some (.imm (.int size)), some (.imm (.int rank)), none] = .ok (.own (.l (([.ex 115 [.int size], .ex 115 [.int size]] : List D).map fun _ => .bl true))) [some (.imm (.lst (secondL odd ta tb tc sp size rank))), some (.imm (paD odd ta tb tc sp size rank)), some (.imm odd), some (.imm (.tup [ta, tb, tc])), some (.imm sp), some (.imm (.int size)), some (.imm (.int rank)), none] := all_cmp _ (by unfold secondL; simp [sl, c7, OB.toD]) (by simp) rfl fun d hd => by
    simp only [List.mem_cons, List.not_mem_nil, or_false] at hd
    generalize secondL odd ta tb tc sp size rank = FL
    generalize paD odd ta tb tc sp size rank = PA
    rcases hd with rfl | rfl <;> simp [ap_fXa, w8, a3, b3, OB.toD]
  have q8 : fLc (stName 7) [7] (itSeq (frz (fSl (vI 0) (oSome (kD (.int 14))) oNone))) tTrue (frz (fBin gEq (fReprD (fXa xf_many (vI 7))) (fReprD (vI 5)))) [some (.imm (.lst (secondL odd ta tb tc sp size rank))), some (.imm (paD odd ta tb tc sp size rank)), some (.imm odd), some (.imm (.tup [ta, tb, tc])), some (.imm sp), some (.imm (.int size)), some (.imm (.int rank)), none] = .ok (.own (.l (([.ex 116 [.int size], .ex 116 [.int size]] : List D).map fun _ => .bl true))) [some (.imm (.lst (secondL odd ta tb tc sp size rank))), some (.imm (paD odd ta tb tc sp size rank)), some (.imm odd), some (.imm (.tup [ta, tb, tc])), some (.imm sp), some (.imm (.int size)), some (.imm (.int rank)), none] := all_cmp _ (by unfold secondL; simp [sl, c8, OB.toD]) (by simp) rfl fun d hd => by
    simp only [List.mem_cons, List.not_mem_nil, or_false] at hd
    generalize secondL odd ta tb tc sp size rank = FL
    generalize paD odd ta tb tc sp size rank = PA
    rcases hd with rfl | rfl <;> simp [ap_fXa, w9, a3, b3, OB.toD]
  have S1 : g__law_second_right_1 [some (.imm (.lst (secondL odd ta tb tc sp size rank))), some (.imm (paD odd ta tb tc sp size rank)), none, none, none, none, none, none] = .nx [some (.imm (.lst (secondL odd ta tb tc sp size rank))), some (.imm (paD odd ta tb tc sp size rank)), some (.imm odd), some (.imm (.tup [ta, tb, tc])), some (.imm sp), some (.imm (.int size)), some (.imm (.int rank)), none] := by
    generalize secondL odd ta tb tc sp size rank = FL
    unfold paD
    simp
  have S2 : g__law_second_right_2 [some (.imm (.lst (secondL odd ta tb tc sp size rank))), some (.imm (paD odd ta tb tc sp size rank)), some (.imm odd), some (.imm (.tup [ta, tb, tc])), some (.imm sp), some (.imm (.int size)), some (.imm (.int rank)), none] = .nx [some (.imm (.lst (secondL odd ta tb tc sp size rank))), some (.imm (paD odd ta tb tc sp size rank)), some (.imm odd), some (.imm (.tup [ta, tb, tc])), some (.imm sp), some (.imm (.int size)), some (.imm (.int rank)), none] := by
    generalize secondL odd ta tb tc sp size rank = FL at *
    generalize paD odd ta tb tc sp size rank = PA at *
    have gt := gAll_tt ([.ex 110 [.int rank, sp], .ex 110 [.int rank, sp]] : List D)
    generalize (([.ex 110 [.int rank, sp], .ex 110 [.int rank, sp]] : List D).map fun _ => D.bl true) = LL at *
    simp [q2, gt, OB.toD]
  have S3 : g__law_second_right_3 [some (.imm (.lst (secondL odd ta tb tc sp size rank))), some (.imm (paD odd ta tb tc sp size rank)), some (.imm odd), some (.imm (.tup [ta, tb, tc])), some (.imm sp), some (.imm (.int size)), some (.imm (.int rank)), none] = .nx [some (.imm (.lst (secondL odd ta tb tc sp size rank))), some (.imm (paD odd ta tb tc sp size rank)), some (.imm odd), some (.imm (.tup [ta, tb, tc])), some (.imm sp), some (.imm (.int size)), some (.imm (.int rank)), none] := by
    generalize secondL odd ta tb tc sp size rank = FL at *
    generalize paD odd ta tb tc sp size rank = PA at *
    have gt := gAll_tt ([.ex 111 [.int size, sp], .ex 111 [.int size, sp]] : List D)
    generalize (([.ex 111 [.int size, sp], .ex 111 [.int size, sp]] : List D).map fun _ => D.bl true) = LL at *
    simp [q3, gt, OB.toD]
  have S4 : g__law_second_right_4 [some (.imm (.lst (secondL odd ta tb tc sp size rank))), some (.imm (paD odd ta tb tc sp size rank)), some (.imm odd), some (.imm (.tup [ta, tb, tc])), some (.imm sp), some (.imm (.int size)), some (.imm (.int rank)), none] = .nx [some (.imm (.lst (secondL odd ta tb tc sp size rank))), some (.imm (paD odd ta tb tc sp size rank)), some (.imm odd), some (.imm (.tup [ta, tb, tc])), some (.imm sp), some (.imm (.int size)), some (.imm (.int rank)), none] := by
    generalize secondL odd ta tb tc sp size rank = FL at *
    generalize paD odd ta tb tc sp size rank = PA at *
    have gt := gAll_tt ([.ex 112 [spd sp size], .ex 112 [spd sp size]] : List D)
    generalize (([.ex 112 [spd sp size], .ex 112 [spd sp size]] : List D).map fun _ => D.bl true) = LL at *
    simp [q4, gt, OB.toD]
  have S5 : g__law_second_right_5 [some (.imm (.lst (secondL odd ta tb tc sp size rank))), some (.imm (paD odd ta tb tc sp size rank)), some (.imm odd), some (.imm (.tup [ta, tb, tc])), some (.imm sp), some (.imm (.int size)), some (.imm (.int rank)), none] = .nx [some (.imm (.lst (secondL odd ta tb tc sp size rank))), some (.imm (paD odd ta tb tc sp size rank)), some (.imm odd), some (.imm (.tup [ta, tb, tc])), some (.imm sp), some (.imm (.int size)), some (.imm (.int rank)), none] := by
    generalize secondL odd ta tb tc sp size rank = FL at *
    generalize paD odd ta tb tc sp size rank = PA at *
    have gt := gAll_tt ([.ex 113 [.int rank], .ex 113 [.int rank]] : List D)
    generalize (([.ex 113 [.int rank], .ex 113 [.int rank]] : List D).map fun _ => D.bl true) = LL at *
    simp [q5, gt, OB.toD]
  have S6 : g__law_second_right_6 [some (.imm (.lst (secondL odd ta tb tc sp size rank))), some (.imm (paD odd ta tb tc sp size rank)), some (.imm odd), some (.imm (.tup [ta, tb, tc])), some (.imm sp), some (.imm (.int size)), some (.imm (.int rank)), none] = .nx [some (.imm (.lst (secondL odd ta tb tc sp size rank))), some (.imm (paD odd ta tb tc sp size rank)), some (.imm odd), some (.imm (.tup [ta, tb, tc])), some (.imm sp), some (.imm (.int size)), some (.imm (.int rank)), none] := by
    generalize secondL odd ta tb tc sp size rank = FL at *
    generalize paD odd ta tb tc sp size rank = PA at *
    have gt := gAll_tt ([.ex 114 [odd], .ex 114 [odd]] : List D)
    generalize (([.ex 114 [odd], .ex 114 [odd]] : List D).map fun _ => D.bl true) = LL at *
    simp [q6, gt, OB.toD]
  have S7 : g__law_second_right_7 [some (.imm (.lst (secondL odd ta tb tc sp size rank))), some (.imm (paD odd ta tb tc sp size rank)), some (.imm odd), some (.imm (.tup [ta, tb, tc])), some (.imm sp), some (.imm (.int size)), some (.imm (.int rank)), none] = .nx [some (.imm (.lst (secondL odd ta tb tc sp size rank))), some (.imm (paD odd ta tb tc sp size rank)), some (.imm odd), some (.imm (.tup [ta, tb, tc])), some (.imm sp), some (.imm (.int size)), some (.imm (.int rank)), none] := by
    generalize secondL odd ta tb tc sp size rank = FL at *
    generalize paD odd ta tb tc sp size rank = PA at *
    have gt := gAll_tt ([.ex 115 [.int size], .ex 115 [.int size]] : List D)
    generalize (([.ex 115 [.int size], .ex 115 [.int size]] : List D).map fun _ => D.bl true) = LL at *
    simp [q7, gt, OB.toD]
  have S8 : outR none (g__law_second_right_8 [some (.imm (.lst (secondL odd ta tb tc sp size rank))), some (.imm (paD odd ta tb tc sp size rank)), some (.imm odd), some (.imm (.tup [ta, tb, tc])), some (.imm sp), some (.imm (.int size)), some (.imm (.int rank)), none]) = .ok (.imm (.bl true)) none := by
    generalize secondL odd ta tb tc sp size rank = FL at *
    generalize paD odd ta tb tc sp size rank = PA at *
    have gt := gAll_tt ([.ex 116 [.int size], .ex 116 [.int size]] : List D)
    generalize (([.ex 116 [.int size], .ex 116 [.int size]] : List D).map fun _ => D.bl true) = LL at *
    simp [q8, gt, OB.toD, outR, ioOut]
  unfold m__law_second_right g__law_second_right
  unfold mir
  rw [if_pos (by simp [ioN])]
  change outR none (sSeq _ _ [some (.imm (.lst (secondL odd ta tb tc sp size rank))), some (.imm (paD odd ta tb tc sp size rank)), none, none, none, none, none, none]) = _
  rw [ap_sSeq, S1, SR.bind_nx, ap_sSeq, S2, SR.bind_nx, ap_sSeq, S3, SR.bind_nx, ap_sSeq, S4, SR.bind_nx, ap_sSeq, S5, SR.bind_nx, ap_sSeq, S6, SR.bind_nx, ap_sSeq, S7, SR.bind_nx, S8]
end
theorem mk_map (p : Nat) : ((nats 0 18).map fun x : Int => D.bl (decide (x = (p : Int)))) = mkB p := by
  unfold mkB nats
  rw [List.map_map, List.range_eq_range']
  refine List.map_congr_left fun k _ => ?_
  simp only [Function.comp]
  congr 1
  simp
  omega
theorem mk_bls (p : Nat) : mkB p = ((List.range 18).map fun k => decide (k = p)).map D.bl := by
  unfold mkB
  rw [List.map_map]; rfl
theorem body_ok {o : OB} {s1 s2 s3 s4 s5 s6 s9 : Option TS.R} (i : Nat) (vs : List D) (hi : i / 2 < 18) : g__law_right_4B [some (.brw o), s1, s2, s3, s4, s5, s6, some (.imm (.int (i : Int))), some (.imm (.ex (clsN.getD (i / 2) 0) vs)), s9, none] = .nx [some (.brw o), s1, s2, s3, s4, s5, s6, some (.imm (.int (i : Int))), some (.imm (.ex (clsN.getD (i / 2) 0) vs)), some (.imm (.int ((i / 2 : Nat) : Int))), none] := by
  have mo := marks_ok vs (i / 2) hi
  have ao := above_ok vs (i / 2) hi
  have fd : gFdiv (.int (i : Int)) (.int 2) = some (.imm (.int ((i / 2 : Nat) : Int))) := by rw [gFdiv_i (by decide) (by decide)]; rfl
  have lc := lc_intsD (i := 10) (fi := itRg1 (kD (.int 18))) (fe := frz (fBin gEq (vI 10) (vP 9))) (xs := nats 0 18) (fun x => .bl (decide (x = ((i / 2 : Nat) : Int)))) (δ := [some (.brw o), s1, s2, s3, s4, s5, s6, some (.imm (.int (i : Int))), some (.imm (.ex (clsN.getD (i / 2) 0) vs)), some (.imm (.int ((i / 2 : Nat) : Int))), none]) (δ1 := [some (.brw o), s1, s2, s3, s4, s5, s6, some (.imm (.int (i : Int))), some (.imm (.ex (clsN.getD (i / 2) 0) vs)), some (.imm (.int ((i / 2 : Nat) : Int))), none]) (itRg1_ok (k := 18) (by decide) (by simp)) rfl (by rw [nats_len]; decide) (fun x _ => by
    generalize clsN.getD (i / 2) 0 = N
    simp)
  rw [mk_map] at lc
  have nb : gNe (.lst (mkB (i / 2))) (.lst (mkB (i / 2))) = some (.imm (.bl false)) := by rw [mk_bls]; exact ne_bls _
  generalize mkB (i / 2) = MB at *
  generalize clsN.getD (i / 2) 0 = N at *
  generalize ((i / 2 : Nat) : Int) = P at *
  simp [fd, mo, ao, lc, nb, OB.toD]
theorem loop_ok {o : OB} {s1 s2 s3 s4 s5 s6 : Option TS.R} : ∀ (L : List D) (i : Nat) (s7 s8 s9 : Option TS.R), (∀ (j : Nat) (x : D), L[j]? = some x → ∃ vs, x = .ex (clsN.getD ((i + j) / 2) 0) vs ∧ (i + j) / 2 < 18) →
    ∃ r7 r8 r9, forL (tTup 2 (tsCons (tName 7) (tsCons (tName 8) tsNil))) g__law_right_4B (enumD i L) [some (.brw o), s1, s2, s3, s4, s5, s6, s7, s8, s9, none] = .nx [some (.brw o), s1, s2, s3, s4, s5, s6, r7, r8, r9, none]
  | [], i, s7, s8, s9, _ => ⟨s7, s8, s9, by simp [enumD, forL]⟩
  | x :: L, i, s7, s8, s9, h => by
    obtain ⟨vs, e, hp⟩ := h 0 x rfl
    rw [Nat.add_zero] at e hp
    obtain ⟨r7, r8, r9, ih⟩ := loop_ok (o := o) (s1 := s1) (s2 := s2) (s3 := s3) (s4 := s4) (s5 := s5) (s6 := s6) L (i + 1) (some (.imm (.int (i : Int)))) (some (.imm x)) (some (.imm (.int ((i / 2 : Nat) : Int)))) fun j y hy => by
      have := h (j + 1) y (by simpa using hy)
      rwa [show i + (j + 1) = i + 1 + j by omega] at this
    refine ⟨r7, r8, r9, ?_⟩
    rw [← ih]
    subst e
    have B := body_ok (o := o) (s1 := s1) (s2 := s2) (s3 := s3) (s4 := s4) (s5 := s5) (s6 := s6) (s9 := s9) i vs hp
    simp only [enumD, forL]
    have tg : tTup 2 (tsCons (tName 7) (tsCons (tName 8) tsNil)) (.imm (.tup [.int (i : Int), .ex (clsN.getD (i / 2) 0) vs])) [some (.brw o), s1, s2, s3, s4, s5, s6, s7, s8, s9, none] = .nx [some (.brw o), s1, s2, s3, s4, s5, s6, some (.imm (.int (i : Int))), some (.imm (.ex (clsN.getD (i / 2) 0) vs)), s9, none] := by
      generalize clsN.getD (i / 2) 0 = N
      simp
    rw [tg, SR.bind_nx, B]
theorem cls_all {odd ta tb tc sp : D} {size rank : Int} (j : Nat) (x : D) (h : (firstL odd ta tb tc sp size rank ++ secondL odd ta tb tc sp size rank)[j]? = some x) : ∃ vs, x = .ex (clsN.getD ((0 + j) / 2) 0) vs ∧ (0 + j) / 2 < 18 := by
  have hl : j < 36 := by
    have := (List.getElem?_eq_some_iff.mp h).1
    exact this
  rw [Nat.zero_add]
  have e : firstL odd ta tb tc sp size rank ++ secondL odd ta tb tc sp size rank = (List.range 36).map fun i => D.ex (clsN.getD (i / 2) 0) (([[odd], [odd], [odd], [odd], [odd], [odd], [tc, tb, ta], [.int size], [.int size], [ta], [.int rank, sp], [.int size, sp], [spd sp size], [.int rank], [odd], [], [.int size], [.int size]] : List (List D)).getD (i / 2) []) := rfl
  rw [e, List.getElem?_map, List.getElem?_range hl] at h
  exact ⟨_, (Option.some.inj h).symm, by omega⟩
theorem right_ok {o : OB} (h : Pot o) : ∃ o', m__law_right (some o) [] = .ok (.imm (.bl true)) (some o') ∧ Pot o' := by
  obtain ⟨odd, ta, tb, tc, sp, size, rank, o1, e1, p1, pp1⟩ := parts_ok h
  obtain ⟨odd', ta', tb', tc', sp', size', rank', o2, e2, p2, pp2⟩ := parts_ok p1
  have f1 := first_ok (odd := odd) (ta := ta) (tb := tb) (tc := tc) (sp := sp) (size := size) (rank := rank)
  have f2 := second_ok (odd := odd) (ta := ta) (tb := tb) (tc := tc) (sp := sp) (size := size) (rank := rank)
  have f3 := first_ok (odd := odd') (ta := ta') (tb := tb') (tc := tc') (sp := sp') (size := size') (rank := rank')
  have f4 := second_ok (odd := odd') (ta := ta') (tb := tb') (tc := tc') (sp := sp') (size := size') (rank := rank')
  have r1 := first_right_ok pp1
  have r2 := second_right_ok pp1
  have n1 : (firstL odd ta tb tc sp size rank).length = 20 := rfl
  have n2 : (secondL odd ta tb tc sp size rank).length = 16 := rfl
  have n3 : (firstL odd' ta' tb' tc' sp' size' rank').length = 20 := rfl
  have n4 : (secondL odd' ta' tb' tc' sp' size' rank').length = 16 := rfl
  have ca := fun j x hx => cls_all (odd := odd) (ta := ta) (tb := tb) (tc := tc) (sp := sp) (size := size) (rank := rank) j x hx
  generalize firstL odd ta tb tc sp size rank = FL at *
  generalize secondL odd ta tb tc sp size rank = SL at *
  generalize firstL odd' ta' tb' tc' sp' size' rank' = FM at *
  generalize secondL odd' ta' tb' tc' sp' size' rank' = SM at *
  generalize paD odd ta tb tc sp size rank = PA at *
  generalize paD odd' ta' tb' tc' sp' size' rank' = PB at *
  have g1 := ga_l FL SL (by omega)
  have g2 := ga_l FM SM (by omega)
  have l1 : gLen [.lst (FL ++ SL)] = some (.imm (.int 36)) := by rw [gLen_l, List.length_append, n1, n2]; rfl
  have l2 : gLen [.lst (FM ++ SM)] = some (.imm (.int 36)) := by rw [gLen_l, List.length_append, n3, n4]; rfl
  obtain ⟨r7, r8, r9, lp⟩ := loop_ok (o := o2) (s1 := some (.own (.l (FM ++ SM)))) (s2 := none) (s3 := some (.imm PA)) (s4 := some (.imm PB)) (s5 := some (.imm (.lst FL))) (s6 := some (.own (.l SL))) (FL ++ SL) 0 none none none ca
  have nC : gNe (.lst [.str "value", .str "absent", .str "limit"]) (.lst [.str "value", .str "absent", .str "limit"]) = some (.imm (.bl false)) := gNe_self (p := .list [.str "value", .str "absent", .str "limit"]) rfl (by decide +kernel)
  have t0 : ∀ δ : Sl, thk (fOwn m__law_raised (aCons (kD (.int 0)) aNil)) δ = .exc ⟨102, [.int 0, .int 1, .str "meeting"]⟩ [] := fun δ => by simp [thk, raised0]
  have t1 : ∀ δ : Sl, thk (fOwn m__law_raised (aCons (kD (.int 1)) aNil)) δ = .exc ⟨110, [.int 0, .tup [.int 1, .int 2]]⟩ [] := fun δ => by simp [thk, raised1]
  have t2 : ∀ δ : Sl, thk (fOwn m__law_raised (aCons (kD (.int 2)) aNil)) δ = .exc ⟨116, [.int 5063]⟩ [] := fun δ => by simp [thk, raised2]
  have k0 : ∀ δ : Sl, fLam [] m__law_caught (fOwn m__law_raised (aCons (kD (.int 0)) aNil)) δ = .ok (.imm (.str "value")) δ := fun δ => by
    unfold fLam
    rw [t0, caught0]; rfl
  have k1 : ∀ δ : Sl, fLam [] m__law_caught (fOwn m__law_raised (aCons (kD (.int 1)) aNil)) δ = .ok (.imm (.str "absent")) δ := fun δ => by
    unfold fLam
    rw [t1, caught1]; rfl
  have k2 : ∀ δ : Sl, fLam [] m__law_caught (fOwn m__law_raised (aCons (kD (.int 2)) aNil)) δ = .ok (.imm (.str "limit")) δ := fun δ => by
    unfold fLam
    rw [t2, caught2]; rfl
  clear ca
  generalize hLT : FM ++ SM = LT at *
  refine ⟨o2, ?_, p2⟩
  have S1 : g__law_right_1 [some (.brw o), none, none, none, none, none, none, none, none, none, none] = .nx [some (.brw o2), none, none, some (.imm PA), some (.imm PB), none, none, none, none, none, none] := by simp [e1, e2, OB.toD]
  have S2 : g__law_right_2 [some (.brw o2), none, none, some (.imm PA), some (.imm PB), none, none, none, none, none, none] = .nx [some (.brw o2), none, none, some (.imm PA), some (.imm PB), some (.own (.l FL)), some (.own (.l SL)), none, none, none, none] := by simp [f1, f2]
  have S3 : g__law_right_3 [some (.brw o2), none, none, some (.imm PA), some (.imm PB), some (.own (.l FL)), some (.own (.l SL)), none, none, none, none] = .nx [some (.brw o2), some (.own (.l LT)), none, some (.imm PA), some (.imm PB), some (.own (.l FL)), some (.own (.l SL)), none, none, none, none] := by simp [f3, f4, g2, OB.toD]
  have S4 : g__law_right_4 [some (.brw o2), some (.own (.l LT)), none, some (.imm PA), some (.imm PB), some (.own (.l FL)), some (.own (.l SL)), none, none, none, none] = .nx [some (.brw o2), some (.own (.l LT)), none, some (.imm PA), some (.imm PB), some (.imm (.lst FL)), some (.own (.l SL)), r7, r8, r9, none] := by
    have it : itEnum (frz (fBin gAdd (vI 5) (vP 6))) [some (.brw o2), some (.own (.l LT)), none, some (.imm PA), some (.imm PB), some (.own (.l FL)), some (.own (.l SL)), none, none, none, none] = .ok (enumD 0 (FL ++ SL)) [some (.brw o2), some (.own (.l LT)), none, some (.imm PA), some (.imm PB), some (.imm (.lst FL)), some (.own (.l SL)), none, none, none, none] := by simp [g1, OB.toD]
    show sFor _ _ _ _ = _
    rw [ap_sFor, it, Res.bindS_ok]
    exact lp
  have S5 : g__law_right_5 [some (.brw o2), some (.own (.l LT)), none, some (.imm PA), some (.imm PB), some (.imm (.lst FL)), some (.own (.l SL)), r7, r8, r9, none] = .nx [some (.brw o2), some (.own (.l LT)), some (.own (.l [.str "value"])), some (.imm PA), some (.imm PB), some (.imm (.lst FL)), some (.own (.l SL)), r7, r8, r9, none] := by
    simp [-ap_fLam, k0, OB.toD]
  have S6 : g__law_right_6 [some (.brw o2), some (.own (.l LT)), some (.own (.l [.str "value"])), some (.imm PA), some (.imm PB), some (.imm (.lst FL)), some (.own (.l SL)), r7, r8, r9, none] = .nx [some (.brw o2), some (.own (.l LT)), some (.own (.l [.str "value", .str "absent"])), some (.imm PA), some (.imm PB), some (.imm (.lst FL)), some (.own (.l SL)), r7, r8, r9, none] := by
    simp [-ap_fLam, k1, mAppend, OB.toD]
  have S7 : g__law_right_7 [some (.brw o2), some (.own (.l LT)), some (.own (.l [.str "value", .str "absent"])), some (.imm PA), some (.imm PB), some (.imm (.lst FL)), some (.own (.l SL)), r7, r8, r9, none] = .nx [some (.brw o2), some (.own (.l LT)), some (.own (.l [.str "value", .str "absent", .str "limit"])), some (.imm PA), some (.imm PB), some (.imm (.lst FL)), some (.own (.l SL)), r7, r8, r9, none] := by
    simp [-ap_fLam, k2, mAppend, OB.toD]
  have S8 : g__law_right_8 [some (.brw o2), some (.own (.l LT)), some (.own (.l [.str "value", .str "absent", .str "limit"])), some (.imm PA), some (.imm PB), some (.imm (.lst FL)), some (.own (.l SL)), r7, r8, r9, none] = .nx [some (.brw o2), some (.own (.l LT)), some (.own (.l [.str "value", .str "absent", .str "limit"])), some (.imm PA), some (.imm PB), some (.imm (.lst FL)), some (.own (.l SL)), r7, r8, r9, none] := by
    simp [l1, l2, g1, nC, OB.toD]
  have S9 : outR (some o) (g__law_right_9 [some (.brw o2), some (.own (.l LT)), some (.own (.l [.str "value", .str "absent", .str "limit"])), some (.imm PA), some (.imm PB), some (.imm (.lst FL)), some (.own (.l SL)), r7, r8, r9, none]) = .ok (.imm (.bl true)) (some o2) := by
    simp [r1, r2, OB.toD, outR, ioOut]
  unfold m__law_right g__law_right
  unfold mir
  rw [if_pos (by simp [ioN])]
  change outR (some o) (sSeq _ _ [some (.brw o), none, none, none, none, none, none, none, none, none, none]) = _
  rw [ap_sSeq, S1, SR.bind_nx, ap_sSeq, S2, SR.bind_nx, ap_sSeq, S3, SR.bind_nx, ap_sSeq, S4, SR.bind_nx, ap_sSeq, S5, SR.bind_nx, ap_sSeq, S6, SR.bind_nx, ap_sSeq, S7, SR.bind_nx, ap_sSeq, S8, SR.bind_nx, S9]
theorem law_true (ns : List Int) (hl : ns.length ≤ 63) : m_law none [.scr (ns.map D.int)] = .ok (.imm (.bl true)) none := law_of (c := 6) (by decide) ns fun a ha => by
  obtain ⟨o, e, p⟩ := pot_ok ns a ha
  obtain ⟨o', e', p'⟩ := right_ok p
  simp [e, e', fOwnT]
end
end K10

set_option maxHeartbeats 0
namespace K10
open PySem L2 TS
theorem facts {P : Program} {w : World} {K : PySem.W.Frag} {h : Heap} {mg : Str → Option Value} {f : Addr} (X : K.In h) (G : h.Ns mainGlobals mg) (hfa : mg ("law" : Str) = some (.ref f)) (c : SaysT fa fn tn K h) :
    ∃ fd : FuncData, (∀ (s : Shared) (v : Value), BindsTo s fd ⟨[v], []⟩ [("_law_script", v)]) ∧ ∀ base : Heap, K.In base → base.Ns mainGlobals mg → (∀ p ∈ csOf tn K, LamX.TabB base mg p.1 p.2) → TS.FnOk P w K mg base (L2.CX P w) 7 f fd ["_law_script"] (spD (MM K) m_law) := by
  obtain ⟨fd, F⟩ := c.s.def_ 30 (d := d_law) rfl
  have e := hfa.symm.trans (He.glo_ok X G (c.s.fact 575 (f := .he (.glo "law")) rfl))
  cases e
  have b := FunD.bindsA (ps := ["_law_script"]) F fun _ _ _ _ _ _ us hl => match us, hl with | [_], _ => rfl
  exact ⟨fd, fun s v => b s [v] rfl, fun base hX hG hT => funD_mir (M := MM K) F S_law (by decide) (fun cdv A outer s H E hr tk hp => b_law (base := base) ⟨c.s, hX, hG, hT, fun x hx => (c.m x hx).1, c.u⟩ cdv A outer s H E hr tk hp)⟩
theorem sp_law {K : PySem.W.Frag} {H : Hp} {a : Addr} {ns : List Int} (hl : ns.length ≤ 63) (hH : ∀ p ∈ csOf tn K, H p.2 = some (.tbl #[])) (hS : SqL K H a (ns.map V.int)) : spD (MM K) m_law [.ref a] H (fun v _ => v = .bl true) (fun _ _ _ => False) := by
  obtain ⟨F, s, tb, rs⟩ := entry (M := MM K) hS (fun p hp => (List.mem_map.mp hp).elim fun x z => by rw [← z.2]; exact hH _ (List.mem_map.mpr ⟨x, z.1, rfl⟩))
  refine ⟨F, none, 0, [.ref a], [.scr (ns.map D.int)], rfl, s, tb, rs, trivial, ?_⟩
  rw [law_true ns hl]
  intro v F' H' st ra ia
  have z : rep (MM K) F' (.bl true) v := ra
  unfold rep at z
  exact z
end K10
open PySem PySem.W PySem.Calls PyProof.Rows
theorem PySem.Challenge.cw_threeswaps_k10_errors_made_holds : PySem.Challenge.rw_threeswaps_k10_errors_made.Holds := by
  w_on; o_law
  refine HandSHeadRun.head_any (r := OpenLaw.row PySem.Challenge.rw_threeswaps_k10_errors_made) (q := view (OpenLaw.row PySem.Challenge.rw_threeswaps_k10_errors_made).prog [36]) (H := K10.hk) (ob := K10.ob) (M := 6000) (loose := K10.loose) (d := HandSHeadRun.topDef (OpenLaw.row PySem.Challenge.rw_threeswaps_k10_errors_made).prog 36) (kwd := []) K10.ob_eq
    (by kernel_rfl) (fun s => by kernel_rfl) K10.run (by kernel_rfl) (by kernel_rfl) (by kernel_rfl) (by rfl) (by first | assumption | decide +kernel) (by decide +kernel) ⟨rfl, rfl, rfl, rfl, rfl, by decide +kernel⟩ ?hw ?hc
  case hw => w_witness2
  case hc =>
    refine TS.walk_ofT (l := PySem.Challenge.rw_threeswaps_k10_errors_made) (n := 63) (k := 7) (x := "_law_script") (CX := fun w => L2.CX PySem.Challenge.rw_threeswaps_k10_errors_made.prog w) rfl (by decide) (by kernel_rfl) ⟨⟨rfl, by decide, by decide⟩, rfl⟩ ?F (fun _ _ _ _ _ z => TS.noCX z)
    intro w mg fa h Y G hmg0
    obtain ⟨K, KX, c⟩ := Y
    have hmg : mg ("law" : PySem.Str) = some (.ref fa) := by
      have e : (HandSHeadRun.topDef (OpenLaw.row PySem.Challenge.rw_threeswaps_k10_errors_made).prog 36).name = ("law" : PySem.Str) := by kernel_rfl
      rw [← e]
      exact hmg0
    obtain ⟨fd, hb, hF⟩ := K10.facts (P := (PySem.Challenge.rw_threeswaps_k10_errors_made).prog) (w := w) KX G hmg c
    exact ⟨K, TS.csOf K10.tn K, fd, _, KX, TS.cs_tab c, TS.cs_no c, TS.cs_code KX c, hb, fun H a ns hl hH hS => K10.sp_law hl hH hS, hF⟩
